import PyProof.Rows.All
import HandS.ForMost
import HandS.ForExc
import HandS.Flow
import HandS.IsInst
import HandS.Wide
import HandS.StrMore
import HandS.Star
import HandS.Style
import HandS.Conv
import HandS.TupAny
import HandS.Deep
import PyProof.ReprRoads
import KE.GoesEnum
import HandS.RaiseMore
import HandS.Zip
import KE.KDictKeyed
import HandS.TryOnly
import HandS.ExcCtx
import HandS.SlotsOwn
import HandS.More
import HandS.ClsMeth
import KE.KOpsOwn
import PyProof.CollectStr
import PyProof.ListRange
import PyProof.InstEq
import KE.KExcSuper
import KE.KSuper
import HandS.ExcInit
import HandS.ExcSuper
import HandS.ExcOwn
import HandS.ExcField
import HandS.ExcIs
import HandS.Property
import HandS.Defaults
import HandS.Dict
import HandS.List
import HandS.Iter
import HandS.TupMul
import PyProof.FString3
import PyProof.StrOps2
import HandS.FStr
import KE.KCallOwn
import PyProof.Rows.StrPartPair
import PyProof.StrLawsChain
import HandS.MakeKw
import HandS.ListEq
import HandS.Text
import HandS.SuiteRaise
import HandS.RaiseFrom
import HandS.Spec
import PyProof.NeKinds
import PyProof.ListOps
import HandS.DictComp
import PyProof.DictUpdate
import HandS.SetBool
import HandS.SetKeys
import HandS.OwnEq
import PySem.Challenge.RW_cleanmerges_k40_errors_by_hand
import Wide.All
import OpenK.AllK
import Wide.FinOn
set_option Elab.async false
set_option linter.all false
set_option maxRecDepth 100000
set_option maxHeartbeats 4000000
set_option synthInstance.maxSize 4000
set_option maxRecDepth 100000 in
set_option maxHeartbeats 0 in
theorem PySem.Challenge.cw_cleanmerges_k40_errors_by_hand_said : PySem.Challenge.rw_cleanmerges_k40_errors_by_hand.wellSaid = true := by
  unfold PySem.W.OpenLaw.wellSaid PySem.W.OpenRow.wellSaid PySem.W.OpenRow.partSaid PySem.W.looksOpen
  simp only [Bool.and_eq_true]
  repeat' refine And.intro ?_ ?_
  all_goals decide +kernel
namespace DL
open PySem PySem.Spec PyProof.Rows L2
/-- the types that a value may have -/
inductive Ty where
  | non | bl | int | str | tup | lst | dct | own (C : Nat)
  deriving DecidableEq
inductive D where
  | non | bl (b : Bool) | int (i : Int) | str (x : Str) | ref (a : Addr) | ty (t : Ty) | rp (p : PyData)
  | tup (xs : List D) | lst (xs : List D) | cst (xs : List D) | ins (C : Nat) (xs : List D) | dic (ks xs : List D) | set (xs : List Str) | err (n : Nat) (xs : List D)
instance : Inhabited D := ⟨.non⟩
/-- the written part; the classes' places; the errors' classes -/
structure Cfg where
  K : PySem.W.Frag
  cA : Nat → Addr
  cv : Nat → Value
  fl : Nat → List Str
  gh : Option (Addr × Nat × List D) := none
  w : World
def Ty.name : Ty → String
  | .non => "NoneType" | .bl => "bool" | .int => "int" | .str => "str" | .tup => "tuple" | .lst => "list" | .dct => "dict" | .own _ => "object"
/-- a class as a value -/
def Ty.v (cA : Nat → Addr) : Ty → V
  | .own C => .ref (cA C)
  | t => .ty t.name
/-- a text of a bounded size -/
def SOk (x : Str) : Prop := x.length ≤ sizeLine ∧ x.cps.all (· < 0x110000) = true
/-- what stands at a place that may change -/
inductive MO where
  | lst (xs : List D) | ins (C : Nat) (xs : List D) | dct (kvs : List (Key × D)) | lkd (o : Obj) (vs : List V) (kvs : List (Key × D)) | dic (nk : List NestedKey) (xs : List D)
mutual
def nD : NestedKey → D
  | .none => .non
  | .num i => .int i
  | .text x => .str x
  | .tup ks => .tup (nDs ks)
def nDs : List NestedKey → List D
  | [] => []
  | k :: ks => nD k :: nDs ks
end
theorem nDs_map : ∀ ks : List NestedKey, nDs ks = ks.map nD
  | [] => rfl
  | k :: ks => by rw [nDs, nDs_map ks]; rfl
def Ents (w : World) : List NestedKey → List Value → List Value → List DictEntry
  | k :: ks, a :: as, u :: us => ⟨k.hash w, a, u⟩ :: Ents w ks as us
  | _, _, _ => []
/-- a key without parts; a tuple -/
def nSc : NestedKey → Bool
  | .num _ => true
  | .text _ => true
  | _ => false
def nTp : NestedKey → Bool
  | .tup ks => decide ((NestedKey.tup ks).depth ≤ 8)
  | _ => false
def KU (nk : List NestedKey) : Prop := nk.all nSc = true ∨ nk.all nTp = true
/-- a dict: its keys, the keys' values, the values -/
def AdO (w : World) (p : Addr) (nk : List NestedKey) (kvs vs : List V) : HO := .ext fun h => nk.length ≤ sizeLine ∧ (p == sysModules) = false ∧ nk.Nodup ∧ KU nk ∧ kvs.length = nk.length ∧ vs.length = nk.length ∧
  ∃ o es ep ku us, h.get? p = some o ∧ o.ExactDict ∧ o.data = .dict es ep ∧ Vals kvs ku ∧ Vals vs us ∧ es.toList = Ents w nk ku us
/-- a set of texts, by what is true of its object -/
def SE (w : World) (p : Addr) (S : Key → Bool) (n : Nat) : HO := .ext fun h => ∃ o es ep t, h.get? p = some o ∧ o.ExactSet ∧ o.data = .set es ep t ∧ (∀ e ∈ es.toList, (∃ k, keyIs k e.2 = true ∧ e.1 = keyH w k) ∧ e.2.scannable = true) ∧ (∀ k, S k = true ↔ ∃ e ∈ es.toList, keyIs k e.2 = true)
    ∧ es.size < scanBound ∧ t.fits es.size = true ∧ es.size = n
/-- an own error at p that was made, its dict at q -/
def EO (cls : Value) (q p : Addr) : HO := .ext fun h => ∃ oe : Obj, h.get? p = some oe ∧ oe.cls = cls ∧ oe.dict = some q ∧ ∃ vs, oe.data = .fields vs
abbrev Sto := Addr → Option MO
abbrev Lk := Addr → Prop
def Sto.set (S : Sto) (a : Addr) (o : MO) : Sto := fun b => if b = a then some o else S b
def Sto.del (S : Sto) (a : Addr) : Sto := fun b => if b = a then none else S b
theorem Sto.set_same {S : Sto} {a : Addr} {o : MO} : S.set a o a = some o := if_pos rfl
theorem Sto.set_ne {S : Sto} {a b : Addr} {o : MO} (h : b ≠ a) : S.set a o b = S b := if_neg h
theorem Sto.set_set {S : Sto} {a : Addr} {o o' : MO} : (S.set a o).set a o' = S.set a o' := by
  funext b; unfold Sto.set; by_cases h : b = a <;> simp [h]
section
variable (c : Cfg) (L : Lk) (H : Hp) (S : Sto)
/-- not tracked: an object of the written part -/
abbrev hp0 : Hp := fun _ => none
/-- tracked, frozen, not locked -/
def Fz (p : Addr) : Prop := S p = none ∧ ¬ L p
def FT (p : Addr) (vs : List V) : Prop := (Rd H p (.tup vs) ∧ Fz L S p) ∨ SqT c.K hp0 p vs
def FL (p : Addr) (vs : List V) : Prop := (Rd H p (.lst vs) ∧ Fz L S p) ∨ SqL c.K hp0 p vs
mutual
def Rep : D → V → Prop
  | .non, v => v = .non
  | .bl b, v => v = .bl b
  | .int i, v => v = .int i
  | .str x, v => v = .str x ∧ SOk x
  | .ref a, v => v = .ref a
  | .rp p, v => v = .str p.shown ∧ p.shown.length ≤ sizeLine
  | .ty t, v => v = t.v c.cA
  | .tup ds, v => ∃ p vs, v = .ref p ∧ FT c L H S p vs ∧ Reps ds vs
  | .lst ds, v => ∃ p vs, v = .ref p ∧ H p = some (.lst vs) ∧ Fz L S p ∧ Reps ds vs
  | .cst ds, v => ∃ p vs, v = .ref p ∧ FL c L H S p vs ∧ Reps ds vs
  | .ins C ds, v => ∃ p dx vs, v = .ref p ∧ H p = some (.ins (c.cA C) dx ((c.fl C).zip vs)) ∧ Fz L S p ∧ Reps ds vs
  | .set xs, v => ∃ p Sf n, v = .ref p ∧ H p = some (SE c.w p Sf n) ∧ (∀ x : Str, Sf (.inr x) = decide (x ∈ xs)) ∧ Fz L S p
  | .err n ds, v => ∃ p q vs, v = .ref p ∧ H p = some (EO (c.cv n) q p) ∧ H q = some (.xd ((c.fl n).zip vs)) ∧ Fz L S p ∧ Fz L S q ∧ Reps ds vs
  | .dic ks ds, v => ∃ p o nk kvs vs, v = .ref p ∧ H p = some (.frz o (AdO c.w p nk kvs vs)) ∧ Fz L S p ∧ ks = nk.map nD ∧ Reps ks kvs ∧ Reps ds vs
def Reps : List D → List V → Prop
  | [], vs => vs = []
  | d :: ds, vs => ∃ v ws, vs = v :: ws ∧ Rep d v ∧ Reps ds ws
end
def MR (p : Addr) : MO → Prop
  | .lkd o vs kvs => H p = some (.frz o (.dK ((kvs.map (·.1)).zip vs))) ∧ Reps c L H S (kvs.map (·.2)) vs
  | .dct kvs => ∃ vs, H p = some (.dK ((kvs.map (·.1)).zip vs)) ∧ Reps c L H S (kvs.map (·.2)) vs
  | .lst ds => ∃ vs, H p = some (.lst vs) ∧ Reps c L H S ds vs
  | .ins C ds => ∃ dx vs, H p = some (.ins (c.cA C) dx ((c.fl C).zip vs)) ∧ Reps c L H S ds vs
  | .dic nk ds => ∃ kvs vs, H p = some (AdO c.w p nk kvs vs) ∧ Reps c L H S (nk.map nD) kvs ∧ Reps c L H S ds vs
/-- the store is held -/
structure StoR : Prop where
  at_ : ∀ p o, S p = some o → MR c L H S p o ∧ ¬ L p
  lk : ∀ p, L p → H p ≠ none
  /-- the dict of the error that is handled -/
  gh : ∀ p n ds, c.gh = some (p, n, ds) → ∃ vs, H p = some (.xd ((c.fl n).zip vs)) ∧ Fz L S p ∧ Reps c L H S ds vs
end
/-- what is frozen or locked stays -/
def Ext (H : Hp) (S : Sto) (H' : Hp) (S' : Sto) : Prop := ∀ p o, H p = some o → S p = none → H' p = some o ∧ S' p = none
section
variable {c : Cfg} {L : Lk} {H H1 H2 : Hp} {S S1 S2 : Sto}
theorem Ext.refl : Ext H S H S := fun _ _ h s => ⟨h, s⟩
theorem Ext.trans (a : Ext H S H1 S1) (b : Ext H1 S1 H2 S2) : Ext H S H2 S2 := fun p o h s => by
  obtain ⟨h1, s1⟩ := a p o h s
  exact b p o h1 s1
theorem FT.ext {p : Addr} {vs : List V} (e : Ext H S H1 S1) : FT c L H S p vs → FT c L H1 S1 p vs
  | .inr h => .inr h
  | .inl ⟨.inl h, s, l⟩ => by
    obtain ⟨h1, s1⟩ := e _ _ h s
    exact .inl ⟨.inl h1, s1, l⟩
  | .inl ⟨.inr ⟨o, h⟩, s, l⟩ => by
    obtain ⟨h1, s1⟩ := e _ _ h s
    exact .inl ⟨.inr ⟨o, h1⟩, s1, l⟩
theorem FL.ext {p : Addr} {vs : List V} (e : Ext H S H1 S1) : FL c L H S p vs → FL c L H1 S1 p vs
  | .inr h => .inr h
  | .inl ⟨.inl h, s, l⟩ => by
    obtain ⟨h1, s1⟩ := e _ _ h s
    exact .inl ⟨.inl h1, s1, l⟩
  | .inl ⟨.inr ⟨o, h⟩, s, l⟩ => by
    obtain ⟨h1, s1⟩ := e _ _ h s
    exact .inl ⟨.inr ⟨o, h1⟩, s1, l⟩
mutual
theorem Rep.ext (e : Ext H S H1 S1) : ∀ (d : D) (v : V), Rep c L H S d v → Rep c L H1 S1 d v
  | .non, v, h => by unfold Rep at h ⊢; exact h
  | .bl b, v, h => by unfold Rep at h ⊢; exact h
  | .int i, v, h => by unfold Rep at h ⊢; exact h
  | .str x, v, h => by unfold Rep at h ⊢; exact h
  | .ref a, v, h => by unfold Rep at h ⊢; exact h
  | .rp p, v, h => by unfold Rep at h ⊢; exact h
  | .ty n, v, h => by unfold Rep at h ⊢; exact h
  | .tup ds, v, h => by
    unfold Rep at h ⊢
    obtain ⟨p, vs, ev, f, r⟩ := h
    exact ⟨p, vs, ev, f.ext e, Reps.ext e ds vs r⟩
  | .lst ds, v, h => by
    unfold Rep at h ⊢
    obtain ⟨p, vs, ev, f, ⟨s, l⟩, r⟩ := h
    obtain ⟨h1, s1⟩ := e _ _ f s
    exact ⟨p, vs, ev, h1, ⟨s1, l⟩, Reps.ext e ds vs r⟩
  | .cst ds, v, h => by
    unfold Rep at h ⊢
    obtain ⟨p, vs, ev, f, r⟩ := h
    exact ⟨p, vs, ev, f.ext e, Reps.ext e ds vs r⟩
  | .ins C ds, v, h => by
    unfold Rep at h ⊢
    obtain ⟨p, dx, vs, ev, f, ⟨s, l⟩, r⟩ := h
    obtain ⟨h1, s1⟩ := e _ _ f s
    exact ⟨p, dx, vs, ev, h1, ⟨s1, l⟩, Reps.ext e ds vs r⟩
  | .set xs, v, h => by
    unfold Rep at h ⊢
    obtain ⟨p, Sf, n, ev, f, hs, s, l⟩ := h
    obtain ⟨h1, s1⟩ := e _ _ f s
    exact ⟨p, Sf, n, ev, h1, hs, s1, l⟩
  | .err n ds, v, h => by
    unfold Rep at h ⊢
    obtain ⟨p, p2, vs, ev, f, g, ⟨s, l⟩, ⟨s2, l2⟩, r⟩ := h
    obtain ⟨h1, s1⟩ := e _ _ f s
    obtain ⟨h3, s3⟩ := e _ _ g s2
    exact ⟨p, p2, vs, ev, h1, h3, ⟨s1, l⟩, ⟨s3, l2⟩, Reps.ext e ds vs r⟩
  | .dic ks ds, v, h => by
    unfold Rep at h ⊢
    obtain ⟨p, o, nk, kvs, vs, ev, f, ⟨s, l⟩, ek, rk, r⟩ := h
    obtain ⟨h1, s1⟩ := e _ _ f s
    exact ⟨p, o, nk, kvs, vs, ev, h1, ⟨s1, l⟩, ek, Reps.ext e ks kvs rk, Reps.ext e ds vs r⟩
theorem Reps.ext (e : Ext H S H1 S1) : ∀ (ds : List D) (vs : List V), Reps c L H S ds vs → Reps c L H1 S1 ds vs
  | [], vs, h => by unfold Reps at h ⊢; exact h
  | d :: ds, vs, h => by
    unfold Reps at h ⊢
    obtain ⟨v, ws, ev, r, rs⟩ := h
    exact ⟨v, ws, ev, Rep.ext e d v r, Reps.ext e ds ws rs⟩
end
/-- the locked set may shrink -/
theorem FT.unlock {L' : Lk} (l : ∀ p, L' p → L p) {p : Addr} {vs : List V} : FT c L H S p vs → FT c L' H S p vs
  | .inr h => .inr h
  | .inl ⟨h, s, n⟩ => .inl ⟨h, s, fun z => n (l _ z)⟩
theorem FL.unlock {L' : Lk} (l : ∀ p, L' p → L p) {p : Addr} {vs : List V} : FL c L H S p vs → FL c L' H S p vs
  | .inr h => .inr h
  | .inl ⟨h, s, n⟩ => .inl ⟨h, s, fun z => n (l _ z)⟩
mutual
theorem Rep.unlock {L' : Lk} (l : ∀ p, L' p → L p) : ∀ (d : D) (v : V), Rep c L H S d v → Rep c L' H S d v
  | .non, v, h => by unfold Rep at h ⊢; exact h
  | .bl b, v, h => by unfold Rep at h ⊢; exact h
  | .int i, v, h => by unfold Rep at h ⊢; exact h
  | .str x, v, h => by unfold Rep at h ⊢; exact h
  | .ref a, v, h => by unfold Rep at h ⊢; exact h
  | .rp p, v, h => by unfold Rep at h ⊢; exact h
  | .ty n, v, h => by unfold Rep at h ⊢; exact h
  | .tup ds, v, h => by
    unfold Rep at h ⊢
    obtain ⟨p, vs, ev, f, r⟩ := h
    exact ⟨p, vs, ev, f.unlock l, Reps.unlock l ds vs r⟩
  | .lst ds, v, h => by
    unfold Rep at h ⊢
    obtain ⟨p, vs, ev, f, ⟨s, n⟩, r⟩ := h
    exact ⟨p, vs, ev, f, ⟨s, fun z => n (l _ z)⟩, Reps.unlock l ds vs r⟩
  | .cst ds, v, h => by
    unfold Rep at h ⊢
    obtain ⟨p, vs, ev, f, r⟩ := h
    exact ⟨p, vs, ev, f.unlock l, Reps.unlock l ds vs r⟩
  | .ins C ds, v, h => by
    unfold Rep at h ⊢
    obtain ⟨p, dx, vs, ev, f, ⟨s, n⟩, r⟩ := h
    exact ⟨p, dx, vs, ev, f, ⟨s, fun z => n (l _ z)⟩, Reps.unlock l ds vs r⟩
  | .set xs, v, h => by
    unfold Rep at h ⊢
    obtain ⟨p, Sf, m, ev, f, hs, s, n⟩ := h
    exact ⟨p, Sf, m, ev, f, hs, s, fun z => n (l _ z)⟩
  | .err n ds, v, h => by
    unfold Rep at h ⊢
    obtain ⟨p, p2, vs, ev, f, g, ⟨s, n⟩, ⟨s2, n2⟩, r⟩ := h
    exact ⟨p, p2, vs, ev, f, g, ⟨s, fun z => n (l _ z)⟩, ⟨s2, fun z => n2 (l _ z)⟩, Reps.unlock l ds vs r⟩
  | .dic ks ds, v, h => by
    unfold Rep at h ⊢
    obtain ⟨p, o, nk, kvs, vs, ev, f, ⟨s, n⟩, ek, rk, r⟩ := h
    exact ⟨p, o, nk, kvs, vs, ev, f, ⟨s, fun z => n (l _ z)⟩, ek, Reps.unlock l ks kvs rk, Reps.unlock l ds vs r⟩
theorem Reps.unlock {L' : Lk} (l : ∀ p, L' p → L p) : ∀ (ds : List D) (vs : List V), Reps c L H S ds vs → Reps c L' H S ds vs
  | [], vs, h => by unfold Reps at h ⊢; exact h
  | d :: ds, vs, h => by
    unfold Reps at h ⊢
    obtain ⟨v, ws, ev, r, rs⟩ := h
    exact ⟨v, ws, ev, Rep.unlock l d v r, Reps.unlock l ds ws rs⟩
end
/-- places that are not tracked are locked -/
abbrev Lk.add (L : Lk) (q : Addr) : Lk := fun p => L p ∨ p = q
theorem FT.lock {L' : Lk} (n : ∀ p, L' p → L p ∨ H p = none) {p : Addr} {vs : List V} : FT c L H S p vs → FT c L' H S p vs
  | .inr h => .inr h
  | .inl ⟨h, s, l⟩ => .inl ⟨h, s, fun z => (n p z).elim l fun e => by
    rcases h with h | ⟨o, h⟩ <;> (rw [e] at h; cases h)⟩
theorem FL.lock {L' : Lk} (n : ∀ p, L' p → L p ∨ H p = none) {p : Addr} {vs : List V} : FL c L H S p vs → FL c L' H S p vs
  | .inr h => .inr h
  | .inl ⟨h, s, l⟩ => .inl ⟨h, s, fun z => (n p z).elim l fun e => by
    rcases h with h | ⟨o, h⟩ <;> (rw [e] at h; cases h)⟩
mutual
theorem Rep.lock {L' : Lk} (n : ∀ p, L' p → L p ∨ H p = none) : ∀ (d : D) (v : V), Rep c L H S d v → Rep c L' H S d v
  | .non, v, h => by unfold Rep at h ⊢; exact h
  | .bl b, v, h => by unfold Rep at h ⊢; exact h
  | .int i, v, h => by unfold Rep at h ⊢; exact h
  | .str x, v, h => by unfold Rep at h ⊢; exact h
  | .ref a, v, h => by unfold Rep at h ⊢; exact h
  | .rp p, v, h => by unfold Rep at h ⊢; exact h
  | .ty m, v, h => by unfold Rep at h ⊢; exact h
  | .tup ds, v, h => by
    unfold Rep at h ⊢
    obtain ⟨p, vs, ev, f, r⟩ := h
    exact ⟨p, vs, ev, f.lock n, Reps.lock n ds vs r⟩
  | .lst ds, v, h => by
    unfold Rep at h ⊢
    obtain ⟨p, vs, ev, f, ⟨s, l⟩, r⟩ := h
    exact ⟨p, vs, ev, f, ⟨s, fun z => (n p z).elim l fun e => by rw [e] at f; cases f⟩, Reps.lock n ds vs r⟩
  | .cst ds, v, h => by
    unfold Rep at h ⊢
    obtain ⟨p, vs, ev, f, r⟩ := h
    exact ⟨p, vs, ev, f.lock n, Reps.lock n ds vs r⟩
  | .ins C ds, v, h => by
    unfold Rep at h ⊢
    obtain ⟨p, dx, vs, ev, f, ⟨s, l⟩, r⟩ := h
    exact ⟨p, dx, vs, ev, f, ⟨s, fun z => (n p z).elim l fun e => by rw [e] at f; cases f⟩, Reps.lock n ds vs r⟩
  | .set xs, v, h => by
    unfold Rep at h ⊢
    obtain ⟨p, Sf, m, ev, f, hs, s, l⟩ := h
    exact ⟨p, Sf, m, ev, f, hs, s, fun z => (n p z).elim l fun e => by rw [e] at f; cases f⟩
  | .err m ds, v, h => by
    unfold Rep at h ⊢
    obtain ⟨p, p2, vs, ev, f, g, ⟨s, l⟩, ⟨s2, l2⟩, r⟩ := h
    exact ⟨p, p2, vs, ev, f, g, ⟨s, fun z => (n p z).elim l fun e => by rw [e] at f; cases f⟩, ⟨s2, fun z => (n p2 z).elim l2 fun e => by rw [e] at g; cases g⟩, Reps.lock n ds vs r⟩
  | .dic ks ds, v, h => by
    unfold Rep at h ⊢
    obtain ⟨p, o, nk, kvs, vs, ev, f, ⟨s, l⟩, ek, rk, r⟩ := h
    exact ⟨p, o, nk, kvs, vs, ev, f, ⟨s, fun z => (n p z).elim l fun e => by rw [e] at f; cases f⟩, ek, Reps.lock n ks kvs rk, Reps.lock n ds vs r⟩
theorem Reps.lock {L' : Lk} (n : ∀ p, L' p → L p ∨ H p = none) : ∀ (ds : List D) (vs : List V), Reps c L H S ds vs → Reps c L' H S ds vs
  | [], vs, h => by unfold Reps at h ⊢; exact h
  | d :: ds, vs, h => by
    unfold Reps at h ⊢
    obtain ⟨v, ws, ev, r, rs⟩ := h
    exact ⟨v, ws, ev, Rep.lock n d v r, Reps.lock n ds ws rs⟩
end
/-- what is locked may change: heap and store differ at q alone -/
theorem FT.aside {L' : Lk} {q : Addr} (l : L q) (l' : ∀ p, L' p → L p) (hk : ∀ p, p ≠ q → H1 p = H p) (sk : ∀ p, p ≠ q → S1 p = S p) {p : Addr} {vs : List V} : FT c L H S p vs → FT c L' H1 S1 p vs
  | .inr h => .inr h
  | .inl ⟨h, s, n⟩ => by
    have ne : p ≠ q := fun e => n (e ▸ l)
    exact .inl ⟨by unfold Rd at h ⊢; rw [hk p ne]; exact h, by rw [sk p ne]; exact s, fun z => n (l' _ z)⟩
theorem FL.aside {L' : Lk} {q : Addr} (l : L q) (l' : ∀ p, L' p → L p) (hk : ∀ p, p ≠ q → H1 p = H p) (sk : ∀ p, p ≠ q → S1 p = S p) {p : Addr} {vs : List V} : FL c L H S p vs → FL c L' H1 S1 p vs
  | .inr h => .inr h
  | .inl ⟨h, s, n⟩ => by
    have ne : p ≠ q := fun e => n (e ▸ l)
    exact .inl ⟨by unfold Rd at h ⊢; rw [hk p ne]; exact h, by rw [sk p ne]; exact s, fun z => n (l' _ z)⟩
mutual
theorem Rep.aside {L' : Lk} {q : Addr} (l : L q) (l' : ∀ p, L' p → L p) (hk : ∀ p, p ≠ q → H1 p = H p) (sk : ∀ p, p ≠ q → S1 p = S p) : ∀ (d : D) (v : V), Rep c L H S d v → Rep c L' H1 S1 d v
  | .non, v, h => by unfold Rep at h ⊢; exact h
  | .bl b, v, h => by unfold Rep at h ⊢; exact h
  | .int i, v, h => by unfold Rep at h ⊢; exact h
  | .str x, v, h => by unfold Rep at h ⊢; exact h
  | .ref a, v, h => by unfold Rep at h ⊢; exact h
  | .rp p, v, h => by unfold Rep at h ⊢; exact h
  | .ty m, v, h => by unfold Rep at h ⊢; exact h
  | .tup ds, v, h => by
    unfold Rep at h ⊢
    obtain ⟨p, vs, ev, f, r⟩ := h
    exact ⟨p, vs, ev, f.aside l l' hk sk, Reps.aside l l' hk sk ds vs r⟩
  | .lst ds, v, h => by
    unfold Rep at h ⊢
    obtain ⟨p, vs, ev, f, ⟨s, n⟩, r⟩ := h
    have ne : p ≠ q := fun e => n (e ▸ l)
    exact ⟨p, vs, ev, by rw [hk p ne]; exact f, ⟨by rw [sk p ne]; exact s, fun z => n (l' _ z)⟩, Reps.aside l l' hk sk ds vs r⟩
  | .cst ds, v, h => by
    unfold Rep at h ⊢
    obtain ⟨p, vs, ev, f, r⟩ := h
    exact ⟨p, vs, ev, f.aside l l' hk sk, Reps.aside l l' hk sk ds vs r⟩
  | .ins C ds, v, h => by
    unfold Rep at h ⊢
    obtain ⟨p, dx, vs, ev, f, ⟨s, n⟩, r⟩ := h
    have ne : p ≠ q := fun e => n (e ▸ l)
    exact ⟨p, dx, vs, ev, by rw [hk p ne]; exact f, ⟨by rw [sk p ne]; exact s, fun z => n (l' _ z)⟩, Reps.aside l l' hk sk ds vs r⟩
  | .set xs, v, h => by
    unfold Rep at h ⊢
    obtain ⟨p, Sf, m, ev, f, hs, s, n⟩ := h
    have ne : p ≠ q := fun e => n (e ▸ l)
    exact ⟨p, Sf, m, ev, by rw [hk p ne]; exact f, hs, by rw [sk p ne]; exact s, fun z => n (l' _ z)⟩
  | .err m ds, v, h => by
    unfold Rep at h ⊢
    obtain ⟨p, p2, vs, ev, f, g, ⟨s, n⟩, ⟨s2, n2⟩, r⟩ := h
    have ne : p ≠ q := fun e => n (e ▸ l)
    have ne2 : p2 ≠ q := fun e => n2 (e ▸ l)
    exact ⟨p, p2, vs, ev, by rw [hk p ne]; exact f, by rw [hk p2 ne2]; exact g, ⟨by rw [sk p ne]; exact s, fun z => n (l' _ z)⟩, ⟨by rw [sk p2 ne2]; exact s2, fun z => n2 (l' _ z)⟩, Reps.aside l l' hk sk ds vs r⟩
  | .dic ks ds, v, h => by
    unfold Rep at h ⊢
    obtain ⟨p, o, nk, kvs, vs, ev, f, ⟨s, n⟩, ek, rk, r⟩ := h
    have ne : p ≠ q := fun e => n (e ▸ l)
    exact ⟨p, o, nk, kvs, vs, ev, by rw [hk p ne]; exact f, ⟨by rw [sk p ne]; exact s, fun z => n (l' _ z)⟩, ek, Reps.aside l l' hk sk ks kvs rk, Reps.aside l l' hk sk ds vs r⟩
theorem Reps.aside {L' : Lk} {q : Addr} (l : L q) (l' : ∀ p, L' p → L p) (hk : ∀ p, p ≠ q → H1 p = H p) (sk : ∀ p, p ≠ q → S1 p = S p) : ∀ (ds : List D) (vs : List V), Reps c L H S ds vs → Reps c L' H1 S1 ds vs
  | [], vs, h => by unfold Reps at h ⊢; exact h
  | d :: ds, vs, h => by
    unfold Reps at h ⊢
    obtain ⟨v, ws, ev, r, rs⟩ := h
    exact ⟨v, ws, ev, Rep.aside l l' hk sk d v r, Reps.aside l l' hk sk ds ws rs⟩
end
theorem Reps.length : ∀ {ds : List D} {vs : List V}, Reps c L H S ds vs → vs.length = ds.length
  | [], vs, h => by unfold Reps at h; subst h; rfl
  | d :: ds, vs, h => by
    unfold Reps at h
    obtain ⟨v, ws, ev, r, rs⟩ := h
    subst ev
    simp [Reps.length rs]
theorem Reps.nil : Reps c L H S [] [] := by unfold Reps; rfl
theorem Reps.cons {d : D} {v : V} {ds : List D} {vs : List V} (r : Rep c L H S d v) (rs : Reps c L H S ds vs) : Reps c L H S (d :: ds) (v :: vs) := by unfold Reps; exact ⟨v, vs, rfl, r, rs⟩
theorem Reps.of_cons {d : D} {ds : List D} {vs : List V} (h : Reps c L H S (d :: ds) vs) : ∃ v ws, vs = v :: ws ∧ Rep c L H S d v ∧ Reps c L H S ds ws := by unfold Reps at h; exact h
theorem Reps.of_nil {vs : List V} (h : Reps c L H S [] vs) : vs = [] := by unfold Reps at h; exact h
theorem Reps.append : ∀ {ds es : List D} {vs ws : List V}, Reps c L H S ds vs → Reps c L H S es ws → Reps c L H S (ds ++ es) (vs ++ ws)
  | [], es, vs, ws, h, k => by rw [h.of_nil]; exact k
  | d :: ds, es, vs, ws, h, k => by
    obtain ⟨v, us, ev, r, rs⟩ := h.of_cons
    subst ev
    exact Reps.cons r (Reps.append rs k)
theorem Reps.get : ∀ {ds : List D} {vs : List V} {i : Nat} {d : D}, Reps c L H S ds vs → ds[i]? = some d → ∃ v, vs[i]? = some v ∧ Rep c L H S d v
  | [], _, _, _, h, e => by simp at e
  | d :: ds, vs, 0, x, h, e => by
    obtain ⟨v, ws, ev, r, rs⟩ := h.of_cons
    simp at e
    subst ev e
    exact ⟨v, rfl, r⟩
  | d :: ds, vs, i + 1, x, h, e => by
    obtain ⟨v, ws, ev, r, rs⟩ := h.of_cons
    subst ev
    obtain ⟨u, h1, h2⟩ := Reps.get (i := i) (d := x) rs (by simpa using e)
    exact ⟨u, by simpa using h1, h2⟩
theorem Reps.set {d : D} {v : V} (r : Rep c L H S d v) : ∀ {ds : List D} {vs : List V} (i : Nat), Reps c L H S ds vs → Reps c L H S (ds.set i d) (vs.set i v)
  | [], vs, i, h => by rw [h.of_nil]; exact .nil
  | e :: ds, vs, 0, h => by
    obtain ⟨u, ws, ev, q, rs⟩ := h.of_cons
    subst ev
    exact .cons r rs
  | e :: ds, vs, i + 1, h => by
    obtain ⟨u, ws, ev, q, rs⟩ := h.of_cons
    subst ev
    exact .cons q (Reps.set r i rs)
theorem Reps.take : ∀ {ds : List D} {vs : List V} (n : Nat), Reps c L H S ds vs → Reps c L H S (ds.take n) (vs.take n)
  | ds, vs, 0, h => by simp; exact .nil
  | [], vs, n + 1, h => by rw [h.of_nil]; exact .nil
  | d :: ds, vs, n + 1, h => by
    obtain ⟨v, ws, ev, r, rs⟩ := h.of_cons
    subst ev
    exact .cons r (Reps.take n rs)
theorem Reps.drop : ∀ {ds : List D} {vs : List V} (n : Nat), Reps c L H S ds vs → Reps c L H S (ds.drop n) (vs.drop n)
  | ds, vs, 0, h => by simpa using h
  | [], vs, n + 1, h => by rw [h.of_nil]; simp; exact .nil
  | d :: ds, vs, n + 1, h => by
    obtain ⟨v, ws, ev, r, rs⟩ := h.of_cons
    subst ev
    simpa using Reps.drop n rs
theorem Reps.int : ∀ (ns : List Int), Reps c L H S (ns.map D.int) (ns.map V.int)
  | [] => .nil
  | n :: ns => .cons (by unfold Rep; rfl) (Reps.int ns)
/-- the store under growth -/
theorem StoR.keep (R : StoR c L H S) (e : Ext H S H1 S) (k : ∀ p o, S p = some o → H1 p = H p) : StoR c L H1 S where
  at_ := fun p o h => by
    obtain ⟨m, l⟩ := R.at_ p o h
    refine ⟨?_, l⟩
    cases o with
    | lst ds =>
      obtain ⟨vs, hp, r⟩ := m
      exact ⟨vs, (k p _ h).trans hp, r.ext e⟩
    | ins C ds =>
      obtain ⟨dx, vs, hp, r⟩ := m
      exact ⟨dx, vs, (k p _ h).trans hp, r.ext e⟩
    | dct kvs =>
      obtain ⟨vs, hp, r⟩ := m
      exact ⟨vs, (k p _ h).trans hp, r.ext e⟩
    | lkd od vs kvs =>
      obtain ⟨hp, r⟩ := m
      exact ⟨(k p _ h).trans hp, r.ext e⟩
    | dic nk ds =>
      obtain ⟨kvs, vs, hp, rk, r⟩ := m
      exact ⟨kvs, vs, (k p _ h).trans hp, rk.ext e, r.ext e⟩
  lk := fun p l => by
    have n := R.lk p l
    cases q : H p with
    | none => exact absurd q n
    | some o =>
      cases s : S p with
      | none => rw [(e p o q s).1]; simp
      | some u => rw [k p u s, q]; simp
  gh := fun p n ds g => by
    obtain ⟨vs, h, ⟨s, l⟩, r⟩ := R.gh p n ds g
    exact ⟨vs, (e p _ h s).1, ⟨s, l⟩, r.ext e⟩
theorem StoR.free (R : StoR c L H S) {p : Addr} (n : H p = none) : S p = none ∧ ¬ L p := by
  refine ⟨?_, fun l => R.lk p l n⟩
  cases s : S p with
  | none => rfl
  | some o =>
    obtain ⟨m, _⟩ := R.at_ p o s
    cases o with
    | lst ds => obtain ⟨vs, hp, _⟩ := m; rw [n] at hp; cases hp
    | ins C ds => obtain ⟨dx, vs, hp, _⟩ := m; rw [n] at hp; cases hp
    | dct kvs => obtain ⟨vs, hp, _⟩ := m; rw [n] at hp; cases hp
    | lkd od vs kvs => obtain ⟨hp, _⟩ := m; rw [n] at hp; cases hp
    | dic nk ds => obtain ⟨kvs, vs, hp, _⟩ := m; rw [n] at hp; cases hp
theorem Ext.upd {p : Addr} {o : HO} (n : H p = none) : Ext H S (upd H p o) S := fun q u h s => ⟨by rw [upd_ne (ne_of_none h n)]; exact h, s⟩
/-- a new frozen object -/
theorem StoR.upd {p : Addr} {o : HO} (R : StoR c L H S) (n : H p = none) : StoR c L (L2.upd H p o) S :=
  R.keep (Ext.upd n) fun q u s => upd_ne fun e => by subst e; rw [(R.free n).1] at s; cases s
/-- a new object that may change -/
theorem StoR.new {p : Addr} {o : HO} {m : MO} (R : StoR c L H S) (n : H p = none) (h : MR c L (L2.upd H p o) (S.set p m) p m) : StoR c L (L2.upd H p o) (S.set p m) where
  at_ := fun q u s => by
    by_cases e : q = p
    · subst e
      rw [Sto.set_same] at s
      cases s
      exact ⟨h, (R.free n).2⟩
    · rw [Sto.set_ne e] at s
      obtain ⟨m1, l⟩ := R.at_ q u s
      refine ⟨?_, l⟩
      have x : Ext H S (L2.upd H p o) (S.set p m) := fun b w hb sb => by
        have nb : b ≠ p := ne_of_none hb n
        exact ⟨by rw [upd_ne nb]; exact hb, by rw [Sto.set_ne nb]; exact sb⟩
      cases u with
      | lst ds =>
        obtain ⟨vs, hp, r⟩ := m1
        exact ⟨vs, by rw [upd_ne e]; exact hp, r.ext x⟩
      | ins C ds =>
        obtain ⟨dx, vs, hp, r⟩ := m1
        exact ⟨dx, vs, by rw [upd_ne e]; exact hp, r.ext x⟩
      | dct kvs =>
        obtain ⟨vs, hp, r⟩ := m1
        exact ⟨vs, by rw [upd_ne e]; exact hp, r.ext x⟩
      | lkd od vs kvs =>
        obtain ⟨hp, r⟩ := m1
        exact ⟨by rw [upd_ne e]; exact hp, r.ext x⟩
      | dic nk ds =>
        obtain ⟨kvs, vs, hp, rk, r⟩ := m1
        exact ⟨kvs, vs, by rw [upd_ne e]; exact hp, rk.ext x, r.ext x⟩
  lk := fun q l => by
    by_cases e : q = p
    · subst e; rw [upd_same]; simp
    · rw [upd_ne e]; exact R.lk q l
  gh := fun q k ds g => by
    obtain ⟨vs, h1, ⟨s, l⟩, r⟩ := R.gh q k ds g
    have x : Ext H S (L2.upd H p o) (S.set p m) := fun b w hb sb => by
      have nb : b ≠ p := ne_of_none hb n
      exact ⟨by rw [upd_ne nb]; exact hb, by rw [Sto.set_ne nb]; exact sb⟩
    obtain ⟨h2, s2⟩ := x q _ h1 s
    exact ⟨vs, h2, ⟨s2, l⟩, r.ext x⟩
theorem Ext.new {p : Addr} {o : HO} {m : MO} (n : H p = none) : Ext H S (L2.upd H p o) (S.set p m) := fun b w hb sb => by
  have nb : b ≠ p := ne_of_none hb n
  exact ⟨by rw [upd_ne nb]; exact hb, by rw [Sto.set_ne nb]; exact sb⟩
theorem Ext.write {p : Addr} {o : HO} {m m' : MO} (s : S p = some m') : Ext H S (L2.upd H p o) (S.set p m) := fun b w hb sb => by
  have nb : b ≠ p := fun e => by subst e; rw [s] at sb; cases sb
  exact ⟨by rw [upd_ne nb]; exact hb, by rw [Sto.set_ne nb]; exact sb⟩
/-- a change in place -/
theorem StoR.write {p : Addr} {o : HO} {m m' : MO} (R : StoR c L H S) (s : S p = some m') (h : MR c L (L2.upd H p o) (S.set p m) p m) : StoR c L (L2.upd H p o) (S.set p m) where
  at_ := fun q u t => by
    by_cases e : q = p
    · subst e
      rw [Sto.set_same] at t
      cases t
      exact ⟨h, (R.at_ _ _ s).2⟩
    · rw [Sto.set_ne e] at t
      obtain ⟨m1, l⟩ := R.at_ q u t
      refine ⟨?_, l⟩
      have x : Ext H S (L2.upd H p o) (S.set p m) := Ext.write s
      cases u with
      | lst ds =>
        obtain ⟨vs, hp, r⟩ := m1
        exact ⟨vs, by rw [upd_ne e]; exact hp, r.ext x⟩
      | ins C ds =>
        obtain ⟨dx, vs, hp, r⟩ := m1
        exact ⟨dx, vs, by rw [upd_ne e]; exact hp, r.ext x⟩
      | dct kvs =>
        obtain ⟨vs, hp, r⟩ := m1
        exact ⟨vs, by rw [upd_ne e]; exact hp, r.ext x⟩
      | lkd od vs kvs =>
        obtain ⟨hp, r⟩ := m1
        exact ⟨by rw [upd_ne e]; exact hp, r.ext x⟩
      | dic nk ds =>
        obtain ⟨kvs, vs, hp, rk, r⟩ := m1
        exact ⟨kvs, vs, by rw [upd_ne e]; exact hp, rk.ext x, r.ext x⟩
  lk := fun q l => by
    by_cases e : q = p
    · subst e; rw [upd_same]; simp
    · rw [upd_ne e]; exact R.lk q l
  gh := fun q k ds g => by
    obtain ⟨vs, h1, ⟨s1, l⟩, r⟩ := R.gh q k ds g
    have x : Ext H S (L2.upd H p o) (S.set p m) := Ext.write s
    obtain ⟨h2, s2⟩ := x q _ h1 s1
    exact ⟨vs, h2, ⟨s2, l⟩, r.ext x⟩
/-- the locked set: smaller; what is not tracked is added -/
theorem StoR.unlock {L' : Lk} (l : ∀ p, L' p → L p) (R : StoR c L H S) : StoR c L' H S where
  at_ := fun p o h => by
    obtain ⟨m, n⟩ := R.at_ p o h
    refine ⟨?_, fun z => n (l _ z)⟩
    cases o with
    | lst ds =>
      obtain ⟨vs, hp, r⟩ := m
      exact ⟨vs, hp, r.unlock l⟩
    | ins C ds =>
      obtain ⟨dx, vs, hp, r⟩ := m
      exact ⟨dx, vs, hp, r.unlock l⟩
    | dct kvs =>
      obtain ⟨vs, hp, r⟩ := m
      exact ⟨vs, hp, r.unlock l⟩
    | lkd od vs kvs =>
      obtain ⟨hp, r⟩ := m
      exact ⟨hp, r.unlock l⟩
    | dic nk ds =>
      obtain ⟨kvs, vs, hp, rk, r⟩ := m
      exact ⟨kvs, vs, hp, rk.unlock l, r.unlock l⟩
  lk := fun p z => R.lk p (l _ z)
  gh := fun q k ds g => by
    obtain ⟨vs, h1, ⟨s1, n⟩, r⟩ := R.gh q k ds g
    exact ⟨vs, h1, ⟨s1, fun z => n (l _ z)⟩, r.unlock l⟩
/-- a new object, locked -/
theorem StoR.lockNew {q : Addr} {o : HO} (n : H q = none) (R : StoR c L H S) : StoR c (L.add q) (L2.upd H q o) S where
  at_ := fun p m h => by
    obtain ⟨mr, nl⟩ := R.at_ p m h
    have ne : p ≠ q := fun e => by subst e; rw [(R.free n).1] at h; cases h
    have hl : ∀ p, (L.add q) p → L p ∨ H p = none := fun p z => z.elim .inl fun e => .inr (by rw [e]; exact n)
    have x : Ext H S (L2.upd H q o) S := Ext.upd n
    refine ⟨?_, fun z => z.elim nl ne⟩
    cases m with
    | lst ds =>
      obtain ⟨vs, hp, r⟩ := mr
      exact ⟨vs, by rw [upd_ne ne]; exact hp, (r.lock hl).ext x⟩
    | ins C ds =>
      obtain ⟨dx, vs, hp, r⟩ := mr
      exact ⟨dx, vs, by rw [upd_ne ne]; exact hp, (r.lock hl).ext x⟩
    | dct kvs =>
      obtain ⟨vs, hp, r⟩ := mr
      exact ⟨vs, by rw [upd_ne ne]; exact hp, (r.lock hl).ext x⟩
    | lkd od vs kvs =>
      obtain ⟨hp, r⟩ := mr
      exact ⟨by rw [upd_ne ne]; exact hp, (r.lock hl).ext x⟩
    | dic nk ds =>
      obtain ⟨kvs, vs, hp, rk, r⟩ := mr
      exact ⟨kvs, vs, by rw [upd_ne ne]; exact hp, (rk.lock hl).ext x, (r.lock hl).ext x⟩
  lk := fun p z => by
    by_cases e : p = q
    · subst e; rw [upd_same]; simp
    · rw [upd_ne e]; exact R.lk p (z.resolve_right e)
  gh := fun b k ds g => by
    obtain ⟨vs, h1, ⟨s1, l⟩, r⟩ := R.gh b k ds g
    have hl : ∀ p, (L.add q) p → L p ∨ H p = none := fun p z => z.elim .inl fun e => .inr (by rw [e]; exact n)
    have x : Ext H S (L2.upd H q o) S := Ext.upd n
    have ne : b ≠ q := ne_of_none h1 n
    exact ⟨vs, by rw [upd_ne ne]; exact h1, ⟨s1, fun z => z.elim l ne⟩, (r.lock hl).ext x⟩
/-- the locked object is written -/
theorem StoR.lockWrite {q : Addr} {o : HO} (l : L q) (R : StoR c L H S) : StoR c L (L2.upd H q o) S where
  at_ := fun p m h => by
    obtain ⟨mr, nl⟩ := R.at_ p m h
    have ne : p ≠ q := fun e => nl (e ▸ l)
    refine ⟨?_, nl⟩
    cases m with
    | lst ds =>
      obtain ⟨vs, hp, r⟩ := mr
      exact ⟨vs, by rw [upd_ne ne]; exact hp, r.aside l (fun _ z => z) (fun p e => upd_ne e) fun _ _ => rfl⟩
    | ins C ds =>
      obtain ⟨dx, vs, hp, r⟩ := mr
      exact ⟨dx, vs, by rw [upd_ne ne]; exact hp, r.aside l (fun _ z => z) (fun p e => upd_ne e) fun _ _ => rfl⟩
    | dct kvs =>
      obtain ⟨vs, hp, r⟩ := mr
      exact ⟨vs, by rw [upd_ne ne]; exact hp, r.aside l (fun _ z => z) (fun p e => upd_ne e) fun _ _ => rfl⟩
    | lkd od vs kvs =>
      obtain ⟨hp, r⟩ := mr
      exact ⟨by rw [upd_ne ne]; exact hp, r.aside l (fun _ z => z) (fun p e => upd_ne e) fun _ _ => rfl⟩
    | dic nk ds =>
      obtain ⟨kvs, vs, hp, rk, r⟩ := mr
      exact ⟨kvs, vs, by rw [upd_ne ne]; exact hp, rk.aside l (fun _ z => z) (fun p e => upd_ne e) fun _ _ => rfl, r.aside l (fun _ z => z) (fun p e => upd_ne e) fun _ _ => rfl⟩
  lk := fun p z => by
    by_cases e : p = q
    · subst e; rw [upd_same]; simp
    · rw [upd_ne e]; exact R.lk p z
  gh := fun b k ds g => by
    obtain ⟨vs, h1, ⟨s1, n⟩, r⟩ := R.gh b k ds g
    have ne : b ≠ q := fun e => n (e ▸ l)
    exact ⟨vs, by rw [upd_ne ne]; exact h1, ⟨s1, n⟩, r.aside l (fun _ z => z) (fun p e => upd_ne e) fun _ _ => rfl⟩
/-- the locked object is let go, as one that may change -/
theorem StoR.lockThaw {q : Addr} {m : MO} (nl : ¬ L q) (R : StoR c (L.add q) H S) (h : MR c L H (S.set q m) q m) : StoR c L H (S.set q m) where
  at_ := fun p o t => by
    by_cases e : p = q
    · subst e
      rw [Sto.set_same] at t
      cases t
      exact ⟨h, nl⟩
    · rw [Sto.set_ne e] at t
      obtain ⟨mr, n⟩ := R.at_ p o t
      refine ⟨?_, fun z => n (.inl z)⟩
      cases o with
      | lst ds =>
        obtain ⟨vs, hp, r⟩ := mr
        exact ⟨vs, hp, r.aside (q := q) (.inr rfl) (fun _ z => .inl z) (fun _ _ => rfl) fun p e => Sto.set_ne e⟩
      | ins C ds =>
        obtain ⟨dx, vs, hp, r⟩ := mr
        exact ⟨dx, vs, hp, r.aside (q := q) (.inr rfl) (fun _ z => .inl z) (fun _ _ => rfl) fun p e => Sto.set_ne e⟩
      | dct kvs =>
        obtain ⟨vs, hp, r⟩ := mr
        exact ⟨vs, hp, r.aside (q := q) (.inr rfl) (fun _ z => .inl z) (fun _ _ => rfl) fun p e => Sto.set_ne e⟩
      | lkd od vs kvs =>
        obtain ⟨hp, r⟩ := mr
        exact ⟨hp, r.aside (q := q) (.inr rfl) (fun _ z => .inl z) (fun _ _ => rfl) fun p e => Sto.set_ne e⟩
      | dic nk ds =>
        obtain ⟨kvs, vs, hp, rk, r⟩ := mr
        exact ⟨kvs, vs, hp, rk.aside (q := q) (.inr rfl) (fun _ z => .inl z) (fun _ _ => rfl) fun p e => Sto.set_ne e, r.aside (q := q) (.inr rfl) (fun _ z => .inl z) (fun _ _ => rfl) fun p e => Sto.set_ne e⟩
  lk := fun p z => R.lk p (.inl z)
  gh := fun b k ds g => by
    obtain ⟨vs, h1, ⟨s1, n⟩, r⟩ := R.gh b k ds g
    have ne : b ≠ q := fun e => n (.inr e)
    exact ⟨vs, h1, ⟨by rw [Sto.set_ne ne]; exact s1, fun z => n (.inl z)⟩, r.aside (q := q) (.inr rfl) (fun _ z => .inl z) (fun _ _ => rfl) fun p e => Sto.set_ne e⟩
end
end DL
namespace DL
open PySem PySem.Spec PyProof.Rows L2
abbrev DSt := List (Option D)
abbrev DQ := D → Sto → Prop
/-- an exception: its class, its fields -/
abbrev DX := Nat → List D → Sto → Prop
abbrev DT := DSt → Sto → DQ → DX → Prop
abbrev DTA := DSt → Sto → (List D → Sto → Prop) → DX → Prop
abbrev DTT := DSt → Sto → (Bool → Sto → Prop) → DX → Prop
abbrev DR1 := D → Sto → DQ → DX → Prop
abbrev DR2 := D → D → Sto → DQ → DX → Prop
abbrev DRA := List D → Sto → DQ → DX → Prop
abbrev DX0 : DX := fun _ _ _ => False
section
variable (c : Cfg) (L : Lk) (H : Hp) (S : Sto)
structure EnvR (ρ : DSt) (σ : L2.St) : Prop where
  len : ρ.length = σ.length
  at_ : ∀ (i : Nat) (d : D), ρ[i]? = some (some d) → ∃ v, σ[i]? = some (some v) ∧ Rep c L H S d v
def XRep (n : Nat) (a : Option Addr) (ds : List D) : Prop := (a = none ∧ ds = []) ∨ ∃ p vs, a = some p ∧ H p = some (.xd ((c.fl n).zip vs)) ∧ Fz L S p ∧ Reps c L H S ds vs
/-- what is wanted of a value, of a list of values, of a truth, of an exception -/
def KQ (Q : VK) (Qd : DQ) : Prop := ∀ v H' d S', Ext H S H' S' → StoR c L H' S' → Rep c L H' S' d v → Qd d S' → Q v H'
def KA (Q : List V → Hp → Prop) (Qd : List D → Sto → Prop) : Prop := ∀ vs H' ds S', Ext H S H' S' → StoR c L H' S' → Reps c L H' S' ds vs → Qd ds S' → Q vs H'
def KT (Q : Bool → Hp → Prop) (Qd : Bool → Sto → Prop) : Prop := ∀ b H' S', Ext H S H' S' → StoR c L H' S' → Qd b S' → Q b H'
def KX (E : XK) (Ed : DX) : Prop := ∀ n a H' ds S', Ext H S H' S' → StoR c L H' S' → XRep c L H' S' n a ds → Ed n ds S' → E (c.cv n) a H'
end
section
variable {c : Cfg} {L : Lk} {H H1 H2 : Hp} {S S1 S2 : Sto} {ρ : DSt} {σ : L2.St}
theorem EnvR.ext (e : Ext H S H1 S1) (s : EnvR c L H S ρ σ) : EnvR c L H1 S1 ρ σ := ⟨s.len, fun i d h => by
  obtain ⟨v, a, r⟩ := s.at_ i d h
  exact ⟨v, a, r.ext e⟩⟩
theorem EnvR.set {i : Nat} {d : D} {v : V} (s : EnvR c L H S ρ σ) (r : Rep c L H S d v) : EnvR c L H S (ρ.set i (some d)) (σ.set i (some v)) := ⟨by simp [s.len], fun j x h => by
  by_cases e : i = j
  · subst e
    have hl : i < ρ.length := by
      have := (List.getElem?_eq_some_iff.mp h).1
      simpa using this
    rw [List.getElem?_set_self hl] at h
    cases h
    exact ⟨v, List.getElem?_set_self (by rw [← s.len]; exact hl), r⟩
  · rw [List.getElem?_set_ne e] at h ⊢
    exact s.at_ j x h⟩
theorem EnvR.lock {L' : Lk} (n : ∀ p, L' p → L p ∨ H p = none) (s : EnvR c L H S ρ σ) : EnvR c L' H S ρ σ := ⟨s.len, fun i d h => by
  obtain ⟨v, a, r⟩ := s.at_ i d h
  exact ⟨v, a, r.lock n⟩⟩
theorem KQ.ext {Q : VK} {Qd : DQ} (e : Ext H S H1 S1) (k : KQ c L H S Q Qd) : KQ c L H1 S1 Q Qd := fun v H' d S' x => k v H' d S' (e.trans x)
theorem KA.ext {Q : List V → Hp → Prop} {Qd : List D → Sto → Prop} (e : Ext H S H1 S1) (k : KA c L H S Q Qd) : KA c L H1 S1 Q Qd := fun v H' d S' x => k v H' d S' (e.trans x)
theorem KT.ext {Q : Bool → Hp → Prop} {Qd : Bool → Sto → Prop} (e : Ext H S H1 S1) (k : KT c L H S Q Qd) : KT c L H1 S1 Q Qd := fun v H' S' x => k v H' S' (e.trans x)
theorem KX.ext {E : XK} {Ed : DX} (e : Ext H S H1 S1) (k : KX c L H S E Ed) : KX c L H1 S1 E Ed := fun n a H' ds S' x => k n a H' ds S' (e.trans x)
theorem KX.none : KX c L H S E0 DX0 := fun _ _ _ _ _ _ _ _ h => h
theorem KX.zero {E : XK} : KX c L H S E DX0 := fun _ _ _ _ _ _ _ _ h => h.elim
end
/-- the classes' places; the errors' classes -/
structure Cla where
  cA : Nat → Addr
  cv : Nat → Value
  fl : Nat → List Str
  gh : Option (Addr × Nat × List D) := none
  w : World
abbrev cX (X : Cx) (A : Cla) : Cfg := ⟨X.K, A.cA, A.cv, A.fl, A.gh, A.w⟩
/-- the readings over data -/
def liftE (c : Cfg) (W : WX) (t : DT) : TE := fun σ H Q => ∃ ρ S L Qd Ed, EnvR c L H S ρ σ ∧ StoR c L H S ∧ t ρ S Qd Ed ∧ KQ c L H S Q Qd ∧ KX c L H S (fun k a H' => W k a σ H') Ed
def liftA (c : Cfg) (W : WX) (t : DTA) : TA := fun σ H Q => ∃ ρ S L Qd Ed, EnvR c L H S ρ σ ∧ StoR c L H S ∧ t ρ S Qd Ed ∧ KA c L H S Q Qd ∧ KX c L H S (fun k a H' => W k a σ H') Ed
def liftT (c : Cfg) (W : WX) (t : DTT) : TT := fun σ H Q => ∃ ρ S L Qd Ed, EnvR c L H S ρ σ ∧ StoR c L H S ∧ t ρ S Qd Ed ∧ KT c L H S Q Qd ∧ KX c L H S (fun k a H' => W k a σ H') Ed
/-- operators, calls, by values -/
def liftR1 (c : Cfg) (R : DR1) : V → Hp → VK → Prop := fun x H Q => ∃ S L dx Qd, StoR c L H S ∧ Rep c L H S dx x ∧ R dx S Qd DX0 ∧ KQ c L H S Q Qd
def liftR2 (c : Cfg) (R : DR2) : R2 := fun x y H Q => ∃ S L dx dy Qd, StoR c L H S ∧ Rep c L H S dx x ∧ Rep c L H S dy y ∧ R dx dy S Qd DX0 ∧ KQ c L H S Q Qd
def liftRA (c : Cfg) (R : DRA) : List V → Hp → VK → Prop := fun xs H Q => ∃ S L ds Qd, StoR c L H S ∧ Reps c L H S ds xs ∧ R ds S Qd DX0 ∧ KQ c L H S Q Qd
section
variable {X : Cx} {A : Cla} {W : WX} {e a b e3 : Expr} {es : List Expr} {pos : Pos}
theorem PE.mono {t t' : TE} (h : PE X e t) (m : ∀ σ H Q, t' σ H Q → t σ H Q) : PE X e t' := ⟨fun pins s σ H Q I q => h.run pins s σ H Q I (m σ H Q q)⟩
theorem PT.mono {t t' : TT} (h : PT X e t) (m : ∀ σ H Q, t' σ H Q → t σ H Q) : PT X e t' := ⟨fun pins s σ H Q I q => h.run pins s σ H Q I (m σ H Q q)⟩
theorem PW.mono {t t' : TT} (h : PW X e t) (m : ∀ σ H Q, t' σ H Q → t σ H Q) : PW X e t' := ⟨fun wh pins s σ H Q I q => h.run wh pins s σ H Q I (m σ H Q q)⟩
theorem PA.mono {t t' : TA} (h : PA X es t) (m : ∀ σ H Q, t' σ H Q → t σ H Q) : PA X es t' := ⟨fun p pins s σ H Q I q => h.run p pins s σ H Q I (m σ H Q q)⟩
theorem PS.mono {st : Stmt} {t t' : TS} (h : PS X st t) (m : ∀ D σ H, t' D σ H → t D σ H) : PS X st t' := ⟨fun pins s σ H D I q => h.run pins s σ H D I (m D σ H q)⟩
theorem PSs.mono {st : List Stmt} {t t' : TS} (h : PSs X st t) (m : ∀ D σ H, t' D σ H → t D σ H) : PSs X st t' := ⟨fun pins s σ H D I q => h.run pins s σ H D I (m D σ H q)⟩
/-- an expression has the reading t over data, whatever is wished of exceptions -/
abbrev DE (X : Cx) (A : Cla) (W : WX) (e : Expr) (t : DT) : Prop := PE X e (liftE (cX X A) W t)
abbrev DA (X : Cx) (A : Cla) (W : WX) (es : List Expr) (t : DTA) : Prop := PA X es (liftA (cX X A) W t)
abbrev DTst (X : Cx) (A : Cla) (W : WX) (e : Expr) (t : DTT) : Prop := PT X e (liftT (cX X A) W t)
abbrev DWst (X : Cx) (A : Cla) (W : WX) (e : Expr) (t : DTT) : Prop := PW X e (liftT (cX X A) W t)
abbrev OpD (X : Cx) (A : Cla) (f : Value → Value → Sem Value) (R : DR2) : Prop := OpR X f (liftR2 (cX X A) R)
abbrev CallD (X : Cx) (A : Cla) (f : Value) (R : DRA) : Prop := CallR X f (liftRA (cX X A) R)
def dVar (i : Nat) : DT := fun ρ S Q _ => ∃ d, ρ[i]? = some (some d) ∧ Q d S
def dCst (d : D) : DT := fun _ S Q _ => Q d S
theorem de_var {i : Nat} {x : Str} (hN : X.N[i]? = some x) (hv : Vis X.env.scope x) (hd : (x == ("__debug__" : Str)) = false) (hcd : (x == ("__classdict__" : Str)) = false) : DE X A W (.Name x pos) (dVar i) :=
  PE.mono (pe_var hN hv hd hcd) fun σ H Q ⟨ρ, S, L, Qd, Ed, sl, so, ⟨d, hd, h⟩, kq, _⟩ => by
    obtain ⟨v, e, r⟩ := sl.at_ i d hd
    exact ⟨v, e, kq v H d S .refl so r h⟩
theorem de_int {i : Int} {j : Nat} : DE X A W (.Constant (.int i) j pos) (dCst (.int i)) :=
  PE.mono pe_int fun σ H Q ⟨ρ, S, L, Qd, Ed, sl, so, h, kq, _⟩ => kq _ H _ S .refl so (by unfold Rep; rfl) h
theorem de_bl {i : Bool} {j : Nat} : DE X A W (.Constant (.bool i) j pos) (dCst (.bl i)) :=
  PE.mono pe_bl fun σ H Q ⟨ρ, S, L, Qd, Ed, sl, so, h, kq, _⟩ => kq _ H _ S .refl so (by unfold Rep; rfl) h
theorem de_non {j : Nat} : DE X A W (.Constant .none j pos) (dCst .non) :=
  PE.mono pe_non fun σ H Q ⟨ρ, S, L, Qd, Ed, sl, so, h, kq, _⟩ => kq _ H _ S .refl so (by unfold Rep; rfl) h
theorem de_str {x : Str} {j : Nat} (hx : SOk x) : DE X A W (.Constant (.str x) j pos) (dCst (.str x)) :=
  PE.mono pe_str fun σ H Q ⟨ρ, S, L, Qd, Ed, sl, so, h, kq, _⟩ => kq _ H _ S .refl so (by unfold Rep; exact ⟨rfl, hx⟩) h
/-- a constant of the module or a builtin's own name: a value that says nothing of the heap -/
def Still (d : D) (v : V) : Prop := ∀ c L H S, Rep c L H S d v
theorem de_tC {v : V} {d : D} (h : PE X e (tC v)) (st : Still d v) : DE X A W e (dCst d) :=
  PE.mono h fun σ H Q ⟨ρ, S, L, Qd, Ed, sl, so, h, kq, _⟩ => kq _ H _ S .refl so (st _ _ _ _) h
def dNil : DTA := fun _ S Q _ => Q [] S
def dCons (t : DT) (u : DTA) : DTA := fun ρ S Q E => t ρ S (fun x S1 => u ρ S1 (fun xs S2 => Q (x :: xs) S2) E) E
theorem da_nil : DA X A W [] dNil := PA.mono pa_nil fun σ H Q ⟨ρ, S, L, Qd, Ed, sl, so, h, ka, _⟩ => ka [] H [] S .refl so .nil h
theorem da_cons {t : DT} {u : DTA} (h1 : DE X A W e t) (h2 : DA X A W es u) (hs : starEach (e :: es) X.env = (false, eval e X.env) :: starEach es X.env) : DA X A W (e :: es) (dCons t u) :=
  PA.mono (pa_cons h1 h2 hs) fun σ H Q ⟨ρ, S, L, Qd, Ed, sl, so, h, ka, kx⟩ =>
    ⟨ρ, S, L, _, Ed, sl, so, h, fun v H1 d S1 e1 so1 r1 q1 =>
      ⟨ρ, S1, L, _, Ed, sl.ext e1, so1, q1, fun vs H2 ds S2 e2 so2 r2 q2 => ka (v :: vs) H2 (d :: ds) S2 (e1.trans e2) so2 (.cons (r1.ext e2) r2) q2, kx.ext e1⟩, kx⟩
/-- a new list: frozen, or one that may change -/
def mkL (m : Bool) (ds : List D) (S : Sto) (Q : DQ) : Prop := if m = true then ∀ p, S p = none → Q (.ref p) (S.set p (.lst ds)) else Q (.lst ds) S
theorem mkL_ok {c : Cfg} {L : Lk} {H : Hp} {S : Sto} {m : Bool} {ds : List D} {vs : List V} {Q : VK} {Qd : DQ} (h : mkL m ds S Qd) (kq : KQ c L H S Q Qd) (so : StoR c L H S) (r : Reps c L H S ds vs) :
    ∀ p, H p = none → Q (.ref p) (upd H p (.lst vs)) := fun p hp => by
  have fr := so.free hp
  cases m with
  | true =>
    have h' := h
    unfold mkL at h'
    rw [if_pos rfl] at h'
    have x : Ext H S (upd H p (.lst vs)) (S.set p (.lst ds)) := Ext.new hp
    exact kq _ _ _ _ x (so.new hp ⟨vs, upd_same, r.ext x⟩) (by unfold Rep; rfl) (h' p fr.1)
  | false =>
    have h' : Qd (.lst ds) S := h
    have x : Ext H S (upd H p (.lst vs)) S := Ext.upd hp
    exact kq _ _ _ _ x (so.upd hp) (by unfold Rep; exact ⟨p, vs, rfl, upd_same, ⟨fr.1, fr.2⟩, r.ext x⟩) h'
theorem mkT_ok {c : Cfg} {L : Lk} {H : Hp} {S : Sto} {ds : List D} {vs : List V} {Q : VK} {Qd : DQ} (h : Qd (.tup ds) S) (kq : KQ c L H S Q Qd) (so : StoR c L H S) (r : Reps c L H S ds vs) :
    ∀ p, H p = none → Q (.ref p) (upd H p (.tup vs)) := fun p hp => by
  have fr := so.free hp
  have x : Ext H S (upd H p (.tup vs)) S := Ext.upd hp
  exact kq _ _ _ _ x (so.upd hp) (by unfold Rep; exact ⟨p, vs, rfl, .inl ⟨.inl upd_same, fr.1, fr.2⟩, r.ext x⟩) h
def dLst (m : Bool) (t : DTA) : DT := fun ρ S Q E => t ρ S (fun ds S1 => ds.length ≤ sizeLine ∧ mkL m ds S1 Q) E
def dTup (t : DTA) : DT := fun ρ S Q E => t ρ S (fun ds S1 => ds.length ≤ sizeLine ∧ Q (.tup ds) S1) E
theorem de_lst {m : Bool} {t : DTA} (h : DA X A W es t) : DE X A W (.List es pos) (dLst m t) :=
  PE.mono (pe_lst h) fun σ H Q ⟨ρ, S, L, Qd, Ed, sl, so, h, kq, kx⟩ =>
    ⟨ρ, S, L, _, Ed, sl, so, h, fun vs H1 ds S1 e1 so1 r1 ⟨z, q1⟩ => ⟨by rw [r1.length]; exact z, mkL_ok q1 (kq.ext e1) so1 r1⟩, kx⟩
theorem de_tup {k : Nat} {t : DTA} (h : DA X A W es t) : DE X A W (.Tuple es k pos) (dTup t) :=
  PE.mono (pe_tup h) fun σ H Q ⟨ρ, S, L, Qd, Ed, sl, so, h, kq, kx⟩ =>
    ⟨ρ, S, L, _, Ed, sl, so, h, fun vs H1 ds S1 e1 so1 r1 ⟨z, q1⟩ => ⟨by rw [r1.length]; exact z, mkT_ok q1 (kq.ext e1) so1 r1⟩, kx⟩
def dOp (R : DR2) (t u : DT) : DT := fun ρ S Q E => t ρ S (fun x S1 => u ρ S1 (fun y S2 => R x y S2 Q DX0) E) E
theorem tOp_lift {t u : DT} {R : DR2} {σ : L2.St} {H : Hp} {Q : VK} (h : liftE (cX X A) W (dOp R t u) σ H Q) : tOp (liftR2 (cX X A) R) (liftE (cX X A) W t) (liftE (cX X A) W u) σ H Q := by
  obtain ⟨ρ, S, L, Qd, Ed, sl, so, h, kq, kx⟩ := h
  exact ⟨ρ, S, L, _, Ed, sl, so, h, fun v H1 d S1 e1 so1 r1 q1 => ⟨ρ, S1, L, _, Ed, sl.ext e1, so1, q1, fun w H2 d2 S2 e2 so2 r2 q2 =>
    ⟨S2, L, d, d2, Qd, so2, r1.ext e2, r2, q2, kq.ext (e1.trans e2)⟩, kx.ext e1⟩, kx⟩
theorem de_op {op : Operator} {t u : DT} {R : DR2} (o : OpD X A (binaryOp op) R) (ha : DE X A W a t) (hb : DE X A W b u) : DE X A W (.BinOp a op b pos) (dOp R t u) := PE.mono (pe_op o ha hb) fun _ _ _ => tOp_lift
def dUn (R : DR1) (t : DT) : DT := fun ρ S Q E => t ρ S (fun x S1 => R x S1 Q DX0) E
theorem de_un {op : UnaryOp} {t : DT} {R : DR1} (o : UnR X (unaryOp op) (liftR1 (cX X A) R)) (ha : DE X A W a t) : DE X A W (.UnaryOp op a pos) (dUn R t) := by
  refine PE.mono (t := tUn (liftR1 (cX X A) R) (liftE (cX X A) W t)) ?_ fun σ H Q ⟨ρ, S, L, Qd, Ed, sl, so, h, kq, kx⟩ =>
    ⟨ρ, S, L, _, Ed, sl, so, h, fun v H1 d S1 e1 so1 r1 q1 => ⟨S1, L, d, Qd, so1, r1, q1, kq.ext e1⟩, kx⟩
  exact pe_un o ha
/-- a chain of two comparisons -/
def dChain (R R' : DR2) (t u w : DT) : DT := fun ρ S Q E => t ρ S (fun x S1 => u ρ S1 (fun y S2 => R x y S2 (fun z S3 => ∃ k, z = .bl k ∧ (if k = true then w ρ S3 (fun v S4 => R' y v S4 Q DX0) E else Q (.bl false) S3)) DX0) E) E
end
end DL
namespace DL
open PySem PySem.Spec PyProof.Rows L2
def truth (S : Sto) : D → Option Bool
  | .non => some false
  | .bl b => some b
  | .int i => some (i != 0)
  | .str x => some ((x.length : Int) != 0)
  | .tup xs => some (!xs.isEmpty)
  | .lst xs => some (!xs.isEmpty)
  | .cst xs => some (!xs.isEmpty)
  | .ref p => match S p with
    | some (.lst xs) => some (!xs.isEmpty)
    | _ => none
  | _ => none
section
variable {c : Cfg} {L : Lk} {H H1 H2 : Hp} {S S1 S2 : Sto}
theorem FT.sq {p : Addr} {vs : List V} : FT c L H S p vs → SqT c.K H p vs
  | .inl h => .inl h.1
  | .inr (.inl (.inl h)) => by cases h
  | .inr (.inl (.inr ⟨o, h⟩)) => by cases h
  | .inr (.inr h) => .inr h
theorem FL.sq {p : Addr} {vs : List V} : FL c L H S p vs → SqL c.K H p vs
  | .inl h => .inl h.1
  | .inr (.inl (.inl h)) => by cases h
  | .inr (.inl (.inr ⟨o, h⟩)) => by cases h
  | .inr (.inr h) => .inr h
theorem Reps.isEmpty {ds : List D} {vs : List V} (r : Reps c L H S ds vs) : vs.isEmpty = ds.isEmpty := by
  cases ds with
  | nil => rw [r.of_nil]; rfl
  | cons d ds =>
    obtain ⟨v, ws, ev, _, _⟩ := r.of_cons
    subst ev
    rfl
theorem truth_ok {d : D} {v : V} {k : Bool} (so : StoR c L H S) (r : Rep c L H S d v) (h : truth S d = some k) : TruV c.K v H k := by
  cases d with
  | non => unfold Rep at r; subst r; cases h; rfl
  | bl b => unfold Rep at r; subst r; cases h; rfl
  | int i => unfold Rep at r; subst r; cases h; rfl
  | str x => unfold Rep at r; obtain ⟨r, z⟩ := r; subst r; cases h; exact ⟨z.1, rfl⟩
  | ty n => cases h
  | rp p => cases h
  | ins C ds => cases h
  | dic ks ds => cases h
  | set xs => cases h
  | err n xs => cases h
  | tup ds =>
    unfold Rep at r
    obtain ⟨p, vs, ev, f, rs⟩ := r
    subst ev
    cases h
    exact .inr (.inl ⟨vs, f.sq, by rw [rs.isEmpty]⟩)
  | lst ds =>
    unfold Rep at r
    obtain ⟨p, vs, ev, f, _, rs⟩ := r
    subst ev
    cases h
    exact .inl ⟨vs, SqL.of f, by rw [rs.isEmpty]⟩
  | cst ds =>
    unfold Rep at r
    obtain ⟨p, vs, ev, f, rs⟩ := r
    subst ev
    cases h
    exact .inl ⟨vs, f.sq, by rw [rs.isEmpty]⟩
  | ref p =>
    unfold Rep at r
    subst r
    have h : (match S p with | some (.lst xs) => some (!xs.isEmpty) | _ => none) = some k := h
    cases s : S p with
    | none => rw [s] at h; cases h
    | some o =>
      rw [s] at h
      cases o with
      | dct kvs => cases h
      | dic nk ds => cases h
      | lkd od vs kvs => cases h
      | ins C ds => cases h
      | lst ds =>
        cases h
        obtain ⟨⟨vs, hp, rs⟩, _⟩ := so.at_ p _ s
        exact .inl ⟨vs, SqL.of hp, by rw [rs.isEmpty]⟩
end
section
variable {X : Cx} {A : Cla} {W : WX} {e a b e3 : Expr} {es rest : List Expr} {pos : Pos} {t u w : DT}
/-- an expression as a test -/
def dTst (t : DT) : DTT := fun ρ S Q E => t ρ S (fun x S1 => ∃ k, truth S1 x = some k ∧ Q k S1) E
theorem dt_val (h : DE X A W e t) (he : ∀ whole, isTrue e X.env whole = (do let v ← whole; standAt e.pos; holding [v] (truthy v))) : DTst X A W e (dTst t) :=
  PT.mono (pt_truth h he) fun σ H Q ⟨ρ, S, L, Qd, Ed, sl, so, h, kq, kx⟩ =>
    ⟨ρ, S, L, _, Ed, sl, so, h, fun v H1 d S1 e1 so1 r1 ⟨k, tk, q1⟩ => ⟨k, truth_ok so1 r1 tk, kq k H1 S1 e1 so1 q1⟩, kx⟩
/-- a comparison as a test: whatever it gives, by its truth -/
theorem pt_cmpT {op : CmpOp} {r : R2} {ta tb : TE} (ho : OpR X (compareOp op) r) (ha : PE X a ta) (hb : PE X b tb) (hm : behindInMarks op b = false) :
    PT X (.Compare a [op] [b] pos) (fun σ H Q => tOp r ta tb σ H fun x H' => ∃ k, TruV X.K x H' k ∧ Q k H') := by
  refine ⟨fun pins s σ H Q I h => ?_⟩
  exact wpAny_isTrue_Compare1 (thn (ha.run pins s σ H _ I h) fun v s1 ⟨x, H1, I1, r1, q1⟩ => thn (hb.run pins s1 σ H1 _ I1 q1) fun u s2 ⟨y, H2, I2, r2, q2⟩ =>
    thn (ho pins s2 σ H2 x y v u _ I2 r1 r2 q2) fun c s3 ⟨z, H3, I3, r3, k, e, q3⟩ => tru_ok pins s3 σ H3 z c Q I3 r3 ⟨k, e, q3⟩) hm
theorem dt_cmp {op : CmpOp} {R : DR2} (o : OpD X A (compareOp op) R) (ha : DE X A W a t) (hb : DE X A W b u) (hm : behindInMarks op b = false) : DTst X A W (.Compare a [op] [b] pos) (dTst (dOp R t u)) :=
  PT.mono (pt_cmpT o ha hb hm) fun σ H Q ⟨ρ, S, L, Qd, Ed, sl, so, h, kq, kx⟩ =>
    tOp_lift ⟨ρ, S, L, _, Ed, sl, so, h, fun v H1 d S1 e1 so1 r1 ⟨k, tk, q1⟩ => ⟨k, truth_ok so1 r1 tk, kq k H1 S1 e1 so1 q1⟩, kx⟩
/-- a chain as a test gives a truth -/
def dBl (t : DT) : DT := fun ρ S Q E => t ρ S (fun x S1 => ∃ k, x = .bl k ∧ Q x S1) E
def dAnd (t u : DT) : DT := fun ρ S Q E => t ρ S (fun x S1 => ∃ k, truth S1 x = some k ∧ if k = true then u ρ S1 Q E else Q x S1) E
def dOr (t u : DT) : DT := fun ρ S Q E => t ρ S (fun x S1 => ∃ k, truth S1 x = some k ∧ if k = true then Q x S1 else u ρ S1 Q E) E
def dNot (t : DT) : DT := fun ρ S Q E => t ρ S (fun x S1 => ∃ k, truth S1 x = some k ∧ Q (.bl (!k)) S1) E
def dIf (c t u : DT) : DT := fun ρ S Q E => c ρ S (fun x S1 => ∃ k, truth S1 x = some k ∧ if k = true then t ρ S1 Q E else u ρ S1 Q E) E
theorem dTst_or : dTst (dOr t u) = fun ρ S Q E => t ρ S (fun x S1 => ∃ k, truth S1 x = some k ∧ if k = true then Q true S1 else dTst u ρ S1 Q E) E := by
  funext ρ S Q E
  show t ρ S _ E = t ρ S _ E
  congr 1
  funext x S1
  apply propext
  constructor
  · rintro ⟨k, h1, h2⟩
    refine ⟨k, h1, ?_⟩
    cases k with
    | false => exact h2
    | true =>
      obtain ⟨k', e, q⟩ := h2
      rw [h1] at e
      cases e
      exact q
  · rintro ⟨k, h1, h2⟩
    refine ⟨k, h1, ?_⟩
    cases k with
    | false => exact h2
    | true => exact ⟨true, h1, h2⟩
theorem dw_or (ha : DTst X A W a (dTst t)) (hb : DWst X A W (.BoolOp .Or (b :: rest) pos) (dTst u)) : DWst X A W (.BoolOp .Or (a :: b :: rest) pos) (dTst (dOr t u)) :=
  PW.mono (pw_or ha hb) fun σ H Q ⟨ρ, S, L, Qd, Ed, sl, so, h, kq, kx⟩ => by
    rw [dTst_or] at h
    refine ⟨ρ, S, L, fun k S1 => if k = true then Qd true S1 else dTst u ρ S1 Qd Ed, Ed, sl, so, h, fun k H1 S1 e1 so1 q1 => ?_, kx⟩
    cases k with
    | false => exact ⟨ρ, S1, L, Qd, Ed, sl.ext e1, so1, q1, kq.ext e1, kx.ext e1⟩
    | true => exact kq true H1 S1 e1 so1 q1
theorem dw_or1 (ha : DTst X A W a (dTst t)) : DWst X A W (.BoolOp .Or [a] pos) (dTst t) := pw_or1 ha
theorem dt_w (h : DWst X A W e (dTst t)) : DTst X A W e (dTst t) := PW.pt h
theorem de_if {b2 : Expr} {tc : DT} (hc : DTst X A W e3 (dTst tc)) (ha : DE X A W a t) (hb : DE X A W b2 u) : DE X A W (.IfExp e3 a b2 pos) (dIf tc t u) :=
  PE.mono (pe_ifExp hc ha hb) fun σ H Q ⟨ρ, S, L, Qd, Ed, sl, so, h, kq, kx⟩ =>
    ⟨ρ, S, L, fun k S1 => if k = true then t ρ S1 Qd Ed else u ρ S1 Qd Ed, Ed, sl, so, h, fun k H1 S1 e1 so1 q1 => by
      cases k with
      | true => exact ⟨ρ, S1, L, Qd, Ed, sl.ext e1, so1, q1, kq.ext e1, kx.ext e1⟩
      | false => exact ⟨ρ, S1, L, Qd, Ed, sl.ext e1, so1, q1, kq.ext e1, kx.ext e1⟩, kx⟩
end
end DL
namespace DL
open PySem PySem.Spec PyProof.Rows L2
abbrev DP := DSt → Sto → Prop
/-- what is wanted behind a statement, over data -/
structure DEnds where
  nx : DP
  rt : DQ
  bk : DP := fun _ _ => False
  ct : DP := fun _ _ => False
  xx : DSt → DX := fun _ => DX0
abbrev DTS := DEnds → DSt → Sto → Prop
abbrev DTG := D → DSt → Sto → DP → DX → Prop
section
variable (c : Cfg) (L : Lk) (H : Hp) (S : Sto)
def KP (Q : L2.St → Hp → Prop) (Qd : DP) : Prop := ∀ σ' H' ρ' S', Ext H S H' S' → StoR c L H' S' → EnvR c L H' S' ρ' σ' → Qd ρ' S' → Q σ' H'
def KXs (W : WX) (E : DSt → DX) : Prop := ∀ n a σ' H' ρ' ds S', Ext H S H' S' → StoR c L H' S' → EnvR c L H' S' ρ' σ' → XRep c L H' S' n a ds → E ρ' n ds S' → W (c.cv n) a σ' H'
structure KS (W : WX) (D : Ends) (DD : DEnds) : Prop where
  nx : KP c L H S D.nx DD.nx
  rt : KQ c L H S D.rt DD.rt
  bk : KP c L H S D.bk DD.bk
  ct : KP c L H S D.ct DD.ct
  xx : KXs c L H S W DD.xx
end
section
variable {c : Cfg} {L : Lk} {H H1 H2 : Hp} {S S1 S2 : Sto} {ρ : DSt} {σ : L2.St}
theorem KP.ext {Q : L2.St → Hp → Prop} {Qd : DP} (e : Ext H S H1 S1) (k : KP c L H S Q Qd) : KP c L H1 S1 Q Qd := fun v H' d S' x => k v H' d S' (e.trans x)
theorem KXs.ext {W : WX} {E : DSt → DX} (e : Ext H S H1 S1) (k : KXs c L H S W E) : KXs c L H1 S1 W E := fun n a σ' H' ρ' ds S' x => k n a σ' H' ρ' ds S' (e.trans x)
theorem KS.ext {W : WX} {D : Ends} {DD : DEnds} (e : Ext H S H1 S1) (k : KS c L H S W D DD) : KS c L H1 S1 W D DD := ⟨k.nx.ext e, k.rt.ext e, k.bk.ext e, k.ct.ext e, k.xx.ext e⟩
/-- at the slots as they stand -/
theorem KXs.at_ {W : WX} {E : DSt → DX} (k : KXs c L H S W E) (sl : EnvR c L H S ρ σ) : KX c L H S (fun n a H' => W n a σ H') (E ρ) := fun n a H' ds S' x so r e => k n a σ H' ρ ds S' x so (sl.ext x) r e
end
def liftS (c : Cfg) (W : WX) (t : DTS) : TS := fun D σ H => ∃ ρ S L DD, EnvR c L H S ρ σ ∧ StoR c L H S ∧ t DD ρ S ∧ KS c L H S W D DD
def liftG (c : Cfg) (W : WX) (g : DTG) : TG := fun v σ H Q => ∃ ρ S L d Qd Ed, EnvR c L H S ρ σ ∧ StoR c L H S ∧ Rep c L H S d v ∧ g d ρ S Qd Ed ∧ KP c L H S Q Qd ∧ KX c L H S (fun n a H' => W n a σ H') Ed
section
variable {X : Cx} {A : Cla} {W : WX} {e a b e3 : Expr} {es : List Expr} {st : Stmt} {rest sts body orelse : List Stmt} {pos : Pos} {t u w : DTS} {te : DT}
abbrev DStm (X : Cx) (A : Cla) (W : WX) (st : Stmt) (t : DTS) : Prop := PS X st (liftS (cX X A) W t)
abbrev DStms (X : Cx) (A : Cla) (W : WX) (sts : List Stmt) (t : DTS) : Prop := PSs X sts (liftS (cX X A) W t)
abbrev DTgt (X : Cx) (A : Cla) (W : WX) (e : Expr) (g : DTG) : Prop := PG X e (liftG (cX X A) W g)
theorem PG.mono {t t' : TG} (h : PG X e t) (m : ∀ v σ H Q, t' v σ H Q → t v σ H Q) : PG X e t' := ⟨fun pins s σ H v u Q I r q => h.run pins s σ H v u Q I r (m v σ H Q q)⟩
theorem PGs.mono {t t' : TGs} (h : PGs X es t) (m : ∀ v σ H Q, t' v σ H Q → t v σ H Q) : PGs X es t' := ⟨fun pins s σ H v u Q I r q => h.run pins s σ H v u Q I r (m v σ H Q q)⟩
def sNext : DTS := fun D ρ S => D.nx ρ S
def sSeq (t u : DTS) : DTS := fun D ρ S => t { D with nx := u D } ρ S
theorem ds_nil : DStms X A W [] sNext := PSs.mono pss_nil fun D σ H ⟨ρ, S, L, DD, sl, so, h, k⟩ => k.nx σ H ρ S .refl so sl h
theorem ds_cons (h1 : DStm X A W st t) (h2 : DStms X A W rest u) : DStms X A W (st :: rest) (sSeq t u) :=
  PSs.mono (pss_cons h1 h2) fun D σ H ⟨ρ, S, L, DD, sl, so, h, k⟩ =>
    ⟨ρ, S, L, { DD with nx := u DD }, sl, so, h, ⟨fun σ' H' ρ' S' x so' sl' q => ⟨ρ', S', L, DD, sl', so', q, k.ext x⟩, k.rt, k.bk, k.ct, k.xx⟩⟩
def sDrop (t : DT) : DTS := fun D ρ S => t ρ S (fun _ S1 => D.nx ρ S1) (D.xx ρ)
def sRet (t : DT) : DTS := fun D ρ S => t ρ S D.rt (D.xx ρ)
theorem ds_expr (he : DE X A W e te) (hs : swapsWith e none pos.line X.env = pure false) : DStm X A W (.Expr e pos) (sDrop te) :=
  PS.mono (ps_expr he hs) fun D σ H ⟨ρ, S, L, DD, sl, so, h, k⟩ =>
    ⟨ρ, S, L, _, _, sl, so, h, fun v H1 d S1 e1 so1 r1 q1 => k.nx σ H1 ρ S1 e1 so1 (sl.ext e1) q1, k.xx.at_ sl⟩
theorem ds_ret (he : DE X A W e te) : DStm X A W (.Return (some e) pos) (sRet te) :=
  PS.mono (ps_ret he) fun D σ H ⟨ρ, S, L, DD, sl, so, h, k⟩ => ⟨ρ, S, L, _, _, sl, so, h, k.rt, k.xx.at_ sl⟩
def sRetN : DTS := fun D _ S => D.rt .non S
def sIf (tc : DT) (t u : DTS) : DTS := fun D ρ S => tc ρ S (fun x S1 => ∃ k, truth S1 x = some k ∧ if k = true then t D ρ S1 else u D ρ S1) (D.xx ρ)
theorem ds_if {tc : DT} {p q : List Stmt} (hc : DTst X A W e (dTst tc)) (ha : DStms X A W p t) (hb : DStms X A W q u) : DStm X A W (.If e p q pos) (sIf tc t u) :=
  PS.mono (ps_if hc ha hb) fun D σ H ⟨ρ, S, L, DD, sl, so, h, k⟩ =>
    ⟨ρ, S, L, fun k S1 => if k = true then t DD ρ S1 else u DD ρ S1, _, sl, so, h, fun b H1 S1 e1 so1 q1 => by
      cases b with
      | true => exact ⟨ρ, S1, L, DD, sl.ext e1, so1, q1, k.ext e1⟩
      | false => exact ⟨ρ, S1, L, DD, sl.ext e1, so1, q1, k.ext e1⟩, k.xx.at_ sl⟩
def gNm (i : Nat) : DTG := fun d ρ S Q _ => Q (ρ.set i (some d)) S
theorem dg_name {i : Nat} {x : Str} (hN : X.N.Nodup) (hi : X.N[i]? = some x) (hx : Loc X.env.scope x) (hf : X.fn x = true ∨ X.env.scope.names.lookup x = some .local) : DTgt X A W (.Name x pos) (gNm i) :=
  PG.mono (pg_name hN hi hx hf) fun v σ H Q ⟨ρ, S, L, d, Qd, Ed, sl, so, r, h, kp, _⟩ => kp _ H _ S .refl so (sl.set r) h
def sAsg (t : DT) (g : DTG) : DTS := fun D ρ S => t ρ S (fun x S1 => g x ρ S1 D.nx (D.xx ρ)) (D.xx ρ)
theorem ds_asg {tg : Expr} {g : DTG} (he : DE X A W e te) (hg : DTgt X A W tg g) (hs : swapsWithSole [tg] e pos.line X.env = pure false) (hw : swappedStores [tg] e X.env = pure none) (h1 : (assignEach [tg] X.env).map (·.2) = [assign tg X.env]) :
    DStm X A W (.Assign [tg] e pos) (sAsg te g) :=
  PS.mono (ps_asg he hg hs hw h1) fun D σ H ⟨ρ, S, L, DD, sl, so, h, k⟩ =>
    ⟨ρ, S, L, _, _, sl, so, h, fun v H1 d S1 e1 so1 r1 q1 => ⟨ρ, S1, L, d, DD.nx, _, sl.ext e1, so1, r1, q1, k.nx.ext e1, (k.xx.at_ sl).ext e1⟩, k.xx.at_ sl⟩
theorem ds_set {i : Nat} {x : Str} {p : Pos} (hN : X.N.Nodup) (hi : X.N[i]? = some x) (hx : Loc X.env.scope x) (he : DE X A W e te) (hs : swapsWith e (some (.Name x p)) pos.line X.env = pure false) (hf : X.fn x = true ∨ X.env.scope.names.lookup x = some .local) :
    DStm X A W (.Assign [.Name x p] e pos) (sAsg te (gNm i)) :=
  PS.mono (ps_set hN hi hx he hs hf) fun D σ H ⟨ρ, S, L, DD, sl, so, h, k⟩ =>
    ⟨ρ, S, L, _, _, sl, so, h, fun v H1 d S1 e1 so1 r1 q1 => k.nx _ H1 _ S1 e1 so1 ((sl.ext e1).set r1) q1, k.xx.at_ sl⟩
end
end DL
namespace DL
open PySem PySem.Spec PyProof.Rows L2
/-- the iterator J walks the data ds, as long as G holds of the store -/
def ItD (c : Cfg) (L : Lk) (G : Sto → Prop) (H : Hp) (S : Sto) (J : It) (ds : List D) : Prop :=
  ∀ (L' : Lk) H' S', (∀ p, L' p → L p ∨ H p = none) → Ext H S H' S' → StoR c L' H' S' → G S' →
    (∀ (i : Nat) (d : D), ds[i]? = some d → J.go i H' ∧ ∀ x H'', J.yld i H' x H'' → Ext H' S' H'' S' ∧ StoR c L' H'' S' ∧ Rep c L' H'' S' d x) ∧ (∀ i, ds.length ≤ i → J.stop i H')
abbrev DTI := DSt → Sto → (List D → (Sto → Prop) → Sto → Prop) → DX → Prop
def KI (c : Cfg) (L : Lk) (H : Hp) (S : Sto) (R : It → Hp → Prop) (Rd : List D → (Sto → Prop) → Sto → Prop) : Prop := ∀ J H' ds G S', Ext H S H' S' → StoR c L H' S' → ItD c L G H' S' J ds → Rd ds G S' → R J H'
def liftI (c : Cfg) (W : WX) (t : DTI) : TI := fun σ H R => ∃ ρ S L Rd Ed, EnvR c L H S ρ σ ∧ StoR c L H S ∧ t ρ S Rd Ed ∧ KI c L H S R Rd ∧ KX c L H S (fun n a H' => W n a σ H') Ed
abbrev noG : Sto → Prop := fun _ => True
/-- the turns of a for -/
def forGo (g : DTG) (G : Sto → Prop) (body : DTS) (DD : DEnds) : List D → DSt → Sto → Prop
  | [], ρ, S => G S ∧ DD.nx ρ S
  | x :: xs, ρ, S => G S ∧ g x ρ S (fun ρ1 S1 => body { DD with nx := forGo g G body DD xs, ct := forGo g G body DD xs, bk := DD.nx } ρ1 S1) (DD.xx ρ)
def sFor (i : DTI) (g : DTG) (body : DTS) : DTS := fun D ρ S => i ρ S (fun ds G S1 => forGo g G body D ds ρ S1) (D.xx ρ)
section
variable {X : Cx} {A : Cla} {W : WX} {tg iter elt : Expr} {body : List Stmt} {pos : Pos}
abbrev DItr (X : Cx) (A : Cla) (W : WX) (tg iter : Expr) (t : DTI) : Prop := PI X tg iter (liftI (cX X A) W t)
theorem PI.mono {t t' : TI} (h : PI X tg iter t) (m : ∀ σ H R, t' σ H R → t σ H R) : PI X tg iter t' := ⟨fun pins s σ H R I q => h.run pins s σ H R I (m σ H R q)⟩
theorem ds_for {i : DTI} {g : DTG} {tb : DTS} (hp : PassesOwn (model X.prog X.w) X.A X.env X.xe) (hc : X.calm = true) (hi : DItr X A W tg iter i) (hg : DTgt X A W tg g) (hb : DStms X A W body tb) (hs : ∀ x, foldedSetIterable iter X.env x = pure x) :
    DStm X A W (.For tg iter body [] pos) (sFor i g tb) :=
  PS.mono (ps_for hp hc hi hg hb hs) fun D σ H ⟨ρ, S, L, DD, sl, so, h, k⟩ => by
    refine ⟨ρ, S, L, _, _, sl, so, h, fun J H1 ds G S1 e1 so1 it q1 => ?_, k.xx.at_ sl⟩
    refine ⟨fun j m σ' H' => m = ds.length - j ∧ ∃ ρ' S', EnvR (cX X A) L H' S' ρ' σ' ∧ StoR (cX X A) L H' S' ∧ Ext H1 S1 H' S' ∧ forGo g G tb DD (ds.drop j) ρ' S', ⟨ds.length, rfl, ρ, S1, sl.ext e1, so1, .refl, q1⟩, ?_⟩
    rintro j m σ' H' ⟨em, ρ', S', sl', so', e', q'⟩
    by_cases hj : j < ds.length
    · right
      rw [List.drop_eq_getElem_cons hj] at q'
      obtain ⟨gs, q'⟩ := q'
      obtain ⟨go, _⟩ := it L H' S' (fun _ z => .inl z) e' so' gs
      obtain ⟨g1, y1⟩ := go j ds[j] (List.getElem?_eq_getElem hj)
      refine ⟨g1, fun σ2 H2 => ∃ ρ2 S2, EnvR (cX X A) L H2 S2 ρ2 σ2 ∧ StoR (cX X A) L H2 S2 ∧ Ext H1 S1 H2 S2 ∧ forGo g G tb DD (ds.drop (j + 1)) ρ2 S2, fun σ2 H2 ⟨ρ2, S2, a, b, c, d⟩ => ⟨ds.length - (j + 1), by omega, rfl, ρ2, S2, a, b, c, d⟩, fun x H'' hy => ?_⟩
      obtain ⟨ex, sx, rx⟩ := y1 x H'' hy
      have k' := (k.ext e1).ext (e'.trans ex)
      refine ⟨ρ', S', L, ds[j], _, _, sl'.ext ex, sx, rx, q', fun σ2 H2 ρ2 S2 x2 so2 sl2 q2 => ?_, k'.xx.at_ (sl'.ext ex)⟩
      have x3 := (e'.trans ex).trans x2
      refine ⟨ρ2, S2, L, _, sl2, so2, q2, ⟨fun σ3 H3 ρ3 S3 x4 so3 sl3 q3 => ⟨ρ3, S3, sl3, so3, x3.trans x4, q3⟩, (k'.ext x2).rt, (k'.ext x2).nx, fun σ3 H3 ρ3 S3 x4 so3 sl3 q3 => ⟨ρ3, S3, sl3, so3, x3.trans x4, q3⟩, (k'.ext x2).xx⟩⟩
    · left
      have hn : ds.drop j = [] := List.drop_eq_nil_of_le (by omega)
      rw [hn] at q'
      obtain ⟨gs, q'⟩ := q'
      obtain ⟨_, st⟩ := it L H' S' (fun _ z => .inl z) e' so' gs
      exact ⟨st j (by omega), k.nx σ' H' ρ' S' (e1.trans e') so' sl' q'⟩
end
inductive Tg where
  | nm (i : Nat) | tup (gs : List Tg) | lst (gs : List Tg)
mutual
def Tg.v (K : PySem.W.Frag) : Tg → TG
  | .nm i => gName i
  | .tup gs => gTup K gs.length (Tg.vs K gs)
  | .lst gs => gLst K gs.length (Tg.vs K gs)
def Tg.vs (K : PySem.W.Frag) : List Tg → TGs
  | [] => gNil
  | g :: gs => gCons (Tg.v K g) (Tg.vs K gs)
end
mutual
/-- what is stored, the slots behind it -/
def Tg.d : Tg → D → DSt → DP → Sto → Prop
  | .nm i, x, ρ, Q, S => Q (ρ.set i (some x)) S
  | .tup gs, x, ρ, Q, S => ∃ ds, x = .tup ds ∧ Tg.ds gs ds ρ Q S
  | .lst gs, x, ρ, Q, S => ∃ ds, x = .lst ds ∧ Tg.ds gs ds ρ Q S
def Tg.ds : List Tg → List D → DSt → DP → Sto → Prop
  | [], ds, ρ, Q, S => ds = [] ∧ Q ρ S
  | g :: gs, ds, ρ, Q, S => ∃ x r, ds = x :: r ∧ Tg.d g x ρ (fun ρ1 S1 => Tg.ds gs r ρ1 Q S1) S
end
mutual
def Tg.slots : Tg → List Nat
  | .nm i => [i]
  | .tup gs => Tg.slotss gs
  | .lst gs => Tg.slotss gs
def Tg.slotss : List Tg → List Nat
  | [] => []
  | g :: gs => Tg.slots g ++ Tg.slotss gs
end
theorem wipe_set {σ : L2.St} {i : Nat} {x : Option V} : ∀ {vs : List Nat}, i ∈ vs → wipe (σ.set i x) vs = wipe σ vs
  | [], h => by cases h
  | v :: vs, h => by
    show (wipe (σ.set i x) vs).set v none = (wipe σ vs).set v none
    by_cases e : i ∈ vs
    · rw [wipe_set e]
    · have ev : i = v := by
        rcases List.mem_cons.mp h with h | h
        · exact h
        · exact absurd h e
      subst ev
      have gen : ∀ (vs : List Nat), i ∉ vs → wipe (σ.set i x) vs = (wipe σ vs).set i x := by
        intro vs
        induction vs with
        | nil => intro _; rfl
        | cons w ws ih =>
          intro hn
          show (wipe (σ.set i x) ws).set w none = ((wipe σ ws).set w none).set i x
          rw [ih fun z => hn (List.mem_cons_of_mem _ z)]
          exact List.set_comm _ _ fun z => hn (z ▸ List.mem_cons_self)
      rw [gen vs e, List.set_set]
theorem wipe_wipe {σ : L2.St} {vs : List Nat} : ∀ {ws : List Nat}, (∀ i ∈ ws, i ∈ vs) → wipe (wipe σ ws) vs = wipe σ vs
  | [], _ => rfl
  | w :: ws, h => by
    show wipe ((wipe σ ws).set w none) vs = _
    rw [wipe_set (h w List.mem_cons_self), wipe_wipe fun i hi => h i (List.mem_cons_of_mem _ hi)]
section
variable {c : Cfg} {L : Lk} {H : Hp} {S : Sto}
mutual
theorem Tg.ok (vs : List Nat) : ∀ (g : Tg) (v : V) (σ : L2.St) (d : D) (ρ : DSt) (Qd : DP) (Q : L2.St → Hp → Prop), EnvR c L H S ρ σ → Rep c L H S d v → g.d d ρ Qd S →
    (∀ ρ' σ', EnvR c L H S ρ' σ' → ((∀ i ∈ g.slots, i ∈ vs) → wipe σ' vs = wipe σ vs) → Qd ρ' S → Q σ' H) → g.v c.K v σ H Q
  | .nm i, v, σ, d, ρ, Qd, Q, sl, r, h, k => by
    unfold Tg.d at h
    unfold Tg.v
    exact k _ _ (sl.set r) (fun hi => wipe_set (hi i (by unfold Tg.slots; simp))) h
  | .tup gs, v, σ, d, ρ, Qd, Q, sl, r, h, k => by
    unfold Tg.d at h
    unfold Tg.v
    obtain ⟨ds, ed, h⟩ := h
    subst ed
    unfold Rep at r
    obtain ⟨p, ws, ev, f, rs⟩ := r
    refine ⟨p, ws, ev, f.sq, ?_, Tg.oks vs gs ws σ ds ρ Qd Q sl rs h fun ρ' σ' a b => k ρ' σ' a fun z => b fun i hi => z i (by unfold Tg.slots; exact hi)⟩
    rw [rs.length]
    exact Tg.ds_len gs ds ρ Qd h
  | .lst gs, v, σ, d, ρ, Qd, Q, sl, r, h, k => by
    unfold Tg.d at h
    unfold Tg.v
    obtain ⟨ds, ed, h⟩ := h
    subst ed
    unfold Rep at r
    obtain ⟨p, ws, ev, f, _, rs⟩ := r
    refine ⟨p, ws, ev, SqL.of f, ?_, Tg.oks vs gs ws σ ds ρ Qd Q sl rs h fun ρ' σ' a b => k ρ' σ' a fun z => b fun i hi => z i (by unfold Tg.slots; exact hi)⟩
    rw [rs.length]
    exact Tg.ds_len gs ds ρ Qd h
theorem Tg.oks (vs : List Nat) : ∀ (gs : List Tg) (ws : List V) (σ : L2.St) (ds : List D) (ρ : DSt) (Qd : DP) (Q : L2.St → Hp → Prop), EnvR c L H S ρ σ → Reps c L H S ds ws → Tg.ds gs ds ρ Qd S →
    (∀ ρ' σ', EnvR c L H S ρ' σ' → ((∀ i ∈ Tg.slotss gs, i ∈ vs) → wipe σ' vs = wipe σ vs) → Qd ρ' S → Q σ' H) → Tg.vs c.K gs ws σ H Q
  | [], ws, σ, ds, ρ, Qd, Q, sl, rs, h, k => by
    unfold Tg.ds at h
    unfold Tg.vs
    obtain ⟨e, h⟩ := h
    subst e
    exact ⟨rs.of_nil, k ρ σ sl (fun _ => rfl) h⟩
  | g :: gs, ws, σ, ds, ρ, Qd, Q, sl, rs, h, k => by
    unfold Tg.ds at h
    unfold Tg.vs
    obtain ⟨x, r, e, h⟩ := h
    subst e
    obtain ⟨v, us, ev, r1, rs1⟩ := rs.of_cons
    refine ⟨v, us, ev, Tg.ok vs g v σ x ρ _ _ sl r1 h fun ρ1 σ1 sl1 w1 q1 => Tg.oks vs gs us σ1 r ρ1 Qd Q sl1 rs1 q1 fun ρ2 σ2 sl2 w2 q2 => k ρ2 σ2 sl2 (fun z => ?_) q2⟩
    rw [w2 fun i hi => z i (by unfold Tg.slotss; exact List.mem_append_right _ hi), w1 fun i hi => z i (by unfold Tg.slotss; exact List.mem_append_left _ hi)]
theorem Tg.ds_len : ∀ (gs : List Tg) (ds : List D) (ρ : DSt) (Qd : DP), Tg.ds gs ds ρ Qd S → ds.length = gs.length
  | [], ds, ρ, Qd, h => by
    unfold Tg.ds at h
    rw [h.1]
    rfl
  | g :: gs, ds, ρ, Qd, h => by
    unfold Tg.ds at h
    obtain ⟨x, r, e, h⟩ := h
    subst e
    have : ∀ (g : Tg) (x : D) (ρ : DSt) (P : DP), g.d x ρ P S → ∃ ρ', P ρ' S := Tg.d_some
    obtain ⟨ρ', q⟩ := this g x ρ _ h
    simp [Tg.ds_len gs r ρ' Qd q]
theorem Tg.d_some : ∀ (g : Tg) (x : D) (ρ : DSt) (P : DP), g.d x ρ P S → ∃ ρ', P ρ' S
  | .nm i, x, ρ, P, h => by
    unfold Tg.d at h
    exact ⟨_, h⟩
  | .tup gs, x, ρ, P, h => by
    unfold Tg.d at h
    obtain ⟨ds, e, h⟩ := h
    exact Tg.ds_some gs ds ρ P h
  | .lst gs, x, ρ, P, h => by
    unfold Tg.d at h
    obtain ⟨ds, e, h⟩ := h
    exact Tg.ds_some gs ds ρ P h
theorem Tg.ds_some : ∀ (gs : List Tg) (ds : List D) (ρ : DSt) (P : DP), Tg.ds gs ds ρ P S → ∃ ρ', P ρ' S
  | [], ds, ρ, P, h => by
    unfold Tg.ds at h
    exact ⟨ρ, h.2⟩
  | g :: gs, ds, ρ, P, h => by
    unfold Tg.ds at h
    obtain ⟨x, r, e, h⟩ := h
    obtain ⟨ρ1, q⟩ := Tg.d_some g x ρ _ h
    exact Tg.ds_some gs r ρ1 P q
end
end
def Tg.g (g : Tg) : DTG := fun d ρ S Q _ => g.d d ρ Q S
def wipeD (ρ : DSt) : List Nat → DSt
  | [] => ρ
  | v :: vs => (wipeD ρ vs).set v none
theorem EnvR.wipe {c : Cfg} {L : Lk} {H : Hp} {S : Sto} {ρ : DSt} {σ : L2.St} (s : EnvR c L H S ρ σ) : ∀ vs : List Nat, EnvR c L H S (wipeD ρ vs) (L2.wipe σ vs)
  | [] => s
  | v :: vs => by
    have ih := EnvR.wipe s vs
    refine ⟨by unfold wipeD L2.wipe; simp [ih.len], fun i d h => ?_⟩
    have h : ((wipeD ρ vs).set v none)[i]? = some (some d) := h
    show ∃ w, ((L2.wipe σ vs).set v none)[i]? = some (some w) ∧ _
    by_cases e : v = i
    · subst e
      by_cases hl : v < (wipeD ρ vs).length
      · rw [List.getElem?_set_self hl] at h; cases h
      · rw [List.getElem?_eq_none (by simpa using hl)] at h; cases h
    · rw [List.getElem?_set_ne e] at h ⊢
      exact ih.at_ i d h
/-- the turns of a comprehension; Q is told the items -/
def lcGo (g : Tg) (G : Sto → Prop) (tc : DTT) (te : DT) (ρ : DSt) (Q : List D → Sto → Prop) : List D → List D → Sto → Prop
  | [], acc, S => G S ∧ Q acc S
  | x :: xs, acc, S => G S ∧ g.d x ρ (fun ρ1 S1 => tc ρ1 S1 (fun b S2 => if b = true then te ρ1 S2 (fun y S3 => lcGo g G tc te ρ Q xs (acc ++ [y]) S3) DX0 else lcGo g G tc te ρ Q xs acc S2) DX0) S
def dLc (m : Bool) (i : DTI) (g : Tg) (tc : DTT) (te : DT) (vs : List Nat) : DT := fun ρ S Q E => i ρ S (fun ds G S1 => ds.length ≤ sizeLine ∧ lcGo g G tc te (wipeD ρ vs) (fun ys S2 => mkL m ys S2 Q) ds [] S1) E
section
variable {X : Cx} {A : Cla} {W : WX} {tg iter elt : Expr} {ifs : List Expr} {scope : Scope} {own : List (Str × Nat)} {pos : Pos}
abbrev W0 : WX := fun _ _ _ _ => False
theorem lc_lift {m : Bool} {i : DTI} {g : Tg} {tc : DTT} {te : DT} (hsl : ∀ j ∈ g.slots, j ∈ own.map (·.2)) {σ : L2.St} {H : Hp} {Q : VK} (h0 : liftE (cX X A) W (dLc m i g tc te (own.map (·.2))) σ H Q) :
    tLc (liftI (cX X A) W i) (g.v X.K) (liftT (cX X A) W0 tc) (liftE (cX X A) W0 te) (own.map (·.2)) σ H Q := by
  obtain ⟨ρ, S, L, Qd, Ed, sl, so, h, kq, kx⟩ := h0
  refine ⟨ρ, S, L, _, _, sl, so, h, fun J H1 ds G S1 e1 so1 it ⟨hz, q1⟩ => ?_, kx⟩
  intro D0 hD
  have fr := so1.free hD
  have hl : ∀ p, (L.add D0) p → L p ∨ H1 p = none := fun p z => z.elim .inl fun e => .inr (by rw [e]; exact hD)
  have sl1 := (sl.ext e1).lock hl
  refine ⟨fun j m' H' => m' = ds.length - j ∧ ∃ S' acc vs, H' D0 = some (.lst vs) ∧ S' D0 = none ∧ StoR (cX X A) (L.add D0) H' S' ∧ Ext H1 S1 H' S' ∧ Reps (cX X A) (L.add D0) H' S' acc vs ∧ acc.length ≤ j ∧
    lcGo g G tc te (wipeD ρ (own.map (·.2))) (fun ys S2 => mkL m ys S2 Qd) (ds.drop j) acc S', ?_, ?_⟩
  · exact ⟨ds.length, rfl, S1, [], [], upd_same, fr.1, so1.lockNew hD, Ext.upd hD, .nil, Nat.le_refl _, q1⟩
  · rintro j m' H' ⟨em, S', acc, vs, hd, sd, so', e', ra, la, q'⟩
    by_cases hj : j < ds.length
    · right
      rw [List.drop_eq_getElem_cons hj] at q'
      obtain ⟨gs, q'⟩ := q'
      obtain ⟨go, _⟩ := it _ H' S' hl e' so' gs
      obtain ⟨g1, y1⟩ := go j ds[j] (List.getElem?_eq_getElem hj)
      refine ⟨g1, fun H5 => ∃ S5 acc5 vs5, H5 D0 = some (.lst vs5) ∧ S5 D0 = none ∧ StoR (cX X A) (L.add D0) H5 S5 ∧ Ext H1 S1 H5 S5 ∧ Reps (cX X A) (L.add D0) H5 S5 acc5 vs5 ∧ acc5.length ≤ j + 1 ∧
        lcGo g G tc te (wipeD ρ (own.map (·.2))) (fun ys S2 => mkL m ys S2 Qd) (ds.drop (j + 1)) acc5 S5, fun H5 w5 => ⟨ds.length - (j + 1), by omega, rfl, w5⟩, fun x H'' hy => ?_⟩
      obtain ⟨ex, sx, rx⟩ := y1 x H'' hy
      have sl2 := (sl1.ext (show Ext H1 S1 H'' S' from e'.trans ex)).wipe (own.map (·.2))
      obtain ⟨hd2, sd2⟩ := ex D0 _ hd sd
      refine Tg.ok (c := cX X A) (L := L.add D0) (S := S') (own.map (·.2)) g x _ ds[j] _ _ _ sl2 rx q' fun ρ3 σ3 sl3 w3 q3 => ⟨(w3 hsl).trans (wipe_wipe fun _ z => z), ρ3, S', L.add D0, _, DX0, sl3, sx, q3, fun b H3 S3 e3 so3 q3 => ?_, KX.zero⟩
      cases b with
      | false =>
        obtain ⟨hd3, sd3⟩ := e3 D0 _ hd2 sd2
        exact ⟨S3, acc, vs, hd3, sd3, so3, (e'.trans ex).trans e3, (ra.ext ex).ext e3, by omega, q3⟩
      | true =>
        refine ⟨ρ3, S3, L.add D0, _, DX0, sl3.ext e3, so3, q3, fun y H4 dy S4 e4 so4 ry q4 => ?_, KX.zero⟩
        have ex4 := (ex.trans e3).trans e4
        obtain ⟨hd4, sd4⟩ := ex4 D0 _ hd sd
        have ra4 := ra.ext ex4
        have lD : (L.add D0) D0 := .inr rfl
        refine ⟨vs, hd4, by rw [ra.length]; omega, S4, acc ++ [dy], vs ++ [y], upd_same, sd4, so4.lockWrite lD, fun p o hp sp => ?_, ?_, by rw [List.length_append, List.length_singleton]; omega, q4⟩
        · have ne : p ≠ D0 := fun e => by rw [e, hD] at hp; cases hp
          rw [upd_ne ne]
          exact (e'.trans ex4) p o hp sp
        · exact Reps.aside lD (fun _ z => z) (fun p e => upd_ne e) (fun _ _ => rfl) _ _ (ra4.append (.cons ry .nil))
    · left
      have hn : ds.drop j = [] := List.drop_eq_nil_of_le (by omega)
      rw [hn] at q'
      obtain ⟨gs, q'⟩ := q'
      obtain ⟨_, st⟩ := it _ H' S' hl e' so' gs
      refine ⟨st j (by omega), ?_⟩
      cases m with
      | false =>
        exact kq (.ref D0) H' (.lst acc) S' (e1.trans e') (so'.unlock fun _ z => .inl z) (by unfold Rep; exact ⟨D0, vs, rfl, hd, ⟨sd, fr.2⟩, ra.unlock fun _ z => .inl z⟩) q'
      | true =>
        have q2 : ∀ p, S' p = none → Qd (.ref p) (S'.set p (.lst acc)) := q'
        have rs : Reps (cX X A) L H' (S'.set D0 (.lst acc)) acc vs := Reps.aside (q := D0) (.inr rfl) (fun _ z => .inl z) (fun _ _ => rfl) (fun p e => Sto.set_ne e) _ _ ra
        refine kq (.ref D0) H' (.ref D0) (S'.set D0 (.lst acc)) (e1.trans fun p o hp sp => ?_) (so'.lockThaw fr.2 ⟨vs, hd, rs⟩) (by unfold Rep; rfl) (q2 D0 sd)
        have ne : p ≠ D0 := fun e => by rw [e, hD] at hp; cases hp
        rw [Sto.set_ne ne]
        exact e' p o hp sp
theorem de_lc {m : Bool} {i : DTI} {g : Tg} {tc : DTT} {te : DT} (hc : X.calm = true) (hN : X.N.Nodup) (hi : DItr X A W tg iter i) (ok : BlkOk X.N X.env.scope scope own) (hsl : ∀ j ∈ g.slots, j ∈ own.map (·.2))
    (hg : ∀ (s : Shared) (H : Hp) (C : Addr) (cl : List (Str × Addr)) (fp : List Addr), PG (X.blk s H scope (compEnvC scope cl C X.env) fp) tg (g.v X.K))
    (ht : ∀ (s : Shared) (H : Hp) (C : Addr) (cl : List (Str × Addr)) (fp : List Addr), PTs (X.blk s H scope (compEnvC scope cl C X.env) fp) ifs (liftT (cX X A) W0 tc))
    (he : ∀ (s : Shared) (H : Hp) (C : Addr) (cl : List (Str × Addr)) (fp : List Addr), DE (X.blk s H scope (compEnvC scope cl C X.env) fp) A W0 elt te) (hs : ∀ x, foldedSetIterable iter X.env x = pure x) :
    DE X A W (.ListComp elt [⟨tg, iter, ifs, 0⟩] scope pos) (dLc m i g tc te (own.map (·.2))) :=
  PE.mono (pe_lc (te := liftE (cX X A) W0 te) hc hN hi ok hg ht he hs) fun σ H Q h => lc_lift hsl h
end
end DL
namespace DL
open PySem PySem.Spec PyProof.Rows L2
/-- room for k calls, no repr under way -/
structure Rm (k : Nat) (A : Around) : Prop where
  r : Room k A
  g : A.guards = some []
theorem Rm.mono {j k : Nat} {A : Around} (m : Rm k A) (h : j ≤ k) : Rm j A := ⟨m.r.mono h, m.g⟩
theorem Rm.deeper {k : Nat} {A : Around} (m : Rm (k + 1) A) (env : PySem.Env) : Rm k (A.deeper env) := ⟨m.r.deeper env, m.g⟩
/-- a promise over data: the positional arguments -/
abbrev DSp := List D → Sto → DQ → DX → Prop
def liftSp (c : Cfg) (sp : DSp) : Sp := fun vs H Q E => ∃ ds S L Qd Ed, StoR c L H S ∧ Reps c L H S ds vs ∧ sp ds S Qd Ed ∧ KQ c L H S Q Qd ∧ KX c L H S E Ed
def FnD (P : Program) (w : World) (c : Cfg) (mg : Str → Option Value) (base : Heap) (k : Nat) (f : Addr) (sp : DSp) : Prop :=
  ∀ (A : Around) (outer : List PySem.Env) (s : Shared) (H : Hp) (us : List Value) (vs : List V) (Q : VK) (E : XK), Rm k A → Env0 P w c.K mg base A outer s H → Vals vs us → liftSp c sp vs H Q E →
    codeAny (model P w) A (.call (.ref f) ⟨us, []⟩) (CR (L2N.CX P w) outer P w H s Q E) s
theorem FnD.mono {P : Program} {w : World} {c : Cfg} {mg : Str → Option Value} {base : Heap} {j k : Nat} {f : Addr} {sp : DSp} (F : FnD P w c mg base j f sp) (h : j ≤ k) : FnD P w c mg base k f sp :=
  fun A outer s H us vs Q E m => F A outer s H us vs Q E (m.mono h)
/-- the slots at the entry -/
def startD (n : Nat) (ds : List D) : DSt := ds.map some ++ List.replicate (n - ds.length) none
theorem start_env {c : Cfg} {L : Lk} {H : Hp} {S : Sto} {N : List Str} {ds : List D} {vs : List V} (r : Reps c L H S ds vs) : EnvR c L H S (startD N.length ds) (L2.start N vs) := by
  have hl := r.length
  refine ⟨by unfold startD L2.start; simp [hl], fun i d h => ?_⟩
  unfold startD at h
  unfold L2.start
  by_cases hi : i < ds.length
  · rw [List.getElem?_append_left (by simpa using hi), List.getElem?_map] at h
    cases e : ds[i]? with
    | none => rw [e] at h; cases h
    | some x =>
      rw [e] at h
      cases h
      obtain ⟨v, ev, rv⟩ := r.get e
      exact ⟨v, by rw [List.getElem?_append_left (by rw [List.length_map, hl]; exact hi), List.getElem?_map, ev]; rfl, rv⟩
  · rw [List.getElem?_append_right (by simpa using hi), List.getElem?_replicate] at h
    split at h <;> cases h
section
variable {P : Program} {w : World} {c : Cfg} {mg : Str → Option Value} {base : Heap} {k : Nat} {f : Addr} {name qual : Str} {params : Arguments} {body : List Stmt} {scope : Scope} {dV kV doc pm cdv ct oc : Value} {an od : Option Addr}
  {osl : Array (Option Value)} {N ps : List Str} {t : DTS}
/-- what a def promises: its body's reading -/
def bodySp (n m : Nat) (t : DTS) : DSp := fun ds S Q E => ds.length = m ∧ t { nx := fun _ S' => Q .non S', rt := Q, xx := fun _ => E } (startD n ds) S
/-- def f(a, b) -/
theorem fnd_of {A0 : Cla} (ec : c = ⟨c.K, A0.cA, A0.cv, A0.fl, A0.gh, A0.w⟩) (lk : c.K.lookup f = some ⟨oc, od, .func (PySem.W.fnOf name qual params body scope dV kV doc pm an cdv ct), osl⟩) (hcd : PySem.W.codeIn c.K cdv qual = true) (S : FnScope N ps scope)
    (hb : ∀ us : List Value, us.length = ps.length → bindArgs (PySem.W.fnOf name qual params body scope dV kV doc pm an cdv ct) ⟨us, []⟩ = pure (ps.zip us))
    (hbody : ∀ (X : Cx) (W : WX), X.prog = P → X.w = w → X.K = c.K → X.mg = mg → X.base = base → X.N = N → X.env.scope = scope → X.calm = true → (∀ x, X.fn x = true) → X.stack = X.env :: X.outer → X.env.frame = some X.env.locals → X.ex = [] →
      PassesOwn (model X.prog X.w) X.A X.env X.xe → Rm k X.A → L2N.Takes X W → PSs X body (liftS c W t)) :
    FnD P w c mg base (k + 1) f (bodySp N.length ps.length t) := by
  intro A outer s H us vs Q E m e0 r ⟨ds, S0, L, Qd, Ed, so, rs, ⟨hl, h⟩, kq, kx⟩
  have hlu : us.length = ps.length := by rw [← r.length, rs.length, hl]
  refine StX.run_bnd (N := N) (ps := ps) (G := fun xs H2 => xs = vs ∧ H2 = H) lk hcd S m.r e0 (fun A' Ex Q' hQ => ?_) fun s2 H2 xs ⟨ex, eH⟩ hr' => ?_
  · rw [hb us hlu]
    exact wpAny_pure (hQ s H vs us e0 Un.refl rfl (fun _ _ z => z) r (by rw [r.length, hlu]) ⟨rfl, rfl⟩)
  · subst ex eH
    refine ⟨liftS c (fun n a _ H' => E n a H') t, hbody _ _ rfl rfl rfl rfl rfl rfl rfl rfl (fun _ => rfl) rfl rfl rfl (passes_of rfl) (m.deeper _) (L2N.takes_of rfl rfl rfl rfl), ?_⟩
    exact ⟨_, S0, L, _, start_env rs, so, h, ⟨fun σ' H' ρ' S' x so' sl' q => kq _ H' _ S' x so' (by unfold Rep; rfl) q, kq, fun _ _ _ _ _ _ _ z => z.elim, fun _ _ _ _ _ _ _ z => z.elim, fun n a σ' H' ρ' ds' S' x so' _ xr q => kx n a H' ds' S' x so' xr q⟩⟩
end
section
variable {X : Cx} {A : Cla} {W : WX} {e : Expr} {es : List Expr} {p pos : Pos} {x : Str} {f : Addr} {k : Nat} {sp : DSp} {t : DTA}
def dCall (sp : DSp) (t : DTA) : DT := fun ρ S Q E => t ρ S (fun ds S1 => sp ds S1 Q E) E
theorem KX.slots {σ : L2.St} {c : Cfg} {L : Lk} {H : Hp} {S : Sto} {E : DX} (k : KX c L H S (fun n a H' => W n a σ H') E) : KX c L H S (WE W σ) E := k
/-- the callee runs -/
theorem run_d {pins : List (Addr × Obj)} {σ : L2.St} {H : Hp} {s : Shared} {Q : VK} {us : List Value} {vs : List V} (F : FnD X.prog X.w (cX X A) X.mg X.base k f sp) (m : Rm k X.A) (tk : L2N.Takes X W)
    (I : L2.Inv X pins σ H s) (r : Vals vs us) (h : liftSp (cX X A) sp vs H Q (WE W σ)) : wpAny (model X.prog X.w) X.A (call (.ref f) us) (EP X pins σ Q) X.xe s := by
  refine wpAny_call (codeAny_mono (F X.A X.stack s H us vs Q _ m I.env0 r h) fun r' s' hq => ?_)
  cases r' with
  | error e => exact L2N.passAt tk σ pins H s e s' I hq
  | ok fl => cases fl with
    | ret u => exact I.after hq
    | next => exact hq.elim
    | brk => exact hq.elim
    | cont => exact hq.elim
theorem de_call (F : FnD X.prog X.w (cX X A) X.mg X.base k f sp) (m : Rm k X.A) (tk : L2N.Takes X W) (hg : Gl X x) (hm : X.mg x = some (.ref f)) (hk : PySem.W.keepIn X.K (.ref f) = true) (ha : DA X A W (e :: es) t)
    (hdb : (x == ("__debug__" : Str)) = false) (he : starEach (e :: es) X.env = (false, eval e X.env) :: starEach es X.env) (hpl : (backTo pos (starEach es X.env)).any (·.1) = false) :
    DE X A W (.Call (.Name x p) (e :: es) [] pos) (dCall sp t) := by
  refine ⟨fun pins s σ H Q I ⟨ρ, S, L, Qd, Ed, sl, so, h, kq, kx⟩ => ?_⟩
  refine wpAny_Call_Name_kw (ld_glob I hg hm ?_ hdb)
  refine PySem.W.callWith_K (h₀ := X.base) I.ok.mod.kin hk (thn (ha.run pos pins s σ H (fun vs H1 => liftSp (cX X A) sp vs H1 Q (WE W σ)) I ⟨ρ, S, L, _, Ed, sl, so, h, fun vs H1 ds S1 e1 so1 r1 q1 => ?_, kx⟩) fun us s1 ⟨vs, H1, I1, r, q⟩ => ⟨I1.kIn, ?_⟩) he hpl
  · exact ⟨ds, S1, L, Qd, Ed, so1, r1, q1, kq.ext e1, (kx.ext e1).slots⟩
  · exact run_d F m tk I1 r q
/-- built-in functions and types -/
def dCB (R : DRA) (t : DTA) : DT := fun ρ S Q E => t ρ S (fun ds S1 => R ds S1 Q DX0) E
theorem tCB_lift {R : DRA} {σ : L2.St} {H : Hp} {Q : VK} (h : liftE (cX X A) W (dCB R t) σ H Q) : tCB (liftRA (cX X A) R) (liftA (cX X A) W t) σ H Q := by
  obtain ⟨ρ, S, L, Qd, Ed, sl, so, h, kq, kx⟩ := h
  exact ⟨ρ, S, L, _, Ed, sl, so, h, fun vs H1 ds S1 e1 so1 r1 q1 => ⟨S1, L, ds, Qd, so1, r1, q1, kq.ext e1⟩, kx⟩
theorem de_callB {id : String} {R : DRA} (hc : CallD X A (.builtin id) R) (hg : Gl X x) (hm : X.mg x = none) (hv : bootBuiltins x = some (.builtin id)) (ha : DA X A W (e :: es) t) (hn : x ≠ "__name__") (hdb : (x == ("__debug__" : Str)) = false)
    (he : starEach (e :: es) X.env = (false, eval e X.env) :: starEach es X.env) (hpl : (backTo pos (starEach es X.env)).any (·.1) = false) : DE X A W (.Call (.Name x p) (e :: es) [] pos) (dCB R t) :=
  PE.mono (pe_callB hc hg hm hv ha hn hdb he hpl) fun _ _ _ => tCB_lift
theorem de_callTy {T : String} {R : DRA} (hc : CallD X A (.type T) R) (hg : Gl X x) (hm : X.mg x = none) (hv : bootBuiltins x = some (.type T)) (ha : DA X A W (e :: es) t) (hn : x ≠ "__name__") (hdb : (x == ("__debug__" : Str)) = false)
    (he : starEach (e :: es) X.env = (false, eval e X.env) :: starEach es X.env) (hpl : (backTo pos (starEach es X.env)).any (·.1) = false) : DE X A W (.Call (.Name x p) (e :: es) [] pos) (dCB R t) :=
  PE.mono (pe_callTy hc hg hm hv ha hn hdb he hpl) fun _ _ _ => tCB_lift
end
end DL
namespace DL
open PySem PySem.Spec PyProof.Rows L2
/-- the items of a list, whichever -/
def seqL (S : Sto) : D → Option (List D)
  | .lst xs => some xs
  | .cst xs => some xs
  | .ref p => match S p with
    | some (.lst xs) => some xs
    | _ => none
  | _ => none
/-- of a list of one's own -/
def seqM (S : Sto) : D → Option (List D)
  | .cst _ => none
  | d => seqL S d
/-- of a list or a tuple -/
def seqA (S : Sto) : D → Option (List D)
  | .tup xs => some xs
  | d => seqL S d
/-- a list that may change is seen as it stands -/
def view (S : Sto) : D → D
  | .ref p => match S p with
    | some (.lst xs) => .lst xs
    | some (.ins C xs) => .ins C xs
    | _ => .ref p
  | d => d
section
variable {c : Cfg} {L : Lk} {H H1 H2 : Hp} {S S1 S2 : Sto}
theorem seqL_ok {d : D} {v : V} {ds : List D} (so : StoR c L H S) (r : Rep c L H S d v) (h : seqL S d = some ds) : ∃ p vs, v = .ref p ∧ SqL c.K H p vs ∧ Reps c L H S ds vs := by
  cases d with
  | lst xs =>
    cases h
    unfold Rep at r
    obtain ⟨p, vs, ev, f, _, rs⟩ := r
    exact ⟨p, vs, ev, SqL.of f, rs⟩
  | cst xs =>
    cases h
    unfold Rep at r
    obtain ⟨p, vs, ev, f, rs⟩ := r
    exact ⟨p, vs, ev, f.sq, rs⟩
  | ref p =>
    have h : (match S p with | some (.lst xs) => some xs | _ => none) = some ds := h
    unfold Rep at r
    cases s : S p with
    | none => rw [s] at h; cases h
    | some o =>
      rw [s] at h
      cases o with
      | dct kvs => cases h
      | dic nk ds => cases h
      | lkd od vs kvs => cases h
      | ins C xs => cases h
      | lst xs =>
        cases h
        obtain ⟨⟨vs, hp, rs⟩, _⟩ := so.at_ p _ s
        exact ⟨p, vs, r, SqL.of hp, rs⟩
  | _ => cases h
theorem seqM_ok {d : D} {v : V} {ds : List D} (so : StoR c L H S) (r : Rep c L H S d v) (h : seqM S d = some ds) : ∃ p vs, v = .ref p ∧ H p = some (.lst vs) ∧ Reps c L H S ds vs := by
  cases d with
  | lst xs =>
    cases h
    unfold Rep at r
    obtain ⟨p, vs, ev, f, _, rs⟩ := r
    exact ⟨p, vs, ev, f, rs⟩
  | ref p =>
    have h : (match S p with | some (.lst xs) => some xs | _ => none) = some ds := h
    unfold Rep at r
    cases s : S p with
    | none => rw [s] at h; cases h
    | some o =>
      rw [s] at h
      cases o with
      | dct kvs => cases h
      | dic nk ds => cases h
      | lkd od vs kvs => cases h
      | ins C xs => cases h
      | lst xs =>
        cases h
        obtain ⟨⟨vs, hp, rs⟩, _⟩ := so.at_ p _ s
        exact ⟨p, vs, r, hp, rs⟩
  | _ => cases h
theorem seqA_ok {d : D} {v : V} {ds : List D} (so : StoR c L H S) (r : Rep c L H S d v) (h : seqA S d = some ds) : ∃ p vs, v = .ref p ∧ (SqL c.K H p vs ∨ SqT c.K H p vs) ∧ Reps c L H S ds vs := by
  cases d with
  | tup xs =>
    cases h
    unfold Rep at r
    obtain ⟨p, vs, ev, f, rs⟩ := r
    exact ⟨p, vs, ev, .inr f.sq, rs⟩
  | lst xs =>
    obtain ⟨p, vs, ev, q, rs⟩ := seqL_ok so r (show seqL S (.lst xs) = some ds from h)
    exact ⟨p, vs, ev, .inl q, rs⟩
  | cst xs =>
    obtain ⟨p, vs, ev, q, rs⟩ := seqL_ok so r (show seqL S (.cst xs) = some ds from h)
    exact ⟨p, vs, ev, .inl q, rs⟩
  | ref p =>
    obtain ⟨p, vs, ev, q, rs⟩ := seqL_ok so r (show seqL S (.ref p) = some ds from h)
    exact ⟨p, vs, ev, .inl q, rs⟩
  | _ => cases h
end
mutual
def D.p : D → PyData
  | .bl b => .bool b
  | .int i => .int i
  | .str x => .str x
  | .tup xs => .tuple (D.ps xs)
  | .lst xs => .list (D.ps xs)
  | .cst xs => .list (D.ps xs)
  | _ => .none
def D.ps : List D → List PyData
  | [] => []
  | d :: ds => d.p :: D.ps ds
end
/-- plain data, of a depth -/
def D.dat : Nat → D → Bool
  | _, .non => true
  | _, .bl _ => true
  | _, .int _ => true
  | _, .str _ => true
  | n + 1, .tup xs => xs.all (D.dat n)
  | n + 1, .lst xs => xs.all (D.dat n)
  | n + 1, .cst xs => xs.all (D.dat n)
  | _, _ => false
section
variable {c : Cfg} {L : Lk} {H H1 H2 : Hp} {S S1 S2 : Sto}
mutual
theorem Rep.dp : ∀ (n : Nat) (d : D) (v : V), Rep c L H S d v → d.dat n = true → Dp c.K H v d.p
  | n, .non, v, r, h => by unfold Rep at r; subst r; unfold D.p; exact .non
  | n, .bl b, v, r, h => by unfold Rep at r; subst r; unfold D.p; exact .bl b
  | n, .int i, v, r, h => by unfold Rep at r; subst r; unfold D.p; exact .int i
  | n, .str x, v, r, h => by unfold Rep at r; obtain ⟨r, _⟩ := r; subst r; unfold D.p; exact .str x
  | n + 1, .tup xs, v, r, h => by
    unfold Rep at r
    obtain ⟨p, vs, ev, f, rs⟩ := r
    subst ev
    unfold D.p
    exact .tup f.sq (Reps.dp n xs vs rs (by unfold D.dat at h; exact h))
  | n + 1, .lst xs, v, r, h => by
    unfold Rep at r
    obtain ⟨p, vs, ev, f, _, rs⟩ := r
    subst ev
    unfold D.p
    exact .lst (SqL.of f) (Reps.dp n xs vs rs (by unfold D.dat at h; exact h))
  | n + 1, .cst xs, v, r, h => by
    unfold Rep at r
    obtain ⟨p, vs, ev, f, rs⟩ := r
    subst ev
    unfold D.p
    exact .lst f.sq (Reps.dp n xs vs rs (by unfold D.dat at h; exact h))
  | 0, .tup xs, v, r, h => by cases h
  | 0, .lst xs, v, r, h => by cases h
  | 0, .cst xs, v, r, h => by cases h
  | 0, .ref a, v, r, h => by cases h
  | 0, .ty t, v, r, h => by cases h
  | 0, .rp p, v, r, h => by cases h
  | 0, .ins C xs, v, r, h => by cases h
  | 0, .dic ks xs, v, r, h => by cases h
  | 0, .set xs, v, r, h => by cases h
  | 0, .err _ xs, v, r, h => by cases h
  | n + 1, .ref a, v, r, h => by cases h
  | n + 1, .ty t, v, r, h => by cases h
  | n + 1, .rp p, v, r, h => by cases h
  | n + 1, .ins C xs, v, r, h => by cases h
  | n + 1, .dic ks xs, v, r, h => by cases h
  | n + 1, .set xs, v, r, h => by cases h
  | n + 1, .err _ xs, v, r, h => by cases h
theorem Reps.dp : ∀ (n : Nat) (ds : List D) (vs : List V), Reps c L H S ds vs → ds.all (D.dat n) = true → DpAll c.K H vs (D.ps ds)
  | n, [], vs, r, h => by
    rw [r.of_nil]
    unfold D.ps
    exact .nil
  | n, d :: ds, vs, r, h => by
    obtain ⟨v, ws, ev, r1, rs⟩ := r.of_cons
    subst ev
    rw [List.all_cons, Bool.and_eq_true] at h
    unfold D.ps
    exact .cons (Rep.dp n d v r1 h.1) (Reps.dp n ds ws rs h.2)
end
mutual
theorem Rep.lay : ∀ (n : Nat) (d : D) (v : V), Rep c L H S d v → d.dat n = true → d.p.canLay0 = true ∧ d.p.depth ≤ n
  | n, .non, v, r, h => by unfold D.p; exact ⟨rfl, Nat.zero_le _⟩
  | n, .bl b, v, r, h => by unfold D.p; exact ⟨rfl, Nat.zero_le _⟩
  | n, .int i, v, r, h => by unfold D.p; exact ⟨rfl, Nat.zero_le _⟩
  | n, .str x, v, r, h => by
    unfold Rep at r
    unfold D.p
    exact ⟨r.2.2, Nat.zero_le _⟩
  | n + 1, .tup xs, v, r, h => by
    unfold Rep at r
    obtain ⟨p, vs, ev, f, rs⟩ := r
    have q := Reps.lay n xs vs rs (by unfold D.dat at h; exact h)
    unfold D.p
    exact ⟨q.1, Nat.succ_le_succ q.2⟩
  | n + 1, .lst xs, v, r, h => by
    unfold Rep at r
    obtain ⟨p, vs, ev, f, _, rs⟩ := r
    have q := Reps.lay n xs vs rs (by unfold D.dat at h; exact h)
    unfold D.p
    exact ⟨q.1, Nat.succ_le_succ q.2⟩
  | n + 1, .cst xs, v, r, h => by
    unfold Rep at r
    obtain ⟨p, vs, ev, f, rs⟩ := r
    have q := Reps.lay n xs vs rs (by unfold D.dat at h; exact h)
    unfold D.p
    exact ⟨q.1, Nat.succ_le_succ q.2⟩
  | 0, .tup xs, v, r, h => by cases h
  | 0, .lst xs, v, r, h => by cases h
  | 0, .cst xs, v, r, h => by cases h
  | 0, .ref a, v, r, h => by cases h
  | 0, .ty t, v, r, h => by cases h
  | 0, .rp p, v, r, h => by cases h
  | 0, .ins C xs, v, r, h => by cases h
  | 0, .dic ks xs, v, r, h => by cases h
  | 0, .set xs, v, r, h => by cases h
  | 0, .err _ xs, v, r, h => by cases h
  | n + 1, .ref a, v, r, h => by cases h
  | n + 1, .ty t, v, r, h => by cases h
  | n + 1, .rp p, v, r, h => by cases h
  | n + 1, .ins C xs, v, r, h => by cases h
  | n + 1, .dic ks xs, v, r, h => by cases h
  | n + 1, .set xs, v, r, h => by cases h
  | n + 1, .err _ xs, v, r, h => by cases h
theorem Reps.lay : ∀ (n : Nat) (ds : List D) (vs : List V), Reps c L H S ds vs → ds.all (D.dat n) = true → PyData.canLayAll0 (D.ps ds) = true ∧ PyData.depthAll (D.ps ds) ≤ n
  | n, [], vs, r, h => by unfold D.ps; exact ⟨rfl, Nat.zero_le _⟩
  | n, d :: ds, vs, r, h => by
    obtain ⟨v, ws, ev, r1, rs⟩ := r.of_cons
    rw [List.all_cons, Bool.and_eq_true] at h
    have q1 := Rep.lay n d v r1 h.1
    have q2 := Reps.lay n ds ws rs h.2
    unfold D.ps
    exact ⟨by show (_ && _) = true; rw [q1.1, q2.1]; rfl, Nat.max_le.mpr ⟨q1.2, q2.2⟩⟩
end
theorem Rep.shaped {n : Nat} {d : D} {v : V} (r : Rep c L H S d v) (h : d.dat n = true) (hn : n ≤ 64) : SeqAt.shaped d.p = true := by
  have q := r.lay n d v h
  show (_ && _) = true
  rw [q.1, Bool.true_and]
  exact decide_eq_true (Nat.le_trans q.2 hn)
/-- what is seen of a value, as data: its description holds, for comparing -/
theorem view_dp {n : Nat} {d : D} {v : V} (so : StoR c L H S) (r : Rep c L H S d v) (h : (view S d).dat n = true) (hn : n ≤ 64) : Dp c.K H v (view S d).p ∧ SeqAt.shaped (view S d).p = true := by
  cases d with
  | ref p =>
    unfold Rep at r
    subst r
    have e : view S (.ref p) = (match S p with | some (.lst xs) => D.lst xs | some (.ins C xs) => .ins C xs | _ => .ref p) := rfl
    rw [e] at h ⊢
    cases s : S p with
    | none => rw [s] at h; cases n <;> cases h
    | some o =>
      rw [s] at h
      cases o with
      | dct kvs => cases n <;> cases h
      | dic nk ds => cases n <;> cases h
      | lkd od vs kvs => cases n <;> cases h
      | ins C xs => cases n <;> cases h
      | lst xs =>
        obtain ⟨⟨vs, hp, rs⟩, _⟩ := so.at_ p _ s
        cases n with
        | zero => cases h
        | succ n =>
          have h : xs.all (D.dat n) = true := h
          have q := Reps.lay n xs vs rs h
          refine ⟨?_, ?_⟩
          · show Dp c.K H (.ref p) (D.lst xs).p
            unfold D.p
            exact .lst (SqL.of hp) (Reps.dp n xs vs rs h)
          · show SeqAt.shaped (D.lst xs).p = true
            unfold D.p
            show (_ && _) = true
            rw [show PyData.canLay0 (.list (D.ps xs)) = true from q.1, Bool.true_and]
            exact decide_eq_true (Nat.le_trans (Nat.succ_le_succ q.2) hn)
  | _ => exact ⟨r.dp n _ _ h, r.shaped h hn⟩
end
def MulOk (i j : Int) : Prop := i.natAbs.log2 + j.natAbs.log2 < 1000000
def DivOk (j : Int) : Prop := 0 < j ∧ j.natAbs.log2 < 9000
def rAdd (m : Bool) : DR2 := fun x y S Q _ => match x, y with
  | .int i, .int j => Q (.int (i + j)) S
  | .str a, .str b => a.length + b.length ≤ sizeLine ∧ Q (.str (a ++ b)) S
  | .tup a, .tup b => a.length + b.length ≤ sizeLine ∧ Q (.tup (a ++ b)) S
  | x, y => ∃ a b, seqM S x = some a ∧ seqM S y = some b ∧ a.length + b.length ≤ sizeLine ∧ mkL m (a ++ b) S Q
def rSub : DR2 := fun x y S Q _ => ∃ i j, x = .int i ∧ y = .int j ∧ Q (.int (i - j)) S
def rMul (m : Bool) : DR2 := fun x y S Q _ => match x, y with
  | .int i, .int j => MulOk i j ∧ Q (.int (i * j)) S
  | x, y => ∃ a k, seqM S x = some a ∧ y = .int k ∧ -(2 ^ 63) ≤ k ∧ k < 2 ^ 63 ∧ a.length * k.toNat ≤ sizeLine ∧ mkL m (List.replicate k.toNat a).flatten S Q
def rDiv : DR2 := fun x y S Q _ => ∃ i j, x = .int i ∧ y = .int j ∧ DivOk j ∧ Q (.int (i / j)) S
def rMod : DR2 := fun x y S Q _ => ∃ i j, x = .int i ∧ y = .int j ∧ 0 < j ∧ Q (.int (i % j)) S
def rPow : DR2 := fun x y S Q _ => ∃ i j, x = .int i ∧ y = .int j ∧ (0 ≤ j ∧ j ≤ 1000000 ∧ i.natAbs < 2 ^ 64) ∧ Q (.int (i ^ j.toNat)) S
def rNone : DR2 := fun _ _ _ _ _ => False
/-- the arithmetic operators -/
def rBin (m : Bool) : Operator → DR2
  | .Add => rAdd m
  | .Sub => rSub
  | .Mult => rMul m
  | .FloorDiv => rDiv
  | .Mod => rMod
  | .Pow => rPow
  | _ => rNone
section
variable {X : Cx} {A : Cla} {pins : List (Addr × Obj)} {σ : L2.St} {H : Hp} {s : Shared}
theorem SOk.append {a b : Str} (ha : SOk a) (hb : SOk b) (h : a.length + b.length ≤ sizeLine) : SOk (a ++ b) := by
  refine ⟨?_, ?_⟩
  · have e : (a ++ b).length = a.length + b.length := by
      show (a.cps ++ b.cps).size = a.cps.size + b.cps.size
      exact Array.size_append
    rw [e]
    exact h
  · show (a.cps ++ b.cps).all _ = true
    rw [Array.all_append, ha.2, hb.2]
    rfl
theorem opd_add {m : Bool} : OpD X A (binaryOp .Add) (rAdd m) := by
  intro pins s σ H x y v u Q I rx ry ⟨S, L, dx, dy, Qd, so, r1, r2, h, kq⟩
  have lists : (∃ a b, seqM S dx = some a ∧ seqM S dy = some b ∧ a.length + b.length ≤ sizeLine ∧ mkL m (a ++ b) S Qd) → wpAny (model X.prog X.w) X.A (binaryOp .Add v u) (EP X pins σ Q) X.xe s := by
    rintro ⟨a, b, ea, eb, hz, q⟩
    obtain ⟨p, vs, ev, qa, ra⟩ := seqM_ok so r1 ea
    obtain ⟨p', ws, ew, qb, rb⟩ := seqM_ok so r2 eb
    exact op_cat pins s σ H x y v u Q I rx ry ⟨p, p', vs, ws, ev, ew, qa, qb, by rw [ra.length, rb.length]; exact hz, mkL_ok q kq so (ra.append rb)⟩
  cases dx with
  | int i => cases dy with
    | int j =>
      unfold Rep at r1 r2
      exact op_add pins s σ H x y v u Q I rx ry ⟨i, j, r1, r2, kq _ H _ S .refl so (by unfold Rep; rfl) h⟩
    | _ => exact lists h
  | str i => cases dy with
    | str j =>
      unfold Rep at r1 r2
      exact op_add_str pins s σ H x y v u Q I rx ry ⟨i, j, r1.1, r2.1, h.1, kq _ H _ S .refl so (by unfold Rep; exact ⟨rfl, r1.2.append r2.2 h.1⟩) h.2⟩
    | _ => exact lists h
  | tup a => cases dy with
    | tup b =>
      have r1' := r1
      have r2' := r2
      unfold Rep at r1 r2
      obtain ⟨p, vs, ev, fa, ra⟩ := r1
      obtain ⟨p', ws, ew, fb, rb⟩ := r2
      refine op_catA pins s σ H x y v u Q I rx ry ⟨p, p', vs, ws, ev, ew, fa.sq, fb.sq, by rw [ra.length, rb.length]; exact h.1, fun e => ?_, fun _ e => ?_, fun _ _ => mkT_ok h.2 kq so (ra.append rb)⟩
      · have ea : a = [] := List.eq_nil_of_length_eq_zero (by rw [← ra.length, e]; rfl)
        have h2 := h.2
        rw [ea, List.nil_append] at h2
        rw [← ew]
        exact kq _ H _ S .refl so r2' h2
      · have eb : b = [] := List.eq_nil_of_length_eq_zero (by rw [← rb.length, e]; rfl)
        have h2 := h.2
        rw [eb, List.append_nil] at h2
        rw [← ev]
        exact kq _ H _ S .refl so r1' h2
    | _ => exact lists h
  | _ => exact lists h
theorem opd_sub : OpD X A (binaryOp .Sub) rSub := by
  intro pins s σ H x y v u Q I rx ry ⟨S, L, dx, dy, Qd, so, r1, r2, ⟨i, j, e1, e2, h⟩, kq⟩
  subst e1 e2
  unfold Rep at r1 r2
  exact op_sub pins s σ H x y v u Q I rx ry ⟨i, j, r1, r2, kq _ H _ S .refl so (by unfold Rep; rfl) h⟩
theorem opd_mul {m : Bool} : OpD X A (binaryOp .Mult) (rMul m) := by
  intro pins s σ H x y v u Q I rx ry ⟨S, L, dx, dy, Qd, so, r1, r2, h, kq⟩
  have lists : (∃ a k, seqM S dx = some a ∧ dy = .int k ∧ -(2 ^ 63) ≤ k ∧ k < 2 ^ 63 ∧ a.length * k.toNat ≤ sizeLine ∧ mkL m (List.replicate k.toNat a).flatten S Qd) → wpAny (model X.prog X.w) X.A (binaryOp .Mult v u) (EP X pins σ Q) X.xe s := by
    rintro ⟨a, k, ea, eb, h1, h2, hz, q⟩
    subst eb
    obtain ⟨p, vs, ev, qa, ra⟩ := seqM_ok so r1 ea
    unfold Rep at r2
    have rep : ∀ n : Nat, Reps (cX X A) L H S (List.replicate n a).flatten (List.replicate n vs).flatten := by
      intro n
      induction n with
      | zero => exact .nil
      | succ n ih =>
        rw [List.replicate_succ, List.replicate_succ, List.flatten_cons, List.flatten_cons]
        exact ra.append ih
    exact op_rep pins s σ H x y v u Q I rx ry ⟨p, k, vs, ev, r2, qa, h1, h2, by rw [ra.length]; exact hz, mkL_ok q kq so (rep _)⟩
  cases dx with
  | int i => cases dy with
    | int j =>
      unfold Rep at r1 r2
      exact op_mulW pins s σ H x y v u Q I rx ry ⟨i, j, r1, r2, h.1, kq _ H _ S .refl so (by unfold Rep; rfl) h.2⟩
    | _ => exact lists h
  | _ => exact lists h
theorem opd_div : OpD X A (binaryOp .FloorDiv) rDiv := by
  intro pins s σ H x y v u Q I rx ry ⟨S, L, dx, dy, Qd, so, r1, r2, ⟨i, j, e1, e2, hc, h⟩, kq⟩
  subst e1 e2
  unfold Rep at r1 r2
  exact op_fdivW pins s σ H x y v u Q I rx ry ⟨i, j, r1, r2, hc, kq _ H _ S .refl so (by unfold Rep; rfl) h⟩
theorem opd_mod : OpD X A (binaryOp .Mod) rMod := by
  intro pins s σ H x y v u Q I rx ry ⟨S, L, dx, dy, Qd, so, r1, r2, ⟨i, j, e1, e2, hc, h⟩, kq⟩
  subst e1 e2
  unfold Rep at r1 r2
  exact op_mod pins s σ H x y v u Q I rx ry ⟨i, j, r1, r2, hc, kq _ H _ S .refl so (by unfold Rep; rfl) h⟩
theorem opd_pow : OpD X A (binaryOp .Pow) rPow := by
  intro pins s σ H x y v u Q I rx ry ⟨S, L, dx, dy, Qd, so, r1, r2, ⟨i, j, e1, e2, hc, h⟩, kq⟩
  subst e1 e2
  unfold Rep at r1 r2
  exact op_pow pins s σ H x y v u Q I rx ry ⟨i, j, r1, r2, hc, kq _ H _ S .refl so (by unfold Rep; rfl) h⟩
theorem opd_bin {m : Bool} : ∀ op : Operator, OpD X A (binaryOp op) (rBin m op)
  | .Add => opd_add
  | .Sub => opd_sub
  | .Mult => opd_mul
  | .FloorDiv => opd_div
  | .Mod => opd_mod
  | .Pow => opd_pow
  | .MatMult | .Div | .LShift | .RShift | .BitOr | .BitXor | .BitAnd => fun _ _ _ _ _ _ _ _ _ _ _ _ ⟨_, _, _, _, _, _, _, _, h, _⟩ => h.elim
/-- -x -/
def rNeg : DR1 := fun x S Q _ => ∃ i, x = .int i ∧ Q (.int (-i)) S
theorem und_neg : UnR X (unaryOp .USub) (liftR1 (cX X A) rNeg) := by
  intro pins s σ H x v Q I rx ⟨S, L, dx, Qd, so, r1, ⟨i, e1, h⟩, kq⟩
  subst e1
  unfold Rep at r1
  exact un_neg pins s σ H x v Q I rx ⟨i, r1, kq _ H _ S .refl so (by unfold Rep; rfl) h⟩
def rEqD (x y : D) (S : Sto) (Q : Bool → Prop) : Prop := (view S x).dat 32 = true ∧ (view S y).dat 32 = true ∧ Q (PyData.eqv (view S x).p (view S y).p)
def rEqR (x y : D) (S : Sto) (Q : Bool → Prop) : Prop := match x, y with
  | .rp p, .rp q => Q (decide (p.shown = q.shown))
  | .rp p, .str z => Q (decide (p.shown = z))
  | .str z, .rp p => Q (decide (z = p.shown))
  | x, y => rEqD x y S Q
def dEq : DR2 := fun x y S Q _ => rEqR x y S fun b => Q (.bl b) S
def dNe : DR2 := fun x y S Q _ => rEqR x y S fun b => Q (.bl (!b)) S
theorem dec_strV {a b : Str} : decide (V.str a = V.str b) = decide (a = b) := by
  by_cases e : a = b
  · subst e; simp
  · have : V.str a ≠ V.str b := fun z => e (V.str.inj z)
    simp [e, this]
theorem opd_eq {k : Nat} (m : Rm k X.A) : OpD X A (compareOp .Eq) dEq := by
  intro pins s σ H x y v u Q I rx ry ⟨S, L, dx, dy, Qd, so, r1, r2, h, kq⟩
  have bl : ∀ b, Qd (.bl b) S → Q (.bl b) H := fun b q => kq _ H _ S .refl so (by unfold Rep; rfl) q
  have dat : rEqD dx dy S (fun b => Qd (.bl b) S) → wpAny (model X.prog X.w) X.A (compareOp .Eq v u) (EP X pins σ Q) X.xe s := fun ⟨h1, h2, h⟩ => by
    have a := view_dp so r1 h1 (by decide)
    have b := view_dp so r2 h2 (by decide)
    exact op_eqD m.r.units pins s σ H x y v u Q I rx ry ⟨_, _, a.1, b.1, a.2, b.2, bl _ h⟩
  have two : ∀ a b : Str, x = .str a → y = .str b → Qd (.bl (decide (a = b))) S → wpAny (model X.prog X.w) X.A (compareOp .Eq v u) (EP X pins σ Q) X.xe s := fun a b ex ey q => by
    subst ex ey
    exact op_eq pins s σ H _ _ v u Q I rx ry ⟨rfl, by rw [dec_strV]; exact bl _ q⟩
  cases dx with
  | rp p => cases dy with
    | rp q => unfold Rep at r1 r2; exact two _ _ r1.1 r2.1 h
    | str z => unfold Rep at r1 r2; exact two _ _ r1.1 r2.1 h
    | _ => exact dat h
  | str z => cases dy with
    | rp q => unfold Rep at r1 r2; exact two _ _ r1.1 r2.1 h
    | _ => exact dat h
  | _ => exact dat h
theorem opd_ne {k : Nat} (m : Rm k X.A) : OpD X A (compareOp .NotEq) dNe := by
  intro pins s σ H x y v u Q I rx ry ⟨S, L, dx, dy, Qd, so, r1, r2, h, kq⟩
  have bl : ∀ b, Qd (.bl b) S → Q (.bl b) H := fun b q => kq _ H _ S .refl so (by unfold Rep; rfl) q
  have dat : rEqD dx dy S (fun b => Qd (.bl (!b)) S) → wpAny (model X.prog X.w) X.A (compareOp .NotEq v u) (EP X pins σ Q) X.xe s := fun ⟨h1, h2, h⟩ => by
    have a := view_dp so r1 h1 (by decide)
    have b := view_dp so r2 h2 (by decide)
    exact op_neD m.r.units pins s σ H x y v u Q I rx ry ⟨_, _, a.1, b.1, a.2, b.2, bl _ h⟩
  have two : ∀ a b : Str, x = .str a → y = .str b → Qd (.bl (!decide (a = b))) S → wpAny (model X.prog X.w) X.A (compareOp .NotEq v u) (EP X pins σ Q) X.xe s := fun a b ex ey q => by
    subst ex ey
    exact op_ne pins s σ H _ _ v u Q I rx ry ⟨rfl, by rw [dec_strV]; exact bl _ q⟩
  cases dx with
  | rp p => cases dy with
    | rp q => unfold Rep at r1 r2; exact two _ _ r1.1 r2.1 h
    | str z => unfold Rep at r1 r2; exact two _ _ r1.1 r2.1 h
    | _ => exact dat h
  | str z => cases dy with
    | rp q => unfold Rep at r1 r2; exact two _ _ r1.1 r2.1 h
    | _ => exact dat h
  | _ => exact dat h
/-- the order of texts -/
def strLt (a b : Str) : Bool := decide (a.cps.toList < b.cps.toList)
def dLt : DR2 := fun x y S Q _ => match x, y with
  | .int i, .int j => Q (.bl (decide (i < j))) S
  | .str a, .str b => Q (.bl (strLt a b)) S
  | _, _ => False
def dLe : DR2 := fun x y S Q _ => match x, y with
  | .int i, .int j => Q (.bl (decide (i ≤ j))) S
  | .str a, .str b => Q (.bl (!strLt b a)) S
  | _, _ => False
def dGt : DR2 := fun x y S Q _ => match x, y with
  | .int i, .int j => Q (.bl (decide (j < i))) S
  | .str a, .str b => Q (.bl (strLt b a)) S
  | _, _ => False
def dGe : DR2 := fun x y S Q _ => match x, y with
  | .int i, .int j => Q (.bl (decide (j ≤ i))) S
  | .str a, .str b => Q (.bl (!strLt a b)) S
  | _, _ => False
theorem opd_lt : OpD X A (compareOp .Lt) dLt := by
  intro pins s σ H x y v u Q I rx ry ⟨S, L, dx, dy, Qd, so, r1, r2, h, kq⟩
  have bl : ∀ b, Qd (.bl b) S → Q (.bl b) H := fun b q => kq _ H _ S .refl so (by unfold Rep; rfl) q
  cases dx <;> cases dy <;> first
    | exact h.elim
    | (unfold Rep at r1 r2; exact op_lt pins s σ H x y v u Q I rx ry ⟨_, _, r1, r2, bl _ h⟩)
    | (unfold Rep at r1 r2; exact op_lt_str pins s σ H x y v u Q I rx ry ⟨_, _, r1.1, r2.1, bl _ h⟩)
theorem opd_le : OpD X A (compareOp .LtE) dLe := by
  intro pins s σ H x y v u Q I rx ry ⟨S, L, dx, dy, Qd, so, r1, r2, h, kq⟩
  have bl : ∀ b, Qd (.bl b) S → Q (.bl b) H := fun b q => kq _ H _ S .refl so (by unfold Rep; rfl) q
  cases dx <;> cases dy <;> first
    | exact h.elim
    | (unfold Rep at r1 r2; exact op_le pins s σ H x y v u Q I rx ry ⟨_, _, r1, r2, bl _ h⟩)
    | (unfold Rep at r1 r2; exact op_le_str pins s σ H x y v u Q I rx ry ⟨_, _, r1.1, r2.1, bl _ h⟩)
theorem opd_gt : OpD X A (compareOp .Gt) dGt := by
  intro pins s σ H x y v u Q I rx ry ⟨S, L, dx, dy, Qd, so, r1, r2, h, kq⟩
  have bl : ∀ b, Qd (.bl b) S → Q (.bl b) H := fun b q => kq _ H _ S .refl so (by unfold Rep; rfl) q
  cases dx <;> cases dy <;> first
    | exact h.elim
    | (unfold Rep at r1 r2; exact op_gt pins s σ H x y v u Q I rx ry ⟨_, _, r1, r2, bl _ h⟩)
    | (unfold Rep at r1 r2; exact op_gt_str pins s σ H x y v u Q I rx ry ⟨_, _, r1.1, r2.1, bl _ h⟩)
theorem opd_ge : OpD X A (compareOp .GtE) dGe := by
  intro pins s σ H x y v u Q I rx ry ⟨S, L, dx, dy, Qd, so, r1, r2, h, kq⟩
  have bl : ∀ b, Qd (.bl b) S → Q (.bl b) H := fun b q => kq _ H _ S .refl so (by unfold Rep; rfl) q
  cases dx <;> cases dy <;> first
    | exact h.elim
    | (unfold Rep at r1 r2; exact op_ge pins s σ H x y v u Q I rx ry ⟨_, _, r1, r2, bl _ h⟩)
    | (unfold Rep at r1 r2; exact op_ge_str pins s σ H x y v u Q I rx ry ⟨_, _, r1.1, r2.1, bl _ h⟩)
/-- is None; data within a list, a tuple; a text within a text -/
def inStr (x y : Str) : Bool := match x.cps.toList with
  | [k] => decide (k ∈ y.cps.toList)
  | _ => !(Builtin.Str.occurrences y x 0 y.length 1).isEmpty
def inData (S : Sto) (x : D) (ds : List D) : Bool := ds.any fun z => PyData.eqv z.p (view S x).p
def rIn (f : Bool → Bool) : DR2 := fun x y S Q _ => match x, y with
  | .str a, .str b => Q (.bl (f (inStr a b))) S
  | x, y => ∃ ds, seqA S y = some ds ∧ (view S x).dat 16 = true ∧ ds.all (D.dat 16) = true ∧ Q (.bl (f (inData S x ds))) S
def D.isN : D → Bool
  | .non => true
  | _ => false
def rIs (f : Bool → Bool) : DR2 := fun x y S Q _ => y = .non ∧ Q (.bl (f x.isN)) S
theorem rep_non {c : Cfg} {L : Lk} {H : Hp} {S : Sto} {d : D} {v : V} (r : Rep c L H S d v) : decide (v = .non) = d.isN := by
  cases d with
  | non => unfold Rep at r; subst r; rfl
  | bl b => unfold Rep at r; subst r; rfl
  | int b => unfold Rep at r; subst r; rfl
  | str b => unfold Rep at r; obtain ⟨r, _⟩ := r; subst r; rfl
  | ref b => unfold Rep at r; subst r; rfl
  | ty t => unfold Rep at r; subst r; cases t <;> rfl
  | rp p => unfold Rep at r; obtain ⟨r, _⟩ := r; subst r; rfl
  | tup b => unfold Rep at r; obtain ⟨_, _, r, _⟩ := r; subst r; rfl
  | lst b => unfold Rep at r; obtain ⟨_, _, r, _⟩ := r; subst r; rfl
  | cst b => unfold Rep at r; obtain ⟨_, _, r, _⟩ := r; subst r; rfl
  | ins C b => unfold Rep at r; obtain ⟨_, _, _, r, _⟩ := r; subst r; rfl
  | dic ks b => unfold Rep at r; obtain ⟨_, _, _, _, _, r, _⟩ := r; subst r; rfl
  | set b => unfold Rep at r; obtain ⟨_, _, _, r, _⟩ := r; subst r; rfl
  | err n b => unfold Rep at r; obtain ⟨_, _, _, r, _⟩ := r; subst r; rfl
theorem opd_is : OpD X A (compareOp .Is) (rIs id) := by
  intro pins s σ H x y v u Q I rx ry ⟨S, L, dx, dy, Qd, so, r1, r2, ⟨e, h⟩, kq⟩
  subst e
  unfold Rep at r2
  exact op_isN pins s σ H x y v u Q I rx ry ⟨r2, kq _ H _ S .refl so (by unfold Rep; rw [rep_non r1]; rfl) h⟩
theorem opd_isnot : OpD X A (compareOp .IsNot) (rIs not) := by
  intro pins s σ H x y v u Q I rx ry ⟨S, L, dx, dy, Qd, so, r1, r2, ⟨e, h⟩, kq⟩
  subst e
  unfold Rep at r2
  exact op_notN pins s σ H x y v u Q I rx ry ⟨r2, kq _ H _ S .refl so (by unfold Rep; rw [rep_non r1]) h⟩
end
end DL
namespace DL
open PySem PySem.Spec PyProof.Rows L2
section
variable {X : Cx} {A : Cla} {W : WX} {pins : List (Addr × Obj)} {σ : L2.St} {H : Hp} {s : Shared}
theorem seqA_dp {c : Cfg} {L : Lk} {S : Sto} {d : D} {v : V} {ds : List D} (so : StoR c L H S) (r : Rep c L H S d v) (h : seqA S d = some ds) {n : Nat} (hd : ds.all (D.dat n) = true) :
    Dp c.K H v (.list (D.ps ds)) ∨ Dp c.K H v (.tuple (D.ps ds)) := by
  obtain ⟨p, vs, ev, q, rs⟩ := seqA_ok so r h
  subst ev
  have a := Reps.dp n ds vs rs hd
  rcases q with q | q
  · exact .inl (.lst q a)
  · exact .inr (.tup q a)
theorem seqA_lay {c : Cfg} {L : Lk} {S : Sto} {d : D} {v : V} {ds : List D} (so : StoR c L H S) (r : Rep c L H S d v) (h : seqA S d = some ds) {n : Nat} (hd : ds.all (D.dat n) = true) :
    PyData.canLayAll0 (D.ps ds) = true ∧ PyData.depthAll (D.ps ds) ≤ n := by
  obtain ⟨p, vs, ev, q, rs⟩ := seqA_ok so r h
  exact Reps.lay n ds vs rs hd
theorem any_ps (P : PyData → Bool) : ∀ ds : List D, (D.ps ds).any P = ds.any fun z => P z.p
  | [] => by unfold D.ps; rfl
  | d :: ds => by unfold D.ps; rw [List.any_cons, List.any_cons, any_ps P ds]
theorem inStr_of (a b : Str) : inStr a b = !(Builtin.Str.occurrences b a 0 b.length 1).isEmpty := by
  unfold inStr
  split
  · rename_i k e
    have ea : a = ⟨#[k]⟩ := by
      obtain ⟨⟨l⟩⟩ := a
      have e : l = [k] := e
      subst e
      rfl
    subst ea
    exact (PySem.StrLaws.found_one b k).symm
  · rfl
theorem opd_in {k : Nat} (m : Rm k X.A) : OpD X A (compareOp .In) (rIn id) := by
  intro pins s σ H x y v u Q I rx ry ⟨S, L, dx, dy, Qd, so, r1, r2, h, kq⟩
  have bl : ∀ b, Qd (.bl b) S → Q (.bl b) H := fun b q => kq _ H _ S .refl so (by unfold Rep; rfl) q
  have dat : (∃ ds, seqA S dy = some ds ∧ (view S dx).dat 16 = true ∧ ds.all (D.dat 16) = true ∧ Qd (.bl (inData S dx ds)) S) → wpAny (model X.prog X.w) X.A (compareOp .In v u) (EP X pins σ Q) X.xe s := fun ⟨ds, e, h1, h2, h⟩ => by
    have a := view_dp so r1 h1 (by decide)
    have l := seqA_lay so r2 e h2
    have hu := m.r.un
    obtain ⟨as, ra⟩ := Dp.reads I _ x v a.1 rx
    have room : X.A.units + 1 + min (PyData.depthAll (D.ps ds)) (view S dx).p.depth < cLine := by omega
    have fin : EP X pins σ Q (.bool ((D.ps ds).any fun y => PyData.eqv y (view S dx).p)) s := ⟨.bl _, H, I, rfl, by rw [any_ps]; exact bl _ h⟩
    rcases seqA_dp so r2 e h2 with q | q
    · obtain ⟨bs, rb⟩ := Dp.reads I _ y u q ry
      exact SeqAt.in_list_reads rb ra l.1 (SeqAt.canLay_of_shaped a.2) room fin
    · obtain ⟨bs, rb⟩ := Dp.reads I _ y u q ry
      exact SeqAt.in_tuple_reads rb ra l.1 (SeqAt.canLay_of_shaped a.2) room fin
  cases dx with
  | str z => cases dy with
    | str w =>
      unfold Rep at r1 r2
      exact op_in_str pins s σ H x y v u Q I rx ry ⟨z, w, r1.1, r2.1, by rw [← inStr_of]; exact bl _ h⟩
    | _ => exact dat h
  | _ => exact dat h
theorem opd_notin {k : Nat} (m : Rm k X.A) : OpD X A (compareOp .NotIn) (rIn not) := by
  intro pins s σ H x y v u Q I rx ry ⟨S, L, dx, dy, Qd, so, r1, r2, h, kq⟩
  have bl : ∀ b, Qd (.bl b) S → Q (.bl b) H := fun b q => kq _ H _ S .refl so (by unfold Rep; rfl) q
  have dat : (∃ ds, seqA S dy = some ds ∧ (view S dx).dat 16 = true ∧ ds.all (D.dat 16) = true ∧ Qd (.bl (!inData S dx ds)) S) → wpAny (model X.prog X.w) X.A (compareOp .NotIn v u) (EP X pins σ Q) X.xe s := fun ⟨ds, e, h1, h2, h⟩ => by
    have a := view_dp so r1 h1 (by decide)
    have l := seqA_lay so r2 e h2
    have hu := m.r.un
    obtain ⟨as, ra⟩ := Dp.reads I _ x v a.1 rx
    have room : X.A.units + 1 + min (PyData.depthAll (D.ps ds)) (view S dx).p.depth < cLine := by omega
    have fin : EP X pins σ Q (.bool (!(D.ps ds).any fun y => PyData.eqv y (view S dx).p)) s := ⟨.bl _, H, I, rfl, by rw [any_ps]; exact bl _ h⟩
    rcases seqA_dp so r2 e h2 with q | q
    · obtain ⟨bs, rb⟩ := Dp.reads I _ y u q ry
      exact SeqAt.notIn_list_reads rb ra l.1 (SeqAt.canLay_of_shaped a.2) room fin
    · obtain ⟨bs, rb⟩ := Dp.reads I _ y u q ry
      exact SeqAt.notIn_tuple_reads rb ra l.1 (SeqAt.canLay_of_shaped a.2) room fin
  cases dx with
  | str z => cases dy with
    | str w =>
      unfold Rep at r1 r2
      exact op_notin_str pins s σ H x y v u Q I rx ry ⟨z, w, r1.1, r2.1, by rw [← inStr_of]; exact bl _ h⟩
    | _ => exact dat h
  | _ => exact dat h
/-- the comparisons -/
def rCmp : CmpOp → DR2
  | .Eq => dEq
  | .NotEq => dNe
  | .Lt => dLt
  | .LtE => dLe
  | .Gt => dGt
  | .GtE => dGe
  | .Is => rIs id
  | .IsNot => rIs not
  | .In => rIn id
  | .NotIn => rIn not
theorem opd_cmp {k : Nat} (m : Rm k X.A) : ∀ op : CmpOp, OpD X A (compareOp op) (rCmp op)
  | .Eq => opd_eq m
  | .NotEq => opd_ne m
  | .Lt => opd_lt
  | .LtE => opd_le
  | .Gt => opd_gt
  | .GtE => opd_ge
  | .Is => opd_is
  | .IsNot => opd_isnot
  | .In => opd_in m
  | .NotIn => opd_notin m
def chD (k : Nat) : D := .str ⟨#[k]⟩
theorem SOk.ch {z : Str} (h : SOk z) {k : Nat} (hk : k ∈ z.cps.toList) : SOk ⟨#[k]⟩ := by
  refine ⟨by show 1 ≤ sizeLine; decide, ?_⟩
  have q := h.2
  rw [Array.all_eq_true'] at q
  have e := q k (by simpa using hk)
  simpa using e
def rIdx : DR2 := fun x y S Q _ => match x with
  | .str z => ∃ i k, y = .int i ∧ atI z.cps.toList i = some k ∧ Q (chD k) S
  | x => ∃ ds i d, seqA S x = some ds ∧ y = .int i ∧ atI ds i = some d ∧ Q d S
theorem atI_len {α β : Type} {xs : List α} {ys : List β} (h : xs.length = ys.length) {i : Int} {x : α} (e : atI xs i = some x) : ∃ j : Nat, xs[j]? = some x ∧ ∀ y, ys[j]? = some y → atI ys i = some y := by
  unfold atI at e ⊢
  rw [h] at e
  cases q : ixN ys.length i with
  | none => rw [q] at e; cases e
  | some j =>
    rw [q] at e
    exact ⟨j, e, fun y hy => hy⟩
theorem ixd : IxR X (liftR2 (cX X A) rIdx) := by
  intro value slice pins s σ H x y v u Q I rx ry ⟨S, L, dx, dy, Qd, so, r1, r2, h, kq⟩ hs
  have seq : (∃ ds i d, seqA S dx = some ds ∧ dy = .int i ∧ atI ds i = some d ∧ Qd d S) → wpAny (model X.prog X.w) X.A (subscriptTail value slice v u) (EP X pins σ Q) X.xe s := fun ⟨ds, i, d, e, ei, ed, q⟩ => by
    subst ei
    unfold Rep at r2
    obtain ⟨p, vs, ev, qs, rs⟩ := seqA_ok so r1 e
    obtain ⟨j, h1, h2⟩ := atI_len rs.length.symm ed
    obtain ⟨w, hw, rw'⟩ := rs.get h1
    have q' := kq w H d S .refl so rw' q
    rcases qs with qs | qs
    · exact ix_list value slice pins s σ H x y v u Q I rx ry ⟨p, vs, i, w, ev, r2, qs, h2 w hw, q'⟩ hs
    · exact ix_tup value slice pins s σ H x y v u Q I rx ry ⟨p, vs, i, w, ev, r2, qs, h2 w hw, q'⟩ hs
  cases dx with
  | str z =>
    obtain ⟨i, k, ei, e, q⟩ := h
    subst ei
    unfold Rep at r1 r2
    have hk : k ∈ z.cps.toList := by
      obtain ⟨j, h1, _⟩ := atI_len (ys := z.cps.toList) rfl e
      exact List.mem_of_getElem? h1
    exact ix_str value slice pins s σ H x y v u Q I rx ry ⟨z, i, k, r1.1, r2, r1.2.1, e, kq _ H (chD k) S .refl so (by unfold chD Rep; exact ⟨rfl, r1.2.ch hk⟩) q⟩ hs
  | _ => exact seq h
theorem de_idx {a b : Expr} {pos : Pos} {t u : DT} (ha : DE X A W a t) (hb : DE X A W b u) (hs : PlainIx b) : DE X A W (.Subscript a b pos) (dOp rIdx t u) := PE.mono (pe_ix ixd ha hb hs) fun _ _ _ => tOp_lift
/-- slices -/
def cutD {α : Type} (xs : List α) (lo hi : Option Int) : List α := (xs.drop (HT.sIx xs.length 0 lo)).take (HT.sIx xs.length xs.length hi - HT.sIx xs.length 0 lo)
theorem cut_reps {c : Cfg} {L : Lk} {S : Sto} {ds : List D} {vs : List V} (r : Reps c L H S ds vs) (lo hi : Option Int) : Reps c L H S (cutD ds lo hi) (cutV vs lo hi) := by
  unfold cutD cutV
  rw [r.length]
  exact (r.drop _).take _
theorem SOk.cut {z : Str} (h : SOk z) (lo hi : Option Int) : SOk (cutS z lo hi) := by
  have sub : ∀ k, k ∈ (cutS z lo hi).cps.toList → k ∈ z.cps.toList := fun k hk => by
    unfold cutS at hk
    exact List.mem_of_mem_drop (List.mem_of_mem_take (by simpa using hk))
  refine ⟨?_, ?_⟩
  · have e : (cutS z lo hi).length ≤ z.length := by
      unfold cutS
      show (List.toArray _).size ≤ z.cps.size
      rw [List.size_toArray, List.length_take, List.length_drop]
      have : z.cps.toList.length = z.cps.size := by simp
      omega
    exact Nat.le_trans e h.1
  · have q := h.2
    rw [Array.all_eq_true'] at q ⊢
    intro k hk
    exact q k (by simpa using sub k (by simpa using hk))
def rSlc (m : Bool) (x : D) (lo hi : Option Int) (S : Sto) (Q : DQ) : Prop := match x with
  | .str z => Q (.str (cutS z lo hi)) S
  | .tup a => Q (.tup (cutD a lo hi)) S
  | x => ∃ a, seqL S x = some a ∧ mkL m (cutD a lo hi) S Q
def liftSl (c : Cfg) (m : Bool) : V → Option Int → Option Int → Hp → VK → Prop := fun x lo hi H Q => ∃ S L dx Qd, StoR c L H S ∧ Rep c L H S dx x ∧ rSlc m dx lo hi S Qd ∧ KQ c L H S Q Qd
theorem sld {m : Bool} : SlR X (liftSl (cX X A) m) := by
  intro pins s σ H x v vl vu lo hi sl Q I rx hs pl pu ⟨S, L, dx, Qd, so, r1, h, kq⟩
  have seq : (∃ a, seqL S dx = some a ∧ mkL m (cutD a lo hi) S Qd) → ∃ T id, typeLookup (.type T) "__getitem__" = pure (some (.builtin id)) ∧ s.TypeIs v T ∧ wpAny (model X.prog X.w) X.A (getItem v (.ref sl)) (EP X pins σ Q) X.xe s := fun ⟨a, e, q⟩ => by
    obtain ⟨p, vs, ev, qs, rs⟩ := seqL_ok so r1 e
    exact sl_list pins s σ H x v vl vu lo hi sl Q I rx hs pl pu ⟨p, vs, ev, qs, mkL_ok q kq so (cut_reps rs lo hi)⟩
  cases dx with
  | str z =>
    unfold Rep at r1
    exact sl_str pins s σ H x v vl vu lo hi sl Q I rx hs pl pu ⟨z, r1.1, r1.2.1, kq _ H _ S .refl so (by unfold Rep; exact ⟨rfl, r1.2.cut lo hi⟩) h⟩
  | tup a =>
    have r1' := r1
    unfold Rep at r1
    obtain ⟨p, vs, ev, f, rs⟩ := r1
    refine sl_tupA pins s σ H x v vl vu lo hi sl Q I rx hs pl pu ⟨p, vs, ev, f.sq, fun ⟨h1, h2⟩ => ?_, fun _ => mkT_ok (show Qd (.tup (cutD a lo hi)) S from h) kq so (cut_reps rs lo hi)⟩
    have h' : Qd (.tup (cutD a lo hi)) S := h
    have e : cutD a lo hi = a := by
      unfold cutD
      rw [← rs.length, h1, h2, Nat.sub_zero, List.drop_zero, rs.length, List.take_length]
    rw [e] at h'
    rw [← ev]
    exact kq _ H _ S .refl so r1' h'
  | _ => exact seq h
/-- a slice's part: left out, or an int -/
def dPart (t : Option DT) (ρ : DSt) (S : Sto) (Q : Option Int → Sto → Prop) (E : DX) : Prop := match t with
  | none => Q none S
  | some t => t ρ S (fun x S1 => ∃ i, x = .int i ∧ Q (some i) S1) E
def KO (c : Cfg) (L : Lk) (H : Hp) (S : Sto) (Q : Option Int → Hp → Prop) (Qd : Option Int → Sto → Prop) : Prop := ∀ o H' S', Ext H S H' S' → StoR c L H' S' → Qd o S' → Q o H'
def liftO (c : Cfg) (W : WX) (t : Option DT) : TO := fun σ H Q => ∃ ρ S L Qd Ed, EnvR c L H S ρ σ ∧ StoR c L H S ∧ dPart t ρ S Qd Ed ∧ KO c L H S Q Qd ∧ KX c L H S (fun n a H' => W n a σ H') Ed
theorem PO.mono {e : Option Expr} {t t' : TO} (h : PO X e t) (m : ∀ σ H Q, t' σ H Q → t σ H Q) : PO X e t' := ⟨fun pins s σ H Q I q => h.run pins s σ H Q I (m σ H Q q)⟩
theorem do_none : PO X none (liftO (cX X A) W none) := PO.mono po_none fun σ H Q ⟨ρ, S, L, Qd, Ed, sl, so, h, ko, kx⟩ => ko none H S .refl so h
theorem do_some {e : Expr} {t : DT} (he : DE X A W e t) : PO X (some e) (liftO (cX X A) W (some t)) := PO.mono (po_some he) fun σ H Q ⟨ρ, S, L, Qd, Ed, sl, so, h, ko, kx⟩ =>
  ⟨ρ, S, L, _, Ed, sl, so, h, fun v H1 d S1 e1 so1 r1 ⟨i, ei, q1⟩ => by
    subst ei
    unfold Rep at r1
    exact ⟨i, r1, ko (some i) H1 S1 e1 so1 q1⟩, kx⟩
def dSlc (m : Bool) (t : DT) (lo hi : Option DT) : DT := fun ρ S Q E => t ρ S (fun x S1 => dPart lo ρ S1 (fun i S2 => dPart hi ρ S2 (fun j S3 => rSlc m x i j S3 Q) E) E) E
theorem de_slc {m : Bool} {e : Expr} {lo hi : Option Expr} {pos p2 : Pos} {t : DT} {tl th : Option DT} (he : DE X A W e t) (hl : PO X lo (liftO (cX X A) W tl)) (hh : PO X hi (liftO (cX X A) W th)) : DE X A W (.Subscript e (.Slice lo hi none p2) pos) (dSlc m t tl th) :=
  PE.mono (pe_slice (sld (m := m)) he hl hh) fun σ H Q ⟨ρ, S, L, Qd, Ed, sl, so, h, kq, kx⟩ =>
    ⟨ρ, S, L, _, Ed, sl, so, h, fun v H1 d S1 e1 so1 r1 q1 => ⟨ρ, S1, L, _, Ed, sl.ext e1, so1, q1, fun i H2 S2 e2 so2 q2 => ⟨ρ, S2, L, _, Ed, sl.ext (e1.trans e2), so2, q2, fun j H3 S3 e3 so3 q3 =>
      ⟨S3, L, d, Qd, so3, r1.ext (e2.trans e3), q3, kq.ext ((e1.trans e2).trans e3)⟩, kx.ext (e1.trans e2)⟩, kx.ext e1⟩, kx⟩
end
end DL
namespace DL
open PySem PySem.Spec PyProof.Rows L2
section
variable {X : Cx} {A : Cla} {W : WX} {pins : List (Addr × Obj)} {σ : L2.St} {H : Hp} {s : Shared}
def lenD (S : Sto) : D → Option Nat
  | .str z => some z.length
  | x => (seqA S x).map List.length
def rLen : DRA := fun ds S Q _ => ∃ x n, ds = [x] ∧ lenD S x = some n ∧ Q (.int (n : Nat)) S
theorem reps1 {c : Cfg} {L : Lk} {S : Sto} {d : D} {vs : List V} (r : Reps c L H S [d] vs) : ∃ v, vs = [v] ∧ Rep c L H S d v := by
  obtain ⟨v, ws, e, r1, rs⟩ := r.of_cons
  rw [rs.of_nil] at e
  exact ⟨v, e, r1⟩
theorem reps2 {c : Cfg} {L : Lk} {S : Sto} {d e : D} {vs : List V} (r : Reps c L H S [d, e] vs) : ∃ v w, vs = [v, w] ∧ Rep c L H S d v ∧ Rep c L H S e w := by
  obtain ⟨v, ws, ev, r1, rs⟩ := r.of_cons
  obtain ⟨w, ew, r2⟩ := reps1 rs
  exact ⟨v, w, by rw [ev, ew], r1, r2⟩
theorem cd_len : CallD X A (.builtin "len") rLen := by
  intro pins s σ H xs us Q I r ⟨S, L, ds, Qd, so, rs, ⟨x, n, ed, e, h⟩, kq⟩
  subst ed
  obtain ⟨v, ev, r1⟩ := reps1 rs
  subst ev
  have it : ∀ n : Int, Qd (.int n) S → Q (.int n) H := fun n q => kq _ H _ S .refl so (by unfold Rep; rfl) q
  have seq : (seqA S x).map List.length = some n → wpAny (model X.prog X.w) X.A (call (.builtin "len") us) (EP X pins σ Q) X.xe s := fun e => by
    cases e1 : seqA S x with
    | none => rw [e1] at e; cases e
    | some ys =>
      rw [e1] at e
      cases e
      obtain ⟨p, vs, ev, qs, rv⟩ := seqA_ok so r1 e1
      subst ev
      exact call_len_seq pins s σ H _ us Q I r ⟨p, vs, rfl, qs, by rw [rv.length]; exact it _ h⟩
  cases x with
  | str z =>
    cases e
    unfold Rep at r1
    obtain ⟨e, z1⟩ := r1
    subst e
    exact call_len_str pins s σ H _ us Q I r ⟨z, rfl, z1.1, it _ h⟩
  | _ => exact seq e
def rAbs : DRA := fun ds S Q _ => ∃ i, ds = [.int i] ∧ Q (.int (if i < 0 then -i else i)) S
theorem cd_abs : CallD X A (.builtin "abs") rAbs := by
  intro pins s σ H xs us Q I r ⟨S, L, ds, Qd, so, rs, ⟨i, ed, h⟩, kq⟩
  subst ed
  obtain ⟨v, ev, r1⟩ := reps1 rs
  unfold Rep at r1
  subst ev r1
  exact call_abs pins s σ H _ us Q I r ⟨i, rfl, kq _ H _ S .refl so (by unfold Rep; rfl) h⟩
def rMax : DRA := fun ds S Q _ => ∃ i j, ds = [.int i, .int j] ∧ Q (.int (if j > i then j else i)) S
def rMin : DRA := fun ds S Q _ => ∃ i j, ds = [.int i, .int j] ∧ Q (.int (if j < i then j else i)) S
theorem cd_max (hc : X.calm = true) : CallD X A (.builtin "max") rMax := by
  intro pins s σ H xs us Q I r ⟨S, L, ds, Qd, so, rs, ⟨i, j, ed, h⟩, kq⟩
  subst ed
  obtain ⟨v, w, ev, r1, r2⟩ := reps2 rs
  unfold Rep at r1 r2
  subst ev r1 r2
  exact call_max2 hc pins s σ H _ us Q I r ⟨i, j, rfl, kq _ H _ S .refl so (by unfold Rep; rfl) h⟩
theorem cd_min (hc : X.calm = true) : CallD X A (.builtin "min") rMin := by
  intro pins s σ H xs us Q I r ⟨S, L, ds, Qd, so, rs, ⟨i, j, ed, h⟩, kq⟩
  subst ed
  obtain ⟨v, w, ev, r1, r2⟩ := reps2 rs
  unfold Rep at r1 r2
  subst ev r1 r2
  exact call_min2 hc pins s σ H _ us Q I r ⟨i, j, rfl, kq _ H _ S .refl so (by unfold Rep; rfl) h⟩
def intD : D → Option Int
  | .int i => some i
  | .bl b => some (if b then 1 else 0)
  | .str z => if z.length ≤ 640 then PySem.intText? z else none
  | _ => none
def rInt : DRA := fun ds S Q _ => ∃ x n, ds = [x] ∧ intD x = some n ∧ Q (.int n) S
theorem cd_int : CallD X A (.type "int") rInt := by
  intro pins s σ H xs us Q I r ⟨S, L, ds, Qd, so, rs, ⟨x, n, ed, e, h⟩, kq⟩
  subst ed
  obtain ⟨v, ev, r1⟩ := reps1 rs
  subst ev
  have it : Q (.int n) H := kq _ H _ S .refl so (by unfold Rep; rfl) h
  cases x with
  | int i =>
    cases e
    unfold Rep at r1
    subst r1
    exact call_int1 pins s σ H _ us Q I r (.inl ⟨_, rfl, it⟩)
  | bl b =>
    cases e
    unfold Rep at r1
    subst r1
    exact call_int1 pins s σ H _ us Q I r (.inr ⟨b, rfl, it⟩)
  | str z =>
    unfold Rep at r1
    obtain ⟨r1, _⟩ := r1
    subst r1
    have e : (if z.length ≤ 640 then PySem.intText? z else none) = some n := e
    by_cases hz : z.length ≤ 640
    · rw [if_pos hz] at e
      exact call_int_str pins s σ H _ us Q I r ⟨z, n, rfl, e, hz, it⟩
    · rw [if_neg hz] at e
      cases e
  | _ => cases e
/-- all, any of a list of truths; sum of ints -/
def rAllD : DRA := fun ds S Q _ => ∃ (x : D) (bs : List Bool), ds = [x] ∧ seqL S x = some (bs.map D.bl) ∧ Q (.bl (bs.all id)) S
/-- None, True, False, a text -/
def isSc : D → Bool
  | .non => true
  | .bl _ => true
  | .str _ => true
  | _ => false
/-- repr(x), x data with a list or a tuple above -/
def rReprD : DRA := fun ds S Q _ => ∃ x, ds = [x] ∧ ((∃ i : Int, x = .int i ∧ i.natAbs.log2 < 1920 ∧ (PyData.shown (.int i)).length ≤ sizeLine ∧ Q (.rp (.int i)) S) ∨
  (∃ xs, seqA S x = some xs ∧ (view S x).dat 16 = true ∧ (view S x).p.showable = true ∧ (view S x).p.shown.length ≤ sizeLine ∧ Q (.rp (view S x).p) S) ∨
  (isSc x = true ∧ x.p.shown.length ≤ sizeLine ∧ Q (.rp x.p) S))
theorem cd_repr {k : Nat} (m : Rm k X.A) : CallD X A (.builtin "repr") rReprD := by
  intro pins s σ H xs us Q I r ⟨S, L, ds, Qd, so, rs, ⟨x, ed, h⟩, kq⟩
  subst ed
  obtain ⟨v, ev, r1⟩ := reps1 rs
  subst ev
  rcases h with ⟨i, ex, h0, hz, h⟩ | ⟨ys, e, h1, h2, h3, h⟩ | ⟨sc, hz, h⟩
  · subst ex
    unfold Rep at r1
    subst r1
    exact SkE.call_repr_int pins s σ H _ us Q I r ⟨i, rfl, h0, kq _ H _ S .refl so (by unfold Rep; refine ⟨by unfold PyData.shown; rfl, ?_⟩; exact hz) h⟩
  · have a := view_dp so r1 h1 (by decide)
    obtain ⟨p, vs, ep, qs, rv⟩ := seqA_ok so r1 e
    subst ep
    obtain ⟨u, eu, ru⟩ : ∃ u, us = [u] ∧ RelV (.ref p) u := by
      cases r with
      | cons r rr =>
        cases rr
        exact ⟨_, rfl, r⟩
    subst eu
    obtain rfl : u = Value.ref p := ru
    obtain ⟨as, ra⟩ := Dp.reads I _ _ (Value.ref p) a.1 (show RelV (.ref p) (Value.ref p) from rfl)
    have hu := m.r.un
    have hd : (view S x).p.depth ≤ 64 := SeqAt.depth_of_shaped a.2
    have hl := SeqAt.canLay_of_shaped a.2
    have nd := PyData.hasDict_of_canLay _ hl
    exact repr_of_reads' ra h2 (fun z => by rw [nd] at z; cases z) m.g (by omega) (fun _ _ z => z) (fun h' u tk kp => ⟨.str (view S x).p.shown, H, I.kept (t' := tk) kp, ⟨u, rfl⟩, kq _ H _ S .refl so (by unfold Rep; exact ⟨rfl, h3⟩) h⟩) h3
  · have fin : ∀ (z : Str) (tk : Tok), z = x.p.shown → EP X pins σ Q (.str z tk) { s with toks := s.toks + 1 } := fun z tk ez =>
      ⟨.str x.p.shown, H, I.tok _, ⟨tk, by rw [ez]⟩, kq _ H _ S .refl so (by unfold Rep; exact ⟨rfl, hz⟩) h⟩
    cases r with
    | cons r rr =>
      cases rr
      cases x with
      | non =>
        unfold Rep at r1
        subst r1
        cases (show _ = Value.none from r)
        exact PySem.P.repr_of_none (fin _ _ rfl)
      | bl b =>
        unfold Rep at r1
        subst r1
        cases (show _ = Value.bool b from r)
        exact PySem.P.repr_of_bool (fin _ _ (by cases b <;> rfl))
      | str z =>
        unfold Rep at r1
        obtain ⟨e1, _⟩ := r1
        subst e1
        obtain ⟨t, et⟩ := r
        subst et
        exact PySem.P.repr_of_str (fin _ _ rfl) hz
      | _ => cases sc
end
end DL
namespace DL
open PySem PySem.Spec PyProof.Rows L2
def tyN (S : Sto) : D → Option Ty
  | .non => some .non
  | .bl _ => some .bl
  | .int _ => some .int
  | .str _ => some .str
  | .rp _ => some .str
  | .tup _ => some .tup
  | .lst _ => some .lst
  | .cst _ => some .lst
  | .ins C _ => some (.own C)
  | .ref p => match S p with
    | some (.lst _) => some .lst
    | some (.ins C _) => some (.own C)
    | _ => none
  | .ty _ => none
  | .dic _ _ => none
  | .set _ => none
  | .err _ _ => none
/-- the answers of isinstance: by the type and the class -/
abbrev Isi := List ((Ty × Ty) × Bool)
def rIsiD (T : Isi) : DRA := fun ds S Q _ => ∃ x t b a r, ds = [x, .ty b] ∧ t = b ∧ tyN S x = some a ∧ T.lookup (a, b) = some r ∧ Q (.bl r) S
section
variable {X : Cx} {A : Cla} {W : WX} {pins : List (Addr × Obj)} {σ : L2.St} {H : Hp} {s : Shared} {T : Isi}
def rngD (lo : Int) (n : Nat) : List D := (List.range n).map fun i => D.int (lo + (i : Nat))
theorem rngD_len (lo : Int) (n : Nat) : (rngD lo n).length = n := by unfold rngD; simp
theorem itd_range {c : Cfg} {L : Lk} {G : Sto → Prop} {S : Sto} {lo : Int} {n : Nat} : ItD c L G H S (Itr lo n) (rngD lo n) := by
  intro L' H' S' _ _ so _
  refine ⟨fun i d e => ?_, fun i hi => ?_⟩
  · have hi : i < n := by
      have := (List.getElem?_eq_some_iff.mp e).1
      rwa [rngD_len] at this
    have ed : d = D.int (lo + (i : Nat)) := by
      unfold rngD at e
      rw [List.getElem?_map, List.getElem?_range hi] at e
      cases e
      rfl
    subst ed
    refine ⟨hi, ?_⟩
    rintro x H'' ⟨eH, ex⟩
    subst eH ex
    exact ⟨.refl, so, by unfold Rep; rfl⟩
  · rw [rngD_len] at hi
    exact hi
def iRng1D (t : DTA) : DTI := fun ρ S R E => t ρ S (fun ds S1 => ∃ j, ds = [.int j] ∧ -(2 ^ 62) ≤ j ∧ j < 2 ^ 62 ∧ R (rngD 0 j.toNat) noG S1) E
def iRng2D (t : DTA) : DTI := fun ρ S R E => t ρ S (fun ds S1 => ∃ i j, ds = [.int i, .int j] ∧ (-(2 ^ 62) ≤ i ∧ i < 2 ^ 62 ∧ -(2 ^ 62) ≤ j ∧ j < 2 ^ 62) ∧ R (rngD i (j - i).toNat) noG S1) E
theorem di_rng1 {tg a : Expr} {p pos : Pos} {t : DTA} (hg : Gl X "range") (hm : X.mg "range" = none) (ha : DA X A W [a] t) (hs : starEach [a] X.env = [(false, eval a X.env)]) :
    DItr X A W tg (.Call (.Name "range" p) [a] [] pos) (iRng1D t) :=
  PI.mono (pi_range1 hg hm ha hs) fun σ H R ⟨ρ, S, L, Rd, Ed, sl, so, h, ki, kx⟩ =>
    ⟨ρ, S, L, _, Ed, sl, so, h, fun vs H1 ds S1 e1 so1 r1 ⟨j, ed, h1, h2, q⟩ => by
      subst ed
      obtain ⟨v, ev, rv⟩ := reps1 r1
      unfold Rep at rv
      subst ev rv
      exact ⟨j, rfl, h1, h2, ki _ H1 _ noG S1 e1 so1 itd_range q⟩, kx⟩
/-- a list, a tuple, a text -/
def seqI (S : Sto) : D → Option (List D × (Sto → Prop))
  | .str z => some (z.cps.toList.map chD, noG)
  | .tup xs => some (xs, noG)
  | .lst xs => some (xs, noG)
  | .cst xs => some (xs, noG)
  | .ref p => match S p with
    | some (.lst xs) => some (xs, fun S' => S' p = some (.lst xs))
    | _ => none
  | _ => none
def iSeqD (t : DT) : DTI := fun ρ S R E => t ρ S (fun x S1 => ∃ ds G, seqI S1 x = some (ds, G) ∧ R ds G S1) E
theorem itd_list {c : Cfg} {L : Lk} {G : Sto → Prop} {S : Sto} {p : Addr} {ds : List D}
    (h : ∀ (L' : Lk) H' S', (∀ q, L' q → L q ∨ H q = none) → Ext H S H' S' → StoR c L' H' S' → G S' → ∃ vs, SqL c.K H' p vs ∧ Reps c L' H' S' ds vs) (K0 : PySem.W.Frag) (eK : K0 = c.K) : ItD c L G H S (Itl K0 p) ds := by
  subst eK
  intro L' H' S' hl e so g
  obtain ⟨vs, q, rs⟩ := h L' H' S' hl e so g
  refine ⟨fun i d ed => ?_, fun i hi => ⟨vs, q, by rw [rs.length]; exact hi⟩⟩
  obtain ⟨v, ev, rv⟩ := rs.get ed
  refine ⟨⟨vs, v, q, ev⟩, ?_⟩
  rintro x H'' ⟨eH, ex⟩
  subst eH
  have := ex vs q
  rw [ev] at this
  cases this
  exact ⟨.refl, so, rv⟩
theorem itd_tup {c : Cfg} {L : Lk} {G : Sto → Prop} {S : Sto} {p : Addr} {ds : List D}
    (h : ∀ (L' : Lk) H' S', (∀ q, L' q → L q ∨ H q = none) → Ext H S H' S' → StoR c L' H' S' → G S' → ∃ vs, SqT c.K H' p vs ∧ Reps c L' H' S' ds vs) (K0 : PySem.W.Frag) (eK : K0 = c.K) : ItD c L G H S (Itt K0 p) ds := by
  subst eK
  intro L' H' S' hl e so g
  obtain ⟨vs, q, rs⟩ := h L' H' S' hl e so g
  refine ⟨fun i d ed => ?_, fun i hi => ⟨vs, q, by rw [rs.length]; exact hi⟩⟩
  obtain ⟨v, ev, rv⟩ := rs.get ed
  refine ⟨⟨vs, v, q, ev⟩, ?_⟩
  rintro x H'' ⟨eH, ex⟩
  subst eH
  have := ex vs q
  rw [ev] at this
  cases this
  exact ⟨.refl, so, rv⟩
theorem itd_str {c : Cfg} {L : Lk} {G : Sto → Prop} {S : Sto} {z : Str} (hz : SOk z) : ItD c L G H S (Its z) (z.cps.toList.map chD) := by
  intro L' H' S' hl e so g
  have len : z.cps.toList.length = z.cps.size := by simp
  refine ⟨fun i d ed => ?_, fun i hi => ?_⟩
  · rw [List.getElem?_map] at ed
    cases q : z.cps.toList[i]? with
    | none => rw [q] at ed; cases ed
    | some k =>
      rw [q] at ed
      cases ed
      have hi := (List.getElem?_eq_some_iff.mp q).1
      refine ⟨by show i < z.cps.size; omega, ?_⟩
      rintro x H'' ⟨eH, k', ek, ex⟩
      subst eH ex
      have e2 : z.cps.toList[i]? = some k' := by simpa using ek
      rw [q] at e2
      cases e2
      exact ⟨.refl, so, by unfold chD Rep; exact ⟨rfl, hz.ch (List.mem_of_getElem? q)⟩⟩
  · show z.cps.size ≤ i
    rw [List.length_map, len] at hi
    exact hi
/-- an iterable that is a list, a tuple or a text -/
theorem pi_any {tg e : Expr} {te : TE} (he : PE X e te) : PI X tg e (fun σ H R => te σ H fun x H1 => (∃ a, x = .ref a ∧ (∃ xs, SqL X.K H1 a xs) ∧ R (Itl X.K a) H1) ∨ (∃ a, x = .ref a ∧ (∃ xs, SqT X.K H1 a xs) ∧ R (Itt X.K a) H1) ∨ ∃ z, x = .str z ∧ R (Its z) H1) := by
  refine ⟨fun pins s σ H R I h => thn (he.run pins s σ H _ I h) fun v s1 ⟨x, H1, I1, r1, q⟩ => ?_⟩
  rcases q with ⟨a, ex, ⟨xs, hq⟩, q⟩ | ⟨a, ex, ⟨xs, hq⟩, q⟩ | ⟨z, ex, q⟩
  · subst ex
    cases r1
    obtain ⟨its, rv, p, hz⟩ := I1.list hq
    exact wpAny_pyIter_list p.isList (pi_one (tk := s1.toks) I1 _ (turn_list a _) ⟨_, Heap.get?_push_size _ rfl, rfl, rfl⟩ q)
  · subst ex
    cases r1
    obtain ⟨its, rv, p, hz⟩ := I1.tuple hq
    exact wpAny_pyIter_tuple (items := its.toArray) p (pi_one (tk := s1.toks) I1 _ (turn_tuple a _) ⟨_, Heap.get?_push_size _ rfl, rfl, rfl⟩ q)
  · subst ex
    obtain ⟨t, et⟩ := r1
    subst et
    cases hw : z.cps.all (· < 128) with
    | false => exact wpAny_pyIter_wide hw (pi_one (tk := s1.toks) I1 _ (turn_str _ z t "str_iterator" (.inr rfl)) ⟨_, Heap.get?_push_size _ rfl, rfl, rfl⟩ q)
    | true => exact wpAny_pyIter_ascii hw (pi_one (tk := s1.toks) I1 _ (turn_str _ z t "str_ascii_iterator" (.inl rfl)) ⟨_, Heap.get?_push_size _ rfl, rfl, rfl⟩ q)
theorem di_seq {tg e : Expr} {t : DT} (he : DE X A W e t) : DItr X A W tg e (iSeqD t) :=
  PI.mono (pi_any he) fun σ H R ⟨ρ, S, L, Rd, Ed, sl, so, h, ki, kx⟩ => by
      refine ⟨ρ, S, L, _, Ed, sl, so, h, ?_, kx⟩
      rintro v H1 d S1 e1 so1 r1 ⟨ds, G, es, q⟩
      cases d with
      | str z =>
        cases es
        unfold Rep at r1
        exact .inr (.inr ⟨z, r1.1, ki _ H1 _ noG S1 e1 so1 (itd_str r1.2) q⟩)
      | tup xs =>
        cases es
        have r2 := r1
        unfold Rep at r1
        obtain ⟨p, vs, ev, f, rs⟩ := r1
        refine .inr (.inl ⟨p, ev, ⟨vs, f.sq⟩, ki _ H1 _ noG S1 e1 so1 (itd_tup (fun L' H' S' hl x so' _ => ?_) X.K rfl) q⟩)
        exact ⟨vs, ((f.lock hl).ext x).sq, (rs.lock hl).ext x⟩
      | lst xs =>
        cases es
        unfold Rep at r1
        obtain ⟨p, vs, ev, f, ⟨fs, fl⟩, rs⟩ := r1
        refine .inl ⟨p, ev, ⟨vs, SqL.of f⟩, ki _ H1 _ noG S1 e1 so1 (itd_list (fun L' H' S' hl x so' _ => ?_) X.K rfl) q⟩
        exact ⟨vs, SqL.of (x p _ f fs).1, (rs.lock hl).ext x⟩
      | cst xs =>
        cases es
        unfold Rep at r1
        obtain ⟨p, vs, ev, f, rs⟩ := r1
        refine .inl ⟨p, ev, ⟨vs, f.sq⟩, ki _ H1 _ noG S1 e1 so1 (itd_list (fun L' H' S' hl x so' _ => ?_) X.K rfl) q⟩
        exact ⟨vs, ((f.lock hl).ext x).sq, (rs.lock hl).ext x⟩
      | ref p =>
        have es' : (match S1 p with | some (.lst xs) => some (xs, fun S' => S' p = some (.lst xs)) | _ => none) = some (ds, G) := es
        unfold Rep at r1
        cases sp : S1 p with
        | none => rw [sp] at es'; cases es'
        | some o =>
          rw [sp] at es'
          cases o with
          | dct kvs => cases es'
          | dic nk ds => cases es'
          | lkd od vs kvs => cases es'
          | ins C xs => cases es'
          | lst xs =>
            cases es'
            obtain ⟨⟨vs, hp, rs⟩, _⟩ := so1.at_ p _ sp
            refine .inl ⟨p, r1, ⟨vs, SqL.of hp⟩, ki _ H1 _ _ S1 e1 so1 (itd_list (fun L' H' S' hl x so' g => ?_) X.K rfl) q⟩
            obtain ⟨⟨ws, hw, rw'⟩, _⟩ := so'.at_ p _ g
            exact ⟨ws, SqL.of hw, rw'⟩
      | _ => cases es
end
end DL
namespace DL
open PySem PySem.Spec PyProof.Rows L2
section
variable {prog : Program} {w : World} {A : Around} {E : Value → Shared → Prop} {s : Shared}
theorem enum_new1 {v : Value} {o : Obj} {G : Heap → Prop} (B : Begins v o G) : Meets (Builtin.«enumerate.__new__» ⟨[.type "enumerate", v], []⟩)
    (fun _ R s => G s.heap ∧ R (.ok (.ret (.ref (s.heap.push o).objs.size)))
      { s with heap := (s.heap.push o).push { cls := .type "enumerate", data := .fields #[.none, .bool false, .ref s.heap.objs.size, rawInt 0, .none, .none] } }) :=
  .of_wp fun prog w A R s h => by
    obtain ⟨hp, g, d, tk, os⟩ := s
    obtain ⟨h1, h⟩ := h
    have hsub := sub_enumerate
    have goIter : ∀ {A' : Around} {E : Value → Shared → Prop} {Q : Value → Shared → Prop}, Q (.ref hp.objs.size) ⟨hp.push o, g, d, tk, os⟩ → wpAny (model prog w) A' (pyIter v) Q E ⟨hp, g, d, tk, os⟩ :=
      fun q => B.iter prog w _ _ ⟨hp, g, d, tk, os⟩ _ h1 q
    wp_walk using goIter
    refine wpAny_stack_any fun st => wpAny_pure ?_
    split
    · rename_i c _ _ _ _ _
      cases (c == Value.type "enumerate") <;> (wp_walk using goIter; exact ⟨_, rfl, h⟩)
    · wp_walk using goIter
      exact ⟨_, rfl, h⟩
theorem call_enum1 {v : Value} {o : Obj} {G : Heap → Prop} {Q : Value → Shared → Prop} (B : Begins v o G) (h1 : G s.heap)
    (h : ∀ h', IsEnum h' (s.heap.objs.size + 1) s.heap.objs.size 0 .none → h'.get? s.heap.objs.size = some o → (∀ b x, s.heap.get? b = some x → h'.get? b = some x) → Q (.ref (s.heap.objs.size + 1)) { s with heap := h' }) :
    wpAny (model prog w) A (call (.type "enumerate") [v]) Q E s := by
  refine callType_new F.called_enumerate (by decide) (F.typeCall_enumerate_1 _) (F.newCall_enumerate_1 _) (fun obj => F.args_object_init_2 obj _) F.entry_enumerate_new (enum_new1 B) ⟨h1, ?_⟩
  have sz : (s.heap.push o).objs.size = s.heap.objs.size + 1 := Heap.size_push ..
  have en : IsEnum ((s.heap.push o).push { cls := .type "enumerate", data := .fields #[.none, .bool false, .ref s.heap.objs.size, rawInt 0, .none, .none] }) (s.heap.objs.size + 1) s.heap.objs.size 0 .none := by
    have q := Heap.get?_push_size (s.heap.push o) (o := { cls := .type "enumerate", data := .fields #[.none, .bool false, .ref s.heap.objs.size, rawInt 0, .none, .none] }) rfl
    rw [sz] at q
    exact q
  show _ ∧ _
  rw [sz]
  exact ⟨⟨_, en, rfl⟩, h _ en (Heap.get?_push_of_some _ (Heap.get?_push_size _ B.free)) fun b x q => Heap.get?_push_of_some _ (Heap.get?_push_of_some _ q)⟩
end
/-- the tuple at a, each item in a new pair -/
def IteT (K : PySem.W.Frag) (a : Addr) : It where
  go i H := ∃ (xs : List V) (x : V), SqT K H a xs ∧ xs[i]? = some x
  yld i H v H' := ∃ T x, v = .ref T ∧ H T = none ∧ H' = upd H T (.tup [.int (i : Nat), x]) ∧ ∀ xs, SqT K H a xs → xs[i]? = some x
  stop i H := ∃ xs : List V, SqT K H a xs ∧ xs.length ≤ i
theorem turn_enumT {P : Program} {w : World} {K : PySem.W.Frag} {elts : List Expr} {kk : Nat} {tpos : Pos} (a e it : Addr) :
    Turn P w K (.Tuple elts kk tpos) (IteT K a) [e, it] e (fun i h => (∃ old, IsEnum h e it ((i : Nat) : Int) old) ∧ h.IsTupleIter it a i ∧ e ≠ it ∧ e ≠ a ∧ a ≠ it) where
  mem := by simp
  obj := fun i h st b hb => by
    obtain ⟨⟨old, he⟩, ⟨o, ho, hc, hd⟩, _⟩ := st
    rcases List.mem_cons.mp hb with z | z
    · rw [z]
      exact ⟨_, he, fun v q => nomatch q⟩
    · rw [List.mem_singleton.mp z]
      exact ⟨o, ho, fun v q => by rw [hd] at q; cases q⟩
  keep := fun i h h' st k => by
    obtain ⟨⟨old, he⟩, hi, r⟩ := st
    exact ⟨⟨old, k e (by simp) _ he⟩, hi.at fun o q => k it (by simp) o q, r⟩
  item := by
    intro X hP hw hK hc i pins s σ H E I hf st hg
    subst hP hw hK
    obtain ⟨⟨old, he⟩, hit, n1, n2, n3⟩ := st
    obtain ⟨xs, x, hq, hx⟩ := hg
    obtain ⟨its, rv, p, hz⟩ := I.tuple hq
    obtain ⟨u, hu, ru⟩ := rv.get hx
    have hil : i < its.toArray.size := by
      have := (List.getElem?_eq_some_iff.mp hu).1
      simpa using this
    have hel : e < s.heap.objs.size := Heap.lt_size he
    have hitl : it < s.heap.objs.size := by
      obtain ⟨_, q, _⟩ := hit
      exact Heap.lt_size q
    refine wpAny_pyNext_enum_itemD (Draws.tuple (A := X.A.in1) (I.ok.hd hc) it a n3 its.toArray) he ⟨hit, p⟩ hil n1 (by simp [n1, n2]) fun y h' tk hy ho hst hT hsz hk => ?_
    have ey : y = u := by
      have h1 : its[i]? = some y := by simpa using hy
      rw [hu] at h1
      exact (Option.some.inj h1).symm
    subst ey
    refine ⟨_, rfl, wpAny_letOwnedTupleGo_enum (s := { s with heap := h', toks := tk + 1 }) ho fun h2 he2 sb => ?_⟩
    have hT2 : h2.get? s.heap.objs.size = some { cls := .type "tuple", data := .seq #[.int i tk, y] } := (sb.2 _ (Nat.ne_of_gt hel)).trans hT
    have new : ObjOk X.prog X.w (upd H s.heap.objs.size (.tup [.int (i : Nat), x])) h2 s.heap.objs.size (.tup [.int (i : Nat), x]) :=
      ⟨by show 2 ≤ sizeLine; decide, [.int i tk, y], .cons ⟨_, rfl⟩ (.cons ru .nil), ⟨_, hT2, rfl, _, rfl⟩⟩
    have kp : ∀ b ob, b ∉ [e, it] → s.heap.get? b = some ob → h2.get? b = some ob := fun b ob hb q =>
      (sb.2 b (fun z => hb (by simp [z]))).trans (hk b ob (fun z => hb (by simp [z])) (fun z => hb (by simp [z])) q)
    have I1 : L2.Inv X pins σ (upd H s.heap.objs.size (.tup [.int (i : Nat), x])) { s with heap := h2, toks := tk + 1 } := I.turnedNew (ch := [e, it]) kp hf (Nat.le_refl _) new
    refine ⟨.ref s.heap.objs.size, _, I1, rfl, ⟨_, x, rfl, I.hok.fresh (Nat.le_refl _), rfl, fun ys hy => by rw [I.tuple_inj hy hq]; exact hx⟩, ⟨⟨y, ?_⟩, hst.1.at fun o q => (sb.2 it (Ne.symm n1)).trans q, n1, n2, n3⟩, fun b hb => ?_⟩
    · rw [show ((i + 1 : Nat) : Int) = (i : Int) + 1 by omega]
      exact he2
    · have hb' : b < s.heap.objs.size := by
        rcases List.mem_cons.mp hb with z | z
        · rw [z]; exact hel
        · rw [List.mem_singleton.mp z]; exact hitl
      rw [upd_ne (Nat.ne_of_lt hb')]
      exact (hf b hb).1
  done := by
    intro X hP hw hK hc i pins s σ H E I hf st hg
    subst hP hw hK
    obtain ⟨⟨old, he⟩, hit, n1, n2, n3⟩ := st
    obtain ⟨xs, hq, hx⟩ := hg
    obtain ⟨its, rv, p, hz⟩ := I.tuple hq
    obtain ⟨f0, f1, f2, f3, f4, f5⟩ := hf it (by simp)
    have hl := rv.length
    have D0 : Draws X.prog X.w X.A.in1 it [it, a] i (fun _ _ => True) (fun j h => j = i ∧ h.IsTupleIter it a j ∧ h.IsTuple a its.toArray) :=
      { live := fun _ _ st => let ⟨_, ⟨o, ho, _⟩, _⟩ := st; ⟨o, ho⟩
        frame := fun _ _ _ st k => ⟨st.1, st.2.1.at fun o q => k it (by simp) o q, st.2.2.at fun o q => k a (by simp) o q⟩
        item := fun j s Q E hj st _ => absurd st.1 (Nat.ne_of_lt hj)
        done := fun s Q E st hE => wpAny_nextOf_tuple_end (I.ok.hd hc) st.2.1 st.2.2 (by simp; omega) hE }
    exact wpAny_pyNext_enum_endD D0 he ⟨rfl, hit, p⟩ fun h' eb => ⟨rfl, I.turned (t' := s.toks) (fun b o hb q => eb b o hb q) f0 f1 f3 f4 f5⟩
  self := fun A i s Q E st h => by
    obtain ⟨⟨_, he⟩, _⟩ := st
    exact wpAny_pyIter_enum he h
/-- enumerate of a list or a tuple -/
theorem pi_enumA {X : Cx} {e : Expr} {ta : TA} {p pos tpos : Pos} {elts : List Expr} {kk : Nat} (hg : Gl X "enumerate") (hm : X.mg "enumerate" = none) (ha : PA X [e] ta) (hs : starEach [e] X.env = [(false, eval e X.env)]) :
    PI X (.Tuple elts kk tpos) (.Call (.Name "enumerate" p) [e] [] pos) (fun σ H R => ta σ H fun vs H1 => ∃ a, vs = [.ref a] ∧ ((∃ xs, SqL X.K H1 a xs ∧ R (Ite X.K a) H1) ∨ ∃ xs, SqT X.K H1 a xs ∧ R (IteT X.K a) H1)) := by
  refine ⟨fun pins s σ H R I h => Call_ (ld_blt I hg hm boot_enumerate (PyProof.Rows.callWith_type1 (thn (ha.run pos pins s σ H _ I h) fun us s1 ⟨vs, H1, I1, r1, a, ex, q⟩ => ?_) hs rfl))⟩
  subst ex
  cases r1 with
  | cons r rr =>
    cases rr
    cases r
    have far : ∀ b ∈ [s1.heap.objs.size + 1, s1.heap.objs.size], s1.heap.objs.size ≤ b := fun b hb => by
      rcases List.mem_cons.mp hb with z | z
      · rw [z]; exact Nat.le_succ _
      · rw [List.mem_singleton.mp z]; exact Nat.le_refl _
    rcases q with ⟨xs, hq, q⟩ | ⟨xs, hq, q⟩
    · obtain ⟨its, rv, pl, hz⟩ := I1.list hq
      refine call_enumerate_list pl.isList fun h' he hit hsz hk => wpAny_pyIter_enum he ⟨s1.heap.objs.size + 1, [s1.heap.objs.size + 1, s1.heap.objs.size], _, _, H1, rfl, I1.kept (t' := s1.toks) hk, turn_enum a (s1.heap.objs.size + 1) s1.heap.objs.size, ⟨⟨.none, he⟩, hit, Nat.succ_ne_self _⟩, fun b hb => I1.fpOk (far b hb) (I1.hok.fresh (far b hb)), q⟩
    · obtain ⟨its, rv, pl, hz⟩ := I1.tuple hq
      have hlt : a < s1.heap.objs.size := pl.lt
      refine call_enum1 (begins_tuple a its.toArray) pl fun h' he hit hk => wpAny_pyIter_enum he ⟨s1.heap.objs.size + 1, [s1.heap.objs.size + 1, s1.heap.objs.size], _, _, H1, rfl, I1.kept (t' := s1.toks) hk, turn_enumT a (s1.heap.objs.size + 1) s1.heap.objs.size,
        ⟨⟨.none, he⟩, ⟨_, hit, rfl, rfl⟩, Nat.succ_ne_self _, Nat.ne_of_gt (Nat.lt_succ_of_lt hlt), Nat.ne_of_lt hlt⟩, fun b hb => I1.fpOk (far b hb) (I1.hok.fresh (far b hb)), q⟩
/-- pairs of index and item -/
def enumL : Nat → List D → List D
  | _, [] => []
  | n, d :: ds => .tup [.int (n : Nat), d] :: enumL (n + 1) ds
theorem enumL_get : ∀ (ds : List D) (n i : Nat) (d : D), (enumL n ds)[i]? = some d → ∃ x, ds[i]? = some x ∧ d = .tup [.int ((n + i : Nat) : Int), x]
  | [], n, i, d, h => by cases i <;> cases h
  | x :: ds, n, 0, d, h => ⟨x, rfl, (Option.some.inj h).symm⟩
  | x :: ds, n, i + 1, d, h => by
    obtain ⟨y, h1, h2⟩ := enumL_get ds (n + 1) i d h
    exact ⟨y, h1, by rw [h2, show n + 1 + i = n + (i + 1) by omega]⟩
theorem enumL_len : ∀ (ds : List D) (n : Nat), (enumL n ds).length = ds.length
  | [], _ => rfl
  | _ :: ds, n => congrArg (· + 1) (enumL_len ds (n + 1))
section
variable {X : Cx} {A : Cla} {W : WX} {pins : List (Addr × Obj)} {σ : L2.St} {H : Hp} {s : Shared}
theorem itd_enumP {c : Cfg} {L : Lk} {G : Sto → Prop} {S : Sto} {ds : List D} {J : It} {SQ : Hp → List V → Prop}
    (h : ∀ (L' : Lk) H' S', (∀ q, L' q → L q ∨ H q = none) → Ext H S H' S' → StoR c L' H' S' → G S' → ∃ vs, SQ H' vs ∧ Reps c L' H' S' ds vs)
    (go : ∀ i H' vs v, SQ H' vs → vs[i]? = some v → J.go i H') (st : ∀ i H' vs, SQ H' vs → vs.length ≤ i → J.stop i H')
    (yl : ∀ i H' v H'' vs, J.yld i H' v H'' → SQ H' vs → ∃ T x, v = .ref T ∧ H' T = none ∧ H'' = upd H' T (.tup [.int (i : Nat), x]) ∧ vs[i]? = some x) : ItD c L G H S J (enumL 0 ds) := by
  intro L' H' S' hl e so g
  obtain ⟨vs, q, rs⟩ := h L' H' S' hl e so g
  refine ⟨fun i d ed => ?_, fun i hi => st i H' vs q (by rw [rs.length, ← enumL_len ds 0]; exact hi)⟩
  obtain ⟨x, ex, dx⟩ := enumL_get ds 0 i d ed
  subst dx
  obtain ⟨v, ev, rv⟩ := rs.get ex
  refine ⟨go i H' vs v q ev, fun u H'' y => ?_⟩
  obtain ⟨T, w, eu, nT, eH, ew⟩ := yl i H' u H'' vs y q
  rw [ev] at ew
  cases ew
  subst eu eH
  have fr := so.free nT
  have xt : Ext H' S' (upd H' T (.tup [.int (i : Nat), v])) S' := Ext.upd nT
  refine ⟨xt, so.upd nT, ?_⟩
  unfold Rep
  refine ⟨T, _, rfl, .inl ⟨.inl upd_same, fr.1, fr.2⟩, .cons ?_ (.cons (rv.ext xt) .nil)⟩
  unfold Rep
  rw [Nat.zero_add]
def iEnumD (t : DTA) : DTI := fun ρ S R E => t ρ S (fun ds S1 => ∃ x ys G, ds = [x] ∧ seqI S1 x = some (ys, G) ∧ (match x with | .str _ => False | _ => True) ∧ R (enumL 0 ys) G S1) E
theorem di_enum {e : Expr} {p pos tpos : Pos} {elts : List Expr} {kk : Nat} {t : DTA} (hg : Gl X "enumerate") (hm : X.mg "enumerate" = none) (ha : DA X A W [e] t) (hs : starEach [e] X.env = [(false, eval e X.env)]) :
    DItr X A W (.Tuple elts kk tpos) (.Call (.Name "enumerate" p) [e] [] pos) (iEnumD t) :=
  PI.mono (pi_enumA hg hm ha hs) fun σ H R ⟨ρ, S, L, Rd, Ed, sl, so, h, ki, kx⟩ => by
    refine ⟨ρ, S, L, _, Ed, sl, so, h, ?_, kx⟩
    rintro vs H1 ds S1 e1 so1 r1 ⟨x, ys, G, ed, es, nstr, q⟩
    subst ed
    obtain ⟨v, ev, rx⟩ := reps1 r1
    subst ev
    have lst : ∀ p, v = .ref p → (∀ (L' : Lk) H' S', (∀ q, L' q → L q ∨ H1 q = none) → Ext H1 S1 H' S' → StoR (cX X A) L' H' S' → G S' → ∃ vs, SqL X.K H' p vs ∧ Reps (cX X A) L' H' S' ys vs) → (∃ vs, SqL X.K H1 p vs) →
        ∃ a, [v] = [V.ref a] ∧ ((∃ xs, SqL X.K H1 a xs ∧ R (Ite X.K a) H1) ∨ ∃ xs, SqT X.K H1 a xs ∧ R (IteT X.K a) H1) := fun p ev hh ⟨ws, hw⟩ =>
      ⟨p, by rw [ev], .inl ⟨ws, hw, ki _ H1 _ G S1 e1 so1 (itd_enumP (SQ := fun H' vs => SqL X.K H' p vs) hh (fun i H' vs v q e => ⟨vs, v, q, e⟩) (fun i H' vs q e => ⟨vs, q, e⟩) fun i H' v H'' vs ⟨T, x, a, b, c, d⟩ q => ⟨T, x, a, b, c, d vs q⟩) q⟩⟩
    have tup : ∀ p, v = .ref p → (∀ (L' : Lk) H' S', (∀ q, L' q → L q ∨ H1 q = none) → Ext H1 S1 H' S' → StoR (cX X A) L' H' S' → G S' → ∃ vs, SqT X.K H' p vs ∧ Reps (cX X A) L' H' S' ys vs) → (∃ vs, SqT X.K H1 p vs) →
        ∃ a, [v] = [V.ref a] ∧ ((∃ xs, SqL X.K H1 a xs ∧ R (Ite X.K a) H1) ∨ ∃ xs, SqT X.K H1 a xs ∧ R (IteT X.K a) H1) := fun p ev hh ⟨ws, hw⟩ =>
      ⟨p, by rw [ev], .inr ⟨ws, hw, ki _ H1 _ G S1 e1 so1 (itd_enumP (SQ := fun H' vs => SqT X.K H' p vs) hh (fun i H' vs v q e => ⟨vs, v, q, e⟩) (fun i H' vs q e => ⟨vs, q, e⟩) fun i H' v H'' vs ⟨T, x, a, b, c, d⟩ q => ⟨T, x, a, b, c, d vs q⟩) q⟩⟩
    cases x with
    | str z => exact nstr.elim
    | tup xs =>
      cases es
      unfold Rep at rx
      obtain ⟨p, ws, ev, f, rs⟩ := rx
      exact tup p ev (fun L' H' S' hl x so' _ => ⟨ws, ((f.lock hl).ext x).sq, (rs.lock hl).ext x⟩) ⟨ws, f.sq⟩
    | lst xs =>
      cases es
      unfold Rep at rx
      obtain ⟨p, ws, ev, f, ⟨fs, fl⟩, rs⟩ := rx
      exact lst p ev (fun L' H' S' hl x so' _ => ⟨ws, SqL.of (x p _ f fs).1, (rs.lock hl).ext x⟩) ⟨ws, SqL.of f⟩
    | cst xs =>
      cases es
      unfold Rep at rx
      obtain ⟨p, ws, ev, f, rs⟩ := rx
      exact lst p ev (fun L' H' S' hl x so' _ => ⟨ws, ((f.lock hl).ext x).sq, (rs.lock hl).ext x⟩) ⟨ws, f.sq⟩
    | ref p =>
      have es' : (match S1 p with | some (.lst xs) => some (xs, fun S' => S' p = some (.lst xs)) | _ => none) = some (ys, G) := es
      unfold Rep at rx
      cases sp : S1 p with
      | none => rw [sp] at es'; cases es'
      | some o =>
        rw [sp] at es'
        cases o with
        | dct kvs => cases es'
        | dic nk ds => cases es'
        | lkd od vs kvs => cases es'
        | ins C xs => cases es'
        | lst xs =>
          cases es'
          obtain ⟨⟨ws, hp, rs⟩, _⟩ := so1.at_ p _ sp
          exact lst p rx (fun L' H' S' hl x so' g => by
            obtain ⟨⟨us, hw, rw'⟩, _⟩ := so'.at_ p _ g
            exact ⟨us, SqL.of hw, rw'⟩) ⟨ws, SqL.of hp⟩
    | _ => cases es
end
end DL
namespace DL
open PySem PySem.Spec PyProof.Rows L2
section
variable {c : Cfg} {L : Lk} {H H1 : Hp} {S S1 : Sto}
theorem FT.fewer (h : ∀ p, S p = none → S1 p = none) {p : Addr} {vs : List V} : FT c L H S p vs → FT c L H S1 p vs
  | .inr z => .inr z
  | .inl ⟨a, b, d⟩ => .inl ⟨a, h _ b, d⟩
theorem FL.fewer (h : ∀ p, S p = none → S1 p = none) {p : Addr} {vs : List V} : FL c L H S p vs → FL c L H S1 p vs
  | .inr z => .inr z
  | .inl ⟨a, b, d⟩ => .inl ⟨a, h _ b, d⟩
mutual
theorem Rep.fewer (h : ∀ p, S p = none → S1 p = none) : ∀ (d : D) (v : V), Rep c L H S d v → Rep c L H S1 d v
  | .non, v, r => by unfold Rep at r ⊢; exact r
  | .bl b, v, r => by unfold Rep at r ⊢; exact r
  | .int i, v, r => by unfold Rep at r ⊢; exact r
  | .str x, v, r => by unfold Rep at r ⊢; exact r
  | .ref a, v, r => by unfold Rep at r ⊢; exact r
  | .rp p, v, r => by unfold Rep at r ⊢; exact r
  | .ty n, v, r => by unfold Rep at r ⊢; exact r
  | .tup ds, v, r => by
    unfold Rep at r ⊢
    obtain ⟨p, vs, ev, f, rs⟩ := r
    exact ⟨p, vs, ev, f.fewer h, Reps.fewer h ds vs rs⟩
  | .lst ds, v, r => by
    unfold Rep at r ⊢
    obtain ⟨p, vs, ev, f, ⟨s, l⟩, rs⟩ := r
    exact ⟨p, vs, ev, f, ⟨h _ s, l⟩, Reps.fewer h ds vs rs⟩
  | .cst ds, v, r => by
    unfold Rep at r ⊢
    obtain ⟨p, vs, ev, f, rs⟩ := r
    exact ⟨p, vs, ev, f.fewer h, Reps.fewer h ds vs rs⟩
  | .ins C ds, v, r => by
    unfold Rep at r ⊢
    obtain ⟨p, dx, vs, ev, f, ⟨s, l⟩, rs⟩ := r
    exact ⟨p, dx, vs, ev, f, ⟨h _ s, l⟩, Reps.fewer h ds vs rs⟩
  | .set xs, v, r => by
    unfold Rep at r ⊢
    obtain ⟨p, Sf, n, ev, f, hs, s, l⟩ := r
    exact ⟨p, Sf, n, ev, f, hs, h _ s, l⟩
  | .err n ds, v, r => by
    unfold Rep at r ⊢
    obtain ⟨p, p2, vs, ev, f, g, ⟨s, l⟩, ⟨s2, l2⟩, rs⟩ := r
    exact ⟨p, p2, vs, ev, f, g, ⟨h _ s, l⟩, ⟨h _ s2, l2⟩, Reps.fewer h ds vs rs⟩
  | .dic ks ds, v, r => by
    unfold Rep at r ⊢
    obtain ⟨p, o, nk, kvs, vs, ev, f, ⟨s, l⟩, ek, rk, rs⟩ := r
    exact ⟨p, o, nk, kvs, vs, ev, f, ⟨h _ s, l⟩, ek, Reps.fewer h ks kvs rk, Reps.fewer h ds vs rs⟩
theorem Reps.fewer (h : ∀ p, S p = none → S1 p = none) : ∀ (ds : List D) (vs : List V), Reps c L H S ds vs → Reps c L H S1 ds vs
  | [], vs, r => by unfold Reps at r ⊢; exact r
  | d :: ds, vs, r => by
    unfold Reps at r ⊢
    obtain ⟨v, ws, ev, r1, rs⟩ := r
    exact ⟨v, ws, ev, Rep.fewer h d v r1, Reps.fewer h ds ws rs⟩
end
theorem Sto.del_some {p q : Addr} {o : MO} (h : S.del p q = some o) : S q = some o ∧ q ≠ p := by
  unfold Sto.del at h
  by_cases e : q = p
  · rw [if_pos e] at h; cases h
  · rw [if_neg e] at h; exact ⟨h, e⟩
theorem Sto.del_same {p : Addr} : S.del p p = none := if_pos rfl
theorem Sto.del_none {p q : Addr} (h : S q = none) : S.del p q = none := by
  unfold Sto.del
  by_cases e : q = p
  · rw [if_pos e]
  · rw [if_neg e]; exact h
theorem StoR.del (R : StoR c L H S) (p : Addr) : StoR c L H (S.del p) where
  at_ := fun q o t => by
    obtain ⟨t, _⟩ := Sto.del_some t
    obtain ⟨m, n⟩ := R.at_ q o t
    refine ⟨?_, n⟩
    cases o with
    | lst ds =>
      obtain ⟨vs, hp, r⟩ := m
      exact ⟨vs, hp, r.fewer fun _ => Sto.del_none⟩
    | ins C ds =>
      obtain ⟨dx, vs, hp, r⟩ := m
      exact ⟨dx, vs, hp, r.fewer fun _ => Sto.del_none⟩
    | dct kvs =>
      obtain ⟨vs, hp, r⟩ := m
      exact ⟨vs, hp, r.fewer fun _ => Sto.del_none⟩
    | dic nk ds =>
      obtain ⟨kvs, vs, hp, rk, r⟩ := m
      exact ⟨kvs, vs, hp, rk.fewer fun _ => Sto.del_none, r.fewer fun _ => Sto.del_none⟩
    | lkd od vs kvs =>
      obtain ⟨hp, r⟩ := m
      exact ⟨hp, r.fewer fun _ => Sto.del_none⟩
  lk := R.lk
  gh := fun b k ds g => by
    obtain ⟨vs, h1, ⟨s1, n⟩, r⟩ := R.gh b k ds g
    exact ⟨vs, h1, ⟨Sto.del_none s1, n⟩, r.fewer fun _ => Sto.del_none⟩
theorem Ext.del {p : Addr} (e : Ext H S H1 S1) : Ext H S H1 (S1.del p) := fun q o a b => ⟨(e q o a b).1, Sto.del_none (e q o a b).2⟩
theorem XRep.fewer (h : ∀ p, S p = none → S1 p = none) {n : Nat} {a : Option Addr} {ds : List D} : XRep c L H S n a ds → XRep c L H S1 n a ds
  | .inl z => .inl z
  | .inr ⟨p, vs, ea, hp, ⟨s, l⟩, r⟩ => .inr ⟨p, vs, ea, hp, ⟨h _ s, l⟩, r.fewer h⟩
/-- an object that may change is let stand -/
def freezeD (p : Addr) : MO → D
  | .lst xs => .lst xs
  | .ins C xs => .ins C xs
  | .dct _ => .ref p
  | .lkd _ _ _ => .ref p
  | .dic _ _ => .ref p
theorem StoR.frz {p : Addr} {o : MO} (R : StoR c L H S) (h : S p = some o) : Rep c L H (S.del p) (freezeD p o) (.ref p) := by
  obtain ⟨m, n⟩ := R.at_ p o h
  cases o with
  | lst xs =>
    obtain ⟨vs, hp, r⟩ := m
    show Rep c L H (S.del p) (.lst xs) (.ref p)
    unfold Rep
    exact ⟨p, vs, rfl, hp, ⟨Sto.del_same, n⟩, r.fewer fun _ => Sto.del_none⟩
  | ins C xs =>
    obtain ⟨dx, vs, hp, r⟩ := m
    show Rep c L H (S.del p) (.ins C xs) (.ref p)
    unfold Rep
    exact ⟨p, dx, vs, rfl, hp, ⟨Sto.del_same, n⟩, r.fewer fun _ => Sto.del_none⟩
  | dct kvs =>
    show Rep c L H (S.del p) (.ref p) (.ref p)
    unfold Rep
    rfl
  | lkd od vs kvs =>
    show Rep c L H (S.del p) (.ref p) (.ref p)
    unfold Rep
    rfl
  | dic nk ds =>
    show Rep c L H (S.del p) (.ref p) (.ref p)
    unfold Rep
    rfl
end
/-- from here on it does not change -/
def dFrz (t : DT) : DT := fun ρ S Q E => t ρ S (fun d S1 => ∃ p o, d = .ref p ∧ S1 p = some o ∧ Q (freezeD p o) (S1.del p)) E
section
variable {X : Cx} {A : Cla} {W : WX} {e o value : Expr} {es : List Expr} {pos pos' apos : Pos} {t u : DT} {ta : DTA} {f : Str}
def insOf (S : Sto) : D → Option (Nat × List D)
  | .ins C xs => some (C, xs)
  | .ref p => match S p with
    | some (.ins C xs) => some (C, xs)
    | _ => none
  | _ => none
theorem insOf_ok {c : Cfg} {L : Lk} {H : Hp} {S : Sto} {d : D} {v : V} {C : Nat} {xs : List D} (so : StoR c L H S) (r : Rep c L H S d v) (h : insOf S d = some (C, xs)) :
    ∃ p dx vs, v = .ref p ∧ H p = some (.ins (c.cA C) dx ((c.fl C).zip vs)) ∧ Reps c L H S xs vs := by
  cases d with
  | ins C' ys =>
    cases h
    unfold Rep at r
    obtain ⟨p, dx, vs, ev, hp, _, rs⟩ := r
    exact ⟨p, dx, vs, ev, hp, rs⟩
  | ref p =>
    have h : (match S p with | some (.ins C xs) => some (C, xs) | _ => none) = some (C, xs) := h
    unfold Rep at r
    cases s : S p with
    | none => rw [s] at h; cases h
    | some o =>
      rw [s] at h
      cases o with
      | lst xs => cases h
      | dct kvs => cases h
      | dic nk ds => cases h
      | lkd od vs kvs => cases h
      | ins C' ys =>
        cases h
        obtain ⟨⟨dx, vs, hp, rs⟩, _⟩ := so.at_ p _ s
        exact ⟨p, dx, vs, r, hp, rs⟩
  | _ => cases h
def dFld (fl : Nat → List Str) (f : Str) (t : DT) : DT := fun ρ S Q E => t ρ S (fun d S1 => ∃ C xs y, insOf S1 d = some (C, xs) ∧ ((fl C).zip xs).lookup f = some y ∧ Q y S1) E
/-- a field is written or added -/
def fput {α : Type} (x : Str) (y : α) : List Str → List α → Option (List α)
  | [], _ => none
  | f :: _, [] => if f = x then some [y] else none
  | f :: fs, z :: zs => if f = x then some (y :: zs) else (fput x y fs zs).map (z :: ·)
def sFldD (fl : Nat → List Str) (f : Str) (to tv : DT) : DTS := fun D ρ S => tv ρ S (fun y S1 => to ρ S1 (fun d S2 => ∃ p C xs xs', d = .ref p ∧ S2 p = some (.ins C xs) ∧ fput f y (fl C) xs = some xs' ∧ D.nx ρ (S2.set p (.ins C xs'))) (D.xx ρ)) (D.xx ρ)
def gSubD (to ti : DT) : DTG := fun v ρ S Q E => to ρ S (fun d S1 => ti ρ S1 (fun i S2 => ∃ p xs k j, d = .ref p ∧ i = .int k ∧ S2 p = some (.lst xs) ∧ ixN xs.length k = some j ∧ Q ρ (S2.set p (.lst (xs.set j v)))) E) E
theorem dg_sub {i : Expr} (ho : DE X A W o t) (hi : DE X A W i u) (ha : ∀ v, assign (.Subscript o i pos) X.env v = (do
      let ov ← holding [v] (eval o X.env)
      let iv ← holding [v, ov] (eval i X.env)
      standAt pos
      holding [v, ov, iv] (setItem ov iv v)
      release [v, ov, iv] []) := by intro _; rfl) : DTgt X A W (.Subscript o i pos) (gSubD t u) :=
  PG.mono (pg_sub ho hi set_list ha) fun v σ H Q ⟨ρ, S, L, d, Qd, Ed, sl, so, r, h, kp, kx⟩ => by
    refine ⟨ρ, S, L, _, Ed, sl, so, h, fun ov H1 dd S1 e1 so1 r1 q1 => ⟨ρ, S1, L, _, Ed, sl.ext e1, so1, q1, fun iv H2 di S2 e2 so2 r2 ⟨p, xs, k, j, ed, ei, hs, hj, q2⟩ => ?_, kx.ext e1⟩, kx⟩
    subst ed ei
    unfold Rep at r1 r2
    obtain ⟨⟨vs, hh, rs⟩, _⟩ := so2.at_ p _ hs
    have rd := r.ext (e1.trans e2)
    refine ⟨p, vs, k, j, r1, r2, hh, by rw [rs.length]; exact hj, ?_⟩
    have x : Ext H2 S2 (upd H2 p (.lst (vs.set j v))) (S2.set p (.lst (xs.set j d))) := Ext.write hs
    exact kp σ _ ρ _ ((e1.trans e2).trans x) (so2.write hs ⟨_, upd_same, (rs.set rd j).ext x⟩) (sl.ext ((e1.trans e2).trans x)) q2
abbrev DMt := D → List D → Sto → DQ → Prop
def liftM (c : Cfg) (R : DMt) : V → List V → Hp → VK → Prop := fun x xs H Q => ∃ S L dx ds Qd, StoR c L H S ∧ Rep c L H S dx x ∧ Reps c L H S ds xs ∧ R dx ds S Qd ∧ KQ c L H S Q Qd
theorem MtR.mono {id : String} {r r' : V → List V → Hp → VK → Prop} (h : MtR X id r) (m : ∀ x xs H Q, r' x xs H Q → r x xs H Q) : MtR X id r' := fun pins s σ H x xs v us Q I rx rs q => h pins s σ H x xs v us Q I rx rs (m _ _ _ _ q)
abbrev MtD (X : Cx) (A : Cla) (id : String) (R : DMt) : Prop := MtR X id (liftM (cX X A) R)
def mAppend : DMt := fun x ds S Q => ∃ p xs y, x = .ref p ∧ ds = [y] ∧ S p = some (.lst xs) ∧ xs.length < sizeLine ∧ Q .non (S.set p (.lst (xs ++ [y])))
theorem md_append : MtD X A "list.append" mAppend := MtR.mono mt_append fun x xs H Q ⟨S, L, dx, ds, Qd, so, r, rs, ⟨p, ys, y, ex, ed, hs, hz, q⟩, kq⟩ => by
  subst ex ed
  unfold Rep at r
  obtain ⟨w, ew, r1⟩ := reps1 rs
  obtain ⟨⟨vs, hh, rv⟩, _⟩ := so.at_ p _ hs
  refine ⟨p, vs, w, r, ew, hh, by rw [rv.length]; exact hz, ?_⟩
  have x : Ext H S (upd H p (.lst (vs ++ [w]))) (S.set p (.lst (ys ++ [y]))) := Ext.write hs
  exact kq _ _ _ _ x (so.write hs ⟨_, upd_same, (rv.append (.cons r1 .nil)).ext x⟩) (by unfold Rep; rfl) q
def mPopAt : DMt := fun x ds S Q => ∃ p xs i k y, x = .ref p ∧ ds = [.int i] ∧ S p = some (.lst xs) ∧ -(2 ^ 63) ≤ i ∧ i < 2 ^ 63 ∧ seqIndex? i xs.length = some k ∧ xs[k]? = some y ∧ Q y (S.set p (.lst (xs.eraseIdx k)))
theorem Reps.eraseIdx {c : Cfg} {L : Lk} {H : Hp} {S : Sto} : ∀ {ds : List D} {vs : List V} (k : Nat), Reps c L H S ds vs → Reps c L H S (ds.eraseIdx k) (vs.eraseIdx k)
  | [], vs, k, r => by rw [r.of_nil]; exact .nil
  | d :: ds, vs, k, r => by
    obtain ⟨v, ws, ev, r1, rs⟩ := r.of_cons
    subst ev
    cases k with
    | zero => exact rs
    | succ k => exact .cons r1 (Reps.eraseIdx k rs)
def dMt (R : DMt) (t : DT) (u : DTA) : DT := fun ρ S Q E => t ρ S (fun x S1 => (∃ p xs, x = .ref p ∧ S1 p = some (.lst xs)) ∧ u ρ S1 (fun ds S2 => R x ds S2 Q) E) E
theorem de_bm {id : String} {name : Str} {R : DMt} (slot : Slot "list" name id) (hty : typeOf (.builtin id) = pure (.type "method_descriptor")) (hm : MtD X A id R) (ho : DE X A W o t) (ha : DA X A W (e :: es) ta)
    (hbase : attributeBase o name X.env (eval o X.env) = eval o X.env)
    (hfew : ((backTo pos (starEach (e :: es) X.env)).all (fun x => !x.1) && (backToKw pos (keywordEach [] X.env)).all (fun x => x.1.isSome)
      && decide ((e :: es).length + ([] : List Keyword).length + (if ([] : List Keyword).isEmpty then 0 else 1) < 30)) = true)
    (hline : (apos.endLine == pos.line) = true) (hs : starEach (e :: es) X.env = (false, eval e X.env) :: starEach es X.env) (hplain : (backTo pos (starEach es X.env)).any (·.1) = false) :
    DE X A W (.Call (.Attribute o name apos) (e :: es) [] pos) (dMt R t ta) :=
  PE.mono (pe_bm PySem.F.plainAttrs_list slot hty hm ho ha hbase hfew hline hs hplain) fun σ H Q ⟨ρ, S, L, Qd, Ed, sl, so, h, kq, kx⟩ => by
    refine ⟨ρ, S, L, _, Ed, sl, so, h, fun v H1 d S1 e1 so1 r1 ⟨⟨p, xs, ed, hs⟩, q1⟩ => ⟨?_, ?_⟩, kx⟩
    · subst ed
      unfold Rep at r1
      subst r1
      obtain ⟨⟨vs, hh, rv⟩, _⟩ := so1.at_ p _ hs
      exact .inl ⟨rfl, vs, SqL.of hh⟩
    · exact ⟨ρ, S1, L, _, Ed, sl.ext e1, so1, q1, fun vs H2 ds S2 e2 so2 r2 q2 => ⟨S2, L, d, ds, Qd, so2, r1.ext e2, r2, q2, kq.ext (e1.trans e2)⟩, kx.ext e1⟩
def dM1 (R : DR2) (t u : DT) : DT := fun ρ S Q E => t ρ S (fun x S1 => (∃ a, x = .str a) ∧ u ρ S1 (fun y S2 => R x y S2 Q DX0) E) E
def mStarts : DR2 := fun x y S Q _ => ∃ a b, x = .str a ∧ y = .str b ∧ Q (.bl (Txt.startswith a b)) S
def mEnds : DR2 := fun x y S Q _ => ∃ a b, x = .str a ∧ y = .str b ∧ Q (.bl (Txt.endswith a b)) S
theorem SOk.join {a : Str} (ha : SOk a) : ∀ {ys : List Str}, (∀ y ∈ ys, SOk y) → (Txt.join a ys).cps.all (· < 0x110000) = true := by
  intro ys
  rw [TL.join_eq]
  induction ys with
  | nil => intro _; simp [Str.join, Str.empty]
  | cons y ys ih =>
    intro h
    cases ys with
    | nil => exact (h y (List.mem_cons_self ..)).2
    | cons z r =>
      show (y.cps ++ a.cps ++ (Str.join a (z :: r)).cps).all _ = true
      rw [Array.all_append, Array.all_append, (h y (List.mem_cons_self ..)).2, ha.2, ih fun q hq => h q (List.mem_cons_of_mem _ hq)]
      rfl
theorem join_len (a : Str) : ∀ ys : List Str, (Txt.join a ys).length ≤ (ys.map (·.length)).sum + ys.length * a.length := by
  intro ys
  rw [TL.join_eq]
  induction ys with
  | nil => exact Nat.zero_le _
  | cons y ys ih =>
    cases ys with
    | nil =>
      show y.length ≤ y.length + 0 + 1 * a.length
      omega
    | cons z r =>
      have e : (Str.join a (y :: z :: r)).length = y.length + a.length + (Str.join a (z :: r)).length := by
        show (y.cps ++ a.cps ++ (Str.join a (z :: r)).cps).size = _
        rw [Array.size_append, Array.size_append]
        rfl
      rw [e]
      have e2 : ((y :: z :: r).map (·.length)).sum = y.length + ((z :: r).map (·.length)).sum := rfl
      have e3 : (y :: z :: r).length * a.length = a.length + (z :: r).length * a.length := by
        show ((z :: r).length + 1) * a.length = _
        rw [Nat.add_mul, Nat.one_mul, Nat.add_comm]
      omega
end
def mkI (m : Bool) (C : Nat) (p : Addr) (S : Sto) (Q : DQ) : Prop := if m = true then Q (.ref p) S else ∃ xs, S p = some (.ins C xs) ∧ Q (.ins C xs) (S.del p)
def dMake (C : Nat) (m : Bool) (sp : DSp) (t : DTA) : DT := fun ρ S Q E => t ρ S (fun ds S1 => ∀ p, S1 p = none → sp (.ref p :: ds) (S1.set p (.ins C [])) (fun r S2 => r = .non ∧ mkI m C p S2 Q) (fun n xs S2 => E n xs (S2.del p))) E
end DL
namespace DL
open PySem PySem.Spec PyProof.Rows L2
abbrev cc (K : PySem.W.Frag) (A : Cla) : Cfg := ⟨K, A.cA, A.cv, A.fl, A.gh, A.w⟩
/-- what holds wherever code of a def is read: the tables by which its names are looked up -/
structure In (P : Program) (w : World) (K : PySem.W.Frag) (mg : Str → Option Value) (base : Heap) (N : List Str) (sc : Scope) (fo : Str → Bool) (lv : Nat) (X : Cx) (W : WX) : Prop where
  eP : X.prog = P
  eW : X.w = w
  eK : X.K = K
  eM : X.mg = mg
  eB : X.base = base
  eN : X.N = N
  eS : X.env.scope = sc
  eF : X.fn = fo
  calm : X.calm = true
  rm : Rm lv X.A
  tk : L2N.Takes X W
/-- a def's frame: what leaves it, the frames that run -/
structure HPs (X : Cx) : Prop where
  po : PassesOwn (model X.prog X.w) X.A X.env X.xe
  stk : X.stack = X.env :: X.outer
  frm : X.env.frame = some X.env.locals
/-- a name with a slot -/
def nmB (N : List Str) (sc : Scope) (i : Nat) (x : Str) : Bool := decide (N[i]? = some x) && (decide (sc.names.lookup x = some .local) || decide (sc.names.lookup x = some .cell) || decide (sc.names.lookup x = some .free)) && !(x == ("__debug__" : Str)) && !(x == ("__classdict__" : Str))
/-- a name of the module -/
def glB (sc : Scope) (x : Str) : Bool := decide (sc.names.lookup x = some .globalImplicit) && !(x == ("__debug__" : Str)) && !(x == ("__name__" : Str))
/-- a name that is stored -/
def tgB (N : List Str) (sc : Scope) (fo : Str → Bool) (i : Nat) (x : Str) : Bool := decide N.Nodup && decide (N[i]? = some x) && (decide (sc.names.lookup x = some .local) || (decide (sc.names.lookup x = some .cell) && fo x))
def fAll : Str → Bool := fun _ => true
def fCell (sc : Scope) : Str → Bool := fun x => sc.names.lookup x == some .cell
theorem not_of {b : Bool} (h : (!b) = true) : b = false := by cases b with
  | true => cases h
  | false => rfl
section
variable {P : Program} {w : World} {K : PySem.W.Frag} {A : Cla} {mg : Str → Option Value} {base : Heap} {N : List Str} {sc : Scope} {fo : Str → Bool} {lv : Nat} {X : Cx} {W : WX}
theorem nmB_ok {i : Nat} {x : Str} (h : nmB N sc i x = true) : N[i]? = some x ∧ Vis sc x ∧ (x == ("__debug__" : Str)) = false ∧ (x == ("__classdict__" : Str)) = false := by
  unfold nmB at h
  rw [Bool.and_eq_true, Bool.and_eq_true, Bool.and_eq_true, Bool.or_eq_true, Bool.or_eq_true] at h
  obtain ⟨⟨⟨a, b⟩, c⟩, d⟩ := h
  refine ⟨of_decide_eq_true a, ?_, not_of c, not_of d⟩
  rcases b with (b | b) | b
  · exact .inl (of_decide_eq_true b)
  · exact .inr (.inl (of_decide_eq_true b))
  · exact .inr (.inr (of_decide_eq_true b))
theorem glB_ok {x : Str} (h : glB sc x = true) : sc.names.lookup x = some .globalImplicit ∧ (x == ("__debug__" : Str)) = false ∧ x ≠ "__name__" := by
  unfold glB at h
  rw [Bool.and_eq_true, Bool.and_eq_true] at h
  obtain ⟨⟨a, b⟩, c⟩ := h
  refine ⟨of_decide_eq_true a, not_of b, fun e => ?_⟩
  have c := not_of c
  rw [e] at c
  exact absurd (beq_self_eq_true _) (by rw [c]; exact Bool.false_ne_true)
theorem tgB_ok {i : Nat} {x : Str} (h : tgB N sc fo i x = true) : N.Nodup ∧ N[i]? = some x ∧ Loc sc x ∧ (fo x = true ∨ sc.names.lookup x = some .local) := by
  unfold tgB at h
  rw [Bool.and_eq_true, Bool.and_eq_true, Bool.or_eq_true, Bool.and_eq_true] at h
  obtain ⟨⟨a, b⟩, c⟩ := h
  refine ⟨of_decide_eq_true a, of_decide_eq_true b, ?_, ?_⟩
  · rcases c with c | c
    · exact .inl (of_decide_eq_true c)
    · exact .inr (of_decide_eq_true c.1)
  · rcases c with c | c
    · exact .inr (of_decide_eq_true c)
    · exact .inl c.2
theorem In.gl {x : Str} (h : In P w K mg base N sc fo lv X W) (hg : glB sc x = true) : Gl X x := by
  have := h.eS
  subst this
  exact (glB_ok hg).1
variable {e a b o value : Expr} {es : List Expr} {p pos pos' apos : Pos} {x : Str} {t u : DT} {ta : DTA} {i k : Nat} {f : Addr} {sp : DSp} {fs : Str}
theorem In.var (h : In P w K mg base N sc fo lv X W) (ck : nmB N sc i x = true) : DE X A W (.Name x pos) (dVar i) := by
  have := h.eS; subst this
  have := h.eN; subst this
  obtain ⟨a, b, c, d⟩ := nmB_ok ck
  exact de_var a b c d
theorem In.glob {v : V} {d : D} {uv : Value} (h : In P w K mg base N sc fo lv X W) (hg : glB sc x = true) (hm : mg x = some uv) (r : RelV v uv) (st : Still d v) : DE X A W (.Name x pos) (dCst d) := by
  have g := h.gl hg
  have := h.eM; subst this
  exact de_tC (pe_glob g hm r (glB_ok hg).2.1) st
/-- a class, a built-in type, as a value -/
theorem In.ty {T : Ty} (h : In P w K mg base N sc fo lv X W) (hg : glB sc x = true) (hm : mg x = none) (hv : bootBuiltins x = some (.type T.name)) (ho : ∀ C, T ≠ .own C) : DE X A W (.Name x pos) (dCst (.ty T)) := by
  have g := h.gl hg
  have := h.eM; subst this
  refine de_tC (v := .ty T.name) (pe_bltn g hm hv rfl (glB_ok hg).2.2 (glB_ok hg).2.1) fun c L H S => ?_
  unfold Rep
  cases T with
  | own C => exact absurd rfl (ho C)
  | _ => rfl
theorem In.cls {C : Nat} (h : In P w K mg base N sc fo lv X W) (hg : glB sc x = true) (hm : mg x = some (.ref (A.cA C))) : DE X A W (.Name x pos) (dCst (.ty (.own C))) := by
  have g := h.gl hg
  have := h.eM; subst this
  exact PE.mono (pe_glob (v := .ref (A.cA C)) g hm rfl (glB_ok hg).2.1) fun σ H Q ⟨ρ, S, L, Qd, Ed, sl, so, h, kq, _⟩ => kq _ H _ S .refl so (by unfold Rep; rfl) h
theorem In.call (h : In P w K mg base N sc fo lv X W) (F : FnD P w (cc K A) mg base k f sp) (hk : k ≤ lv) (hg : glB sc x = true) (hm : mg x = some (.ref f)) (kp : PySem.W.keepIn K (.ref f) = true) (ha : DA X A W (e :: es) ta)
    (he : starEach (e :: es) X.env = (false, eval e X.env) :: starEach es X.env := by rfl) (hpl : (backTo pos (starEach es X.env)).any (·.1) = false := by rfl) : DE X A W (.Call (.Name x p) (e :: es) [] pos) (dCall sp ta) := by
  have g := h.gl hg
  have := h.eM; subst this
  have := h.eP; subst this
  have := h.eW; subst this
  have := h.eK; subst this
  have := h.eB; subst this
  exact de_call F (h.rm.mono hk) h.tk g hm kp ha (glB_ok hg).2.1 he hpl
/-- built-in functions, types -/
theorem In.bi {id : String} {R : DRA} (h : In P w K mg base N sc fo lv X W) (hc : CallD X A (.builtin id) R) (hg : glB sc x = true) (hm : mg x = none) (hv : bootBuiltins x = some (.builtin id)) (ha : DA X A W (e :: es) ta)
    (he : starEach (e :: es) X.env = (false, eval e X.env) :: starEach es X.env := by rfl) (hpl : (backTo pos (starEach es X.env)).any (·.1) = false := by rfl) : DE X A W (.Call (.Name x p) (e :: es) [] pos) (dCB R ta) := by
  have g := h.gl hg
  have := h.eM; subst this
  exact de_callB hc g hm hv ha (glB_ok hg).2.2 (glB_ok hg).2.1 he hpl
theorem In.bt {T : String} {R : DRA} (h : In P w K mg base N sc fo lv X W) (hc : CallD X A (.type T) R) (hg : glB sc x = true) (hm : mg x = none) (hv : bootBuiltins x = some (.type T)) (ha : DA X A W (e :: es) ta)
    (he : starEach (e :: es) X.env = (false, eval e X.env) :: starEach es X.env := by rfl) (hpl : (backTo pos (starEach es X.env)).any (·.1) = false := by rfl) : DE X A W (.Call (.Name x p) (e :: es) [] pos) (dCB R ta) := by
  have g := h.gl hg
  have := h.eM; subst this
  exact de_callTy hc g hm hv ha (glB_ok hg).2.2 (glB_ok hg).2.1 he hpl
theorem In.set (h : In P w K mg base N sc fo lv X W) (ck : tgB N sc fo i x = true) (he : DE X A W e t) (hs : swapsWith e (some (.Name x p)) pos.line X.env = pure false := by rfl) : DStm X A W (.Assign [.Name x p] e pos) (sAsg t (gNm i)) := by
  obtain ⟨a, b, c, d⟩ := tgB_ok ck
  have := h.eS; subst this
  have := h.eN; subst this
  have := h.eF; subst this
  exact ds_set a b c he hs d
theorem In.tg (h : In P w K mg base N sc fo lv X W) (ck : tgB N sc fo i x = true) : DTgt X A W (.Name x p) (gNm i) := by
  obtain ⟨a, b, c, d⟩ := tgB_ok ck
  have := h.eS; subst this
  have := h.eN; subst this
  have := h.eF; subst this
  exact dg_name a b c d
/-- the targets of a comprehension, a for, a store of a tuple -/
theorem In.vnm (h : In P w K mg base N sc fo lv X W) (ck : tgB N sc fo i x = true) : PG X (.Name x p) (Tg.v X.K (.nm i)) := by
  obtain ⟨a, b, c, d⟩ := tgB_ok ck
  have := h.eS; subst this
  have := h.eN; subst this
  have := h.eF; subst this
  unfold Tg.v
  exact pg_name a b c d
theorem vs_nil : PGs X [] (Tg.vs X.K []) := by
  unfold Tg.vs
  exact pgs_nil
theorem vs_cons {tg : Expr} {tgs : List Expr} {g : Tg} {gs : List Tg} (h1 : PG X tg (g.v X.K)) (h2 : PGs X tgs (Tg.vs X.K gs)) (hs : (assignEach (tg :: tgs) X.env).map (·.2) = assign tg X.env :: (assignEach tgs X.env).map (·.2) := by rfl) : PGs X (tg :: tgs) (Tg.vs X.K (g :: gs)) := by
  unfold Tg.vs
  exact pgs_cons h1 h2 hs
theorem In.vtup {tgs : List Expr} {gs : List Tg} {j : Nat} (h : In P w K mg base N sc fo lv X W) (h2 : PGs X tgs (Tg.vs X.K gs)) (hn : (assignEach tgs X.env).length = gs.length := by rfl) (hst : (assignEach tgs X.env).findIdx? (·.1) = none := by rfl) :
    PG X (.Tuple tgs j pos) (Tg.v X.K (.tup gs)) := by
  unfold Tg.v
  exact pg_tup h.calm h2 hn hst
/-- a target's reading -/
def gOf (g : Tg) : DTG := fun d ρ S Q _ => g.d d ρ Q S
theorem dg_tg {tg : Expr} {g : Tg} (h : PG X tg (g.v X.K)) : DTgt X A W tg (gOf g) :=
  PG.mono h fun v σ H Q ⟨ρ, S, L, d, Qd, Ed, sl, so, r, h, kp, _⟩ => Tg.ok (c := cX X A) (L := L) (S := S) [] g v σ d ρ Qd Q sl r h fun ρ' σ' sl' _ q => kp σ' H ρ' S .refl so sl' q
theorem ds_tup {tg : Expr} {g : DTG} (he : DE X A W e t) (hg : DTgt X A W tg g) (hs : swapsWithSole [tg] e pos.line X.env = pure false := by rfl) (hw : swappedStores [tg] e X.env = pure none := by rfl) (h1 : (assignEach [tg] X.env).map (·.2) = [assign tg X.env] := by rfl) :
    DStm X A W (.Assign [tg] e pos) (sAsg t g) := ds_asg he hg hs hw h1
/-- the names' kinds inside a block -/
def relS (outer scope : Scope) : Scope := { scope with names := scope.names.map fun (n, k) => if (k == .free && outer.kind == .function && outer.names.lookup n == some .cell) then (n, .cell) else (n, k) }
theorem In.blk {scope : Scope} {s : Shared} {H : Hp} {C : Addr} {cl : List (Str × Addr)} {fp : List Addr} (h : In P w K mg base N sc fo lv X W) : In P w K mg base N (relS sc scope) (fCell scope) lv (X.blk s H scope (compEnvC scope cl C X.env) fp) W0 where
  eP := h.eP
  eW := h.eW
  eK := h.eK
  eM := h.eM
  eB := h.eB
  eN := h.eN
  eS := by
    have := h.eS
    subst this
    rfl
  eF := rfl
  calm := h.calm
  rm := h.rm
  tk := fun u s' ⟨_, _, _, _, _, _, _, _, _, _, _, _, _, _, _, _, z⟩ => z.elim
def blkB (N : List Str) (sc scope : Scope) (own : List (Str × Nat)) : Bool :=
  decide (scope.kind = .function) && scope.names.all (fun y => decide (scope.names.lookup y.1 = some y.2)) && own.all (fun p => decide (N[p.2]? = some p.1)) &&
  scope.names.all (fun y => !decide (y.2 = .free) || decide (sc.names.lookup y.1 = some .cell) || decide (sc.names.lookup y.1 = some .free)) &&
  scope.names.all (fun y => !(decide (y.2 = .local) || decide (y.2 = .cell)) || decide (y.1 ∈ own.map (·.1)) || decide (y.1 ∉ N)) && decide N.Nodup
theorem blkB_ok {scope : Scope} {own : List (Str × Nat)} (h : blkB N sc scope own = true) : BlkOk N sc scope own ∧ N.Nodup := by
  unfold blkB at h
  simp only [Bool.and_eq_true, List.all_eq_true, Bool.or_eq_true, Bool.not_eq_true', decide_eq_true_eq, decide_eq_false_iff_not, Bool.or_eq_false_iff] at h
  obtain ⟨⟨⟨⟨⟨a, b⟩, c⟩, d⟩, e⟩, f⟩ := h
  refine ⟨⟨a, b, c, fun y hy ef => ?_, fun y hy el => ?_⟩, f⟩
  · rcases d y hy with (z | z) | z
    · exact absurd ef z
    · exact .inl z
    · exact .inr z
  · rcases e y hy with (z | z) | z
    · rcases el with el | el
      · exact absurd el z.1
      · exact absurd el z.2
    · exact .inl z
    · exact .inr z
def dYes : DTT := fun _ S Q _ => Q true S
theorem ts_one {c : Expr} {t : DTT} (h : DTst X A W c t) : PTs X [c] (liftT (cX X A) W t) := pts_one h
theorem In.lc {m : Bool} {ti : DTI} {g : Tg} {tc : DTT} {te : DT} {tg iter elt : Expr} {ifs : List Expr} {scope : Scope} (own : List (Str × Nat)) (h : In P w K mg base N sc fo lv X W) (hi : DItr X A W tg iter ti) (ok : blkB N sc scope own = true) (hsl : ∀ j ∈ g.slots, j ∈ own.map (·.2))
    (hg : ∀ X', In P w K mg base N (relS sc scope) (fCell scope) lv X' W0 → PG X' tg (g.v X'.K)) (ht : ∀ X', In P w K mg base N (relS sc scope) (fCell scope) lv X' W0 → PTs X' ifs (liftT (cX X' A) W0 tc))
    (he : ∀ X', In P w K mg base N (relS sc scope) (fCell scope) lv X' W0 → DE X' A W0 elt te) (hs : ∀ x, foldedSetIterable iter X.env x = pure x := by intro _; rfl) :
    DE X A W (.ListComp elt [⟨tg, iter, ifs, 0⟩] scope pos) (dLc m ti g tc te (own.map (·.2))) := by
  obtain ⟨ok, nd⟩ := blkB_ok ok
  have h0 := h
  have := h.eS; subst this
  have := h.eN; subst this
  exact de_lc h.calm nd hi ok hsl (fun s H C cl fp => hg _ (h0.blk)) (fun s H C cl fp => ht _ (h0.blk)) (fun s H C cl fp => he _ (h0.blk)) hs
theorem In.rng1 {tg a : Expr} {t : DTA} (h : In P w K mg base N sc fo lv X W) (hg : glB sc "range" = true) (hm : mg "range" = none) (ha : DA X A W [a] t) (hs : starEach [a] X.env = [(false, eval a X.env)] := by rfl) : DItr X A W tg (.Call (.Name "range" p) [a] [] pos) (iRng1D t) := by
  have g := h.gl hg
  have := h.eM; subst this
  exact di_rng1 g hm ha hs
theorem In.enum {e : Expr} {tpos : Pos} {elts : List Expr} {kk : Nat} {t : DTA} (h : In P w K mg base N sc fo lv X W) (hg : glB sc "enumerate" = true) (hm : mg "enumerate" = none) (ha : DA X A W [e] t) (hs : starEach [e] X.env = [(false, eval e X.env)] := by rfl) :
    DItr X A W (.Tuple elts kk tpos) (.Call (.Name "enumerate" p) [e] [] pos) (iEnumD t) := by
  have g := h.gl hg
  have := h.eM; subst this
  exact di_enum g hm ha hs
theorem In.loop {i : DTI} {g : DTG} {tb : DTS} {tg iter : Expr} {body : List Stmt} (h : In P w K mg base N sc fo lv X W) (hp : HPs X) (hi : DItr X A W tg iter i) (hg : DTgt X A W tg g) (hb : DStms X A W body tb)
    (hs : ∀ x, foldedSetIterable iter X.env x = pure x := by intro _; rfl) : DStm X A W (.For tg iter body [] pos) (sFor i g tb) := ds_for hp.po h.calm hi hg hb hs
end
/-- a def of the text stands at f -/
def FunP (K : PySem.W.Frag) (name qual : Str) (st : Stmt) (f : Addr) : Prop :=
  ∃ (oc kV doc pm cdv ct : Value) (od an : Option Addr) (osl : Array (Option Value)), K.lookup f = some ⟨oc, od, .func (PySem.W.fnOf name qual (defArgs st) (defBody st) (defScope st) .none kV doc pm an cdv ct), osl⟩ ∧ PySem.W.codeIn K cdv qual = true
section
variable {P : Program} {w : World} {K : PySem.W.Frag} {A : Cla} {mg : Str → Option Value} {base : Heap} {k : Nat} {f : Addr} {name qual : Str} {st : Stmt} {N ps : List Str} {t : DTS}
theorem fnd_mk (F : FunP K name qual st f) (S : FnScope N ps (defScope st))
    (hb : ∀ (kV doc pm cdv ct : Value) (an : Option Addr) (us : List Value), us.length = ps.length → bindArgs (PySem.W.fnOf name qual (defArgs st) (defBody st) (defScope st) .none kV doc pm an cdv ct) ⟨us, []⟩ = pure (ps.zip us))
    (hbody : ∀ (X : Cx) (W : WX), In P w K mg base N (defScope st) fAll k X W → HPs X → DStms X A W (defBody st) t) :
    FnD P w (cc K A) mg base (k + 1) f (bodySp N.length ps.length t) := by
  obtain ⟨oc, kV, doc, pm, cdv, ct, od, an, osl, lk, cd⟩ := F
  refine fnd_of (c := cc K A) (A0 := A) rfl lk cd S (hb kV doc pm cdv ct an) fun X W e1 e2 e3 e4 e5 e6 e7 e8 e9 e10 e11 e12 hp hr ht => ?_
  have e3' : X.K = K := e3
  have r := hbody X W ⟨e1, e2, e3', e4, e5, e6, e7, funext e9, e8, hr, ht⟩ ⟨hp, e10, e11⟩
  have e : cX X A = cc K A := by
    show (⟨X.K, A.cA, A.cv, A.fl, A.gh, A.w⟩ : Cfg) = ⟨K, A.cA, A.cv, A.fl, A.gh, A.w⟩
    rw [e3']
  rw [← e]
  exact r
theorem FnD.imp {c : Cfg} {sp sp' : DSp} (F : FnD P w c mg base k f sp) (h : ∀ ds S Q E, sp' ds S Q E → sp ds S Q E) : FnD P w c mg base k f sp' :=
  fun A outer s H us vs Q E m e0 r ⟨ds, S, L, Qd, Ed, so, rs, hs, kq, kx⟩ => F A outer s H us vs Q E m e0 r ⟨ds, S, L, Qd, Ed, so, rs, h _ _ _ _ hs, kq, kx⟩
theorem Reps.split {c : Cfg} {L : Lk} {H : Hp} {S : Sto} : ∀ {ws rest : List D} {vs : List V}, Reps c L H S (ws ++ rest) vs → ∃ v1 v2, vs = v1 ++ v2 ∧ Reps c L H S ws v1 ∧ Reps c L H S rest v2
  | [], rest, vs, r => ⟨[], vs, rfl, .nil, r⟩
  | d :: ws, rest, vs, r => by
    obtain ⟨v, us, e, r1, rs⟩ := Reps.of_cons (ds := ws ++ rest) r
    obtain ⟨a, b, e2, r2, r3⟩ := Reps.split rs
    exact ⟨v :: a, b, by rw [e, e2]; rfl, .cons r1 r2, r3⟩
end
end DL
namespace DL
open PySem PySem.Spec PyProof.Rows L2
section
variable {X : Cx} {A : Cla} {W : WX} {e a b e3 o value : Expr} {es rest : List Expr} {pos p apos : Pos} {t u v : DT} {ta : DTA} {R R' : DR2}
theorem pCons (h1 : DE X A W e t) (h2 : DA X A W es ta) (hs : starEach (e :: es) X.env = (false, eval e X.env) :: starEach es X.env := by rfl) : DA X A W (e :: es) (dCons t ta) := da_cons h1 h2 hs
def sokB (z : Str) : Bool := decide (z.length ≤ sizeLine) && z.cps.all (· < 0x110000)
theorem sokB_ok {z : Str} (h : sokB z = true) : SOk z := by
  unfold sokB at h
  rw [Bool.and_eq_true] at h
  exact ⟨of_decide_eq_true h.1, h.2⟩
theorem pStr {z : Str} {j : Nat} (h : sokB z = true) : DE X A W (.Constant (.str z) j pos) (dCst (.str z)) := de_str (sokB_ok h)
theorem pBin {op : Operator} (m : Bool) (ha : DE X A W a t) (hb : DE X A W b u) : DE X A W (.BinOp a op b pos) (dOp (rBin m op) t u) := de_op (opd_bin op) ha hb
theorem pNeg (ha : DE X A W a t) : DE X A W (.UnaryOp .USub a pos) (dUn rNeg t) := de_un und_neg ha
theorem pCmpT {op : CmpOp} {k : Nat} (m : Rm k X.A) (ha : DE X A W a t) (hb : DE X A W b u) (hm : behindInMarks op b = false := by first | exact nobehind _ (by decide) (by decide) | rfl) : DTst X A W (.Compare a [op] [b] pos) (dTst (dOp (rCmp op) t u)) := dt_cmp (opd_cmp m op) ha hb hm
theorem pVal (h : DE X A W e t) (he : ∀ whole, isTrue e X.env whole = (do let v ← whole; standAt e.pos; holding [v] (truthy v)) := by intro _; rfl) : DTst X A W e (dTst t) := dt_val h he
theorem pIdx (ha : DE X A W a t) (hb : DE X A W b u) (hs : PlainIx b := by intro _ _; rfl) : DE X A W (.Subscript a b pos) (dOp rIdx t u) := de_idx ha hb hs
theorem pExpr (he : DE X A W e t) (hs : swapsWith e none pos.line X.env = pure false := by rfl) : DStm X A W (.Expr e pos) (sDrop t) := ds_expr he hs
theorem pSub {i : Expr} (ho : DE X A W o t) (hi : DE X A W i u) (ha : ∀ v, assign (.Subscript o i pos) X.env v = (do
      let ov ← holding [v] (eval o X.env)
      let iv ← holding [v, ov] (eval i X.env)
      standAt pos
      holding [v, ov, iv] (setItem ov iv v)
      release [v, ov, iv] []) := by intro _; rfl) : DTgt X A W (.Subscript o i pos) (gSubD t u) := dg_sub ho hi ha
theorem pAppend (ho : DE X A W o t) (ha : DA X A W (e :: es) ta) (hbase : attributeBase o "append" X.env (eval o X.env) = eval o X.env := by rfl)
    (hfew : ((backTo pos (starEach (e :: es) X.env)).all (fun x => !x.1) && (backToKw pos (keywordEach [] X.env)).all (fun x => x.1.isSome)
      && decide ((e :: es).length + ([] : List Keyword).length + (if ([] : List Keyword).isEmpty then 0 else 1) < 30)) = true := by rfl)
    (hline : (apos.endLine == pos.line) = true := by rfl) (hs : starEach (e :: es) X.env = (false, eval e X.env) :: starEach es X.env := by rfl) (hplain : (backTo pos (starEach es X.env)).any (·.1) = false := by rfl) :
    DE X A W (.Call (.Attribute o "append" apos) (e :: es) [] pos) (dMt mAppend t ta) := de_bm PySem.F.slot_list_append PySem.F.type_list_append md_append ho ha hbase hfew hline hs hplain
end
end DL
namespace DL
open PySem PySem.Spec PyProof.Rows L2
theorem forGo_inv {g : DTG} {G : Sto → Prop} {body : DTS} {DD : DEnds} (xs : List D) (J : Nat → DSt → Sto → Prop) {ρ : DSt} {S : Sto} (h0 : J 0 ρ S)
    (hs : ∀ i x ρ S (Kn : DP), xs[i]? = some x → J i ρ S → (∀ ρ' S', J (i + 1) ρ' S' → Kn ρ' S') → G S ∧ g x ρ S (fun ρ1 S1 => body { DD with nx := Kn, ct := Kn, bk := DD.nx } ρ1 S1) (DD.xx ρ))
    (hq : ∀ ρ S, J xs.length ρ S → G S ∧ DD.nx ρ S) : forGo g G body DD xs ρ S := by
  have gen : ∀ (n : Nat) (ys : List D) (i : Nat) (ρ : DSt) (S : Sto), ys = xs.drop i → ys.length = n → i ≤ xs.length → J i ρ S → forGo g G body DD ys ρ S := by
    intro n
    induction n with
    | zero =>
      intro ys i ρ S e hn hi j
      have hy : ys = [] := List.length_eq_zero_iff.mp hn
      subst hy
      have : xs.length ≤ i := by
        have := congrArg List.length e
        rw [List.length_drop] at this
        simp at this
        omega
      have ei : i = xs.length := by omega
      subst ei
      exact hq ρ S j
    | succ n ih =>
      intro ys i ρ S e hn hi j
      cases ys with
      | nil => cases hn
      | cons y ys =>
        have hlt : i < xs.length := by
          have := congrArg List.length e
          rw [List.length_drop] at this
          simp at this hn
          omega
        rw [List.drop_eq_getElem_cons hlt] at e
        injection e with e1 e2
        have hg : xs[i]? = some y := by rw [List.getElem?_eq_getElem hlt, e1]
        exact hs i y ρ S (forGo g G body DD ys) hg j fun ρ' S' j' => ih ys (i + 1) ρ' S' e2 (by simpa using hn) hlt j'
  exact gen _ xs 0 ρ S rfl rfl (Nat.zero_le _) h0
def BagOk (a b : Int) : Prop := 0 ≤ a ∧ 0 ≤ b ∧ b < 2147483648
/-- the store: the bag's numbers changed, new objects -/
def Bg (p : Addr) (S S' : Sto) : Prop := (∃ a b, BagOk a b ∧ S' p = some (.lst [.int a, .int b])) ∧ ∀ q, q ≠ p → S q ≠ none → S' q = S q
theorem Bg.trans {p : Addr} {S S1 S2 : Sto} (h : Bg p S S1) (h2 : Bg p S1 S2) : Bg p S S2 := ⟨h2.1, fun q n z => (h2.2 q n (by rw [h.2 q n z]; exact z)).trans (h.2 q n z)⟩
theorem Bg.refl {p : Addr} {S : Sto} {a b : Int} (h : S p = some (.lst [.int a, .int b])) (k : BagOk a b) : Bg p S S := ⟨⟨a, b, k, h⟩, fun _ _ _ => rfl⟩
theorem Bg.at_ {p : Addr} {S S' : Sto} (h : Bg p S S') : ∃ a b, BagOk a b ∧ S' p = some (.lst [.int a, .int b]) := h.1
theorem Bg.off {p q : Addr} {S S' : Sto} (n : q ≠ p) {o : MO} (z : S q = some o) (h : Bg p S S') : S' q = some o := (h.2 q n (by rw [z]; exact fun e => by cases e)).trans z
theorem Bg.num {p : Addr} {S : Sto} {a b : Int} (k : BagOk a b) : Bg p S (S.set p (.lst [.int a, .int b])) := ⟨⟨a, b, k, Sto.set_same⟩, fun q n _ => Sto.set_ne n⟩
theorem Bg.ne {p q : Addr} {S S' : Sto} (h : Bg p S S') (hq : S' q = none) : q ≠ p := fun e => by
  obtain ⟨a, b, _, z⟩ := h.1
  rw [e, z] at hq
  cases hq
theorem Bg.no {p q : Addr} {S S' : Sto} (h : Bg p S S') (hq : S' q = none) : S q = none := by
  cases e : S q with
  | none => rfl
  | some o =>
    have := h.off (h.ne hq) e
    rw [hq] at this
    cases this
theorem Bg.wr {p q : Addr} {S S' : Sto} {o : MO} (h : Bg p S S') (n : q ≠ p) (hn : S q = none) : Bg p S (S'.set q o) := by
  obtain ⟨⟨a, b, k, z⟩, r⟩ := h
  refine ⟨⟨a, b, k, by rw [Sto.set_ne (Ne.symm n)]; exact z⟩, fun x nx sx => ?_⟩
  have : x ≠ q := fun e => sx (by rw [e]; exact hn)
  rw [Sto.set_ne this]
  exact r x nx sx
theorem Bg.new {p q : Addr} {S S' : Sto} {o : MO} (h : Bg p S S') (hq : S' q = none) : Bg p S (S'.set q o) := h.wr (h.ne hq) (h.no hq)
section
variable {S : Sto} {Q : DQ} {E : DX} {i j : Int} {a b : Str} {xs ys : List D} {p : Addr} {x y : D} {m : Bool}
theorem x_lt : rCmp .Lt (.int i) (.int j) S Q E = Q (.bl (decide (i < j))) S := rfl
theorem x_le : rCmp .LtE (.int i) (.int j) S Q E = Q (.bl (decide (i ≤ j))) S := rfl
theorem x_gt : rCmp .Gt (.int i) (.int j) S Q E = Q (.bl (decide (j < i))) S := rfl
theorem x_ge : rCmp .GtE (.int i) (.int j) S Q E = Q (.bl (decide (j ≤ i))) S := rfl
theorem beqD {α : Type} [DecidableEq α] [BEq α] [LawfulBEq α] (a b : α) : (a == b) = decide (a = b) := by
  by_cases e : a = b
  · rw [e]; simp
  · rw [decide_eq_false e]; exact beq_eq_false_iff_ne.mpr e
theorem x_eqi : rCmp .Eq (.int i) (.int j) S Q E = Q (.bl (decide (i = j))) S := by
  show ((view S (.int i)).dat 32 = true ∧ (view S (.int j)).dat 32 = true ∧ Q (.bl (PyData.eqv (.int i) (.int j))) S) = _
  have e1 : (view S (.int i)).dat 32 = true := rfl
  have e2 : (view S (.int j)).dat 32 = true := rfl
  have e3 : PyData.eqv (.int i) (.int j) = decide (i = j) := beqD _ _
  rw [e1, e2, e3]
  simp
theorem x_nei : rCmp .NotEq (.int i) (.int j) S Q E = Q (.bl (!decide (i = j))) S := by
  show ((view S (.int i)).dat 32 = true ∧ (view S (.int j)).dat 32 = true ∧ Q (.bl (!PyData.eqv (.int i) (.int j))) S) = _
  have e1 : (view S (.int i)).dat 32 = true := rfl
  have e2 : (view S (.int j)).dat 32 = true := rfl
  have e3 : PyData.eqv (.int i) (.int j) = decide (i = j) := beqD _ _
  rw [e1, e2, e3]
  simp
theorem x_eqs : rCmp .Eq (.str a) (.str b) S Q E = Q (.bl (decide (a = b))) S := by
  show ((view S (.str a)).dat 32 = true ∧ (view S (.str b)).dat 32 = true ∧ Q (.bl (PyData.eqv (.str a) (.str b))) S) = _
  have e1 : (view S (.str a)).dat 32 = true := rfl
  have e2 : (view S (.str b)).dat 32 = true := rfl
  have e3 : PyData.eqv (.str a) (.str b) = decide (a = b) := beqD _ _
  rw [e1, e2, e3]
  simp
theorem x_nes : rCmp .NotEq (.str a) (.str b) S Q E = Q (.bl (!decide (a = b))) S := by
  show ((view S (.str a)).dat 32 = true ∧ (view S (.str b)).dat 32 = true ∧ Q (.bl (!PyData.eqv (.str a) (.str b))) S) = _
  have e1 : (view S (.str a)).dat 32 = true := rfl
  have e2 : (view S (.str b)).dat 32 = true := rfl
  have e3 : PyData.eqv (.str a) (.str b) = decide (a = b) := beqD _ _
  rw [e1, e2, e3]
  simp
theorem x_ner {p q : PyData} : rCmp .NotEq (.rp p) (.rp q) S Q E = Q (.bl (!decide (p.shown = q.shown))) S := rfl
theorem x_eqr {p q : PyData} : rCmp .Eq (.rp p) (.rp q) S Q E = Q (.bl (decide (p.shown = q.shown))) S := rfl
theorem x_in : rCmp .In (.str a) (.str b) S Q E = Q (.bl (inStr a b)) S := rfl
theorem x_nin : rCmp .NotIn (.str a) (.str b) S Q E = Q (.bl (!inStr a b)) S := rfl
theorem x_is : rCmp .Is x .non S Q E = Q (.bl x.isN) S := by show (D.non = D.non ∧ _) = _; simp
theorem x_isnt : rCmp .IsNot x .non S Q E = Q (.bl (!x.isN)) S := by show (D.non = D.non ∧ _) = _; simp
theorem x_add : rBin m .Add (.int i) (.int j) S Q E = Q (.int (i + j)) S := rfl
theorem x_adds : rBin m .Add (.str a) (.str b) S Q E = (a.length + b.length ≤ sizeLine ∧ Q (.str (a ++ b)) S) := rfl
theorem x_addt : rBin m .Add (.tup xs) (.tup ys) S Q E = (xs.length + ys.length ≤ sizeLine ∧ Q (.tup (xs ++ ys)) S) := rfl
theorem x_addl : rBin false .Add (.lst xs) (.lst ys) S Q E = (xs.length + ys.length ≤ sizeLine ∧ Q (.lst (xs ++ ys)) S) := by
  show (∃ a b, seqM S (.lst xs) = some a ∧ seqM S (.lst ys) = some b ∧ a.length + b.length ≤ sizeLine ∧ mkL false (a ++ b) S Q) = _
  simp [seqM, seqL, mkL]
theorem x_sub : rBin m .Sub (.int i) (.int j) S Q E = Q (.int (i - j)) S := by show (∃ i' j', D.int i = D.int i' ∧ D.int j = D.int j' ∧ _) = _; simp
theorem x_mul : rBin m .Mult (.int i) (.int j) S Q E = (MulOk i j ∧ Q (.int (i * j)) S) := rfl
theorem x_div : rBin m .FloorDiv (.int i) (.int j) S Q E = (DivOk j ∧ Q (.int (i / j)) S) := by show (∃ i' j', D.int i = D.int i' ∧ D.int j = D.int j' ∧ _) = _; simp
theorem x_mod : rBin m .Mod (.int i) (.int j) S Q E = (0 < j ∧ Q (.int (i % j)) S) := by show (∃ i' j', D.int i = D.int i' ∧ D.int j = D.int j' ∧ _) = _; simp
theorem x_pow : rBin m .Pow (.int i) (.int j) S Q E = (0 ≤ j ∧ j ≤ 1000000 ∧ -18446744073709551616 < i ∧ i < 18446744073709551616 ∧ Q (.int (i ^ j.toNat)) S) := by
  apply propext
  constructor
  · rintro ⟨i', j', e1, e2, ⟨h1, h2, h3⟩, h⟩
    cases e1
    cases e2
    exact ⟨h1, h2, by omega, by omega, h⟩
  · rintro ⟨h1, h2, h3, h4, h⟩
    exact ⟨i, j, rfl, rfl, ⟨h1, h2, by omega⟩, h⟩
theorem x_neg : rNeg (.int i) S Q E = Q (.int (-i)) S := by show (∃ i', D.int i = D.int i' ∧ _) = _; simp
theorem x_int : rInt [.int i] S Q E = Q (.int i) S := by show (∃ x n, [D.int i] = [x] ∧ intD x = some n ∧ _) = _; simp [intD]
theorem x_abs : rAbs [.int i] S Q E = Q (.int (if i < 0 then -i else i)) S := by show (∃ i', [D.int i] = [D.int i'] ∧ _) = _; simp
theorem x_max : rMax [.int i, .int j] S Q E = Q (.int (if j > i then j else i)) S := by
  apply propext
  constructor
  · rintro ⟨i', j', e, h⟩
    cases e
    exact h
  · exact fun h => ⟨i, j, rfl, h⟩
theorem x_min : rMin [.int i, .int j] S Q E = Q (.int (if j < i then j else i)) S := by
  apply propext
  constructor
  · rintro ⟨i', j', e, h⟩
    cases e
    exact h
  · exact fun h => ⟨i, j, rfl, h⟩
theorem x_len : rLen [x] S Q E = ∃ n, lenD S x = some n ∧ Q (.int (n : Nat)) S := by show (∃ x' n, [x] = [x'] ∧ _) = _; simp
theorem len_str : lenD S (.str a) = some a.length := rfl
theorem len_tup : lenD S (.tup xs) = some xs.length := rfl
theorem len_lst : lenD S (.lst xs) = some xs.length := rfl
theorem len_cst : lenD S (.cst xs) = some xs.length := rfl
theorem x_idxs : rIdx (.str a) (.int i) S Q E = ∃ k, atI a.cps.toList i = some k ∧ Q (chD k) S := by show (∃ i' k, D.int i = D.int i' ∧ _) = _; simp
theorem x_idxt : rIdx (.tup xs) (.int i) S Q E = ∃ d, atI xs i = some d ∧ Q d S := by show (∃ ds i' d, some xs = some ds ∧ D.int i = D.int i' ∧ _) = _; simp
theorem x_idxl : rIdx (.lst xs) (.int i) S Q E = ∃ d, atI xs i = some d ∧ Q d S := by show (∃ ds i' d, some xs = some ds ∧ D.int i = D.int i' ∧ _) = _; simp
theorem x_idxc : rIdx (.cst xs) (.int i) S Q E = ∃ d, atI xs i = some d ∧ Q d S := by show (∃ ds i' d, some xs = some ds ∧ D.int i = D.int i' ∧ _) = _; simp
theorem x_idxr : rIdx (.ref p) (.int i) S Q E = ∃ xs, S p = some (.lst xs) ∧ ∃ d, atI xs i = some d ∧ Q d S := by
  show (∃ ds i' d, (match S p with | some (.lst xs) => some xs | _ => none) = some ds ∧ D.int i = D.int i' ∧ _) = _
  cases h : S p with
  | none => simp
  | some o => cases o <;> simp
theorem x_isi {T : Isi} {t : Ty} : rIsiD T [x, .ty t] S Q E = ∃ a, tyN S x = some a ∧ ∃ r, T.lookup (a, t) = some r ∧ Q (.bl r) S := by
  show (∃ x' t' b a r, [x, D.ty t] = [x', D.ty b] ∧ t' = b ∧ _) = _
  simp only [List.cons.injEq, D.ty.injEq, and_true]
  apply propext
  constructor
  · rintro ⟨x', t', b, a, r, ⟨e1, e2⟩, e3, e4, e5, e6⟩
    subst e1 e2
    exact ⟨a, e4, r, e5, e6⟩
  · rintro ⟨a, e4, r, e5, e6⟩
    exact ⟨x, t, t, a, r, ⟨rfl, rfl⟩, rfl, e4, e5, e6⟩
theorem ty_str : tyN S (.str a) = some .str := rfl
theorem ty_int : tyN S (.int i) = some .int := rfl
theorem ty_bl {k : Bool} : tyN S (.bl k) = some .bl := rfl
theorem ty_non : tyN S .non = some .non := rfl
theorem ty_tup : tyN S (.tup xs) = some .tup := rfl
theorem ty_lst : tyN S (.lst xs) = some .lst := rfl
theorem ty_cst : tyN S (.cst xs) = some .lst := rfl
theorem ty_ins {C : Nat} : tyN S (.ins C xs) = some (.own C) := rfl
theorem tr_bl {k : Bool} : truth S (.bl k) = some k := rfl
theorem tr_int : truth S (.int i) = some (i != 0) := rfl
theorem tr_str : truth S (.str a) = some ((a.length : Int) != 0) := rfl
theorem tr_tup : truth S (.tup xs) = some (!xs.isEmpty) := rfl
theorem tr_lst : truth S (.lst xs) = some (!xs.isEmpty) := rfl
theorem tr_non : truth S .non = some false := rfl
theorem x_frz {o : MO} {ρ : DSt} {t : DT} : dFrz t ρ S Q E = t ρ S (fun d S1 => ∃ p o, d = .ref p ∧ S1 p = some o ∧ Q (freezeD p o) (S1.del p)) E := rfl
theorem x_all {bs : List Bool} : rAllD [.lst (bs.map D.bl)] S Q E = Q (.bl (bs.all id)) S := by
  show (∃ (x : D) (bs' : List Bool), [D.lst (bs.map D.bl)] = [x] ∧ seqL S x = some (bs'.map D.bl) ∧ _) = _
  apply propext
  constructor
  · rintro ⟨x, bs', e, e2, h⟩
    injection e with e _
    subst e
    have e3 : bs.map D.bl = bs'.map D.bl := Option.some.inj e2
    have inj : ∀ (l r : List Bool), l.map D.bl = r.map D.bl → l = r := by
      intro l
      induction l with
      | nil => intro r h; cases r with
        | nil => rfl
        | cons _ _ => cases h
      | cons u us ih => intro r h; cases r with
        | nil => cases h
        | cons w ws =>
          simp only [List.map_cons, List.cons.injEq, D.bl.injEq] at h
          rw [h.1, ih ws h.2]
    rw [inj _ _ e3]
    exact h
  · intro h
    exact ⟨_, bs, rfl, rfl, h⟩
theorem x_ends : mEnds (.str a) (.str b) S Q E = Q (.bl (Txt.endswith a b)) S := by show (∃ a' b', D.str a = D.str a' ∧ D.str b = D.str b' ∧ _) = _; simp
theorem x_starts : mStarts (.str a) (.str b) S Q E = Q (.bl (Txt.startswith a b)) S := by show (∃ a' b', D.str a = D.str a' ∧ D.str b = D.str b' ∧ _) = _; simp
theorem at_0 {α : Type} {x : α} {xs : List α} : atI (x :: xs) 0 = some x := by
  unfold atI ixN
  simp
theorem at_nat {α : Type} {xs : List α} {k : Nat} {x : α} (h : xs[k]? = some x) : atI xs (k : Nat) = some x := by
  unfold atI ixN
  have hk := (List.getElem?_eq_some_iff.mp h).1
  have h2 : ((k : Nat) : Int) < (xs.length : Int) := by omega
  simp [h2, h]
theorem at_1 {α : Type} {x y : α} {xs : List α} : atI (x :: y :: xs) 1 = some y := at_nat (k := 1) rfl
theorem at_2 {α : Type} {x y z : α} {xs : List α} : atI (x :: y :: z :: xs) 2 = some z := at_nat (k := 2) rfl
theorem at_in {α : Type} {xs : List α} {i : Int} (h0 : 0 ≤ i) (h1 : i < xs.length) : ∃ x, atI xs i = some x ∧ x ∈ xs := by
  obtain ⟨k, rfl⟩ := Int.eq_ofNat_of_zero_le h0
  have hk : k < xs.length := by omega
  exact ⟨xs[k], at_nat (List.getElem?_eq_getElem hk), List.getElem_mem hk⟩
theorem ix_0 : ixN 2 0 = some 0 := by decide
theorem ix_1 : ixN 2 1 = some 1 := by decide
theorem x_spr {n k : Nat} {t : DTS} {ds : List D} : bodySp n k t ds S Q E = (ds.length = k ∧ t { nx := fun _ S' => Q .non S', rt := Q, xx := fun _ => E } (startD n ds) S) := rfl
theorem si_str : seqI S (.str a) = some (a.cps.toList.map chD, noG) := rfl
theorem si_tup : seqI S (.tup xs) = some (xs, noG) := rfl
theorem si_lst : seqI S (.lst xs) = some (xs, noG) := rfl
theorem si_cst : seqI S (.cst xs) = some (xs, noG) := rfl
theorem x_slcs {lo hi : Option Int} : rSlc m (.str a) lo hi S Q = Q (.str (cutS a lo hi)) S := rfl
theorem x_slct {lo hi : Option Int} : rSlc m (.tup xs) lo hi S Q = Q (.tup (cutD xs lo hi)) S := rfl
theorem x_slcl {lo hi : Option Int} : rSlc m (.lst xs) lo hi S Q = mkL m (cutD xs lo hi) S Q := by
  show (∃ a, some xs = some a ∧ _) = _
  simp
theorem x_slcc {lo hi : Option Int} : rSlc m (.cst xs) lo hi S Q = mkL m (cutD xs lo hi) S Q := by
  show (∃ a, some xs = some a ∧ _) = _
  simp
theorem cutD_mem {α : Type} {xs : List α} {lo hi : Option Int} {x : α} (h : x ∈ cutD xs lo hi) : x ∈ xs := by
  unfold cutD at h
  exact List.mem_of_mem_drop (List.mem_of_mem_take h)
theorem lt_line {n : Nat} (h : n ≤ 10000000) : n ≤ sizeLine := by
  have : sizeLine = 2 ^ 24 := rfl
  rw [this]
  omega
theorem x_app : mAppend (.ref p) [y] S Q = ∃ xs, S p = some (.lst xs) ∧ xs.length < sizeLine ∧ Q .non (S.set p (.lst (xs ++ [y]))) := by
  apply propext
  constructor
  · rintro ⟨p', xs, y', e1, e2, h⟩
    cases e1
    cases e2
    exact ⟨xs, h⟩
  · rintro ⟨xs, h⟩
    exact ⟨p, xs, y, rfl, rfl, h⟩
theorem x_pop : mPopAt (.ref p) [.int i] S Q = ∃ xs, S p = some (.lst xs) ∧ -(2 ^ 63) ≤ i ∧ i < 2 ^ 63 ∧ ∃ k y, seqIndex? i xs.length = some k ∧ xs[k]? = some y ∧ Q y (S.set p (.lst (xs.eraseIdx k))) := by
  apply propext
  constructor
  · rintro ⟨p', xs, i', k, y', e1, e2, h1, h2, h3, h4, h5, h6⟩
    cases e1
    cases e2
    exact ⟨xs, h1, h2, h3, k, y', h4, h5, h6⟩
  · rintro ⟨xs, h1, h2, h3, k, y', h4, h5, h6⟩
    exact ⟨p, xs, i, k, y', rfl, rfl, h1, h2, h3, h4, h5, h6⟩
theorem x_isref : (∃ p' xs, D.ref p = .ref p' ∧ S p' = some (.lst xs)) = ∃ xs, S p = some (.lst xs) := by
  apply propext
  constructor
  · rintro ⟨p', xs, e, h⟩
    cases e
    exact ⟨xs, h⟩
  · rintro ⟨xs, h⟩
    exact ⟨p, xs, rfl, h⟩
end
end DL
namespace DL
open PySem PySem.Spec PyProof.Rows L2
theorem mul_ok {i j : Int} (h1 : i.natAbs < 2 ^ 64) (h2 : j.natAbs < 2 ^ 64) : MulOk i j := by
  unfold MulOk
  have a : ∀ n : Nat, n < 2 ^ 64 → n.log2 < 64 := fun n h => by
    by_cases e : n = 0
    · subst e; decide
    · exact (Nat.log2_lt e).mpr h
  have := a _ h1
  have := a _ h2
  omega
theorem div_ok {j : Int} (h0 : 0 < j) (h2 : j.natAbs < 2 ^ 64) : DivOk j := by
  refine ⟨h0, ?_⟩
  have : j.natAbs.log2 < 64 := (Nat.log2_lt (by omega)).mpr h2
  omega
/-- a number from 0 to many - 1 is drawn -/
def sp_draw : DSp := fun ds S Q _ => ∃ (p : Addr) (many : Int), ds = [.ref p, .int many] ∧ 0 < many ∧ many < 2 ^ 64 ∧ Bg p S S ∧ ∀ r S', Bg p S S' → 0 ≤ r → r < many → Q (.int r) S'
/-- the bag is made -/
def sp_bag : DSp := fun ds S Q _ => ∃ (ns : List Int) (at_ : Int), ds = [.cst (ns.map D.int), .int at_] ∧ 0 ≤ at_ ∧ at_ < 100 ∧ ns.length ≤ 63 ∧ ∀ p S', S p = none → Bg p S S' → Q (.ref p) S'
end DL
namespace DL
open PySem PySem.Spec PyProof.Rows L2
def R_pot (s0 mm : Int) : DTS := sSeq (sAsg (dIf (dOp (rCmp .Lt) (dVar 1) (dCB rLen (dCons (dVar 0) (dNil)))) (dCB rAbs (dCons (dOp rIdx (dVar 0) (dVar 1)) (dNil))) (dCst (.int 0))) (gNm 2)) (sSeq (sAsg (dOp (rBin false .Add) (dCst (.int s0)) (dOp (rBin false .Mult) (dCst (.int 31)) (dVar 1))) (gNm 3)) (sSeq (sFor (iSeqD (dSlc false (dVar 0) none (some (dCst (.int 63))))) (gOf (.nm 4)) (sSeq (sAsg (dOp (rBin false .Mod) (dCB rInt (dCons (dOp (rBin false .Add) (dOp (rBin false .Add) (dOp (rBin false .Mult) (dVar 3) (dCst (.int mm))) (dOp (rBin false .Mod) (dCB rInt (dCons (dVar 4) (dNil))) (dCst (.int 2147483629)))) (dCst (.int 11))) (dNil))) (dCst (.int 2147483647))) (gNm 3)) (sNext))) (sSeq (sRet (dLst true (dCons (dIf (dOp (rCmp .GtE) (dVar 2) (dOp (rBin true .Pow) (dCst (.int 10)) (dCst (.int 18)))) (dVar 2) (dCst (.int 0))) (dCons (dVar 3) (dNil))))) (sNext))))
def R_drawP (ma ad : Int) : DTS := sSeq (sIf (dOp (rCmp .Gt) (dOp rIdx (dVar 0) (dCst (.int 0))) (dCst (.int 0))) (sSeq (sAsg (dOp (rBin false .Mod) (dCB rInt (dCons (dOp rIdx (dVar 0) (dCst (.int 0))) (dNil))) (dVar 1)) (gNm 2)) (sSeq (sAsg (dOp (rBin false .FloorDiv) (dOp rIdx (dVar 0) (dCst (.int 0))) (dVar 1)) (gSubD (dVar 0) (dCst (.int 0)))) (sSeq (sRet (dVar 2)) (sNext)))) (sNext)) (sSeq (sAsg (dOp (rBin false .Mod) (dCB rInt (dCons (dOp (rBin false .Add) (dOp (rBin false .Mult) (dOp rIdx (dVar 0) (dCst (.int 1))) (dCst (.int ma))) (dCst (.int ad))) (dNil))) (dCst (.int 2147483647))) (gSubD (dVar 0) (dCst (.int 1)))) (sSeq (sRet (dOp (rBin false .Mod) (dOp (rBin false .Mod) (dCB rInt (dCons (dOp (rBin false .FloorDiv) (dOp rIdx (dVar 0) (dCst (.int 1))) (dCst (.int 7))) (dNil))) (dCst (.int 1000003))) (dVar 1))) (sNext)))
theorem drawP_ok {ma ad : Int} (hma : ma.natAbs < 2 ^ 64) (had : 0 ≤ ad) (hm0 : 0 ≤ ma) : ∀ ds S Q E, sp_draw ds S Q E → bodySp 3 2 (R_drawP ma ad) ds S Q E := by
  rintro ds S Q E ⟨p, many, ed, h0, h1, bg, q⟩
  subst ed
  obtain ⟨a, b, ⟨ka, kb, kc⟩, hp⟩ := bg.at_
  unfold R_drawP
  have dm : DivOk many := div_ok h0 (by omega)
  have d7 : DivOk 7 := div_ok (by decide) (by decide)
  have m1 : MulOk b ma := mul_ok (by omega) hma
  have hb2 : 0 ≤ (b * ma + ad) % 2147483647 ∧ (b * ma + ad) % 2147483647 < 2147483647 := ⟨Int.emod_nonneg _ (by decide), Int.emod_lt_of_pos _ (by decide)⟩
  simp only [x_spr, startD, List.map_cons, List.map_nil, List.length_cons, List.length_nil, Nat.reduceAdd, Nat.reduceSub, Int.reduceLT, Int.reduceLE, Int.reduceToNat,  Int.reducePow, Int.reduceNeg, Nat.reduceLT, Nat.reduceLeDiff, Nat.reducePow, List.replicate_succ, List.replicate_zero, List.cons_append, List.nil_append, sSeq, sIf, sRet, sRetN, sNext, sAsg, sDrop, gNm, gOf, Tg.d, Tg.ds, dVar, dCst, dNil, dCons, dOp, dUn, dChain, dBl, dAnd, dOr, dNot, dIf, dTst, dCall, dCB, dLst, dTup, dM1, gSubD, mkL, dYes, dPart, dSlc, iEnumD, iSeqD, iRng1D, iRng2D, sFor, dLc, wipeD, si_str, si_tup, si_lst, si_cst, x_slcs, x_slct, x_slcl, x_slcc, dFld, sFldD, x_frz, dMake, dMt, x_isref, x_app, x_pop,
  x_lt, x_le, x_gt, x_ge, x_eqi, x_nei, x_eqs, x_nes, x_ner, x_eqr, x_in, x_nin, x_is, x_isnt, x_add, x_adds, x_addt, x_addl, x_sub, x_mul, x_div, x_mod, x_pow, x_neg, x_int, x_abs, x_max, x_min, x_len, len_str, len_tup, len_lst, len_cst, x_idxs, x_idxt, x_idxl, x_idxc, x_idxr, x_isi, ty_str, ty_int, ty_bl, ty_non, ty_tup, ty_lst, ty_cst, ty_ins, tr_bl, tr_int, tr_str, tr_tup, tr_lst, tr_non, x_all, x_ends, x_starts, at_0, at_1, at_2, ix_0, ix_1,
  List.getElem?_cons_zero, List.getElem?_cons_succ, List.getElem?_nil, List.set_cons_zero, List.set_cons_succ, List.set_nil, Option.some.injEq, exists_eq_left', exists_eq_left, exists_and_left, Bool.false_eq_true, if_false, if_true, D.int.injEq, D.bl.injEq, D.ref.injEq, D.str.injEq, D.lst.injEq, D.tup.injEq, MO.lst.injEq, MO.ins.injEq, List.cons.injEq, Prod.mk.injEq, and_true, true_and, and_assoc, decide_eq_true_eq, Sto.set_same, Sto.set_set, reduceCtorEq, false_and, exists_false, false_or, or_false, ne_eq, not_false_eq_true, exists_eq', Bool.not_true, Bool.not_false, Bool.not_eq_true', decide_eq_false_iff_not, hp, dm, d7, m1, h0]
  by_cases ha : 0 < a
  · rw [if_pos ha]
    exact q _ _ (Bg.num ⟨Int.ediv_nonneg ka (by omega), kb, kc⟩) (Int.emod_nonneg _ (by omega)) (Int.emod_lt_of_pos _ h0)
  · rw [if_neg ha]
    exact q _ _ (Bg.num ⟨ka, hb2.1, by omega⟩) (Int.emod_nonneg _ (by omega)) (Int.emod_lt_of_pos _ h0)
theorem pot_ok {s0 mm : Int} (hs0 : 0 ≤ s0) (hs1 : s0 < 100000) (hmm : mm.natAbs < 2 ^ 64) (hm0 : 0 ≤ mm) : ∀ ds S Q E, sp_bag ds S Q E → bodySp 5 2 (R_pot s0 mm) ds S Q E := by
  rintro ds S Q E ⟨ns, at_, ed, h0, h1, hl, q⟩
  subst ed
  unfold R_pot
  have m1 : MulOk 31 at_ := mul_ok (by decide) (by omega)
  have loop : ∀ (c : Int), (0 ≤ c → ∀ (v4 : Option D) (m : Int) (p : Addr), 0 ≤ m → m < 2147483648 → S p = none → Q (.ref p) (S.set p (.lst [.int (if (1000000000000000000 : Int) ≤ c then c else 0), .int m]))) → 0 ≤ c →
      sFor (iSeqD (dSlc false (dVar 0) none (some (dCst (.int 63))))) (gOf (.nm 4)) (sSeq (sAsg (dOp (rBin false .Mod) (dCB rInt (dCons (dOp (rBin false .Add) (dOp (rBin false .Add) (dOp (rBin false .Mult) (dVar 3) (dCst (.int mm))) (dOp (rBin false .Mod) (dCB rInt (dCons (dVar 4) (dNil))) (dCst (.int 2147483629)))) (dCst (.int 11))) (dNil))) (dCst (.int 2147483647))) (gNm 3)) (sNext))
        { nx := (sSeq (sRet (dLst true (dCons (dIf (dOp (rCmp .GtE) (dVar 2) (dOp (rBin true .Pow) (dCst (.int 10)) (dCst (.int 18)))) (dVar 2) (dCst (.int 0))) (dCons (dVar 3) (dNil))))) (sNext)) { nx := fun _ S' => Q .non S', rt := Q, xx := fun _ => E }, rt := Q, xx := fun _ => E }
        [some (.cst (ns.map D.int)), some (.int at_), some (.int c), some (.int (s0 + 31 * at_)), none] S := by
    intro c qc hc
    simp only [x_spr, startD, List.map_cons, List.map_nil, List.length_cons, List.length_nil, Nat.reduceAdd, Nat.reduceSub, Int.reduceLT, Int.reduceLE, Int.reduceToNat,  Int.reducePow, Int.reduceNeg, Nat.reduceLT, Nat.reduceLeDiff, Nat.reducePow, List.replicate_succ, List.replicate_zero, List.cons_append, List.nil_append, sSeq, sIf, sRet, sRetN, sNext, sAsg, sDrop, gNm, gOf, Tg.d, Tg.ds, dVar, dCst, dNil, dCons, dOp, dUn, dChain, dBl, dAnd, dOr, dNot, dIf, dTst, dCall, dCB, dLst, dTup, dM1, gSubD, mkL, dYes, dPart, dSlc, iEnumD, iSeqD, iRng1D, iRng2D, sFor, dLc, wipeD, si_str, si_tup, si_lst, si_cst, x_slcs, x_slct, x_slcl, x_slcc, dFld, sFldD, x_frz, dMake, dMt, x_isref, x_app, x_pop,
  x_lt, x_le, x_gt, x_ge, x_eqi, x_nei, x_eqs, x_nes, x_ner, x_eqr, x_in, x_nin, x_is, x_isnt, x_add, x_adds, x_addt, x_addl, x_sub, x_mul, x_div, x_mod, x_pow, x_neg, x_int, x_abs, x_max, x_min, x_len, len_str, len_tup, len_lst, len_cst, x_idxs, x_idxt, x_idxl, x_idxc, x_idxr, x_isi, ty_str, ty_int, ty_bl, ty_non, ty_tup, ty_lst, ty_cst, ty_ins, tr_bl, tr_int, tr_str, tr_tup, tr_lst, tr_non, x_all, x_ends, x_starts, at_0, at_1, at_2, ix_0, ix_1,
  List.getElem?_cons_zero, List.getElem?_cons_succ, List.getElem?_nil, List.set_cons_zero, List.set_cons_succ, List.set_nil, Option.some.injEq, exists_eq_left', exists_eq_left, exists_and_left, Bool.false_eq_true, if_false, if_true, D.int.injEq, D.bl.injEq, D.ref.injEq, D.str.injEq, D.lst.injEq, D.tup.injEq, MO.lst.injEq, MO.ins.injEq, List.cons.injEq, Prod.mk.injEq, and_true, true_and, and_assoc, decide_eq_true_eq, Sto.set_same, Sto.set_set, reduceCtorEq, false_and, exists_false, false_or, or_false, ne_eq, not_false_eq_true, exists_eq', Bool.not_true, Bool.not_false, Bool.not_eq_true', decide_eq_false_iff_not]
    refine forGo_inv _ (fun _ ρ S' => S' = S ∧ ∃ m v4, 0 ≤ m ∧ m < 2147483648 ∧ ρ = [some (.cst (ns.map D.int)), some (.int at_), some (.int c), some (.int m), v4]) ⟨rfl, s0 + 31 * at_, none, by omega, by omega, rfl⟩ ?_ ?_
    · rintro i x ρ S' Kn hx ⟨eS, m, v4, hm0, hm1, eρ⟩ hk
      subst eS eρ
      obtain ⟨z, _, ez⟩ := List.mem_map.mp (cutD_mem (List.mem_of_getElem? hx))
      subst ez
      have k1 : MulOk m mm := mul_ok (by omega) hmm
      simp only [x_spr, startD, List.map_cons, List.map_nil, List.length_cons, List.length_nil, Nat.reduceAdd, Nat.reduceSub, Int.reduceLT, Int.reduceLE, Int.reduceToNat,  Int.reducePow, Int.reduceNeg, Nat.reduceLT, Nat.reduceLeDiff, Nat.reducePow, List.replicate_succ, List.replicate_zero, List.cons_append, List.nil_append, sSeq, sIf, sRet, sRetN, sNext, sAsg, sDrop, gNm, gOf, Tg.d, Tg.ds, dVar, dCst, dNil, dCons, dOp, dUn, dChain, dBl, dAnd, dOr, dNot, dIf, dTst, dCall, dCB, dLst, dTup, dM1, gSubD, mkL, dYes, dPart, dSlc, iEnumD, iSeqD, iRng1D, iRng2D, sFor, dLc, wipeD, si_str, si_tup, si_lst, si_cst, x_slcs, x_slct, x_slcl, x_slcc, dFld, sFldD, x_frz, dMake, dMt, x_isref, x_app, x_pop,
  x_lt, x_le, x_gt, x_ge, x_eqi, x_nei, x_eqs, x_nes, x_ner, x_eqr, x_in, x_nin, x_is, x_isnt, x_add, x_adds, x_addt, x_addl, x_sub, x_mul, x_div, x_mod, x_pow, x_neg, x_int, x_abs, x_max, x_min, x_len, len_str, len_tup, len_lst, len_cst, x_idxs, x_idxt, x_idxl, x_idxc, x_idxr, x_isi, ty_str, ty_int, ty_bl, ty_non, ty_tup, ty_lst, ty_cst, ty_ins, tr_bl, tr_int, tr_str, tr_tup, tr_lst, tr_non, x_all, x_ends, x_starts, at_0, at_1, at_2, ix_0, ix_1,
  List.getElem?_cons_zero, List.getElem?_cons_succ, List.getElem?_nil, List.set_cons_zero, List.set_cons_succ, List.set_nil, Option.some.injEq, exists_eq_left', exists_eq_left, exists_and_left, Bool.false_eq_true, if_false, if_true, D.int.injEq, D.bl.injEq, D.ref.injEq, D.str.injEq, D.lst.injEq, D.tup.injEq, MO.lst.injEq, MO.ins.injEq, List.cons.injEq, Prod.mk.injEq, and_true, true_and, and_assoc, decide_eq_true_eq, Sto.set_same, Sto.set_set, reduceCtorEq, false_and, exists_false, false_or, or_false, ne_eq, not_false_eq_true, exists_eq', Bool.not_true, Bool.not_false, Bool.not_eq_true', decide_eq_false_iff_not, k1]
      refine hk _ _ ⟨rfl, _, _, Int.emod_nonneg _ (by decide), ?_, rfl⟩
      exact Int.lt_trans (Int.emod_lt_of_pos _ (by decide)) (by decide)
    · rintro ρ S' ⟨eS, m, v4, hm0, hm1, eρ⟩
      subst eS eρ
      simp only [x_spr, startD, List.map_cons, List.map_nil, List.length_cons, List.length_nil, Nat.reduceAdd, Nat.reduceSub, Int.reduceLT, Int.reduceLE, Int.reduceToNat,  Int.reducePow, Int.reduceNeg, Nat.reduceLT, Nat.reduceLeDiff, Nat.reducePow, List.replicate_succ, List.replicate_zero, List.cons_append, List.nil_append, sSeq, sIf, sRet, sRetN, sNext, sAsg, sDrop, gNm, gOf, Tg.d, Tg.ds, dVar, dCst, dNil, dCons, dOp, dUn, dChain, dBl, dAnd, dOr, dNot, dIf, dTst, dCall, dCB, dLst, dTup, dM1, gSubD, mkL, dYes, dPart, dSlc, iEnumD, iSeqD, iRng1D, iRng2D, sFor, dLc, wipeD, si_str, si_tup, si_lst, si_cst, x_slcs, x_slct, x_slcl, x_slcc, dFld, sFldD, x_frz, dMake, dMt, x_isref, x_app, x_pop,
  x_lt, x_le, x_gt, x_ge, x_eqi, x_nei, x_eqs, x_nes, x_ner, x_eqr, x_in, x_nin, x_is, x_isnt, x_add, x_adds, x_addt, x_addl, x_sub, x_mul, x_div, x_mod, x_pow, x_neg, x_int, x_abs, x_max, x_min, x_len, len_str, len_tup, len_lst, len_cst, x_idxs, x_idxt, x_idxl, x_idxc, x_idxr, x_isi, ty_str, ty_int, ty_bl, ty_non, ty_tup, ty_lst, ty_cst, ty_ins, tr_bl, tr_int, tr_str, tr_tup, tr_lst, tr_non, x_all, x_ends, x_starts, at_0, at_1, at_2, ix_0, ix_1,
  List.getElem?_cons_zero, List.getElem?_cons_succ, List.getElem?_nil, List.set_cons_zero, List.set_cons_succ, List.set_nil, Option.some.injEq, exists_eq_left', exists_eq_left, exists_and_left, Bool.false_eq_true, if_false, if_true, D.int.injEq, D.bl.injEq, D.ref.injEq, D.str.injEq, D.lst.injEq, D.tup.injEq, MO.lst.injEq, MO.ins.injEq, List.cons.injEq, Prod.mk.injEq, and_true, true_and, and_assoc, decide_eq_true_eq, Sto.set_same, Sto.set_set, reduceCtorEq, false_and, exists_false, false_or, or_false, ne_eq, not_false_eq_true, exists_eq', Bool.not_true, Bool.not_false, Bool.not_eq_true', decide_eq_false_iff_not]
      by_cases h : (1000000000000000000 : Int) ≤ c
      · rw [if_pos h]
        refine ⟨lt_line (by decide), fun p hp => ?_⟩
        have := qc hc v4 m p hm0 hm1 hp
        rw [if_pos h] at this
        exact this
      · rw [if_neg h]
        refine ⟨lt_line (by decide), fun p hp => ?_⟩
        have := qc hc v4 m p hm0 hm1 hp
        rw [if_neg h] at this
        exact this
  have fin : ∀ c : Int, 0 ≤ c → ∀ (v4 : Option D) (m : Int) (p : Addr), 0 ≤ m → m < 2147483648 → S p = none → Q (.ref p) (S.set p (.lst [.int (if (1000000000000000000 : Int) ≤ c then c else 0), .int m])) := fun c hc _ m p h0 h1 hp =>
    q p _ hp (Bg.num ⟨by split <;> omega, h0, h1⟩)
  have step : ∀ c : Int, 0 ≤ c → _ := fun c hc => loop c (fun _ => fin c hc) hc
  clear loop fin
  by_cases hlt : at_ < ((ns.map D.int).length : Int)
  · obtain ⟨d, hd, hm⟩ := at_in h0 hlt
    obtain ⟨z, _, ez⟩ := List.mem_map.mp hm
    subst ez
    have st := step (if z < 0 then -z else z) (by split <;> omega)
    clear step
    show ([D.cst (ns.map D.int), D.int at_].length = 2 ∧ _)
    refine ⟨rfl, ?_⟩
    show dIf _ _ _ _ _ _ _
    simp only [x_spr, startD, List.map_cons, List.map_nil, List.length_cons, List.length_nil, Nat.reduceAdd, Nat.reduceSub, Int.reduceLT, Int.reduceLE, Int.reduceToNat,  Int.reducePow, Int.reduceNeg, Nat.reduceLT, Nat.reduceLeDiff, Nat.reducePow, List.replicate_succ, List.replicate_zero, List.cons_append, List.nil_append, sSeq, sIf, sRet, sRetN, sNext, sAsg, sDrop, gNm, gOf, Tg.d, Tg.ds, dVar, dCst, dNil, dCons, dOp, dUn, dChain, dBl, dAnd, dOr, dNot, dIf, dTst, dCall, dCB, dLst, dTup, dM1, gSubD, mkL, dYes, dPart, dSlc, iEnumD, iSeqD, iRng1D, iRng2D, sFor, dLc, wipeD, si_str, si_tup, si_lst, si_cst, x_slcs, x_slct, x_slcl, x_slcc, dFld, sFldD, x_frz, dMake, dMt, x_isref, x_app, x_pop,
  x_lt, x_le, x_gt, x_ge, x_eqi, x_nei, x_eqs, x_nes, x_ner, x_eqr, x_in, x_nin, x_is, x_isnt, x_add, x_adds, x_addt, x_addl, x_sub, x_mul, x_div, x_mod, x_pow, x_neg, x_int, x_abs, x_max, x_min, x_len, len_str, len_tup, len_lst, len_cst, x_idxs, x_idxt, x_idxl, x_idxc, x_idxr, x_isi, ty_str, ty_int, ty_bl, ty_non, ty_tup, ty_lst, ty_cst, ty_ins, tr_bl, tr_int, tr_str, tr_tup, tr_lst, tr_non, x_all, x_ends, x_starts, at_0, at_1, at_2, ix_0, ix_1,
  List.getElem?_cons_zero, List.getElem?_cons_succ, List.getElem?_nil, List.set_cons_zero, List.set_cons_succ, List.set_nil, Option.some.injEq, exists_eq_left', exists_eq_left, exists_and_left, Bool.false_eq_true, if_false, if_true, D.int.injEq, D.bl.injEq, D.ref.injEq, D.str.injEq, D.lst.injEq, D.tup.injEq, MO.lst.injEq, MO.ins.injEq, List.cons.injEq, Prod.mk.injEq, and_true, true_and, and_assoc, decide_eq_true_eq, Sto.set_same, Sto.set_set, reduceCtorEq, false_and, exists_false, false_or, or_false, ne_eq, not_false_eq_true, exists_eq', Bool.not_true, Bool.not_false, Bool.not_eq_true', decide_eq_false_iff_not, m1] at st ⊢
    rw [if_pos hlt, hd]
    simp only [x_spr, startD, List.map_cons, List.map_nil, List.length_cons, List.length_nil, Nat.reduceAdd, Nat.reduceSub, Int.reduceLT, Int.reduceLE, Int.reduceToNat,  Int.reducePow, Int.reduceNeg, Nat.reduceLT, Nat.reduceLeDiff, Nat.reducePow, List.replicate_succ, List.replicate_zero, List.cons_append, List.nil_append, sSeq, sIf, sRet, sRetN, sNext, sAsg, sDrop, gNm, gOf, Tg.d, Tg.ds, dVar, dCst, dNil, dCons, dOp, dUn, dChain, dBl, dAnd, dOr, dNot, dIf, dTst, dCall, dCB, dLst, dTup, dM1, gSubD, mkL, dYes, dPart, dSlc, iEnumD, iSeqD, iRng1D, iRng2D, sFor, dLc, wipeD, si_str, si_tup, si_lst, si_cst, x_slcs, x_slct, x_slcl, x_slcc, dFld, sFldD, x_frz, dMake, dMt, x_isref, x_app, x_pop,
  x_lt, x_le, x_gt, x_ge, x_eqi, x_nei, x_eqs, x_nes, x_ner, x_eqr, x_in, x_nin, x_is, x_isnt, x_add, x_adds, x_addt, x_addl, x_sub, x_mul, x_div, x_mod, x_pow, x_neg, x_int, x_abs, x_max, x_min, x_len, len_str, len_tup, len_lst, len_cst, x_idxs, x_idxt, x_idxl, x_idxc, x_idxr, x_isi, ty_str, ty_int, ty_bl, ty_non, ty_tup, ty_lst, ty_cst, ty_ins, tr_bl, tr_int, tr_str, tr_tup, tr_lst, tr_non, x_all, x_ends, x_starts, at_0, at_1, at_2, ix_0, ix_1,
  List.getElem?_cons_zero, List.getElem?_cons_succ, List.getElem?_nil, List.set_cons_zero, List.set_cons_succ, List.set_nil, Option.some.injEq, exists_eq_left', exists_eq_left, exists_and_left, Bool.false_eq_true, if_false, if_true, D.int.injEq, D.bl.injEq, D.ref.injEq, D.str.injEq, D.lst.injEq, D.tup.injEq, MO.lst.injEq, MO.ins.injEq, List.cons.injEq, Prod.mk.injEq, and_true, true_and, and_assoc, decide_eq_true_eq, Sto.set_same, Sto.set_set, reduceCtorEq, false_and, exists_false, false_or, or_false, ne_eq, not_false_eq_true, exists_eq', Bool.not_true, Bool.not_false, Bool.not_eq_true', decide_eq_false_iff_not, m1]
    exact st
  · have st := step 0 (by decide)
    simp only [x_spr, startD, List.map_cons, List.map_nil, List.length_cons, List.length_nil, Nat.reduceAdd, Nat.reduceSub, Int.reduceLT, Int.reduceLE, Int.reduceToNat,  Int.reducePow, Int.reduceNeg, Nat.reduceLT, Nat.reduceLeDiff, Nat.reducePow, List.replicate_succ, List.replicate_zero, List.cons_append, List.nil_append, sSeq, sIf, sRet, sRetN, sNext, sAsg, sDrop, gNm, gOf, Tg.d, Tg.ds, dVar, dCst, dNil, dCons, dOp, dUn, dChain, dBl, dAnd, dOr, dNot, dIf, dTst, dCall, dCB, dLst, dTup, dM1, gSubD, mkL, dYes, dPart, dSlc, iEnumD, iSeqD, iRng1D, iRng2D, sFor, dLc, wipeD, si_str, si_tup, si_lst, si_cst, x_slcs, x_slct, x_slcl, x_slcc, dFld, sFldD, x_frz, dMake, dMt, x_isref, x_app, x_pop,
  x_lt, x_le, x_gt, x_ge, x_eqi, x_nei, x_eqs, x_nes, x_ner, x_eqr, x_in, x_nin, x_is, x_isnt, x_add, x_adds, x_addt, x_addl, x_sub, x_mul, x_div, x_mod, x_pow, x_neg, x_int, x_abs, x_max, x_min, x_len, len_str, len_tup, len_lst, len_cst, x_idxs, x_idxt, x_idxl, x_idxc, x_idxr, x_isi, ty_str, ty_int, ty_bl, ty_non, ty_tup, ty_lst, ty_cst, ty_ins, tr_bl, tr_int, tr_str, tr_tup, tr_lst, tr_non, x_all, x_ends, x_starts, at_0, at_1, at_2, ix_0, ix_1,
  List.getElem?_cons_zero, List.getElem?_cons_succ, List.getElem?_nil, List.set_cons_zero, List.set_cons_succ, List.set_nil, Option.some.injEq, exists_eq_left', exists_eq_left, exists_and_left, Bool.false_eq_true, if_false, if_true, D.int.injEq, D.bl.injEq, D.ref.injEq, D.str.injEq, D.lst.injEq, D.tup.injEq, MO.lst.injEq, MO.ins.injEq, List.cons.injEq, Prod.mk.injEq, and_true, true_and, and_assoc, decide_eq_true_eq, Sto.set_same, Sto.set_set, reduceCtorEq, false_and, exists_false, false_or, or_false, ne_eq, not_false_eq_true, exists_eq', Bool.not_true, Bool.not_false, Bool.not_eq_true', decide_eq_false_iff_not, m1] at st ⊢
    rw [if_neg hlt]
    exact st
end DL
namespace DL
open PySem PySem.Spec PyProof.Rows L2
abbrev S0 : Sto := fun _ => none
/-- what the law is asked: a list of numbers of the caller's -/
def Asks (n : Nat) (sp : DSp) : Prop := ∀ (zs : List Int) (Qd : DQ), zs.length ≤ n → (∀ S, Qd (.bl true) S) → sp [.cst (zs.map D.int)] S0 Qd DX0
section
variable {P : Program} {w : World} {K : PySem.W.Frag} {A : Cla} {mg mb : Str → Option Value} {k n : Nat} {fa a : Addr} {sp : DSp} {s1 : Shared} {vs : List Value} {zs : List Int}
/-- nothing of the script's own heap but the script -/
structure Scr (K : PySem.W.Frag) (s1 : Shared) (a : Addr) (zs : List Int) (H : Hp) : Prop where
  sq : SqL K H a (zs.map V.int)
  one : ∀ b, H b ≠ none → b = a
  frz : ∀ b, H b = none ∨ ∃ o xs, H b = some (.frz o (.lst xs))
  out : H a ≠ none → K.lookup a = none
theorem script_rep {H : Hp} (r : Scr K s1 a zs H) : Rep (cc K A) (fun _ => False) H S0 (.cst (zs.map D.int)) (.ref a) := by
  unfold Rep
  refine ⟨a, zs.map V.int, rfl, ?_, Reps.int zs⟩
  rcases r.sq with h | h
  · exact .inl ⟨h, rfl, fun z => z⟩
  · exact .inr (.inr h)
theorem asked {H : Hp} (hgh : A.gh = none) (r : Scr K s1 a zs H) (hn : zs.length ≤ n) (hs : Asks n sp) : liftSp (cc K A) sp [V.ref a] H (fun v _ => v = .bl true) (fun _ _ _ => False) :=
  ⟨[.cst (zs.map D.int)], S0, fun _ => False, fun d _ => d = .bl true, DX0, ⟨(fun _ _ e => by cases e), (fun _ z => z.elim), fun _ _ _ z => (by have z : A.gh = _ := z; rw [hgh] at z; cases z)⟩, .cons (script_rep r) .nil, hs zs _ hn fun _ => rfl,
    fun v H' d S' _ _ rd ed => by
      subst ed
      unfold Rep at rd
      exact rd, fun _ _ _ _ _ _ _ _ z => z.elim⟩
theorem law_runs (hgh : A.gh = none) (hK : K.In s1.heap) (g1 : s1.heap.Ns mainGlobals mg) (g2 : s1.heap.Ns builtinsNs mb) (g3 : ∀ x : Str, x ≠ "__name__" → mb x = bootBuiltins x) (nl : s1.heap.NoLimit) (ng : s1.gens = #[])
    (ob : s1.heap.get? a = some { cls := .type "list", data := .seq vs.toArray }) (ok : ∀ b u, (∃ H, Scr K s1 a zs H ∧ H b = some u) → True) (rm : Rm k callerA)
    (F : ∀ base : Heap, K.In base → base.Ns mainGlobals mg → FnD P w (cc K A) mg base k fa sp) (hs : Asks n sp) (hn : zs.length ≤ n) {H : Hp} (r : Scr K s1 a zs H) (hok : HOk P w H s1.heap) :
    codeAny (model P w) callerA (.call (.ref fa) ⟨[.ref a], []⟩) (fun q s2 => q = .ok (.ret (.bool true)) ∧ OldK s1.heap s2.heap ∧ s2.os = s1.os ∧ AllBare s2.gens) s1 := by
  have kept : ∀ {b : Addr} {o : Obj}, s1.heap.get? b = some o → H b = none → (hidT s1.heap H).get? b = some o := fun e m => hidT_get e m
  have ofdict : ∀ {b : Addr} {o : Obj} {es : Array DictEntry} {ep : Nat}, s1.heap.get? b = some o → o.data = .dict es ep → H b = none := fun {b o es ep} e d => by
    cases hb : H b with
    | none => rfl
    | some u =>
      have eb := r.one b (by rw [hb]; exact fun z => by cases z)
      subst eb
      rw [ob] at e
      cases e
      cases d
  have space : ∀ {b : Addr} {m : Str → Option Value}, s1.heap.Ns b m → (hidT s1.heap H).Ns b m := fun {b m} ⟨o, es, ep, e, d, t⟩ => ⟨o, es, ep, kept e (ofdict e d), d, t⟩
  have inB : K.In (hidT s1.heap H) := fun b o e => by
    refine kept (hK b o e) ?_
    cases hb : H b with
    | none => rfl
    | some u =>
      have eb := r.one b (by rw [hb]; exact fun z => by cases z)
      subst eb
      have := r.out (by rw [hb]; exact fun z => by cases z)
      rw [this] at e
      cases e
  have lim : ∃ mc, (hidT s1.heap H).Ns _ mc ∧ _ := let ⟨mc, x1, x2⟩ := nl; ⟨mc, space x1, x2⟩
  have md : Mod K mg (hidT s1.heap H) := ⟨inB, space g1, ⟨mb, space g2, g3⟩, lim⟩
  have none_in : ∀ b : Addr, b ∉ ([] : List Addr) := fun b z => by cases z
  have e0 : Env0 P w K mg (hidT s1.heap H) callerA [] s1 H := ⟨rfl, md, fun b o e => of_hidT e, Nat.le_of_eq (hidT_size _ _), trivial, fun b hb => (none_in b hb).elim, hok, .of_eq ng⟩
  have run := F _ inB (space g1) callerA [] s1 H [.ref a] [V.ref a] (fun v _ => v = .bl true) (fun _ _ _ => False) rm e0 (.cons rfl .nil) (asked hgh r hn hs)
  refine codeAny_mono run fun q s2 h => ?_
  match q, h with
  | .error e, ⟨_, _, _, _, _, _, _, _, _, _, _, _, z⟩ => exact z.elim
  | .ok (.ret u), ⟨v, H2, os, bare, un, hok2, rv, ev⟩ =>
    have ev : v = V.bl true := ev
    subst ev
    have eu : u = Value.bool true := rv
    subst eu
    refine ⟨rfl, OldK.of_keep fun b o e => ?_, os, bare⟩
    cases hb : H b with
    | none => exact un.keep b o e hb (none_in b) (by simp)
    | some u =>
      rcases r.frz b with z | ⟨ox, xs, z⟩
      · rw [hb] at z
        cases z
      · obtain ⟨c1, _⟩ := hok b _ z
        obtain ⟨c2, _⟩ := hok2 b _ (un.frzs b ox _ z)
        rw [e] at c1
        cases c1
        exact c2
theorem law_runs2 (hgh : A.gh = none) (hK : K.In s1.heap) (g1 : s1.heap.Ns mainGlobals mg) (g2 : s1.heap.Ns builtinsNs mb) (g3 : ∀ x : Str, x ≠ "__name__" → mb x = bootBuiltins x) (nl : s1.heap.NoLimit) (ng : s1.gens = #[])
    (ob : s1.heap.get? a = some { cls := .type "list", data := .seq vs.toArray }) (ia : IntsAre vs zs) (hn : zs.length ≤ n) (hz : zs.length ≤ sizeLine) (rm : Rm k callerA)
    (F : ∀ base : Heap, K.In base → base.Ns mainGlobals mg → FnD P w (cc K A) mg base k fa sp) (hs : Asks n sp) :
    codeAny (model P w) callerA (.call (.ref fa) ⟨[.ref a], []⟩) (fun q s2 => q = .ok (.ret (.bool true)) ∧ OldK s1.heap s2.heap ∧ s2.os = s1.os ∧ AllBare s2.gens) s1 := by
  have vi := vals_ints ia
  have li := ia.length
  cases hk : K.lookup a with
  | some o =>
    have e := hK a o hk
    rw [ob] at e
    cases e
    have sq : SqL K hp0 a (zs.map V.int) := .inr ⟨_, vs.toArray, _, hk, rfl, rfl, rfl, by rw [List.size_toArray, li]; exact hz, by simpa using vi⟩
    exact law_runs hgh hK g1 g2 g3 nl ng ob (fun _ _ _ => trivial) rm F hs hn (H := hp0) ⟨sq, fun b z => (z rfl).elim, fun _ => .inl rfl, fun z => (z rfl).elim⟩ fun b u e => by cases e
  | none =>
    let H : Hp := fun b => if b = a then some (.frz { cls := .type "list", data := .seq vs.toArray } (.lst (zs.map V.int))) else none
    have hy : H a = some (.frz { cls := .type "list", data := .seq vs.toArray } (.lst (zs.map V.int))) := if_pos rfl
    have hnn : ∀ b, b ≠ a → H b = none := fun b h => if_neg h
    refine law_runs hgh hK g1 g2 g3 nl ng ob (fun _ _ _ => trivial) rm F hs hn (H := H) ⟨.inl (.inr ⟨_, hy⟩), fun b z => ?_, fun b => ?_, fun _ => hk⟩ fun b u e => ?_
    · by_cases hb : b = a
      · exact hb
      · exact (z (hnn b hb)).elim
    · by_cases hb : b = a
      · subst hb
        exact .inr ⟨_, _, hy⟩
      · exact .inl (hnn b hb)
    · by_cases hb : b = a
      · subst hb
        rw [hy] at e
        cases e
        exact ⟨ob, by rw [List.length_map]; exact hz, vs, _, vi, ob⟩
      · rw [hnn b hb] at e
        cases e
end
theorem caller_rm {k : Nat} (hr : Room k callerA) : Rm k callerA := ⟨hr, rfl⟩
theorem walkD {l : PySem.W.OpenLaw} {n k : Nat} {q : Program} {loose : List Str} {XP : (Str → Option Value) → Heap → Prop} {YP : World → Heap → Prop} {d : DefRec} {K : Params → PySem.W.Frag} (sp : DSp) (hn : l.most = some n) (hn2 : n ≤ sizeLine)
    (hdf : d.params.defaults = []) (hr : Room k callerA) (hY : ∀ (w : World) (h : Heap), YP w h → (K w.params).In h) (hs : Asks n sp)
    (F : ∀ (w : World) (mg : Str → Option Value) (fa : Addr) (h : Heap), (K w.params).In h → h.Ns mainGlobals mg → mg d.name = some (.ref fa) → ∃ A : Cla, A.gh = none ∧ ∀ base : Heap, (K w.params).In base → base.Ns mainGlobals mg → FnD l.prog w (cc (K w.params) A) mg base k fa sp) :
    PySem.W.WalkO q loose XP YP l.row.toRowW d [] (fun f vs => PySem.call f vs) := by
  refine Att.attach_call hn hdf fun w s0 s1 mg mb fa o pm cd doc a vs zs G Y ho hd hcd hmg hobj hints hlen hg => ?_
  have hK := hY w _ Y
  obtain ⟨A, hgh, FA⟩ := F w mg fa _ hK G.T.g hmg
  exact law_runs2 hgh hK G.T.g G.T.b G.T.builtins G.T.nolimit hg hobj hints hlen (Nat.le_trans hlen hn2) (caller_rm hr) FA hs
section
variable {K : PySem.W.Frag} {C D : Addr} {T : String} {r : Bool} {t : Value}
theorem kit_rt (m : PySem.W.kitMeta T = true) (h : PySem.W.subIn K (.ref C) (.type T) = some r) : PySem.W.kitOne K (.ref C) (.type T) = some r := by
  unfold PySem.W.kitOne
  have e : (Value.ref C == Value.type T) = false := rfl
  rw [e]
  show (if PySem.W.kitMeta T = true then PySem.W.subIn K (.ref C) (.type T) else none) = some r
  rw [if_pos m, h]
theorem kit_self : PySem.W.kitOne K (.ref C) (.ref C) = some true := if_pos (beq_self_eq_true _)
theorem kit_xr {cl : _} (ne : (t == Value.ref D) = false) (c : PySem.W.clsIn K D = some cl) (ty : PySem.W.typeIn K (.ref D) = some (.type "type")) (h : PySem.W.subIn K t (.ref D) = some r) : PySem.W.kitOne K t (.ref D) = some r := by
  unfold PySem.W.kitOne
  rw [ne]
  show (if ((PySem.W.clsIn K D).isSome && PySem.W.typeIn K (.ref D) == some (.type "type")) = true then PySem.W.subIn K t (.ref D) else none) = some r
  rw [c, ty]
  exact (if_pos rfl).trans h
end
end DL
namespace DL
open PySem PySem.Spec PyProof.Rows L2
theorem Rm.in1 {k : Nat} {A : Around} (m : Rm (k + 1) A) : Rm k A.in1 := ⟨m.r.in1, m.g⟩
abbrev isC (S : Sto) (C : Nat) (d : D) : Prop := ∃ xs, insOf S d = some (C, xs)
section
variable {X : Cx} {A : Cla} {W : WX} {e a b o : Expr} {es : List Expr} {pos p apos : Pos} {t u : DT} {ta : DTA} {R : DR2} {f : Addr} {k C : Nat} {sp : DSp}
theorem run_code {A1 : Around} {pins : List (Addr × Obj)} {σ : L2.St} {H : Hp} {s : Shared} {Q : VK} {us : List Value} {vs : List V} (hf : A1.frames = X.A.frames) (F : FnD X.prog X.w (cX X A) X.mg X.base k f sp) (m : Rm k A1) (tk : L2N.Takes X W)
    (I : L2.Inv X pins σ H s) (r : Vals vs us) (h : liftSp (cX X A) sp vs H Q (WE W σ)) : codeAny (model X.prog X.w) A1 (.call (.ref f) ⟨us, []⟩) (fun q s' => match q with | .ok (.ret v) => EP X pins σ Q v s' | .ok _ => False | .error e => X.xe e s') s := by
  have e0 : Env0 X.prog X.w X.K X.mg X.base A1 X.stack s H := by
    have e := I.env0
    exact ⟨by rw [hf]; exact e.frames, e.mod, e.bs, e.bsz, e.funs, e.frf, e.hok, e.bare⟩
  refine codeAny_mono (F A1 X.stack s H us vs Q _ m e0 r h) fun q s' hq => ?_
  match q, hq with
  | .error e, hq => exact L2N.passAt tk σ pins H s e s' I hq
  | .ok (.ret w), hq => exact I.after hq
end
end DL
namespace DL
open PySem PySem.Spec PyProof.Rows L2
def isStar : Expr → Bool
  | .Starred .. => true
  | _ => false
def tgLoc (sc : Scope) (line : Nat) : Expr → Option Str
  | .Name id pos => if sc.names.lookup id == some .local && pos.line == line then some id else none
  | _ => none
def swLine (ts : List Expr) : Nat := (ts.head?.map (·.pos.line)).getD 0
def swSome (ts vs : List Expr) (sc : Scope) (xs : List Str) : Bool := (ts.length == 2 || ts.length == 3) && vs.length == ts.length && !(vs.any isStar) && decide (ts.filterMap (tgLoc sc (swLine ts)) = xs) && xs.length == ts.length && !(xs.eraseDups.length != xs.length) && !(vs.all (foldedForSure 8)) && !(vs.all (constantsAlone 8))
section
variable {env : PySem.Env} {ts vs : List Expr} {kt k2 : _} {pt pt2 : Pos}
theorem sw_some {xs : List Str} (hk : env.scope.kind = .function) (h : swSome ts vs env.scope xs = true) : swappedStores [.Tuple ts kt pt] (.Tuple vs k2 pt2) env = pure (some xs) := by
  have hb : env.blockKind = .function := by unfold Env.blockKind; rw [hk]; rfl
  unfold swappedStores
  unfold swSome at h
  simp only [Bool.and_eq_true] at h
  obtain ⟨⟨⟨⟨⟨⟨⟨h1, h2⟩, h3⟩, h4⟩, h5⟩, h6⟩, h7⟩, h8⟩ := h
  have h4 := of_decide_eq_true h4
  show (if (!(ts.length == 2 || ts.length == 3) || vs.length != ts.length || env.blockKind != ScopeKind.function) = true then pure none else if (vs.any isStar) = true then pure none
    else if ((ts.filterMap (tgLoc env.scope (swLine ts))).length != ts.length || (ts.filterMap (tgLoc env.scope (swLine ts))).eraseDups.length != (ts.filterMap (tgLoc env.scope (swLine ts))).length) = true then pure none
    else if vs.all (foldedForSure 8) = true then pure none else if vs.all (constantsAlone 8) = true then _ else pure (some (ts.filterMap (tgLoc env.scope (swLine ts))))) = (pure (some xs) : Sem (Option (List Str)))
  rw [h4, hb, h1, if_neg (by
    have : (vs.length != ts.length) = false := by simpa using h2
    rw [this]
    decide), if_neg (by rw [not_of h3]; exact Bool.false_ne_true), if_neg (by
    have e1 : (xs.length != ts.length) = false := by simpa using h5
    rw [e1, not_of h6]
    decide), if_neg (by rw [not_of h7]; exact Bool.false_ne_true), if_neg (by rw [not_of h8]; exact Bool.false_ne_true)]
end
def setAll : List Nat → List D → DSt → Option DSt
  | [], [], ρ => some ρ
  | i :: is, d :: ds, ρ => setAll is ds (ρ.set i (some d))
  | _, _, _ => none
def sPar (is : List Nat) (ta : DTA) : DTS := fun D ρ S => ta ρ S (fun ds S1 => ∃ ρ', setAll is ds ρ = some ρ' ∧ D.nx ρ' S1) (D.xx ρ)
section
variable {P : Program} {w : World} {K : PySem.W.Frag} {A : Cla} {mg : Str → Option Value} {base : Heap} {N : List Str} {sc : Scope} {fo : Str → Bool} {lv : Nat} {X : Cx} {W : WX} {a b c e : Expr} {es ts vs : List Expr} {pos : Pos} {t u v : DT} {ta : DTA} {x y z : Str} {px py pz pt pt2 : Pos} {kt k2 : Nat} {i j l : Nat} {g : DTG}
def slB (N : List Str) (sc : Scope) (i : Nat) (x : Str) : Bool := decide (N[i]? = some x) && decide (sc.names.lookup x = some .local)
theorem In.par2 (h : In P w K mg base N sc fo lv X W) (hk : (decide (sc.kind = .function) && decide N.Nodup && decide (i ≠ j) && (slB N sc i x && slB N sc j y)) = true) (hs : swSome [.Name x px, .Name y py] [a, b] sc [x, y] = true) (ha : DA X A W [a, b] ta)
    (hw : swapsWithSole [.Tuple [.Name x px, .Name y py] kt pt] (.Tuple [a, b] k2 pt2) pos.line X.env = pure false := by rfl) :
    DStm X A W (.Assign [.Tuple [.Name x px, .Name y py] kt pt] (.Tuple [a, b] k2 pt2) pos) (sPar [i, j] ta) := by
  simp only [Bool.and_eq_true, slB, decide_eq_true_eq] at hk
  obtain ⟨⟨⟨k1, k2'⟩, k3⟩, ⟨k4, k5⟩, k6, k7⟩ := hk
  have := h.eS; subst this
  have := h.eN; subst this
  refine PS.mono (ps_par h.calm k2' k4 k6 k3 k5 k7 ha (sw_some k1 hs) hw) fun D σ H ⟨ρ, S, L, DD, sl, so, q, k⟩ => ?_
  refine ⟨ρ, S, L, _, DD.xx ρ, sl, so, q, fun vs H1 ds S1 e1 so1 rs ⟨ρ', er, q1⟩ => ?_, k.xx.at_ sl⟩
  match ds, er, rs with
  | [d1, d2], er, rs =>
    have er : some ((ρ.set i (some d1)).set j (some d2)) = some ρ' := er
    cases er
    obtain ⟨v1, v2, ev, r1, r2⟩ := reps2 rs
    exact ⟨v1, v2, ev, k.nx _ H1 _ S1 e1 so1 (((sl.ext e1).set r1).set r2) q1⟩
  | [], er, _ => cases er
  | [_], er, _ => cases er
  | _ :: _ :: _ :: _, er, _ => cases er
end
end DL
namespace DL
open PySem PySem.Spec PyProof.Rows L2
structure ErrB (B newId initId : String) (bmB : List Value) : Prop where
  F : ExcBaseFacts B newId initId bmB
  KF : PySem.W.KxsFacts B initId
  SF : StoreFacts B bmB "object.__setattr__" "object"
theorem err_value : ErrB "ValueError" "ValueError.__new__" "ValueError.__init__" [.type "ValueError", .type "Exception", .type "BaseException", .type "object"] := ⟨PySem.F.excBase_ValueError, PySem.W.kxs_ValueError, PySem.F.store_ValueError⟩
theorem err_lookup : ErrB "LookupError" "LookupError.__new__" "LookupError.__init__" [.type "LookupError", .type "Exception", .type "BaseException", .type "object"] := ⟨PySem.F.excBase_LookupError, PySem.W.kxs_LookupError, PySem.F.store_LookupError⟩
theorem err_runtime : ErrB "RuntimeError" "RuntimeError.__new__" "RuntimeError.__init__" [.type "RuntimeError", .type "Exception", .type "BaseException", .type "object"] := ⟨PySem.F.excBase_RuntimeError, PySem.W.kxs_RuntimeError, PySem.F.store_RuntimeError⟩
theorem err_overflow : ErrB "OverflowError" "OverflowError.__new__" "OverflowError.__init__" [.type "OverflowError", .type "ArithmeticError", .type "Exception", .type "BaseException", .type "object"] := ⟨PySem.F.excBase_OverflowError, PySem.W.kxs_OverflowError, PySem.F.store_OverflowError⟩
section
open PySem.W Builtin Builtin.ObjectAttr
variable {prog : Program} {w : World} {A : Around} {E : Value → Shared → Prop} {hp : Heap} {g : Array GenState} {d : Drawn} {t : Nat} {os : OsState} {K : Frag} {C x : Addr} {B : String} {bmB : List Value} {name : Str} {v : Value} {Q : Unit → Shared → Prop} {fv : Array Value}
/-- the first field of an error that is being made -/
theorem set_first (SF : StoreFacts B bmB "object.__setattr__" "object") (X : K.In hp) (sa : findIn K (.ref C) "__setattr__" = some (some (.builtin "object.__setattr__"))) (ov : excOver K C bmB = true) (hh : hasDictIn K C = true) (ht : takerIn K C name = some none)
    (hx : hp.get? x = some { cls := .ref C, data := .fields fv })
    (hq : ∀ h' tk' dx, (∀ b o, b ≠ x → hp.get? b = some o → h'.get? b = some o) → hp.objs.size ≤ dx → dx ≠ x → h'.get? x = some { cls := .ref C, dict := some dx, data := .fields fv } →
      h'.Ns1 dx (fun y => if y = name then some v else none) → Q () ⟨h', g, d, tk', os⟩) : wpAny (model prog w) A (setAttr (.ref x) name v) Q E ⟨hp, g, d, t, os⟩ := by
  have hxs : x ≠ hp.objs.size := Nat.ne_of_lt (Heap.lt_size hx)
  obtain ⟨cd, hc, hd'⟩ := any_some hh
  refine set_plain (od := none) X ⟨hx, rfl, rfl, trivial⟩ sa (osa_openX (od := none) SF X ⟨hx, rfl, rfl, trivial⟩ ov ht fun b => ?_)
  have hcls : Looks (model prog w) hp (classData C) cd := looks_clsIn X hc
  obtain ⟨nm, bs, mro, ns, qn, hd, sn, sb, ab, col, del⟩ := cd
  dsimp only at hd'
  subst hd'
  show wpAny _ _ (storeInOwnDict (.ref x) (.ref C) (.str name _) name v b) _ _ _
  unfold storeInOwnDict ownDictForStores
  repeat (first | with_reducible refine HandSPX.store_in_new ?_ ?_ | with_reducible refine wpAny_loadPart_at hx ?_ | with_reducible refine hcls.at ?_ | wp_step)
  · exact ⟨_, #[], _, (Heap.get?_update_ne _ _ _ _ hxs.symm).trans (Heap.get?_push_at rfl rfl), rfl, fun e he => absurd he (by simp), fun _ => rfl⟩
  · intro h' tk' hn' hs
    have hx₁ : (hp.push { cls := .type "dict", data := .dict #[] }).get? x = some { cls := .ref C, data := .fields fv } := Heap.get?_push_of_some _ hx
    refine hq h' _ hp.objs.size (fun b o hb ho => ?_) (Nat.le_refl _) hxs.symm ?_ hn'
    · exact (hs.2 b (Nat.ne_of_lt (Heap.lt_size ho))).trans ((Heap.get?_update_ne _ _ _ _ hb).trans (Heap.get?_push_of_some _ ho))
    · exact (hs.2 x hxs).trans (Heap.get?_update_self _ hx₁ rfl)
/-- a further field -/
theorem set_next {dx : Addr} {m0 : Str → Option Value} {nl : List Str} (SF : StoreFacts B bmB "object.__setattr__" "object") (X : K.In hp) (sa : findIn K (.ref C) "__setattr__" = some (some (.builtin "object.__setattr__"))) (ov : excOver K C bmB = true) (hh : hasDictIn K C = true) (ht : takerIn K C name = some none)
    (hx : hp.get? x = some { cls := .ref C, dict := some dx, data := .fields fv }) (hns : hp.Ns1 dx m0) (hw : Within m0 nl) (hz : nl.length ≤ 1000)
    (hq : ∀ h' tk', (∀ b o, b ≠ dx → hp.get? b = some o → h'.get? b = some o) → h'.Ns1 dx (fun y => if y = name then some v else m0 y) → Q () ⟨h', g, d, tk', os⟩) : wpAny (model prog w) A (setAttr (.ref x) name v) Q E ⟨hp, g, d, t, os⟩ := by
  obtain ⟨oD, esD, epD, hoD, hdD, _⟩ := hns.count hw
  obtain ⟨cd, hc, hd'⟩ := any_some hh
  refine set_plain (od := some oD) X ⟨hx, rfl, rfl, hoD⟩ sa (osa_openX (od := some oD) SF X ⟨hx, rfl, rfl, hoD⟩ ov ht fun b => ?_)
  have hcls : Looks (model prog w) hp (classData C) cd := looks_clsIn X hc
  obtain ⟨nm, bs, mro, ns, qn, hd, sn, sb, ab, col, del⟩ := cd
  dsimp only at hd'
  subst hd'
  show wpAny _ _ (storeInOwnDict (.ref x) (.ref C) (.str name _) name v b) _ _ _
  unfold storeInOwnDict ownDictForStores
  repeat (first | with_reducible refine PySem.OEX.store_in_old hns hw hz ?_ | with_reducible refine wpAny_loadPart_at hx ?_ | with_reducible refine hcls.at ?_ | wp_step)
  intro h' tk' hn' hs
  exact hq h' _ (fun b o hb ho => (hs.2 b hb).trans ho) hn'
end
end DL
namespace DL
open PySem PySem.Spec PyProof.Rows L2
section
open PySem.W PySem.Calls
variable {prog : Program} {w : World} {A : Around} {E : Value → Shared → Prop} {h : Heap} {g : Array GenState} {d : Drawn} {t : Nat} {os : OsState}
variable {nm q : Str} {C N : Addr} {bs bm bmB : List Value} {hdct : Bool} {sn : List Str} {sub : List Value} {ab : Bool} {col : Option Bool} {dd : Option Addr} {k0 k1 k2 k3 k5 : Option Value} {B newId initId : String}
/-- the bound built-in __init__ called -/
theorem call_mw (EB : ErrB B newId initId bmB) {u e t0 : Addr} {rest : List Value} {Q : Value → Shared → Prop}
    (hC : h.get? C = some (excClassObj nm q C N bs bm hdct sn sub ab col dd k0 k1 k2 k3 k5 newId)) (he : h.get? e = some (HandSPX.excO C t0)) (hu : h.get? u = some (kxs_mw initId e)) (hrest : rest.length ≤ sizeLine)
    (hq : ∀ h' t1, (∀ b o, b ≠ e → h.get? b = some o → h'.get? b = some o) → h'.get? e = some (HandSPX.excO C t1) → Q .none ⟨h', g, d, t, os⟩) :
    wpAny (model prog w) A (call (.ref u) rest) Q E ⟨h, g, d, t, os⟩ := by
  refine wpAny_call (codeAny_of_tree ?_)
  show wpAny _ A.in1 (callAny (.ref u) ⟨rest, []⟩) _ _ _
  simp only [callAny]
  refine wpAny_bind (wpAny_load hu ?_)
  simp only [kxs_mw, show (Value.type "method-wrapper" == Value.type "method" || Value.type "method-wrapper" == Value.type "builtin_function_or_method" || Value.type "method-wrapper" == Value.type "method-wrapper") = true by decide, if_true]
  refine W.KFB.if_so (by decide) ?_
  refine wpAny_bind (ESX.check_bound EB.F hC he rfl ?_)
  refine wpAny_bind (wpAny_pure (wpAny_pure ?_))
  refine ⟨plainId_quiet EB.F.init.plain _, codeAny_builtin EB.F.initEntry ?_⟩
  rw [Around.under_plainId EB.F.init.plain _]
  refine exc_init_tree (cls := .ref C) (t0 := t0) (dv := none) (c2 := .none) (c3 := .none) (b4 := .bool false) he hrest fun h' k' e' t' => ?_
  exact hq h' h.objs.size k' e'
end
end DL
namespace DL
open PySem PySem.Spec PyProof.Rows L2
/-- what the written part says of an own error's class and its __init__ -/
structure ErrC (K : PySem.W.Frag) (file : Str) (C fI cda cc : Addr) (B newId initId : String) (bmB : List Value) : Prop where
  eb : ErrB B newId initId bmB
  q : PySem.W.excInitIn K C bmB newId = true
  ov : PySem.W.excOver K C bmB = true
  hd : PySem.W.hasDictIn K C = true
  sa : PySem.W.findIn K (.ref C) "__setattr__" = some (some (.builtin "object.__setattr__"))
  sup : PySem.W.ks_superIn K C C "__init__" = some (some (.builtin initId))
  sB : PySem.W.subIn K (.ref C) (.type B) = some true
  mro : PySem.W.mroIn K C (.ref C) = some true
  opq : PySem.W.nsIn K cStatics "thirdparty.any" = some none
  cls : (PySem.W.clsIn K C).isSome = true
  cell : ∃ cl cld csl, K.lookup cc = some ⟨cl, cld, .cell (some (.ref C)), csl⟩
  code : ∃ ccl cdd vs ccs tf, K.lookup cda = some ⟨ccl, cdd, .fields vs, ccs⟩ ∧ vs[2]? = some (.str file tf)
section
open PySem.W PySem.Calls
variable {prog : Program} {w : World} {A : Around} {E : Value → Shared → Prop} {h : Heap} {g : Array GenState} {d : Drawn} {t : Nat} {os : OsState}
variable {K : Frag} {C fI cda cc e L t0 : Addr} {B newId initId : String} {bmB : List Value} {file : Str} {mg mb m : Str → Option Value} {qual : Str} {scope : Scope} {fd : FuncData} {oc : Value} {od : Option Addr} {osl : Array (Option Value)}
/-- super().__init__(text) -/
theorem super_stmt (T : ErrC K file C fI cda cc B newId initId bmB) (X : K.In h) (hf : K.lookup fI = some ⟨oc, od, .func fd, osl⟩) {ar : Arg} (hp : (fd.params.posonlyargs ++ fd.params.args).head? = some ar)
    (hns : h.Ns L m) (hv : m ar.arg = some (.ref e)) (he : h.get? e = some (HandSPX.excO C t0)) (hG : h.Ns mainGlobals mg) (hm : mg "super" = none) (hB : h.Ns builtinsNs mb) (hb : mb "super" = some (.type "super"))
    (hfile : ((prog.main.file : Str) == file) = true) (htop : (prog.main.scope.names.lookup ("super" : Str)).isSome = false)
    (hks : scope.names.lookup ("super" : Str) = some .globalImplicit) (hkc : scope.names.lookup ("__class__" : Str) = some .free) (hka : scope.names.lookup ar.arg = some .local) (hk : scope.kind = .function)
    {body : List Stmt} {txt : Str} {p0 p1 p2 p3 p4 p5 : Pos} {pl : Sem Bool} {Q : Flow → Shared → Prop}
    (hev : eval (.Call (.Attribute (.Call (.Name "super" p0) [] [] p1) "__init__" p2) [.Constant (.str txt) 0 p3] [] p4) (ksEnv qual scope L fI (.ref cda) cc) = (do
      let ov ← attributeBase (.Call (.Name "super" p0) [] [] p1) "__init__" (ksEnv qual scope L fI (.ref cda) cc) (eval (.Call (.Name "super" p0) [] [] p1) (ksEnv qual scope L fI (.ref cda) cc))
      standAt p2.atName
      let (f, first) ← holding [ov] (getMethod ov "__init__" pl)
      callWith p4 f first (backTo p4 (starEach [.Constant (.str txt) 0 p3] (ksEnv qual scope L fI (.ref cda) cc))) []))
    (hq : ∀ h' tk' t1, (∀ b o, b ≠ e → h.get? b = some o → h'.get? b = some o) → h'.get? e = some (HandSPX.excO C t1) → Q .next ⟨h', g, d, tk', os⟩) :
    _root_.PySem.wpAt (model prog w) A (.func body (ksEnv qual scope L fI (.ref cda) cc)) (exec (.Expr (.Call (.Attribute (.Call (.Name "super" p0) [] [] p1) "__init__" p2) [.Constant (.str txt) 0 p3] [] p4) p5) (ksEnv qual scope L fI (.ref cda) cc)) Q E ⟨h, g, d, t, os⟩ := by
  obtain ⟨cl, cld, csl, hcell⟩ := T.cell
  obtain ⟨ccl, cdd, vs, ccs, tf, hcode, hvs⟩ := T.code
  obtain ⟨cdD, hD⟩ := Option.isSome_iff_exists.mp T.cls
  obtain ⟨nm, N', qn, bs, bm, hdct, sn, sub, ab, col, dd, k0, k1, k2, k3, k5, hC, hT⟩ := excInit_of X T.q
  have hCd : h.get? C = some _ := hC
  obtain ⟨sk, sns, sgn, sco, smo⟩ := scope
  dsimp only at hk hks hkc hka
  subst hk
  refine ks_wpAt_Expr_any (ks_wpAt_MethodCall ?_ hev)
  refine ks_wpAt_super_base (attr := "__init__") (env := ksEnv qual _ L fI (.ref cda) cc) hks hkc (by decide) rfl (X _ _ hf) rfl hp rfl (X _ _ hcode) rfl hvs hfile htop ?_
  refine ks_loadName_global rfl hks (loadGlobal_builtin (env := ksEnv qual _ L fI (.ref cda) cc) hG hm hB hb ⟨rfl, ?_⟩)
  refine wpAny_loadName_free rfl hkc rfl ⟨_, X _ _ hcell, rfl⟩ ?_
  refine wpAny_loadName_local rfl hka hns hv ?_
  refine ks_wpAny_isType_cls hCd rfl ⟨rfl, ?_⟩
  refine ks_wpAny_call_super hCd rfl he rfl (fun c z => by cases z) (looks_mroIn X T.mro) (fun h1 e1 k1' => ?_)
  have ux : ∀ b o, h.get? b = some o → h1.get? b = some o := k1'
  have X1 : K.In h1 := X.keeps ux
  have I1 : InstAt h1 e (HandSPX.excO C t0) C none := ⟨ux _ _ he, rfl, rfl, trivial⟩
  have hs := T.sup
  unfold ks_superIn at hs
  rw [hD] at hs
  refine kxs_getMethod T.eb.KF e1 (looks_opaque X1 T.opq) (l₀ := cdD.mro) (fun A Q E s k q => wpAny_bind ((looks_clsIn X1 hD) A _ E s k (wpAny_pure q))) rfl X1 hs (I1.type.andThen (looks_subIn X1 T.sB)) (ks_ne X1 I1 hD) (by decide) ?_
  have xx : ∀ b o, b ≠ e → h.get? b = some o → (h1.push (kxs_mw initId e)).get? b = some o := fun b o _ z => Heap.get?_push_of_some _ (ux b o z)
  have hu : (h1.push (kxs_mw initId e)).get? h1.objs.size = some (kxs_mw initId e) := Heap.get?_push_at rfl rfl
  refine kxs_callWith (i := initId) (x := e) (by rfl) (evalArgs_plain ?_)
  refine Calls.spliced_cons (wpAny_Constant_str (k := 0) (pos := p3) (Calls.spliced_nil ⟨hu, ?_⟩))
  refine call_mw (C := C) (t0 := t0) T.eb (Heap.get?_push_of_some _ (ux _ _ hC)) (Heap.get?_push_of_some _ (ux _ _ he)) hu (lt_line (n := 1) (Nat.le_of_ble_eq_true rfl)) fun h' t1 k2 e2 => ?_
  exact hq h' _ t1 (fun b o hb z => k2 b o hb (xx b o hb z)) e2
/-- self.f = a, the first field -/
theorem store_stmt (T : ErrC K file C fI cda cc B newId initId bmB) (X : K.In h) {f a self : Str} {v : Value} (ht : takerIn K C f = some none)
    (hns : h.Ns L m) (hv : m self = some (.ref e)) (ha : m a = some v) (he : h.get? e = some (HandSPX.excO C t0))
    (hks : scope.names.lookup self = some .local) (hka : scope.names.lookup a = some .local) (hk : scope.kind = .function) (d1 : (self == ("__debug__" : Str)) = false) (d2 : (a == ("__debug__" : Str)) = false)
    {p0 p1 p2 p3 : Pos} {Q : Flow → Shared → Prop}
    (hsw : swapsWith (.Name a p2) (some (.Attribute (.Name self p0) f p1)) p3.line (ksEnv qual scope L fI (.ref cda) cc) = pure false)
    (hq : ∀ h' tk' dx, (∀ b o, b ≠ e → h.get? b = some o → h'.get? b = some o) → h.objs.size ≤ dx → dx ≠ e → h'.get? e = some { HandSPX.excO C t0 with dict := some dx } → h'.Ns1 dx (fun y => if y = f then some v else none) → Q .next ⟨h', g, d, tk', os⟩) :
    wpAny (model prog w) A (exec (.Assign [.Attribute (.Name self p0) f p1] (.Name a p2) p3) (ksEnv qual scope L fI (.ref cda) cc)) Q E ⟨h, g, d, t, os⟩ := by
  refine plainObj_wpAny_Assign_Attribute (wpAny_Name (wpAny_loadName_local hk hka hns ha ?_) d2) hsw
  refine wpAny_Name (wpAny_loadName_local hk hks hns hv ?_) d1
  exact set_first T.eb.SF X T.sa T.ov T.hd ht he hq
theorem store_stmt2 (T : ErrC K file C fI cda cc B newId initId bmB) (X : K.In h) {f a self : Str} {v : Value} (ht : takerIn K C f = some none)
    (hns : h.Ns L m) (hv : m self = some (.ref e)) (ha : m a = some v) {dx : Addr} {m0 : Str → Option Value} {nl : List Str} (he : h.get? e = some { HandSPX.excO C t0 with dict := some dx }) (hd : h.Ns1 dx m0) (hw : Within m0 nl) (hz : nl.length ≤ 1000)
    (hks : scope.names.lookup self = some .local) (hka : scope.names.lookup a = some .local) (hk : scope.kind = .function) (d1 : (self == ("__debug__" : Str)) = false) (d2 : (a == ("__debug__" : Str)) = false)
    {p0 p1 p2 p3 : Pos} {Q : Flow → Shared → Prop}
    (hsw : swapsWith (.Name a p2) (some (.Attribute (.Name self p0) f p1)) p3.line (ksEnv qual scope L fI (.ref cda) cc) = pure false)
    (hq : ∀ h' tk', (∀ b o, b ≠ dx → h.get? b = some o → h'.get? b = some o) → h'.Ns1 dx (fun y => if y = f then some v else m0 y) → Q .next ⟨h', g, d, tk', os⟩) :
    wpAny (model prog w) A (exec (.Assign [.Attribute (.Name self p0) f p1] (.Name a p2) p3) (ksEnv qual scope L fI (.ref cda) cc)) Q E ⟨h, g, d, t, os⟩ := by
  refine plainObj_wpAny_Assign_Attribute (wpAny_Name (wpAny_loadName_local hk hka hns ha ?_) d2) hsw
  refine wpAny_Name (wpAny_loadName_local hk hks hns hv ?_) d1
  exact set_next T.eb.SF X T.sa T.ov T.hd ht he hd hw hz hq
end
end DL
namespace DL
open PySem PySem.Spec PyProof.Rows L2
section
open PySem.W PySem.Calls
variable {prog : Program} {w : World} {A : Around} {h : Heap} {g : Array GenState} {d : Drawn} {t : Nat} {os : OsState}
variable {K : Frag} {C fI cda cc e t0 : Addr} {B newId initId : String} {bmB : List Value} {file : Str} {mg mb : Str → Option Value} {name qual : Str} {params : Arguments} {scope : Scope} {dV kV doc pm ct oc : Value} {an od : Option Addr} {osl : Array (Option Value)}
/-- the state behind the __init__ of an error -/
def MadeErr (h : Heap) (g : Array GenState) (d : Drawn) (os : OsState) (e C : Addr) (fs : Str → Option Value) (s' : Shared) : Prop :=
  ∃ h' tk' dx t1, s' = ⟨h', g, d, tk', os⟩ ∧ (∀ b o, b ≠ e → h.get? b = some o → h'.get? b = some o) ∧ h.get? dx = none ∧ dx ≠ e ∧ h'.get? e = some { HandSPX.excO C t1 with dict := some dx } ∧ h'.Ns1 dx fs
theorem init_run1 (T : ErrC K file C fI cda cc B newId initId bmB) (X : K.In h) (hKe : K.lookup e = none) (lim : h.NoLimit) (hroom : A.depth < recursionLimit)
    {txt f a self : Str} {p0 p1 p2 p3 p4 p5 q0 q1 q2 q3 : Pos} {pl : Sem Bool} {ar : Arg} {v : Value} {R : Result → Shared → Prop}
    (lk : K.lookup fI = some ⟨oc, od, .func (ksFn name qual params [.Expr (.Call (.Attribute (.Call (.Name "super" p0) [] [] p1) "__init__" p2) [.Constant (.str txt) 0 p3] [] p4) p5, .Assign [.Attribute (.Name self q0) f q1] (.Name a q2) q3] scope dV kV doc pm an (.ref cda) ct cc), osl⟩)
    (hcd : codeIn K (.ref cda) qual = true) (hp : (params.posonlyargs ++ params.args).head? = some ar) (har : ar.arg = self)
    (hbind : BindsTo ⟨h, g, d, t, os⟩ (ksFn name qual params [.Expr (.Call (.Attribute (.Call (.Name "super" p0) [] [] p1) "__init__" p2) [.Constant (.str txt) 0 p3] [] p4) p5, .Assign [.Attribute (.Name self q0) f q1] (.Name a q2) q3] scope dV kV doc pm an (.ref cda) ct cc) ⟨[.ref e, v], []⟩ [(self, .ref e), (a, v)])
    (hne : self ≠ a) (he : h.get? e = some (HandSPX.excO C t0)) (hG : h.Ns mainGlobals mg) (hm : mg "super" = none) (hB : h.Ns builtinsNs mb) (hb : mb "super" = some (.type "super"))
    (hfile : ((prog.main.file : Str) == file) = true) (htop : (prog.main.scope.names.lookup ("super" : Str)).isSome = false)
    (hks : scope.names.lookup ("super" : Str) = some .globalImplicit) (hkc : scope.names.lookup ("__class__" : Str) = some .free) (hsl : scope.names.lookup self = some .local) (hal : scope.names.lookup a = some .local) (hk : scope.kind = .function)
    (hco : scope.isCoroutine = false) (hgen : scope.isGenerator = false) (hcell : ∀ x ∈ scope.names, x.2 ≠ .cell) (d1 : (self == ("__debug__" : Str)) = false) (d2 : (a == ("__debug__" : Str)) = false) (ht : takerIn K C f = some none)
    (hev : ∀ L, eval (.Call (.Attribute (.Call (.Name "super" p0) [] [] p1) "__init__" p2) [.Constant (.str txt) 0 p3] [] p4) (ksEnv qual scope L fI (.ref cda) cc) = (do
      let ov ← attributeBase (.Call (.Name "super" p0) [] [] p1) "__init__" (ksEnv qual scope L fI (.ref cda) cc) (eval (.Call (.Name "super" p0) [] [] p1) (ksEnv qual scope L fI (.ref cda) cc))
      standAt p2.atName
      let (f, first) ← holding [ov] (getMethod ov "__init__" pl)
      callWith p4 f first (backTo p4 (starEach [.Constant (.str txt) 0 p3] (ksEnv qual scope L fI (.ref cda) cc))) []))
    (hsw : ∀ L, swapsWith (.Name a q2) (some (.Attribute (.Name self q0) f q1)) q3.line (ksEnv qual scope L fI (.ref cda) cc) = pure false)
    (hR : ∀ s', MadeErr h g d os e C (fun y => if y = f then some v else none) s' → R (.ok (.ret .none)) s') :
    codeAny (model prog w) A (.call (.ref fI) ⟨[.ref e, v], []⟩) R ⟨h, g, d, t, os⟩ := by
  subst har
  refine ks_codeAny_call_defAt (s := ⟨h, g, d, t, os⟩) (binds := [(ar.arg, .ref e), (a, v)]) hroom (X _ _ lk) rfl lim (codeRec_of X hcd) rfl hbind hcell (fun x hx => ?_) (fun h1 hns k1 => ?_) hco hgen hk
  · simp only [List.mem_cons, List.not_mem_nil, or_false] at hx
    rcases hx with e | e <;> subst e
    · exact hsl
    · exact hal
  · have k1 : ∀ b o, h.get? b = some o → h1.get? b = some o := k1
    have v1 : (fun x => ([(ar.arg, Value.ref e), (a, v)] : List (Str × Value)).reverse.lookup x) ar.arg = some (.ref e) := by
      show ([(a, v), (ar.arg, Value.ref e)] : List (Str × Value)).lookup ar.arg = _
      rw [List.lookup_cons, show (ar.arg == a) = false from by simpa using hne, List.lookup_cons, beq_self_eq_true]
    have v2 : (fun x => ([(ar.arg, Value.ref e), (a, v)] : List (Str × Value)).reverse.lookup x) a = some v := by
      show ([(a, v), (ar.arg, Value.ref e)] : List (Str × Value)).lookup a = _
      rw [List.lookup_cons, beq_self_eq_true]
    refine ks_wpAt_execs_cons ?_
    refine super_stmt T (X.keeps k1) lk hp hns v1 (k1 _ _ he) (hG.keeps k1) hm (hB.keeps k1) hb hfile htop hks hkc hsl hk (hev _) fun h2 tk2 t2 k2 e2 => ?_
    refine wpAt_of_wpAny (wpAny_execs_cons ?_)
    have X2 : K.In h2 := fun b o z => k2 b o (fun y => by rw [y, hKe] at z; cases z) (k1 _ _ (X b o z))
    have Le : h.objs.size ≠ e := Nat.ne_of_gt (Heap.lt_size he)
    have hns2 : h2.Ns h.objs.size (fun x => ([(ar.arg, Value.ref e), (a, v)] : List (Str × Value)).reverse.lookup x) := by
      obtain ⟨oL, es, ep, e1, r⟩ := hns
      exact ⟨oL, es, ep, k2 _ _ Le e1, r⟩
    refine store_stmt T X2 ht hns2 v1 v2 e2 hsl hal hk d1 d2 (hsw _) fun h3 tk3 dx k3 n3 ne3 e3 ns3 => ?_
    refine wpAny_execs_nil (hR _ ⟨h3, tk3, dx, t2, rfl, fun b o hb z => k3 b o hb (k2 b o hb (k1 b o z)), ?_, ne3, e3, ns3⟩)
    cases z : h.get? dx with
    | none => rfl
    | some o =>
      have y := k2 dx o ne3 (k1 _ _ z)
      exact absurd (Heap.lt_size y) (Nat.not_lt.mpr n3)
end
end DL
namespace DL
open PySem PySem.Spec PyProof.Rows L2
section
open PySem.W PySem.Calls
/-- what making an error leaves: e the error, dx its dict -/
def ErrMade (C : Addr) (fs : Str → Option Value) (s : Shared) (u : Value) (s' : Shared) : Prop :=
  ∃ e h' tk' dx t1, u = .ref e ∧ s' = { s with heap := h', toks := tk' } ∧ (∀ b o, s.heap.get? b = some o → h'.get? b = some o) ∧ s.heap.objs.size ≤ e ∧ s.heap.get? dx = none ∧ dx ≠ e ∧ h'.get? e = some { HandSPX.excO C t1 with dict := some dx } ∧ h'.Ns1 dx fs
variable {prog : Program} {w : World} {A : Around} {E : Value → Shared → Prop} {s : Shared}
variable {K : Frag} {C fI cda cc : Addr} {B newId initId : String} {bmB : List Value} {file : Str}
theorem err_call (T : ErrC K file C fI cda cc B newId initId bmB) (X : K.In s.heap) {us : List Value} {fs : Str → Option Value} (hl : us.length ≤ sizeLine) (iC : findIn K (.ref C) "__init__" = some (some (.ref fI))) (tI : typeIn K (.ref fI) = some (.type "function"))
    (hrun : ∀ (h : Heap) (e t0 : Addr) (R : Result → Shared → Prop), K.In h → K.lookup e = none → (∀ b o, s.heap.get? b = some o → h.get? b = some o) → h.get? e = some (HandSPX.excO C t0) →
      (∀ s', MadeErr h s.gens s.drawn s.os e C fs s' → R (.ok (.ret .none)) s') → codeAny (model prog w) (A.under (.builtin "type.__call__" ⟨.ref C :: us, []⟩)) (.call (.ref fI) ⟨.ref e :: us, []⟩) R ⟨h, s.gens, s.drawn, s.toks, s.os⟩)
    {Q : Value → Shared → Prop} (hq : ∀ u s', ErrMade C fs s u s' → Q u s') : wpAny (model prog w) A (call (.ref C) us) Q E s := by
  obtain ⟨hp, g, d, tk, os⟩ := s
  obtain ⟨nm, N', qn, bs, bm, hdct, sn, sub, ab, col, dd, k0, k1, k2, k3, k5, hC, hT⟩ := excInit_of X T.q
  have kk : ∀ b o, hp.get? b = some o → ((hp.push (kdv_tup us)).push (HandSPX.excO C hp.objs.size)).get? b = some o := fun b o e => Heap.get?_push_of_some _ (Heap.get?_push_of_some _ e)
  have hget : ((hp.push (kdv_tup us)).push (HandSPX.excO C hp.objs.size)).get? (hp.objs.size + 1) = some (HandSPX.excO C hp.objs.size) := by heap_get
  have hKe : K.lookup (hp.objs.size + 1) = none := by
    cases z : K.lookup (hp.objs.size + 1) with
    | none => rfl
    | some o =>
      have y := Heap.lt_size (X _ _ z)
      exact absurd y (Nat.not_lt.mpr (Nat.le_succ _))
  refine wpAny_call (HandSPX.call_own T.eb.F hT hC (looks_findIn X iC) (fun self => bind_fn X self tI) hl ?_)
  refine hrun _ _ _ _ (X.keeps kk) hKe kk hget fun s' hm => ?_
  obtain ⟨h', tk', dx, t1, es, k, n, ne, he, hns⟩ := hm
  subst es
  show _ = _ ∧ _
  refine ⟨rfl, hq _ _ ⟨hp.objs.size + 1, h', tk', dx, t1, rfl, rfl, fun b o z => k b o (Nat.ne_of_lt (Nat.lt_succ_of_lt (Heap.lt_size z))) (kk b o z), Nat.le_succ _, ?_, ne, he, hns⟩⟩
  cases z : hp.get? dx with
  | none => rfl
  | some o =>
    rw [kk _ _ z] at n
    cases n
end
end DL
namespace DL
open PySem PySem.Spec PyProof.Rows L2
section
variable {X : Cx} {pins : List (Addr × Obj)} {σ : L2.St} {H1 : Hp} {s : Shared} {C : Addr} {fl : List Str} {vs : List V} {us : List Value} {Q : XK} {u : Value} {s' : Shared}
theorem zip_rel : ∀ {fl : List Str} {vs : List V} {us : List Value}, Vals vs us → ∀ f, RelO ((fl.zip vs).lookup f) ((fl.zip us).lookup f)
  | [], _, _, _, _ => True.intro
  | _ :: _, [], [], _, _ => True.intro
  | f1 :: fl, v :: vs, u :: us, r, f => by
    cases r with
    | cons r1 r2 =>
      show RelO (((f1, v) :: fl.zip vs).lookup f) (((f1, u) :: fl.zip us).lookup f)
      rw [List.lookup_cons, List.lookup_cons]
      cases f == f1 with
      | true => exact r1
      | false => exact zip_rel r2 f
end
end DL
namespace DL
open PySem PySem.Spec PyProof.Rows L2
/-- an own error that can be made: its class at C, the fields that its __init__ sets -/
structure ErrR (P : Program) (w : World) (K : PySem.W.Frag) (mg : Str → Option Value) (base : Heap) (C : Addr) (fl : List Str) : Prop where
  exC : PySem.W.subIn K (.ref C) (.type "BaseException") = some true
  tyC : PySem.W.typeIn K (.ref C) = some (.type "type")
  kC : PySem.W.keepIn K (.ref C) = true
  run : ∀ (A : Around) (E : Value → Shared → Prop) (s : Shared) (us : List Value), us.length = fl.length → A.depth + 4 < recursionLimit → (∀ b o, base.get? b = some o → s.heap.get? b = some o) → Mod K mg base →
    wpAny (model P w) A (call (.ref C) us) (ErrMade C (fun y => (fl.zip us).lookup y) s) E s
end DL
namespace DL
open PySem PySem.Spec PyProof.Rows L2
section
open PySem.W PySem.Calls
variable {prog : Program} {w : World} {A : Around} {h : Heap} {g : Array GenState} {d : Drawn} {t : Nat} {os : OsState}
variable {K : Frag} {C fI cda cc e t0 : Addr} {B newId initId : String} {bmB : List Value} {file : Str} {mg mb : Str → Option Value} {name qual : Str} {params : Arguments} {scope : Scope} {dV kV doc pm ct oc : Value} {an od : Option Addr} {osl : Array (Option Value)}
/-- __init__ with two fields -/
theorem init_run2 (T : ErrC K file C fI cda cc B newId initId bmB) (X : K.In h) (hKe : K.lookup e = none) (lim : h.NoLimit) (hroom : A.depth < recursionLimit)
    {txt f a f2 a2 self : Str} {p0 p1 p2 p3 p4 p5 q0 q1 q2 q3 r0 r1 r2 r3 : Pos} {pl : Sem Bool} {ar : Arg} {v v2 : Value} {R : Result → Shared → Prop}
    (lk : K.lookup fI = some ⟨oc, od, .func (ksFn name qual params [.Expr (.Call (.Attribute (.Call (.Name "super" p0) [] [] p1) "__init__" p2) [.Constant (.str txt) 0 p3] [] p4) p5, .Assign [.Attribute (.Name self q0) f q1] (.Name a q2) q3, .Assign [.Attribute (.Name self r0) f2 r1] (.Name a2 r2) r3] scope dV kV doc pm an (.ref cda) ct cc), osl⟩)
    (hcd : codeIn K (.ref cda) qual = true) (hp : (params.posonlyargs ++ params.args).head? = some ar) (har : ar.arg = self)
    (hbind : BindsTo ⟨h, g, d, t, os⟩ (ksFn name qual params [.Expr (.Call (.Attribute (.Call (.Name "super" p0) [] [] p1) "__init__" p2) [.Constant (.str txt) 0 p3] [] p4) p5, .Assign [.Attribute (.Name self q0) f q1] (.Name a q2) q3, .Assign [.Attribute (.Name self r0) f2 r1] (.Name a2 r2) r3] scope dV kV doc pm an (.ref cda) ct cc) ⟨[.ref e, v, v2], []⟩ [(self, .ref e), (a, v), (a2, v2)])
    (hne : self ≠ a) (hne2 : self ≠ a2) (hne3 : a ≠ a2) (he : h.get? e = some (HandSPX.excO C t0)) (hG : h.Ns mainGlobals mg) (hm : mg "super" = none) (hB : h.Ns builtinsNs mb) (hb : mb "super" = some (.type "super"))
    (hfile : ((prog.main.file : Str) == file) = true) (htop : (prog.main.scope.names.lookup ("super" : Str)).isSome = false)
    (hks : scope.names.lookup ("super" : Str) = some .globalImplicit) (hkc : scope.names.lookup ("__class__" : Str) = some .free) (hsl : scope.names.lookup self = some .local) (hal : scope.names.lookup a = some .local) (hal2 : scope.names.lookup a2 = some .local) (hk : scope.kind = .function)
    (hco : scope.isCoroutine = false) (hgen : scope.isGenerator = false) (hcell : ∀ x ∈ scope.names, x.2 ≠ .cell) (d1 : (self == ("__debug__" : Str)) = false) (d2 : (a == ("__debug__" : Str)) = false) (d3 : (a2 == ("__debug__" : Str)) = false) (ht : takerIn K C f = some none) (ht2 : takerIn K C f2 = some none)
    (hev : ∀ L, eval (.Call (.Attribute (.Call (.Name "super" p0) [] [] p1) "__init__" p2) [.Constant (.str txt) 0 p3] [] p4) (ksEnv qual scope L fI (.ref cda) cc) = (do
      let ov ← attributeBase (.Call (.Name "super" p0) [] [] p1) "__init__" (ksEnv qual scope L fI (.ref cda) cc) (eval (.Call (.Name "super" p0) [] [] p1) (ksEnv qual scope L fI (.ref cda) cc))
      standAt p2.atName
      let (f, first) ← holding [ov] (getMethod ov "__init__" pl)
      callWith p4 f first (backTo p4 (starEach [.Constant (.str txt) 0 p3] (ksEnv qual scope L fI (.ref cda) cc))) []))
    (hsw : ∀ L, swapsWith (.Name a q2) (some (.Attribute (.Name self q0) f q1)) q3.line (ksEnv qual scope L fI (.ref cda) cc) = pure false)
    (hsw2 : ∀ L, swapsWith (.Name a2 r2) (some (.Attribute (.Name self r0) f2 r1)) r3.line (ksEnv qual scope L fI (.ref cda) cc) = pure false)
    (hR : ∀ s', MadeErr h g d os e C (fun y => if y = f2 then some v2 else if y = f then some v else none) s' → R (.ok (.ret .none)) s') :
    codeAny (model prog w) A (.call (.ref fI) ⟨[.ref e, v, v2], []⟩) R ⟨h, g, d, t, os⟩ := by
  subst har
  refine ks_codeAny_call_defAt (s := ⟨h, g, d, t, os⟩) (binds := [(ar.arg, .ref e), (a, v), (a2, v2)]) hroom (X _ _ lk) rfl lim (codeRec_of X hcd) rfl hbind hcell (fun x hx => ?_) (fun h1 hns k1 => ?_) hco hgen hk
  · simp only [List.mem_cons, List.not_mem_nil, or_false] at hx
    rcases hx with e | e | e <;> subst e
    · exact hsl
    · exact hal
    · exact hal2
  · have k1 : ∀ b o, h.get? b = some o → h1.get? b = some o := k1
    have v1 : (fun x => ([(ar.arg, Value.ref e), (a, v), (a2, v2)] : List (Str × Value)).reverse.lookup x) ar.arg = some (.ref e) := by
      show ([(a2, v2), (a, v), (ar.arg, Value.ref e)] : List (Str × Value)).lookup ar.arg = _
      rw [List.lookup_cons, show (ar.arg == a2) = false from by simpa using hne2, List.lookup_cons, show (ar.arg == a) = false from by simpa using hne, List.lookup_cons, beq_self_eq_true]
    have v2' : (fun x => ([(ar.arg, Value.ref e), (a, v), (a2, v2)] : List (Str × Value)).reverse.lookup x) a = some v := by
      show ([(a2, v2), (a, v), (ar.arg, Value.ref e)] : List (Str × Value)).lookup a = _
      rw [List.lookup_cons, show (a == a2) = false from by simpa using hne3, List.lookup_cons, beq_self_eq_true]
    have v3 : (fun x => ([(ar.arg, Value.ref e), (a, v), (a2, v2)] : List (Str × Value)).reverse.lookup x) a2 = some v2 := by
      show ([(a2, v2), (a, v), (ar.arg, Value.ref e)] : List (Str × Value)).lookup a2 = _
      rw [List.lookup_cons, beq_self_eq_true]
    refine ks_wpAt_execs_cons ?_
    refine super_stmt T (X.keeps k1) lk hp hns v1 (k1 _ _ he) (hG.keeps k1) hm (hB.keeps k1) hb hfile htop hks hkc hsl hk (hev _) fun h2 tk2 t2 k2 e2 => ?_
    refine wpAt_of_wpAny (wpAny_execs_cons ?_)
    have X2 : K.In h2 := fun b o z => k2 b o (fun y => by rw [y, hKe] at z; cases z) (k1 _ _ (X b o z))
    have Le : h.objs.size ≠ e := Nat.ne_of_gt (Heap.lt_size he)
    have hns2 : h2.Ns h.objs.size (fun x => ([(ar.arg, Value.ref e), (a, v), (a2, v2)] : List (Str × Value)).reverse.lookup x) := by
      obtain ⟨oL, es, ep, e1, r⟩ := hns
      exact ⟨oL, es, ep, k2 _ _ Le e1, r⟩
    refine store_stmt T X2 ht hns2 v1 v2' e2 hsl hal hk d1 d2 (hsw _) fun h3 tk3 dx k3 n3 ne3 e3 ns3 => ?_
    refine wpAny_execs_cons ?_
    have X3 : K.In h3 := fun b o z => k3 b o (fun y => by rw [y, hKe] at z; cases z) (X2 b o z)
    have hns3 : h3.Ns h.objs.size (fun x => ([(ar.arg, Value.ref e), (a, v), (a2, v2)] : List (Str × Value)).reverse.lookup x) := by
      obtain ⟨oL, es, ep, e1, r⟩ := hns2
      exact ⟨oL, es, ep, k3 _ _ Le e1, r⟩
    have hdn : h2.get? dx = none := by
      cases z : h2.get? dx with
      | none => rfl
      | some o => exact absurd (Heap.lt_size z) (Nat.not_lt.mpr n3)
    have hw : Within (fun y => if y = f then some v else none) [f] := fun y hy => by
      by_cases z : y = f
      · rw [z]; exact List.mem_singleton.mpr rfl
      · have hy : (if y = f then some v else none) ≠ none := hy
        rw [if_neg z] at hy
        exact absurd rfl hy
    refine store_stmt2 T X3 ht2 hns3 v1 v3 e3 ns3 hw (by simp) hsl hal2 hk d1 d3 (hsw2 _) fun h4 tk4 k4 ns4 => ?_
    refine wpAny_execs_nil (hR _ ⟨h4, tk4, dx, t2, rfl, fun b o hb z => ?_, ?_, ne3, k4 _ _ (Ne.symm ne3) e3, ns4⟩)
    · have z1 := k2 b o hb (k1 b o z)
      refine k4 b o (fun y => ?_) (k3 b o hb z1)
      rw [y, hdn] at z1
      cases z1
    · cases z : h.get? dx with
      | none => rfl
      | some o =>
        have y := k2 dx o ne3 (k1 _ _ z)
        rw [hdn] at y
        cases y
/-- what the head says of an own error: its class and its __init__ -/
structure ErrH (P : Program) (K : Frag) (mg : Str → Option Value) (file : Str) (C fI cda cc : Addr) (st : Stmt) (qual : Str) (B newId initId : String) (bmB : List Value) : Prop where
  ec : ErrC K file C fI cda cc B newId initId bmB
  lk : ∃ oc od kV doc pm an ct osl, K.lookup fI = some ⟨oc, od, .func (ksFn "__init__" qual (defArgs st) (defBody st) (defScope st) .none kV doc pm an (.ref cda) ct cc), osl⟩
  hcd : codeIn K (.ref cda) qual = true
  iC : findIn K (.ref C) "__init__" = some (some (.ref fI))
  tI : typeIn K (.ref fI) = some (.type "function")
  exC : PySem.W.subIn K (.ref C) (.type "BaseException") = some true
  tyC : PySem.W.typeIn K (.ref C) = some (.type "type")
  kC : PySem.W.keepIn K (.ref C) = true
  hm : mg "super" = none
  hfile : ((P.main.file : Str) == file) = true
  htop : (P.main.scope.names.lookup ("super" : Str)).isSome = false
/-- the scope of an __init__ -/
def initB (sc : Scope) (self : Str) (as : List Str) : Bool :=
  decide (sc.names.lookup ("super" : Str) = some .globalImplicit) && decide (sc.names.lookup ("__class__" : Str) = some .free) && decide (sc.names.lookup self = some .local) && as.all (fun a => decide (sc.names.lookup a = some .local) && !(a == self) && !(a == ("__debug__" : Str))) && decide (sc.kind = .function) && !sc.isCoroutine && !sc.isGenerator && sc.names.all (fun x => decide (x.2 ≠ .cell)) && !(self == ("__debug__" : Str)) && decide as.Nodup
theorem lookup_two' {f f2 : Str} {v v2 : Value} (hne : f ≠ f2) : (fun y => if y = f2 then some v2 else if y = f then some v else none) = (fun y => ([(f, v), (f2, v2)] : List (Str × Value)).lookup y) := by
  funext y
  rw [List.lookup_cons, List.lookup_cons]
  by_cases h : y = f2
  · rw [if_pos h, h, show (f2 == f) = false from by simpa using Ne.symm hne, beq_self_eq_true]
  · rw [if_neg h, show (y == f2) = false from by simpa using h]
    by_cases h1 : y = f
    · rw [if_pos h1, h1, beq_self_eq_true]
    · rw [if_neg h1, show (y == f) = false from by simpa using h1]
      rfl
theorem lookup_one {f : Str} {v : Value} : (fun y => if y = f then some v else none) = (fun y => ([(f, v)] : List (Str × Value)).lookup y) := by
  funext y
  rw [List.lookup_cons]
  by_cases h1 : y = f
  · rw [if_pos h1, h1, beq_self_eq_true]
  · rw [if_neg h1, show (y == f) = false from by simpa using h1]
    rfl
variable {P : Program} {base : Heap} {st : Stmt}
theorem errR1 (T : ErrH P K mg file C fI cda cc st qual B newId initId bmB)
    {txt f a self : Str} {p0 p1 p2 p3 p4 p5 q0 q1 q2 q3 : Pos} {pl : Sem Bool} {ar : Arg}
    (hbd : defBody st = [.Expr (.Call (.Attribute (.Call (.Name "super" p0) [] [] p1) "__init__" p2) [.Constant (.str txt) 0 p3] [] p4) p5, .Assign [.Attribute (.Name self q0) f q1] (.Name a q2) q3])
    (hp : ((defArgs st).posonlyargs ++ (defArgs st).args).head? = some ar) (har : ar.arg = self) (hsc : initB (defScope st) self [a] = true)
    (hbind : ∀ (kV doc pm ct : Value) (an : Option Addr) (u v : Value), bindArgs (ksFn "__init__" qual (defArgs st) (defBody st) (defScope st) .none kV doc pm an (.ref cda) ct cc) ⟨[u, v], []⟩ = pure [(self, u), (a, v)])
    (ht : takerIn K C f = some none)
    (hev : ∀ L, eval (.Call (.Attribute (.Call (.Name "super" p0) [] [] p1) "__init__" p2) [.Constant (.str txt) 0 p3] [] p4) (ksEnv qual (defScope st) L fI (.ref cda) cc) = (do
      let ov ← attributeBase (.Call (.Name "super" p0) [] [] p1) "__init__" (ksEnv qual (defScope st) L fI (.ref cda) cc) (eval (.Call (.Name "super" p0) [] [] p1) (ksEnv qual (defScope st) L fI (.ref cda) cc))
      standAt p2.atName
      let (f, first) ← holding [ov] (getMethod ov "__init__" pl)
      callWith p4 f first (backTo p4 (starEach [.Constant (.str txt) 0 p3] (ksEnv qual (defScope st) L fI (.ref cda) cc))) []))
    (hsw : ∀ L, swapsWith (.Name a q2) (some (.Attribute (.Name self q0) f q1)) q3.line (ksEnv qual (defScope st) L fI (.ref cda) cc) = pure false) :
    ErrR P w K mg base C [f] where
  exC := T.exC
  tyC := T.tyC
  kC := T.kC
  run := fun A E s us hl hd hb md => by
    obtain ⟨oc, od, kV, doc, pm, an, ct, osl, lk⟩ := T.lk
    obtain ⟨mb, hB, hbb⟩ := md.blt
    match us, hl with
    | [v], _ =>
    unfold initB at hsc
    simp only [List.all_cons, List.all_nil, Bool.and_true, Bool.and_eq_true, decide_eq_true_eq, Bool.not_eq_true', List.all_eq_true] at hsc
    obtain ⟨⟨⟨⟨⟨⟨⟨⟨⟨s1, s2⟩, s3⟩, ⟨s4, s5⟩, s6⟩, s7⟩, s8⟩, s9⟩, s10⟩, s11⟩, s12⟩ := hsc
    have Xs : K.In s.heap := fun b o z => hb b o (md.kin b o z)
    refine err_call T.ec Xs (by show 1 ≤ sizeLine; exact Nat.le_of_ble_eq_true rfl) T.iC T.tI (fs := fun y => ([(f, v)] : List (Str × Value)).lookup y) (fun h e t0 R X hKe kk he hR => ?_) fun u s' h => h
    have kb : ∀ b o, base.get? b = some o → h.get? b = some o := fun b o z => kk b o (hb b o z)
    rw [hbd] at lk hbind
    rw [← lookup_one] at hR
    exact init_run1 T.ec X hKe (md.nolimit.keeps kb) (by have := hd; show A.depth + 1 < _; omega) (pl := pl) lk T.hcd hp har (BindsTo.of_eq (hbind _ _ _ _ _ _ _)) (fun z => by rw [z] at s5; simp at s5) he (md.glob.keeps kb) T.hm (hB.keeps kb) (by rw [hbb "super" (by decide)]; rfl) T.hfile T.htop s1 s2 s3 s4 s7 s8 s9 (fun x hx => by simpa using s10 x hx) s11 s6 ht hev hsw hR
theorem errR2 (T : ErrH P K mg file C fI cda cc st qual B newId initId bmB)
    {txt f a f2 a2 self : Str} {p0 p1 p2 p3 p4 p5 q0 q1 q2 q3 r0 r1 r2 r3 : Pos} {pl : Sem Bool} {ar : Arg}
    (hbd : defBody st = [.Expr (.Call (.Attribute (.Call (.Name "super" p0) [] [] p1) "__init__" p2) [.Constant (.str txt) 0 p3] [] p4) p5, .Assign [.Attribute (.Name self q0) f q1] (.Name a q2) q3, .Assign [.Attribute (.Name self r0) f2 r1] (.Name a2 r2) r3])
    (hp : ((defArgs st).posonlyargs ++ (defArgs st).args).head? = some ar) (har : ar.arg = self) (hsc : initB (defScope st) self [a, a2] = true)
    (hbind : ∀ (kV doc pm ct : Value) (an : Option Addr) (u v v2 : Value), bindArgs (ksFn "__init__" qual (defArgs st) (defBody st) (defScope st) .none kV doc pm an (.ref cda) ct cc) ⟨[u, v, v2], []⟩ = pure [(self, u), (a, v), (a2, v2)])
    (ht : takerIn K C f = some none) (ht2 : takerIn K C f2 = some none) (hff : f ≠ f2)
    (hev : ∀ L, eval (.Call (.Attribute (.Call (.Name "super" p0) [] [] p1) "__init__" p2) [.Constant (.str txt) 0 p3] [] p4) (ksEnv qual (defScope st) L fI (.ref cda) cc) = (do
      let ov ← attributeBase (.Call (.Name "super" p0) [] [] p1) "__init__" (ksEnv qual (defScope st) L fI (.ref cda) cc) (eval (.Call (.Name "super" p0) [] [] p1) (ksEnv qual (defScope st) L fI (.ref cda) cc))
      standAt p2.atName
      let (f, first) ← holding [ov] (getMethod ov "__init__" pl)
      callWith p4 f first (backTo p4 (starEach [.Constant (.str txt) 0 p3] (ksEnv qual (defScope st) L fI (.ref cda) cc))) []))
    (hsw : ∀ L, swapsWith (.Name a q2) (some (.Attribute (.Name self q0) f q1)) q3.line (ksEnv qual (defScope st) L fI (.ref cda) cc) = pure false)
    (hsw2 : ∀ L, swapsWith (.Name a2 r2) (some (.Attribute (.Name self r0) f2 r1)) r3.line (ksEnv qual (defScope st) L fI (.ref cda) cc) = pure false) :
    ErrR P w K mg base C [f, f2] where
  exC := T.exC
  tyC := T.tyC
  kC := T.kC
  run := fun A E s us hl hd hb md => by
    obtain ⟨oc, od, kV, doc, pm, an, ct, osl, lk⟩ := T.lk
    obtain ⟨mb, hB, hbb⟩ := md.blt
    match us, hl with
    | [v, v2], _ =>
    unfold initB at hsc
    simp only [List.all_cons, List.all_nil, Bool.and_true, Bool.and_eq_true, decide_eq_true_eq, Bool.not_eq_true', List.all_eq_true] at hsc
    obtain ⟨⟨⟨⟨⟨⟨⟨⟨⟨s1, s2⟩, s3⟩, ⟨⟨s4, s5⟩, s6⟩, ⟨t4, t5⟩, t6⟩, s7⟩, s8⟩, s9⟩, s10⟩, s11⟩, s12⟩ := hsc
    have Xs : K.In s.heap := fun b o z => hb b o (md.kin b o z)
    refine err_call T.ec Xs (by show 2 ≤ sizeLine; exact Nat.le_of_ble_eq_true rfl) T.iC T.tI (fs := fun y => ([(f, v), (f2, v2)] : List (Str × Value)).lookup y) (fun h e t0 R X hKe kk he hR => ?_) fun u s' h => h
    have kb : ∀ b o, base.get? b = some o → h.get? b = some o := fun b o z => kk b o (hb b o z)
    rw [hbd] at lk hbind
    rw [← lookup_two' hff] at hR
    exact init_run2 T.ec X hKe (md.nolimit.keeps kb) (by have := hd; show A.depth + 1 < _; omega) (pl := pl) lk T.hcd hp har (BindsTo.of_eq (hbind _ _ _ _ _ _ _ _)) (fun z => by rw [z] at s5; simp at s5) (fun z => by rw [z] at t5; simp at t5) (fun z => by simp [z] at s12) he (md.glob.keeps kb) T.hm (hB.keeps kb) (by rw [hbb "super" (by decide)]; rfl) T.hfile T.htop s1 s2 s3 s4 t4 s7 s8 s9 (fun x hx => by simpa using s10 x hx) s11 s6 t6 ht ht2 hev hsw hsw2 hR
end
end DL
namespace DL
open PySem PySem.Spec PyProof.Rows L2
section
open PySem.W
variable {K : Frag} {C : Addr} {ddC : Option Addr} {cd : ClassData} {slC : Array (Option Value)} {B newId initId : String} {bmB : List Value} {k0 k1 k2 k3 k5 : Option Value}
theorem cls_of (lk : K.lookup C = some ⟨.type "type", ddC, .cls cd, slC⟩) : clsIn K C = some cd := by
  unfold clsIn
  rw [lk]
theorem err_q (lk : K.lookup C = some ⟨.type "type", ddC, .cls cd, slC⟩) (hm : cd.mro = .ref C :: bmB) (hs : slC.toList = [k0, k1, k2, k3, some (.builtin newId), k5]) (hd : cd.hasDel = false) (ht : excTail bmB bmB = true) : excInitIn K C bmB newId = true := by
  unfold excInitIn
  simp [lk, hm, hs, hd, ht]
theorem err_ov (lk : K.lookup C = some ⟨.type "type", ddC, .cls cd, slC⟩) (hm : cd.mro = .ref C :: bmB) (ht : excTail bmB bmB = true) : excOver K C bmB = true := by
  unfold excOver
  rw [cls_of lk]
  show (match cd.mro with | .ref C' :: bm => C' == C && excTail bmB bm | _ => false) = true
  rw [hm]
  dsimp only
  rw [ht]
  simp
theorem err_sup (lk : K.lookup C = some ⟨.type "type", ddC, .cls cd, slC⟩) (hm : cd.mro = .ref C :: bmB) (hi : alongIn K "__init__" bmB = some (some (.builtin initId))) : ks_superIn K C C "__init__" = some (some (.builtin initId)) := by
  unfold ks_superIn
  rw [cls_of lk]
  show alongIn K "__init__" ((cd.mro.dropWhile (· != .ref C)).drop 1) = _
  rw [hm, List.dropWhile_cons]
  simp only [bne_self_eq_false, Bool.false_eq_true, if_false, List.drop_succ_cons, List.drop_zero]
  exact hi
theorem along_one {T : String} {r : List Value} {v : Value} (h : fastBuiltinOwn T "__init__" = some v) : alongIn K "__init__" (.type T :: r) = some (some v) := by
  unfold alongIn ownIn
  dsimp only
  rw [h]
end
abbrev bVE : List Value := [.type "ValueError", .type "Exception", .type "BaseException", .type "object"]
abbrev bLE : List Value := [.type "LookupError", .type "Exception", .type "BaseException", .type "object"]
abbrev bRE : List Value := [.type "RuntimeError", .type "Exception", .type "BaseException", .type "object"]
abbrev bOE : List Value := [.type "OverflowError", .type "ArithmeticError", .type "Exception", .type "BaseException", .type "object"]
theorem fb_VE : fastBuiltinOwn "ValueError" "__init__" = some (.builtin "ValueError.__init__") := by decide +kernel
theorem fb_LE : fastBuiltinOwn "LookupError" "__init__" = some (.builtin "LookupError.__init__") := by decide +kernel
theorem fb_RE : fastBuiltinOwn "RuntimeError" "__init__" = some (.builtin "RuntimeError.__init__") := by decide +kernel
theorem fb_OE : fastBuiltinOwn "OverflowError" "__init__" = some (.builtin "OverflowError.__init__") := by decide +kernel
section
open PySem.W
variable {P : Program} {K : Frag} {C fI cda cc : Addr} {ddC : Option Addr} {cdC : ClassData} {slC : Array (Option Value)} {B newId initId : String} {bmB : List Value} {mg : Str → Option Value} {h : Heap}
variable {st : Stmt} {qual file : Str} {oc kV dc pm ct cl ccl : Value} {od an cld cdd : Option Addr} {sl csl ccs : Array (Option Value)} {vs : Array Value} {tf : Tok} {k0 k1 k2 k3 k5 : Option Value}
/-- the head's answers of one own error -/
theorem errH_of (X : K.In h) (G : h.Ns mainGlobals mg) (eb : ErrB B newId initId bmB) (ht : excTail bmB bmB = true) (hi : alongIn K "__init__" bmB = some (some (.builtin initId)))
    (lkC : K.lookup C = some ⟨.type "type", ddC, .cls cdC, slC⟩) (mroC : cdC.mro = .ref C :: bmB) (hs : slC.toList = [k0, k1, k2, k3, some (.builtin newId), k5]) (hdl : cdC.hasDel = false)
    (hd : hasDictIn K C = true) (sa : findIn K (.ref C) "__setattr__" = some (some (.builtin "object.__setattr__"))) (sB : subIn K (.ref C) (.type B) = some true) (mro : mroIn K C (.ref C) = some true) (opq : nsIn K cStatics "thirdparty.any" = some none)
    (iC : findIn K (.ref C) "__init__" = some (some (.ref fI))) (tI : typeIn K (.ref fI) = some (.type "function"))
    (lk : K.lookup fI = some ⟨oc, od, .func (ksFn "__init__" qual (defArgs st) (defBody st) (defScope st) .none kV dc pm an (.ref cda) ct cc), sl⟩)
    (cell : K.lookup cc = some ⟨cl, cld, .cell (some (.ref C)), csl⟩) (code : K.lookup cda = some ⟨ccl, cdd, .fields vs, ccs⟩) (hvs : vs[2]? = some (.str file tf)) (hcd : codeIn K (.ref cda) qual = true)
    (exC : subIn K (.ref C) (.type "BaseException") = some true) (tyC : typeIn K (.ref C) = some (.type "type")) (kC : keepIn K (.ref C) = true)
    (hm : nsIn K mainGlobals "super" = some none) (hfile : ((P.main.file : Str) == file) = true) (htop : (P.main.scope.names.lookup ("super" : Str)).isSome = false) :
    ErrH P K mg file C fI cda cc st qual B newId initId bmB :=
  ⟨⟨eb, err_q lkC mroC hs hdl ht, err_ov lkC mroC ht, hd, sa, err_sup lkC mroC hi, sB, mro, opq, by rw [cls_of lkC]; rfl, ⟨_, _, _, cell⟩, ⟨_, _, _, _, _, code, hvs⟩⟩, ⟨_, _, _, _, _, _, _, _, lk⟩, hcd, iC, tI, exC, tyC, kC, mg_none_of X G hm, hfile, htop⟩
end
end DL
namespace DL
open PySem PySem.Spec PyProof.Rows L2
section
variable {c c' : Cfg} {L : Lk} {H : Hp} {S : Sto}
/-- two that differ in the ghost alone (and in the errors' classes) -/
structure Gh (c c' : Cfg) : Prop where
  K : c.K = c'.K
  cA : c.cA = c'.cA
  fl : c.fl = c'.fl
  w : c.w = c'.w
  cv : c.cv = c'.cv
theorem FT.gh (g : Gh c c') {p : Addr} {vs : List V} (h : FT c L H S p vs) : FT c' L H S p vs := by unfold FT at h ⊢; rw [← g.K]; exact h
theorem FL.gh (g : Gh c c') {p : Addr} {vs : List V} (h : FL c L H S p vs) : FL c' L H S p vs := by unfold FL at h ⊢; rw [← g.K]; exact h
mutual
theorem Rep.gh (g : Gh c c') : ∀ (d : D) (v : V), Rep c L H S d v → Rep c' L H S d v
  | .non, v, h => by unfold Rep at h ⊢; exact h
  | .bl b, v, h => by unfold Rep at h ⊢; exact h
  | .int i, v, h => by unfold Rep at h ⊢; exact h
  | .str x, v, h => by unfold Rep at h ⊢; exact h
  | .ref a, v, h => by unfold Rep at h ⊢; exact h
  | .rp p, v, h => by unfold Rep at h ⊢; exact h
  | .ty n, v, h => by unfold Rep at h ⊢; rw [← g.cA]; exact h
  | .tup ds, v, h => by
    unfold Rep at h ⊢
    obtain ⟨p, vs, ev, f, r⟩ := h
    exact ⟨p, vs, ev, f.gh g, Reps.gh g ds vs r⟩
  | .lst ds, v, h => by
    unfold Rep at h ⊢
    obtain ⟨p, vs, ev, f, z, r⟩ := h
    exact ⟨p, vs, ev, f, z, Reps.gh g ds vs r⟩
  | .cst ds, v, h => by
    unfold Rep at h ⊢
    obtain ⟨p, vs, ev, f, r⟩ := h
    exact ⟨p, vs, ev, f.gh g, Reps.gh g ds vs r⟩
  | .ins C ds, v, h => by
    unfold Rep at h ⊢
    obtain ⟨p, dx, vs, ev, f, z, r⟩ := h
    exact ⟨p, dx, vs, ev, by rw [← g.cA, ← g.fl]; exact f, z, Reps.gh g ds vs r⟩
  | .set xs, v, h => by
    unfold Rep at h ⊢
    obtain ⟨p, Sf, n, ev, f, hs, z⟩ := h
    exact ⟨p, Sf, n, ev, by rw [← g.w]; exact f, hs, z⟩
  | .err n ds, v, h => by
    unfold Rep at h ⊢
    obtain ⟨p, p2, vs, ev, f, f2, z, z2, r⟩ := h
    exact ⟨p, p2, vs, ev, by rw [← g.cv]; exact f, by rw [← g.fl]; exact f2, z, z2, Reps.gh g ds vs r⟩
  | .dic ks ds, v, h => by
    unfold Rep at h ⊢
    obtain ⟨p, o, nk, kvs, vs, ev, f, z, ek, rk, r⟩ := h
    exact ⟨p, o, nk, kvs, vs, ev, by rw [← g.w]; exact f, z, ek, Reps.gh g ks kvs rk, Reps.gh g ds vs r⟩
theorem Reps.gh (g : Gh c c') : ∀ (ds : List D) (vs : List V), Reps c L H S ds vs → Reps c' L H S ds vs
  | [], vs, h => by unfold Reps at h ⊢; exact h
  | d :: ds, vs, h => by
    unfold Reps at h ⊢
    obtain ⟨v, ws, ev, r, rs⟩ := h
    exact ⟨v, ws, ev, Rep.gh g d v r, Reps.gh g ds ws rs⟩
end
theorem MR.gh (g : Gh c c') {p : Addr} : ∀ {o : MO}, MR c L H S p o → MR c' L H S p o
  | .lst ds, ⟨vs, h, r⟩ => ⟨vs, h, r.gh g⟩
  | .ins C ds, ⟨dx, vs, h, r⟩ => ⟨dx, vs, by rw [← g.cA, ← g.fl]; exact h, r.gh g⟩
  | .dct kvs, ⟨vs, h, r⟩ => ⟨vs, h, r.gh g⟩
  | .lkd od vs kvs, ⟨h, r⟩ => ⟨h, r.gh g⟩
  | .dic nk ds, ⟨kvs, vs, h, rk, r⟩ => ⟨kvs, vs, by rw [← g.w]; exact h, rk.gh g, r.gh g⟩
theorem EnvR.gh {ρ : DSt} {σ : L2.St} (g : Gh c c') (s : EnvR c L H S ρ σ) : EnvR c' L H S ρ σ := ⟨s.len, fun i d h => by
  obtain ⟨v, a, r⟩ := s.at_ i d h
  exact ⟨v, a, r.gh g⟩⟩
end
abbrev WF : WX := fun _ _ _ _ => False
abbrev Cla.hot (A : Cla) (p : Addr) (n : Nat) (ds : List D) : Cla := { A with gh := some (p, n, ds) }
theorem zip_get {c : Cfg} {L : Lk} {H : Hp} {S : Sto} : ∀ {fl : List Str} {ds : List D} {vs : List V} {f : Str} {x : D}, Reps c L H S ds vs → (fl.zip ds).lookup f = some x → ∃ v, (fl.zip vs).lookup f = some v ∧ Rep c L H S x v
  | [], ds, vs, f, x, r, h => by cases h
  | g :: fl, [], vs, f, x, r, h => by cases h
  | g :: fl, d :: ds, vs, f, x, r, h => by
    obtain ⟨v, ws, ev, r1, rs⟩ := r.of_cons
    subst ev
    rw [List.zip_cons_cons, List.lookup_cons] at h ⊢
    cases e : f == g with
    | true =>
      rw [e] at h
      cases h
      exact ⟨v, rfl, r1⟩
    | false =>
      rw [e] at h
      exact zip_get rs h
end DL
namespace DL
open PySem PySem.Spec PyProof.Rows L2
section
variable {P : Program} {w : World} {K : PySem.W.Frag} {A : Cla} {mg : Str → Option Value} {base : Heap} {N : List Str} {sc : Scope} {fo : Str → Bool} {lv : Nat} {X : Cx} {W : WX}
variable {e : Expr} {es : List Expr} {p pos pos' : Pos} {x : Str} {ta : DTA} {C : Addr} {n i : Nat}
/-- the little that holds in a suite, too -/
structure Is (N : List Str) (sc : Scope) (X : Cx) : Prop where
  eN : X.N = N
  eS : X.env.scope = sc
theorem Is.var {i : Nat} {x : Str} (h : Is N sc X) (ck : nmB N sc i x = true) : DE X A W (.Name x pos) (dVar i) := by
  obtain ⟨a, b, c, d⟩ := nmB_ok ck
  have := h.eN; subst this
  have := h.eS; subst this
  exact de_var a b c d
/-- in the suite: a the error, p its dict, n its number, ds its fields -/
structure Xs (K : PySem.W.Frag) (X' : Cx) (A : Cla) (a p : Addr) (n : Nat) (ds : List D) : Prop where
  ex : ∃ X oe pn, X' = Cx.suite X a ((a, oe) :: pn) ∧ X.K = K ∧ Zc (A.cv n) (some p) oe ∧ ∃ vs, oe.data = .fields vs
/-- a local name with a slot -/
def lcB (N : List Str) (sc : Scope) (i : Nat) (x : Str) : Bool := decide N.Nodup && decide (N[i]? = some x) && decide (sc.names.lookup x = some .local)
end
end DL
namespace PySem.SeqAt
open PySem PySem.Spec
open MeetsSeq MeetsSeq2 MeetsSeq3 SeqRoads2
end PySem.SeqAt
namespace PySem.SeqAt
open PySem PySem.Spec
open MeetsSeq MeetsSeq2 MeetsSeq3 SeqRoads2
mutual
def ltP : PyData → PyData → Option Bool
  | .int i, .int j => some (decide (i < j))
  | .str a, .str b => some (decide (a.cps.toList < b.cps.toList))
  | .tuple xs, .tuple ys => ltL xs ys
  | _, _ => none
def ltL : List PyData → List PyData → Option Bool
  | [], [] => some false
  | [], _ :: _ => some true
  | _ :: _, [] => some false
  | x :: xs, y :: ys => if PyData.eqv x y = true then ltL xs ys else ltP x y
end
end PySem.SeqAt
namespace DL
open PySem PySem.Spec PyProof.Rows L2
def FnDk (P : Program) (w : World) (c : Cfg) (mg : Str → Option Value) (base : Heap) (k : Nat) (f : Addr) (ks : List Str) (sp : DSp) : Prop :=
  ∀ (A : Around) (outer : List PySem.Env) (s : Shared) (H : Hp) (us ws : List Value) (vs zs : List V) (Q : VK) (E : XK), Rm k A → Env0 P w c.K mg base A outer s H → Vals vs us → Vals zs ws → ws.length = ks.length → liftSp c sp (vs ++ zs) H Q E →
    codeAny (model P w) A (.call (.ref f) ⟨us, ks.zip ws⟩) (CR (L2N.CX P w) outer P w H s Q E) s
theorem FnDk.mono {P : Program} {w : World} {c : Cfg} {mg : Str → Option Value} {base : Heap} {j k : Nat} {f : Addr} {ks : List Str} {sp : DSp} (F : FnDk P w c mg base j f ks sp) (h : j ≤ k) : FnDk P w c mg base k f ks sp :=
  fun A outer s H us ws vs zs Q E m => F A outer s H us ws vs zs Q E (m.mono h)
theorem FnDk.imp {P : Program} {w : World} {c : Cfg} {mg : Str → Option Value} {base : Heap} {k : Nat} {f : Addr} {ks : List Str} {sp sp' : DSp} (F : FnDk P w c mg base k f ks sp) (h : ∀ ds S Q E, sp' ds S Q E → sp ds S Q E) : FnDk P w c mg base k f ks sp' :=
  fun A outer s H us ws vs zs Q E m e0 r rz hw ⟨ds, S, L, Qd, Ed, so, rs, hs, kq, kx⟩ => F A outer s H us ws vs zs Q E m e0 r rz hw ⟨ds, S, L, Qd, Ed, so, rs, h _ _ _ _ hs, kq, kx⟩
structure PKn (X : Cx) (kws : List Keyword) (t : TA) : Prop where
  run : ∀ (pos : Pos) (pins : List (Addr × Obj)) (s : Shared) (σ : L2.St) (H : Hp) (Q : List V → Hp → Prop), L2.Inv X pins σ H s → t σ H Q → wpAny (model X.prog X.w) X.A (evalAll ((backToKw pos (keywordEach kws X.env)).map (·.2)))
    (fun ws s2 => ∃ zs H2, L2.Inv X pins σ H2 s2 ∧ Vals zs ws ∧ ws.length = kws.length ∧ Q zs H2) X.xe s
structure PAK (X : Cx) (es : List Expr) (kws : List Keyword) (t : TA) : Prop where
  run : ∀ (pos : Pos) (pins : List (Addr × Obj)) (s : Shared) (σ : L2.St) (H : Hp) (Q : List V → Hp → Prop), L2.Inv X pins σ H s → t σ H Q → wpAny (model X.prog X.w) X.A (spliced (backTo pos (starEach es X.env)))
    (fun us s1 => ∃ vs H1, L2.Inv X pins σ H1 s1 ∧ Vals vs us ∧ wpAny (model X.prog X.w) X.A (evalAll ((backToKw pos (keywordEach kws X.env)).map (·.2)))
      (fun ws s2 => ∃ zs H2, L2.Inv X pins σ H2 s2 ∧ Vals zs ws ∧ ws.length = kws.length ∧ Q (vs ++ zs) H2) X.xe s1) X.xe s
section
variable {X : Cx} {A : Cla} {W : WX} {e : Expr} {es : List Expr} {kws : List Keyword} {te : TE} {t : TA} {pos kpos : Pos} {nm : Option Str}
theorem PKn.mono {t t' : TA} (h : PKn X kws t) (m : ∀ σ H Q, t' σ H Q → t σ H Q) : PKn X kws t' := ⟨fun p pins s σ H Q I q => h.run p pins s σ H Q I (m σ H Q q)⟩
theorem PAK.mono {t t' : TA} (h : PAK X es kws t) (m : ∀ σ H Q, t' σ H Q → t σ H Q) : PAK X es kws t' := ⟨fun p pins s σ H Q I q => h.run p pins s σ H Q I (m σ H Q q)⟩
end
end DL
namespace DL
open PySem PySem.Spec PyProof.Rows L2
inductive OT where
  | v (d : D) | l (xs : List OT) | t (xs : List OT) | i (C : Nat) (xs : List OT) | k (ks : List Key) (xs : List OT) | d (nk : List NestedKey) (xs : List D)
instance : Inhabited OT := ⟨.v .non⟩
mutual
/-- the places of a tree that stands at a value -/
def Fp (S : Sto) : OT → D → Addr → Prop
  | .v _, _, _ => False
  | .l xs, d, a => ∃ p ds, d = .ref p ∧ S p = some (.lst ds) ∧ (a = p ∨ Fps S xs ds a)
  | .i C xs, d, a => ∃ p ds, d = .ref p ∧ S p = some (.ins C ds) ∧ (a = p ∨ Fps S xs ds a)
  | .k ks xs, d, a => ∃ p kvs, d = .ref p ∧ S p = some (.dct kvs) ∧ (a = p ∨ Fps S xs (kvs.map (·.2)) a)
  | .t xs, d, a => ∃ ds, d = .tup ds ∧ Fps S xs ds a
  | .d nk xs, d, a => ∃ p, d = .ref p ∧ S p = some (.dic nk xs) ∧ a = p
def Fps (S : Sto) : List OT → List D → Addr → Prop
  | [], _, _ => False
  | x :: xs, ds, a => ∃ d r, ds = d :: r ∧ (Fp S x d a ∨ Fps S xs r a)
end
mutual
/-- the tree stands at a value -/
def Tr (S : Sto) : OT → D → Prop
  | .v e, d => d = e
  | .l xs, d => ∃ p ds, d = .ref p ∧ S p = some (.lst ds) ∧ Trs S xs ds ∧ ¬ Fps S xs ds p
  | .i C xs, d => ∃ p ds, d = .ref p ∧ S p = some (.ins C ds) ∧ Trs S xs ds ∧ ¬ Fps S xs ds p
  | .k ks xs, d => ∃ p kvs, d = .ref p ∧ S p = some (.dct kvs) ∧ kvs.map (·.1) = ks ∧ Trs S xs (kvs.map (·.2)) ∧ ¬ Fps S xs (kvs.map (·.2)) p
  | .t xs, d => ∃ ds, d = .tup ds ∧ Trs S xs ds
  | .d nk xs, d => ∃ p, d = .ref p ∧ S p = some (.dic nk xs)
def Trs (S : Sto) : List OT → List D → Prop
  | [], ds => ds = []
  | x :: xs, ds => ∃ d r, ds = d :: r ∧ Tr S x d ∧ Trs S xs r ∧ (∀ a, Fp S x d a → ¬ Fps S xs r a)
end
mutual
def frzO : OT → D
  | .v d => d
  | .l xs => .lst (frzOs xs)
  | .t xs => .tup (frzOs xs)
  | .i C xs => .ins C (frzOs xs)
  | .k _ _ => .non
  | .d nk xs => .dic (nk.map nD) xs
def frzOs : List OT → List D
  | [] => []
  | x :: xs => frzO x :: frzOs xs
end
mutual
/-- no dict is in it -/
def OT.nd : OT → Bool
  | .v _ => true
  | .l xs => OT.nds xs
  | .t xs => OT.nds xs
  | .i _ xs => OT.nds xs
  | .k _ _ => false
  | .d _ _ => false
def OT.nds : List OT → Bool
  | [] => true
  | x :: xs => x.nd && OT.nds xs
end
section
variable {S S1 : Sto}
mutual
theorem Fp.live : ∀ {t : OT} {d : D} {a : Addr}, Fp S t d a → S a ≠ none
  | .v _, d, a, h => by unfold Fp at h; exact h.elim
  | .l xs, d, a, h => by
    unfold Fp at h
    obtain ⟨p, ds, _, hs, e | h⟩ := h
    · subst e; rw [hs]; simp
    · exact Fps.live h
  | .i C xs, d, a, h => by
    unfold Fp at h
    obtain ⟨p, ds, _, hs, e | h⟩ := h
    · subst e; rw [hs]; simp
    · exact Fps.live h
  | .k ks xs, d, a, h => by
    unfold Fp at h
    obtain ⟨p, ds, _, hs, e | h⟩ := h
    · subst e; rw [hs]; simp
    · exact Fps.live h
  | .t xs, d, a, h => by
    unfold Fp at h
    obtain ⟨ds, _, h⟩ := h
    exact Fps.live h
  | .d nk xs, d, a, h => by
    unfold Fp at h
    obtain ⟨p, _, hs, e⟩ := h
    subst e; rw [hs]; simp
theorem Fps.live : ∀ {ts : List OT} {ds : List D} {a : Addr}, Fps S ts ds a → S a ≠ none
  | [], ds, a, h => by unfold Fps at h; exact h.elim
  | x :: xs, ds, a, h => by
    unfold Fps at h
    obtain ⟨d, r, _, h | h⟩ := h
    · exact Fp.live h
    · exact Fps.live h
end
mutual
/-- stores that agree on the places -/
theorem Fp.eq : ∀ {t : OT} {d : D}, (∀ a, Fp S t d a → S1 a = S a) → Tr S t d → ∀ a, Fp S1 t d a ↔ Fp S t d a
  | .v _, d, _, _, a => by unfold Fp; rfl
  | .l xs, d, h, tr, a => by
    unfold Tr at tr
    obtain ⟨p, ds, ed, hs, ts, np⟩ := tr
    subst ed
    have h1 : S1 p = S p := h p (by unfold Fp; exact ⟨p, ds, rfl, hs, .inl rfl⟩)
    have h2 := Fps.eq (fun a fa => h a (by unfold Fp; exact ⟨p, ds, rfl, hs, .inr fa⟩)) ts a
    unfold Fp
    constructor
    · rintro ⟨q, es, e1, e2, e3⟩
      cases e1
      rw [h1, hs] at e2
      cases e2
      exact ⟨p, ds, rfl, hs, e3.imp id h2.mp⟩
    · rintro ⟨q, es, e1, e2, e3⟩
      cases e1
      rw [hs] at e2
      cases e2
      exact ⟨p, ds, rfl, h1.trans hs, e3.imp id h2.mpr⟩
  | .i C xs, d, h, tr, a => by
    unfold Tr at tr
    obtain ⟨p, ds, ed, hs, ts, np⟩ := tr
    subst ed
    have h1 : S1 p = S p := h p (by unfold Fp; exact ⟨p, ds, rfl, hs, .inl rfl⟩)
    have h2 := Fps.eq (fun a fa => h a (by unfold Fp; exact ⟨p, ds, rfl, hs, .inr fa⟩)) ts a
    unfold Fp
    constructor
    · rintro ⟨q, es, e1, e2, e3⟩
      cases e1
      rw [h1, hs] at e2
      cases e2
      exact ⟨p, ds, rfl, hs, e3.imp id h2.mp⟩
    · rintro ⟨q, es, e1, e2, e3⟩
      cases e1
      rw [hs] at e2
      cases e2
      exact ⟨p, ds, rfl, h1.trans hs, e3.imp id h2.mpr⟩
  | .k ks xs, d, h, tr, a => by
    unfold Tr at tr
    obtain ⟨p, ds, ed, hs, _, ts, np⟩ := tr
    subst ed
    have h1 : S1 p = S p := h p (by unfold Fp; exact ⟨p, ds, rfl, hs, .inl rfl⟩)
    have h2 := Fps.eq (fun a fa => h a (by unfold Fp; exact ⟨p, ds, rfl, hs, .inr fa⟩)) ts a
    unfold Fp
    constructor
    · rintro ⟨q, es, e1, e2, e3⟩
      cases e1
      rw [h1, hs] at e2
      cases e2
      exact ⟨p, ds, rfl, hs, e3.imp id h2.mp⟩
    · rintro ⟨q, es, e1, e2, e3⟩
      cases e1
      rw [hs] at e2
      cases e2
      exact ⟨p, ds, rfl, h1.trans hs, e3.imp id h2.mpr⟩
  | .t xs, d, h, tr, a => by
    unfold Tr at tr
    obtain ⟨ds, ed, ts⟩ := tr
    subst ed
    have h2 := Fps.eq (fun a fa => h a (by unfold Fp; exact ⟨ds, rfl, fa⟩)) ts a
    unfold Fp
    constructor
    · rintro ⟨es, e1, e2⟩
      cases e1
      exact ⟨ds, rfl, h2.mp e2⟩
    · rintro ⟨es, e1, e2⟩
      cases e1
      exact ⟨ds, rfl, h2.mpr e2⟩
  | .d nk xs, d, h, tr, a => by
    unfold Tr at tr
    obtain ⟨p, ed, hs⟩ := tr
    subst ed
    have h1 : S1 p = S p := h p (by unfold Fp; exact ⟨p, rfl, hs, rfl⟩)
    unfold Fp
    constructor
    · rintro ⟨q, e1, e2, e3⟩
      cases e1
      exact ⟨p, rfl, hs, e3⟩
    · rintro ⟨q, e1, e2, e3⟩
      cases e1
      exact ⟨p, rfl, h1.trans hs, e3⟩
theorem Fps.eq : ∀ {ts : List OT} {ds : List D}, (∀ a, Fps S ts ds a → S1 a = S a) → Trs S ts ds → ∀ a, Fps S1 ts ds a ↔ Fps S ts ds a
  | [], ds, _, _, a => by unfold Fps; rfl
  | x :: xs, ds, h, tr, a => by
    unfold Trs at tr
    obtain ⟨d, r, ed, t1, t2, dj⟩ := tr
    subst ed
    have h1 := Fp.eq (fun a fa => h a (by unfold Fps; exact ⟨d, r, rfl, .inl fa⟩)) t1 a
    have h2 := Fps.eq (fun a fa => h a (by unfold Fps; exact ⟨d, r, rfl, .inr fa⟩)) t2 a
    unfold Fps
    constructor
    · rintro ⟨d', r', e, f⟩
      cases e
      exact ⟨d, r, rfl, f.imp h1.mp h2.mp⟩
    · rintro ⟨d', r', e, f⟩
      cases e
      exact ⟨d, r, rfl, f.imp h1.mpr h2.mpr⟩
end
mutual
theorem Tr.eq : ∀ {t : OT} {d : D}, (∀ a, Fp S t d a → S1 a = S a) → Tr S t d → Tr S1 t d
  | .v _, d, _, tr => by unfold Tr at tr ⊢; exact tr
  | .l xs, d, h, tr => by
    have tr0 := tr
    unfold Tr at tr ⊢
    obtain ⟨p, ds, ed, hs, ts, np⟩ := tr
    subst ed
    have h1 : S1 p = S p := h p (by unfold Fp; exact ⟨p, ds, rfl, hs, .inl rfl⟩)
    have hf : ∀ a, Fps S xs ds a → S1 a = S a := fun a fa => h a (by unfold Fp; exact ⟨p, ds, rfl, hs, .inr fa⟩)
    exact ⟨p, ds, rfl, h1.trans hs, Trs.eq hf ts, fun z => np ((Fps.eq hf ts p).mp z)⟩
  | .i C xs, d, h, tr => by
    have tr0 := tr
    unfold Tr at tr ⊢
    obtain ⟨p, ds, ed, hs, ts, np⟩ := tr
    subst ed
    have h1 : S1 p = S p := h p (by unfold Fp; exact ⟨p, ds, rfl, hs, .inl rfl⟩)
    have hf : ∀ a, Fps S xs ds a → S1 a = S a := fun a fa => h a (by unfold Fp; exact ⟨p, ds, rfl, hs, .inr fa⟩)
    exact ⟨p, ds, rfl, h1.trans hs, Trs.eq hf ts, fun z => np ((Fps.eq hf ts p).mp z)⟩
  | .k ks xs, d, h, tr => by
    have tr0 := tr
    unfold Tr at tr ⊢
    obtain ⟨p, ds, ed, hs, ek, ts, np⟩ := tr
    subst ed
    have h1 : S1 p = S p := h p (by unfold Fp; exact ⟨p, ds, rfl, hs, .inl rfl⟩)
    have hf : ∀ a, Fps S xs (ds.map (·.2)) a → S1 a = S a := fun a fa => h a (by unfold Fp; exact ⟨p, ds, rfl, hs, .inr fa⟩)
    exact ⟨p, ds, rfl, h1.trans hs, ek, Trs.eq hf ts, fun z => np ((Fps.eq hf ts p).mp z)⟩
  | .t xs, d, h, tr => by
    unfold Tr at tr ⊢
    obtain ⟨ds, ed, ts⟩ := tr
    subst ed
    exact ⟨ds, rfl, Trs.eq (fun a fa => h a (by unfold Fp; exact ⟨ds, rfl, fa⟩)) ts⟩
  | .d nk xs, d, h, tr => by
    unfold Tr at tr ⊢
    obtain ⟨p, ed, hs⟩ := tr
    subst ed
    exact ⟨p, rfl, (h p (by unfold Fp; exact ⟨p, rfl, hs, rfl⟩)).trans hs⟩
theorem Trs.eq : ∀ {ts : List OT} {ds : List D}, (∀ a, Fps S ts ds a → S1 a = S a) → Trs S ts ds → Trs S1 ts ds
  | [], ds, _, tr => by unfold Trs at tr ⊢; exact tr
  | x :: xs, ds, h, tr => by
    unfold Trs at tr ⊢
    obtain ⟨d, r, ed, t1, t2, dj⟩ := tr
    subst ed
    have f1 : ∀ a, Fp S x d a → S1 a = S a := fun a fa => h a (by unfold Fps; exact ⟨d, r, rfl, .inl fa⟩)
    have f2 : ∀ a, Fps S xs r a → S1 a = S a := fun a fa => h a (by unfold Fps; exact ⟨d, r, rfl, .inr fa⟩)
    exact ⟨d, r, rfl, Tr.eq f1 t1, Trs.eq f2 t2, fun a z y => dj a ((Fp.eq f1 t1 a).mp z) ((Fps.eq f2 t2 a).mp y)⟩
end
theorem Trs.len : ∀ {ts : List OT} {ds : List D}, Trs S ts ds → ds.length = ts.length
  | [], ds, h => by unfold Trs at h; rw [h]; rfl
  | x :: xs, ds, h => by
    unfold Trs at h
    obtain ⟨d, r, e, _, h, _⟩ := h
    rw [e]; simp [h.len]
/-- a flat list -/
theorem Trs.vals : ∀ {ds es : List D}, Trs S (es.map OT.v) ds ↔ ds = es
  | ds, [] => by unfold Trs; exact Iff.rfl
  | ds, e :: es => by
    rw [List.map_cons]
    unfold Trs
    constructor
    · rintro ⟨d, r, e1, t, ts, _⟩
      unfold Tr at t
      rw [e1, t, Trs.vals.mp ts]
    · rintro rfl
      exact ⟨e, es, rfl, by unfold Tr; rfl, Trs.vals.mpr rfl, fun a z => by unfold Fp at z; exact z.elim⟩
theorem Fps.vals : ∀ {ds es : List D} {a : Addr}, ¬ Fps S (es.map OT.v) ds a
  | ds, [], a => by unfold Fps; exact id
  | ds, e :: es, a => by
    rw [List.map_cons]
    unfold Fps
    rintro ⟨d, r, _, z | z⟩
    · unfold Fp at z; exact z
    · exact Fps.vals z
theorem frzOs_vals : ∀ {es : List D}, frzOs (es.map OT.v) = es
  | [] => rfl
  | e :: es => by rw [List.map_cons]; unfold frzOs; rw [frzOs_vals]; rfl
theorem nds_vals : ∀ {es : List D}, OT.nds (es.map OT.v) = true
  | [] => rfl
  | e :: es => by rw [List.map_cons]; unfold OT.nds; rw [nds_vals]; rfl
end
open Classical in
/-- without some places -/
noncomputable def Sto.les (S : Sto) (F : Addr → Prop) : Sto := fun a => if F a then none else S a
theorem Sto.les_in {S : Sto} {F : Addr → Prop} {a : Addr} (h : F a) : S.les F a = none := if_pos h
theorem Sto.les_out {S : Sto} {F : Addr → Prop} {a : Addr} (h : ¬ F a) : S.les F a = S a := if_neg h
theorem Sto.les_none {S : Sto} {F : Addr → Prop} {a : Addr} (h : S a = none) : S.les F a = none := by
  by_cases e : F a
  · exact les_in e
  · rw [les_out e]; exact h
section
variable {c : Cfg} {L L0 : Lk} {H H1 : Hp} {S S0 S1 : Sto}
theorem MR.fewer (h : ∀ p, S p = none → S1 p = none) {p : Addr} {o : MO} (m : MR c L H S p o) : MR c L H S1 p o := by
  cases o with
  | lst ds =>
    obtain ⟨vs, hp, r⟩ := m
    exact ⟨vs, hp, r.fewer h⟩
  | ins C ds =>
    obtain ⟨dx, vs, hp, r⟩ := m
    exact ⟨dx, vs, hp, r.fewer h⟩
  | dct kvs =>
    obtain ⟨vs, hp, r⟩ := m
    exact ⟨vs, hp, r.fewer h⟩
  | lkd od vs kvs =>
    obtain ⟨hp, r⟩ := m
    exact ⟨hp, r.fewer h⟩
  | dic nk ds =>
    obtain ⟨kvs, vs, hp, rk, r⟩ := m
    exact ⟨kvs, vs, hp, rk.fewer h, r.fewer h⟩
theorem MR.some {p : Addr} {o : MO} (m : MR c L H S p o) : ∃ u, H p = some u := by
  cases o with
  | lst ds => obtain ⟨vs, hp, r⟩ := m; exact ⟨_, hp⟩
  | ins C ds => obtain ⟨dx, vs, hp, r⟩ := m; exact ⟨_, hp⟩
  | dct kvs => obtain ⟨vs, hp, r⟩ := m; exact ⟨_, hp⟩
  | lkd od vs kvs => obtain ⟨hp, r⟩ := m; exact ⟨_, hp⟩
  | dic nk ds => obtain ⟨kvs, vs, hp, r⟩ := m; exact ⟨_, hp⟩
theorem StoR.les (R : StoR c L H S) (F : Addr → Prop) : StoR c L H (S.les F) where
  at_ := fun q o t => by
    by_cases e : F q
    · rw [Sto.les_in e] at t; cases t
    · rw [Sto.les_out e] at t
      obtain ⟨m, n⟩ := R.at_ q o t
      exact ⟨m.fewer fun _ => Sto.les_none, n⟩
  lk := R.lk
  gh := fun b k ds g => by
    obtain ⟨vs, h1, ⟨s1, n⟩, r⟩ := R.gh b k ds g
    exact ⟨vs, h1, ⟨Sto.les_none s1, n⟩, r.fewer fun _ => Sto.les_none⟩
theorem Ext.les {F : Addr → Prop} (e : Ext H S H1 S1) : Ext H S H1 (S1.les F) := fun q o a b => ⟨(e q o a b).1, Sto.les_none (e q o a b).2⟩
/-- places that are tracked are locked, and tracked no more -/
structure Hid (L : Lk) (S : Sto) (L0 : Lk) (S0 : Sto) : Prop where
  s : ∀ p, S p = none → S0 p = none
  l : ∀ p, L0 p → L p ∨ S p ≠ none
theorem Hid.fz (h : Hid L S L0 S0) {p : Addr} (z : Fz L S p) : Fz L0 S0 p := ⟨h.s p z.1, fun y => (h.l p y).elim z.2 fun y => y z.1⟩
theorem FT.hide (h : Hid L S L0 S0) {p : Addr} {vs : List V} : FT c L H S p vs → FT c L0 H S0 p vs
  | .inr z => .inr z
  | .inl ⟨a, b⟩ => .inl ⟨a, h.fz b⟩
theorem FL.hide (h : Hid L S L0 S0) {p : Addr} {vs : List V} : FL c L H S p vs → FL c L0 H S0 p vs
  | .inr z => .inr z
  | .inl ⟨a, b⟩ => .inl ⟨a, h.fz b⟩
mutual
theorem Rep.hide (h : Hid L S L0 S0) : ∀ (d : D) (v : V), Rep c L H S d v → Rep c L0 H S0 d v
  | .non, v, r => by unfold Rep at r ⊢; exact r
  | .bl b, v, r => by unfold Rep at r ⊢; exact r
  | .int i, v, r => by unfold Rep at r ⊢; exact r
  | .str x, v, r => by unfold Rep at r ⊢; exact r
  | .ref a, v, r => by unfold Rep at r ⊢; exact r
  | .rp p, v, r => by unfold Rep at r ⊢; exact r
  | .ty n, v, r => by unfold Rep at r ⊢; exact r
  | .tup ds, v, r => by
    unfold Rep at r ⊢
    obtain ⟨p, vs, ev, f, rs⟩ := r
    exact ⟨p, vs, ev, f.hide h, Reps.hide h ds vs rs⟩
  | .lst ds, v, r => by
    unfold Rep at r ⊢
    obtain ⟨p, vs, ev, f, z, rs⟩ := r
    exact ⟨p, vs, ev, f, h.fz z, Reps.hide h ds vs rs⟩
  | .cst ds, v, r => by
    unfold Rep at r ⊢
    obtain ⟨p, vs, ev, f, rs⟩ := r
    exact ⟨p, vs, ev, f.hide h, Reps.hide h ds vs rs⟩
  | .ins C ds, v, r => by
    unfold Rep at r ⊢
    obtain ⟨p, dx, vs, ev, f, z, rs⟩ := r
    exact ⟨p, dx, vs, ev, f, h.fz z, Reps.hide h ds vs rs⟩
  | .set xs, v, r => by
    unfold Rep at r ⊢
    obtain ⟨p, Sf, n, ev, f, hs, z⟩ := r
    exact ⟨p, Sf, n, ev, f, hs, h.fz z⟩
  | .err n ds, v, r => by
    unfold Rep at r ⊢
    obtain ⟨p, p2, vs, ev, f, g, z, z2, rs⟩ := r
    exact ⟨p, p2, vs, ev, f, g, h.fz z, h.fz z2, Reps.hide h ds vs rs⟩
  | .dic ks ds, v, r => by
    unfold Rep at r ⊢
    obtain ⟨p, o, nk, kvs, vs, ev, f, z, ek, rk, rs⟩ := r
    exact ⟨p, o, nk, kvs, vs, ev, f, h.fz z, ek, Reps.hide h ks kvs rk, Reps.hide h ds vs rs⟩
theorem Reps.hide (h : Hid L S L0 S0) : ∀ (ds : List D) (vs : List V), Reps c L H S ds vs → Reps c L0 H S0 ds vs
  | [], vs, r => by unfold Reps at r ⊢; exact r
  | d :: ds, vs, r => by
    unfold Reps at r ⊢
    obtain ⟨v, ws, ev, r1, rs⟩ := r
    exact ⟨v, ws, ev, Rep.hide h d v r1, Reps.hide h ds ws rs⟩
end
mutual
/-- a tree as a value: its places are no more tracked, and not locked -/
theorem frz_rep (so : StoR c L H S) (h : Hid L S L0 S0) : ∀ (t : OT) (d : D) (v : V), t.nd = true → Tr S t d → (∀ p, Fp S t d p → S0 p = none ∧ ¬ L0 p) → Rep c L H S d v → Rep c L0 H S0 (frzO t) v
  | .v e, d, v, _, tr, _, r => by
    unfold Tr at tr
    subst tr
    unfold frzO
    exact r.hide h
  | .l xs, d, v, nd, tr, hf, r => by
    unfold Tr at tr
    obtain ⟨p, ds, ed, hs, ts, np⟩ := tr
    subst ed
    obtain ⟨⟨vs, hp, rs⟩, _⟩ := so.at_ p _ hs
    unfold Rep at r
    unfold OT.nd at nd
    unfold frzO
    unfold Rep
    exact ⟨p, vs, r, hp, hf p (by unfold Fp; exact ⟨p, ds, rfl, hs, .inl rfl⟩), frz_reps so h xs ds vs nd ts (fun q fq => hf q (by unfold Fp; exact ⟨p, ds, rfl, hs, .inr fq⟩)) rs⟩
  | .i C xs, d, v, nd, tr, hf, r => by
    unfold Tr at tr
    obtain ⟨p, ds, ed, hs, ts, np⟩ := tr
    subst ed
    obtain ⟨⟨dx, vs, hp, rs⟩, _⟩ := so.at_ p _ hs
    unfold Rep at r
    unfold OT.nd at nd
    unfold frzO
    unfold Rep
    exact ⟨p, dx, vs, r, hp, hf p (by unfold Fp; exact ⟨p, ds, rfl, hs, .inl rfl⟩), frz_reps so h xs ds vs nd ts (fun q fq => hf q (by unfold Fp; exact ⟨p, ds, rfl, hs, .inr fq⟩)) rs⟩
  | .k ks xs, d, v, nd, tr, hf, r => by
    unfold OT.nd at nd
    cases nd
  | .d nk xs, d, v, nd, tr, hf, r => by
    unfold OT.nd at nd
    cases nd
  | .t xs, d, v, nd, tr, hf, r => by
    unfold Tr at tr
    obtain ⟨ds, ed, ts⟩ := tr
    subst ed
    unfold Rep at r
    unfold OT.nd at nd
    unfold frzO
    unfold Rep
    obtain ⟨p, vs, ev, f, rs⟩ := r
    exact ⟨p, vs, ev, f.hide h, frz_reps so h xs ds vs nd ts (fun q fq => hf q (by unfold Fp; exact ⟨ds, rfl, fq⟩)) rs⟩
theorem frz_reps (so : StoR c L H S) (h : Hid L S L0 S0) : ∀ (ts : List OT) (ds : List D) (vs : List V), OT.nds ts = true → Trs S ts ds → (∀ p, Fps S ts ds p → S0 p = none ∧ ¬ L0 p) → Reps c L H S ds vs → Reps c L0 H S0 (frzOs ts) vs
  | [], ds, vs, _, tr, _, r => by
    unfold Trs at tr
    subst tr
    unfold frzOs
    rw [r.of_nil]
    exact .nil
  | x :: xs, ds, vs, nd, tr, hf, r => by
    unfold Trs at tr
    obtain ⟨d, r0, ed, t1, t2, dj⟩ := tr
    subst ed
    obtain ⟨v, ws, ev, r1, rs⟩ := r.of_cons
    subst ev
    unfold OT.nds at nd
    obtain ⟨n1, n2⟩ := Bool.and_eq_true_iff.mp nd
    unfold frzOs
    exact .cons (frz_rep so h x d v n1 t1 (fun q fq => hf q (by unfold Fps; exact ⟨d, r0, rfl, .inl fq⟩)) r1) (frz_reps so h xs r0 ws n2 t2 (fun q fq => hf q (by unfold Fps; exact ⟨d, r0, rfl, .inr fq⟩)) rs)
end
theorem Hid.les {F : Addr → Prop} : Hid L S L (S.les F) := ⟨fun _ => Sto.les_none, fun _ => .inl⟩
end
/-- a tree at a slot is let stand -/
theorem ds_frzO {X : Cx} {A : Cla} {Wx : WX} {sts : List Stmt} {t : DTS} (i : Nat) (h : DStms X A Wx sts t) :
    DStms X A Wx sts (fun DD ρ S => ∃ d ot, ρ[i]? = some (some d) ∧ Tr S ot d ∧ ot.nd = true ∧ t DD (ρ.set i (some (frzO ot))) (S.les (Fp S ot d))) :=
  PSs.mono h fun D σ H ⟨ρ, S, L, DD, sl, so, ⟨d, ot, hr, tr, nd, ht⟩, ks⟩ => by
    have e : Ext H S H (S.les (Fp S ot d)) := Ext.refl.les
    refine ⟨_, _, L, DD, ⟨?_, fun j x hj => ?_⟩, so.les _, ht, ks.ext e⟩
    · rw [List.length_set]; exact sl.len
    · by_cases ej : i = j
      · subst ej
        have hl := (List.getElem?_eq_some_iff.mp hj).1
        rw [List.length_set] at hl
        rw [List.getElem?_set_self hl] at hj
        cases hj
        obtain ⟨v, ev, rv⟩ := sl.at_ i _ hr
        refine ⟨_, ev, frz_rep so .les ot d v nd tr (fun p fp => ⟨Sto.les_in fp, ?_⟩) rv⟩
        cases e : S p with
        | none => exact absurd e fp.live
        | some o => exact (so.at_ p o e).2
      · rw [List.getElem?_set_ne ej] at hj
        exact (sl.ext e).at_ j x hj
/-- a list of integers: nothing of the heap is in it -/
def Pl (o : Option MO) : Prop := ∃ ns : List Int, o = some (.lst (ns.map D.int))
mutual
/-- no list and no instance is in it -/
def D.lf : D → Bool
  | .lst _ => false
  | .cst _ => false
  | .ins _ _ => false
  | .dic _ _ => false
  | .set _ => false
  | .err _ _ => false
  | .tup xs => D.lfs xs
  | _ => true
def D.lfs : List D → Bool
  | [] => true
  | x :: xs => x.lf && D.lfs xs
end
mutual
/-- no list is in it -/
def D.lg : D → Bool
  | .lst _ => false
  | .cst _ => false
  | .err _ _ => false
  | .ins _ xs => D.lgs xs
  | .dic ks xs => D.lgs ks && D.lgs xs
  | .tup xs => D.lgs xs
  | _ => true
def D.lgs : List D → Bool
  | [] => true
  | x :: xs => x.lg && D.lgs xs
end
section
variable {c : Cfg} {L : Lk} {H H1 : Hp} {S S' : Sto} {F : Addr → Prop}
theorem Pl.none : ¬ Pl none := fun ⟨_, h⟩ => by cases h
variable {H' : Hp}
end
end DL
namespace PySem
open Sem (wp)
open Builtin Builtin.Str Builtin.Int Builtin.Float
theorem numText (n : Nat) : (Str.ofString (toString (n : Int))) = ⟨((Nat.toDigits 10 n).map Char.toNat).toArray⟩ := by
  rw [Str.ofString_eq_toList]
  have : (toString ((n : Nat) : Int)) = n.repr := rfl
  rw [this, Nat.toList_repr]
theorem negText (n : Nat) : (Str.ofString (toString (Int.negSucc n))) = ⟨(45 :: (Nat.toDigits 10 (n + 1)).map Char.toNat).toArray⟩ := by
  rw [Str.ofString_eq_toList]
  have : (toString (Int.negSucc n)) = "-" ++ (n + 1).repr := rfl
  rw [this, String.toList_append, Nat.toList_repr]
  rfl
theorem intText (a : Int) : Str.ofString (toString a) = ⟨((if a < 0 then [45] else []) ++ ((Nat.toDigits 10 a.natAbs).map Char.toNat) : List Nat).toArray⟩ := by
  cases a with
  | ofNat n =>
    rw [if_neg (by show ¬ ((n : Int) < 0); omega)]
    exact numText n
  | negSucc n =>
    rw [if_pos (Int.negSucc_lt_zero n)]
    exact negText n
end PySem
namespace DL
open PySem PySem.Spec PyProof.Rows L2
/-- called with m values, the rest, the keywords' values; sp sees the m values, the keywords' values, the rest -/
def FnDs (P : Program) (w : World) (c : Cfg) (mg : Str → Option Value) (base : Heap) (k : Nat) (f : Addr) (m : Nat) (ks : List Str) (sp : DSp) : Prop :=
  ∀ (A : Around) (outer : List PySem.Env) (s : Shared) (H : Hp) (u1 u2 ws : List Value) (v1 v2 zs : List V) (Q : VK) (E : XK), Rm k A → Env0 P w c.K mg base A outer s H → Vals v1 u1 → Vals v2 u2 → Vals zs ws → u1.length = m → ws.length = ks.length → liftSp c sp (v1 ++ (zs ++ v2)) H Q E →
    codeAny (model P w) A (.call (.ref f) ⟨u1 ++ u2, ks.zip ws⟩) (CR (L2N.CX P w) outer P w H s Q E) s
theorem FnDs.mono {P : Program} {w : World} {c : Cfg} {mg : Str → Option Value} {base : Heap} {j k : Nat} {f : Addr} {m : Nat} {ks : List Str} {sp : DSp} (F : FnDs P w c mg base j f m ks sp) (h : j ≤ k) : FnDs P w c mg base k f m ks sp :=
  fun A outer s H u1 u2 ws v1 v2 zs Q E r => F A outer s H u1 u2 ws v1 v2 zs Q E (r.mono h)
theorem FnDs.imp {P : Program} {w : World} {c : Cfg} {mg : Str → Option Value} {base : Heap} {k : Nat} {f : Addr} {m : Nat} {ks : List Str} {sp sp' : DSp} (F : FnDs P w c mg base k f m ks sp) (h : ∀ ds S Q E, sp' ds S Q E → sp ds S Q E) : FnDs P w c mg base k f m ks sp' :=
  fun A outer s H u1 u2 ws v1 v2 zs Q E r e0 r1 r2 rz l1 l2 ⟨ds, S, L, Qd, Ed, so, rs, hs, kq, kx⟩ => F A outer s H u1 u2 ws v1 v2 zs Q E r e0 r1 r2 rz l1 l2 ⟨ds, S, L, Qd, Ed, so, rs, h _ _ _ _ hs, kq, kx⟩
end DL
namespace DL
open PySem PySem.Spec PyProof.Rows L2
/-- a clause over data: slot, number, suite -/
abbrev HdD := Nat × Nat × (Addr → List D → DTS)
section
variable {P : Program} {w : World} {K : PySem.W.Frag} {A : Cla} {mg : Str → Option Value} {base : Heap} {N : List Str} {sc : Scope} {fo : Str → Bool} {lv : Nat} {X : Cx} {W : WX}
/-- the clauses of a try, over the facts of the head -/
inductive HdIs (K : PySem.W.Frag) (A : Cla) (mg : Str → Option Value) (N : List Str) (sc : Scope) (known : Nat → Bool) : List ExceptHandler → List HdD → Prop
  | nil : HdIs K A mg N sc known [] []
  | cons {x y : Str} {i : Nat} (n : Nat) {th : Addr → List D → DTS} {b0 : Stmt} {sts : List Stmt} {np hp : Pos} {hs : List ExceptHandler} {l : List HdD} (ck : lcB N sc i y = true) (hg : glB sc x = true) (hm : mg x = some (A.cv n))
      (hex : ∀ m, known m = true → PySem.W.exmOne K (A.cv m) (A.cv n) = some (decide (m = n)))
      (su : ∀ (X' : Cx) (a q : Addr) (ds : List D), Is N sc X' → Xs K X' A a q n ds → DStms X' (A.hot q n ds) WF (b0 :: sts) (th a ds)) (rest : HdIs K A mg N sc known hs l) :
      HdIs K A mg N sc known (.ExceptHandler (some (.Name x np)) (some y) (b0 :: sts) hp :: hs) ((i, n, th) :: l)
end
end DL
namespace DL
open PySem PySem.Spec PyProof.Rows L2
theorem Reps.snoc1 {c : Cfg} {L : Lk} {H : Hp} {S : Sto} {d : D} {v : V} {ds : List D} {vs : List V} (r : Reps c L H S ds vs) (h : Rep c L H S d v) : Reps c L H S (ds ++ [d]) (vs ++ [v]) := r.append (.cons h .nil)
theorem Reps.reverse {c : Cfg} {L : Lk} {H : Hp} {S : Sto} : ∀ {ds : List D} {vs : List V}, Reps c L H S ds vs → Reps c L H S ds.reverse vs.reverse
  | [], vs, r => by rw [r.of_nil]; exact .nil
  | d :: ds, vs, r => by
    obtain ⟨v, ws, ev, r1, rs⟩ := r.of_cons
    subst ev
    rw [List.reverse_cons, List.reverse_cons]
    exact (Reps.reverse rs).snoc1 r1
end DL
namespace DL
open PySem PySem.Spec PyProof.Rows L2
section
variable {X : Cx} {A : Cla} {W : WX} {f : Addr} {k C : Nat} {sp : DSp}
theorem Reps.same {c : Cfg} {L : Lk} {H : Hp} {S : Sto} : ∀ {ds : List D} {vs : List V}, Reps c L H S ds vs → ds.length = vs.length
  | [], vs, h => by rw [h.of_nil]; rfl
  | d :: ds, vs, h => by
    obtain ⟨v, ws, e, r, rs⟩ := h.of_cons
    subst e
    simp [rs.same]
end
end DL
namespace DL
open PySem PySem.Spec PyProof.Rows L2
def FnD2 (P : Program) (w : World) (c : Cfg) (mg : Str → Option Value) (base : Heap) (k : Nat) (f : Addr) (sp : DSp) : Prop :=
  ∀ (A : Around) (outer : List PySem.Env) (s : Shared) (H : Hp) (us : List Value) (vs : List V) (Q : VK) (E : XK), Rm k A → Env0 P w c.K mg base A outer s H → Vals vs us → liftSp c sp vs H Q E →
    codeAny (model P w) A (.call (.ref f) ⟨us, []⟩) (CR (L2.CX P w) outer P w H s Q E) s
theorem FnD2.mono {P : Program} {w : World} {c : Cfg} {mg : Str → Option Value} {base : Heap} {j k : Nat} {f : Addr} {sp : DSp} (F : FnD2 P w c mg base j f sp) (h : j ≤ k) : FnD2 P w c mg base k f sp :=
  fun A outer s H us vs Q E m => F A outer s H us vs Q E (m.mono h)
theorem FnD2.imp {P : Program} {w : World} {c : Cfg} {mg : Str → Option Value} {base : Heap} {k : Nat} {f : Addr} {sp sp' : DSp} (F : FnD2 P w c mg base k f sp) (h : ∀ ds S Q E, sp' ds S Q E → sp ds S Q E) : FnD2 P w c mg base k f sp' :=
  fun A outer s H us vs Q E m e0 r ⟨ds, S, L, Qd, Ed, so, rs, hs, kq, kx⟩ => F A outer s H us vs Q E m e0 r ⟨ds, S, L, Qd, Ed, so, rs, h _ _ _ _ hs, kq, kx⟩
/-- what holds in a suite that raises -/
structure InH (P : Program) (w : World) (K : PySem.W.Frag) (mg : Str → Option Value) (base : Heap) (N : List Str) (sc : Scope) (X : Cx) : Prop where
  eP : X.prog = P
  eW : X.w = w
  eK : X.K = K
  eM : X.mg = mg
  eB : X.base = base
  eN : X.N = N
  eS : X.env.scope = sc
section
variable {P : Program} {w : World} {K : PySem.W.Frag} {A : Cla} {mg : Str → Option Value} {base : Heap} {N : List Str} {sc : Scope} {fo : Str → Bool} {lv : Nat} {X : Cx} {W : WX}
variable {e : Expr} {es : List Expr} {p cp pos pos' apos : Pos} {x y mt : Str} {ta t : DTA} {C : Nat} {i k : Nat} {f g : Addr} {sp : DSp} {mc : Value} {pl : Sem Bool}
theorem InH.var (h : InH P w K mg base N sc X) (ck : nmB N sc i x = true) : DE X A W (.Name x pos) (dVar i) := by
  obtain ⟨a, b, c, d⟩ := nmB_ok ck
  have := h.eN; subst this
  have := h.eS; subst this
  exact de_var a b c d
theorem InH.gl (h : InH P w K mg base N sc X) (hg : glB sc x = true) : Gl X x := by
  have := h.eS
  subst this
  exact (glB_ok hg).1
theorem InH.bi {id : String} {R : DRA} (h : InH P w K mg base N sc X) (hc : CallD X A (.builtin id) R) (hg : glB sc x = true) (hm : mg x = none) (hv : bootBuiltins x = some (.builtin id)) (ha : DA X A W (e :: es) ta)
    (he : starEach (e :: es) X.env = (false, eval e X.env) :: starEach es X.env := by rfl) (hpl : (backTo pos (starEach es X.env)).any (·.1) = false := by rfl) : DE X A W (.Call (.Name x p) (e :: es) [] pos) (dCB R ta) := by
  have g := h.gl hg
  have := h.eM; subst this
  exact de_callB hc g hm hv ha (glB_ok hg).2.2 (glB_ok hg).2.1 he hpl
end
end DL
namespace DL
open PySem PySem.Spec PyProof.Rows L2
section
variable {X : Cx} {pins : List (Addr × Obj)} {σ : L2.St} {H : Hp} {s : Shared} {c : Cfg} {L : Lk} {S : Sto}
mutual
/-- data as a key -/
theorem nis (I : Inv X pins σ H s) (eK : c.K = X.K) : ∀ (k : NestedKey) (v : V) (u : Value), Rep c L H S (nD k) v → RelV v u → NestedIs s.heap k u
  | .none, v, u, r, q => by
    unfold nD Rep at r
    subst r
    cases (show u = Value.none from q)
    exact .none
  | .num i, v, u, r, q => by
    unfold nD Rep at r
    subst r
    obtain ⟨t, e⟩ := (show ∃ t, u = Value.int i t from q)
    subst e
    exact .int i t
  | .text x, v, u, r, q => by
    unfold nD Rep at r
    obtain ⟨r, _⟩ := r
    subst r
    obtain ⟨t, e⟩ := (show ∃ t, u = Value.str x t from q)
    subst e
    exact .text x t
  | .tup ks, v, u, r, q => by
    unfold nD Rep at r
    obtain ⟨p, vs, ev, f, rs⟩ := r
    subst ev
    cases (show u = Value.ref p from q)
    have f := f.sq
    rw [eK] at f
    obtain ⟨its, rv, ⟨o, ho, hc, n, hd⟩, _⟩ := I.tuple f
    exact .tup ho hc hd (by simpa using nisAll I eK ks vs its rs rv)
theorem nisAll (I : Inv X pins σ H s) (eK : c.K = X.K) : ∀ (ks : List NestedKey) (vs : List V) (us : List Value), Reps c L H S (nDs ks) vs → Vals vs us → NestedAll s.heap ks us
  | [], vs, us, r, q => by
    unfold nDs at r
    rw [r.of_nil] at q
    cases q
    exact .nil
  | k :: ks, vs, us, r, q => by
    unfold nDs at r
    obtain ⟨v, ws, ev, r1, rs⟩ := r.of_cons
    subst ev
    cases q with
    | cons q1 q2 => exact .cons (nis I eK k v _ r1 q1) (nisAll I eK ks ws _ rs q2)
end
end
def putN (nk : List NestedKey) (k : NestedKey) : List NestedKey := if k ∈ nk then nk else nk ++ [k]
def valW {α : Type} (nk : List NestedKey) (xs : List α) (k : NestedKey) : Option α := ((nk.zip xs).find? fun p => decide (p.1 = k)).map (·.2)
section
variable {α β : Type} {nk : List NestedKey} {k : NestedKey}
theorem valW_cons {k' : NestedKey} {x : α} {xs : List α} : valW (k' :: nk) (x :: xs) k = if k' = k then some x else valW nk xs k := by
  unfold valW
  rw [List.zip_cons_cons]
  by_cases e : k' = k
  · rw [if_pos e, List.find?_cons_of_pos (by simpa using e)]; rfl
  · rw [if_neg e, List.find?_cons_of_neg (by simpa using e)]
end
theorem KU.put {nk : List NestedKey} {k : NestedKey} (h : KU (k :: nk)) : KU (putN nk k) := by
  unfold putN
  unfold KU at h ⊢
  simp only [List.all_cons, Bool.and_eq_true] at h
  split
  · exact h.imp (·.2) (·.2)
  · simp only [List.all_append, List.all_cons, List.all_nil, Bool.and_true, Bool.and_eq_true]
    exact h.imp And.symm And.symm
section
variable {c : Cfg} {L : Lk} {H : Hp} {S : Sto}
theorem Reps.valW {k : NestedKey} {x : D} : ∀ {nk : List NestedKey} {xs : List D} {vs : List V}, Reps c L H S xs vs → valW nk xs k = some x → ∃ v, DL.valW nk vs k = some v ∧ Rep c L H S x v
  | [], xs, vs, r, h => by cases h
  | k' :: nk, [], vs, r, h => by cases h
  | k' :: nk, y :: ys, vs, r, h => by
    obtain ⟨w, ws, ev, r1, rs⟩ := r.of_cons
    subst ev
    rw [valW_cons] at h ⊢
    by_cases e : k' = k
    · rw [if_pos e] at h ⊢; cases h; exact ⟨w, rfl, r1⟩
    · rw [if_neg e] at h ⊢; exact Reps.valW rs h
end
end DL
namespace DL
open PySem PySem.Spec PyProof.Rows L2
def nK : NestedKey → Key
  | .num i => .inl i
  | .text x => .inr x
  | _ => .inl 0
def sV : NestedKey → V
  | .num i => .int i
  | .text x => .str x
  | _ => .non
theorem nK_inj {a b : NestedKey} (ha : nSc a = true) (hb : nSc b = true) (e : nK a = nK b) : a = b := by
  cases a <;> first | cases ha | skip
  all_goals (cases b <;> first | cases hb | skip)
  all_goals first | (have e := Sum.inl.inj e; rw [e]; done) | (have e := Sum.inr.inj e; rw [e]; done) | cases e
theorem nK_map {nk : List NestedKey} (h : nk.all nSc = true) (hn : nk.Nodup) : (nk.map nK).Nodup := by
  induction nk with
  | nil => exact List.nodup_nil
  | cons k nk ih =>
    rw [List.all_cons, Bool.and_eq_true] at h
    rw [List.nodup_cons] at hn
    rw [List.map_cons, List.nodup_cons]
    refine ⟨fun m => ?_, ih h.2 hn.2⟩
    obtain ⟨b, hb, e⟩ := List.mem_map.mp m
    have := nK_inj (List.all_eq_true.mp h.2 b hb) h.1 e
    subst this
    exact hn.1 hb
section
variable {c : Cfg} {L : Lk} {H : Hp} {S : Sto} {P : Program} {w : World}
theorem sV_rep {k : NestedKey} {v : V} (h : nSc k = true) (r : Rep c L H S (nD k) v) : v = sV k := by
  cases k <;> first | cases h | skip
  · unfold nD Rep at r; exact r
  · unfold nD Rep at r; exact r.1
theorem sV_reps : ∀ {nk : List NestedKey} {vs : List V}, nk.all nSc = true → Reps c L H S (nk.map nD) vs → vs = nk.map sV
  | [], vs, _, r => r.of_nil
  | k :: nk, vs, h, r => by
    rw [List.all_cons, Bool.and_eq_true] at h
    obtain ⟨v, ws, ev, r1, rs⟩ := Reps.of_cons (ds := nk.map nD) r
    rw [ev, sV_rep h.1 r1, sV_reps h.2 rs]; rfl
theorem sV_is {k : NestedKey} {u : Value} (h : nSc k = true) (r : RelV (sV k) u) : keyIs (nK k) u = true ∧ k.hash w = keyH w (nK k) := by
  cases k <;> first | cases h | skip
  · obtain ⟨t, e⟩ := (show ∃ t, u = Value.int _ t from r)
    subst e
    exact ⟨keyIs_int _ t, rfl⟩
  · obtain ⟨t, e⟩ := (show ∃ t, u = Value.str _ t from r)
    subst e
    exact ⟨keyIs_str _ t, rfl⟩
theorem ents_sc : ∀ {nk : List NestedKey} {ku us : List Value}, nk.all nSc = true → Vals (nk.map sV) ku → us.length = nk.length →
    Pairs (mixKind P w) (Ents w nk ku us) ((nk.map nK).zip us) ∧ ∀ e ∈ Ents w nk ku us, ∃ k, (mixKind P w).is k e.key = true ∧ e.hash = (mixKind P w).hash k
  | [], ku, us, _, r, hl => by
    cases us with
    | nil => exact ⟨.nil, fun e he => by unfold Ents at he; cases he⟩
    | cons => cases hl
  | k :: nk, ku, [], _, r, hl => by cases hl
  | k :: nk, ku, u :: us, h, r, hl => by
    rw [List.all_cons, Bool.and_eq_true] at h
    rw [List.map_cons] at r
    cases r with
    | @cons _ a _ as r1 rs =>
      obtain ⟨i1, i2⟩ := ents_sc h.2 rs (by simpa using hl)
      obtain ⟨z1, z2⟩ := sV_is (w := w) h.1 r1
      refine ⟨.cons (mixKind_is P w _ _ ▸ z1) rfl i1, fun e he => ?_⟩
      rcases List.mem_cons.mp he with e1 | he
      · subst e1
        exact ⟨nK k, z1, z2⟩
      · exact i2 e he
theorem val_sc {k : NestedKey} (hk : nSc k = true) : ∀ {nk : List NestedKey} {us : List Value}, nk.all nSc = true → valueAt ((nk.map nK).zip us) (nK k) = valW nk us k
  | [], us, _ => rfl
  | k' :: nk, [], h => by simp [valueAt, valW]
  | k' :: nk, x :: us, h => by
    rw [List.all_cons, Bool.and_eq_true] at h
    rw [valW_cons, ← val_sc hk h.2, List.map_cons, List.zip_cons_cons]
    unfold valueAt
    by_cases e : k' = k
    · subst e; rw [if_pos rfl, List.find?_cons_of_pos (by simp)]; rfl
    · rw [if_neg e, List.find?_cons_of_neg (by simpa using fun z => e (nK_inj h.1 hk z))]
theorem tp_ref {k : NestedKey} {v : V} (h : nTp k = true) (r : Rep c L H S (nD k) v) : ∃ a, v = .ref a := by
  cases k <;> first | cases h | skip
  unfold nD Rep at r
  obtain ⟨p, _, e, _⟩ := r
  exact ⟨p, e⟩
theorem tp_refs : ∀ {nk : List NestedKey} {vs : List V}, nk.all nTp = true → Reps c L H S (nk.map nD) vs → ∃ as : List Addr, vs = as.map V.ref
  | [], vs, _, r => ⟨[], r.of_nil⟩
  | k :: nk, vs, h, r => by
    rw [List.all_cons, Bool.and_eq_true] at h
    obtain ⟨v, ws, ev, r1, rs⟩ := Reps.of_cons (ds := nk.map nD) r
    obtain ⟨a, e1⟩ := tp_ref h.1 r1
    obtain ⟨as, e2⟩ := tp_refs h.2 rs
    exact ⟨a :: as, by rw [ev, e1, e2]; rfl⟩
theorem tp_depth {k : NestedKey} (h : nTp k = true) : k.depth ≤ 8 := by
  cases k <;> first | cases h | skip
  exact of_decide_eq_true h
def z3 (nk : List NestedKey) (as : List Addr) (us : List Value) : List (NestedKey × Addr × Value) := nk.zip (as.zip us)
theorem vals_refs : ∀ {as : List Addr} {ku : List Value}, Vals (as.map V.ref) ku → ku = as.map Value.ref
  | [], ku, r => by cases r; rfl
  | a :: as, ku, r => by
    rw [List.map_cons] at r
    cases r with
    | cons r1 r2 => rw [vals_refs r2, show _ = Value.ref a from r1]; rfl
theorem ents_tp : ∀ {nk : List NestedKey} {as : List Addr} {us : List Value}, as.length = nk.length → us.length = nk.length → Ents w nk (as.map Value.ref) us = (z3 nk as us).map (entryOfKey (nestedKind P w))
  | [], as, us, _, _ => by unfold Ents z3; simp
  | k :: nk, [], us, h, _ => by cases h
  | k :: nk, a :: as, [], _, h => by cases h
  | k :: nk, a :: as, u :: us, h1, h2 => by
    show _ :: Ents w nk (as.map Value.ref) us = _
    rw [ents_tp (by simpa using h1) (by simpa using h2)]
    rfl
theorem z3_keys : ∀ {nk : List NestedKey} {as : List Addr} {us : List Value}, as.length = nk.length → us.length = nk.length → (z3 nk as us).map (·.1) = nk
  | [], as, us, _, _ => by unfold z3; simp
  | k :: nk, [], us, h, _ => by cases h
  | k :: nk, a :: as, [], _, h => by cases h
  | k :: nk, a :: as, u :: us, h1, h2 => by
    show k :: (z3 nk as us).map (·.1) = _
    rw [z3_keys (by simpa using h1) (by simpa using h2)]
theorem atKey_z3 {k : NestedKey} : ∀ {nk : List NestedKey} {as : List Addr} {us : List Value}, as.length = nk.length → us.length = nk.length → (atKey (z3 nk as us) k).map (·.2) = valW nk us k
  | [], as, us, _, _ => by simp [z3, atKey, valW]
  | k' :: nk, [], us, h, _ => by cases h
  | k' :: nk, a :: as, [], _, h => by cases h
  | k' :: nk, a :: as, u :: us, h1, h2 => by
    rw [valW_cons, ← atKey_z3 (k := k) (as := as) (by simpa using h1) (by simpa using h2)]
    show (atKey ((k', a, u) :: z3 nk as us) k).map (·.2) = _
    unfold atKey
    by_cases e : k' = k
    · rw [if_pos e, List.find?_cons_of_pos (by simpa using e)]; rfl
    · rw [if_neg e, List.find?_cons_of_neg (by simpa using e)]
end
end DL
namespace DL
open PySem PySem.Spec PyProof.Rows L2
section
variable {X : Cx} {pins : List (Addr × Obj)} {σ : L2.St} {H : Hp} {s : Shared} {c : Cfg} {L : Lk} {S : Sto} {p : Addr} {nk : List NestedKey} {kvs vs : List V} {A : Around} {E : Value → Shared → Prop} {k : NestedKey} {y v : V} {u r : Value}
theorem ad_fact {w : World} (I : Inv X pins σ H s) (g : Rd H p (AdO w p nk kvs vs)) : nk.length ≤ sizeLine ∧ (p == sysModules) = false ∧ nk.Nodup ∧ KU nk ∧ kvs.length = nk.length ∧ vs.length = nk.length ∧
    ∃ o es ep ku us, s.heap.get? p = some o ∧ o.ExactDict ∧ o.data = .dict es ep ∧ Vals kvs ku ∧ Vals vs us ∧ es.toList = Ents w nk ku us := (rd_of I.hok g).1
theorem ad_sc (I : Inv X pins σ H s) (g : Rd H p (AdO X.w p nk kvs vs)) (rk : Reps c L H S (nk.map nD) kvs) (h : nk.all nSc = true) :
    ∃ us, Vals vs us ∧ us.length = nk.length ∧ s.heap.DictOf (mixKind X.prog X.w) p ((nk.map nK).zip us) := by
  obtain ⟨z, hd, nd, ku, lk, lv, o, es, ep, kus, us, ho, hx, hdt, rv, ru, ee⟩ := ad_fact I g
  have hk := sV_reps h rk
  subst hk
  have lu : us.length = nk.length := ru.length.symm.trans lv
  obtain ⟨e1, e2⟩ := ents_sc (P := X.prog) (w := X.w) h rv lu
  refine ⟨us, ru, lu, o, es, ep, ho, hx, hdt, fun e he => ?_, ee ▸ e1, ?_⟩
  · exact e2 e (by rw [← ee]; exact Array.mem_toList_iff.mpr he)
  · rw [List.map_fst_zip (by rw [List.length_map, lu]; exact Nat.le_refl _)]
    exact nK_map h nd
theorem nis_all (I : Inv X pins σ H s) (eK : c.K = X.K) : ∀ {nk : List NestedKey} {as : List Addr} {us : List Value}, nk.all nTp = true → Reps c L H S (nk.map nD) (as.map V.ref) → us.length = nk.length → ∀ x ∈ z3 nk as us, (nestedKind X.prog X.w).is s.heap x.1 x.2.1
  | [], as, us, _, _, _, x, hx => by unfold z3 at hx; simp at hx
  | k :: nk, as, [], _, _, h, x, hx => by cases h
  | k :: nk, as, u :: us, h, r, hl, x, hx => by
    rw [List.all_cons, Bool.and_eq_true] at h
    obtain ⟨v, ws, ev, r1, rs⟩ := Reps.of_cons (ds := nk.map nD) r
    cases as with
    | nil => cases ev
    | cons a as =>
      rw [List.map_cons] at ev
      injection ev with e1 e2
      subst e1 e2
      have hx : x ∈ (k, a, u) :: z3 nk as us := hx
      rcases List.mem_cons.mp hx with e | hx
      · subst e
        exact ⟨nis I eK k _ _ r1 rfl, tp_depth h.1⟩
      · exact nis_all I eK h.2 rs (by simpa using hl) x hx
theorem ad_tp (I : Inv X pins σ H s) (eK : c.K = X.K) (g : Rd H p (AdO X.w p nk kvs vs)) (rk : Reps c L H S (nk.map nD) kvs) (h : nk.all nTp = true) :
    ∃ as us, kvs = as.map V.ref ∧ as.length = nk.length ∧ Vals vs us ∧ us.length = nk.length ∧ s.heap.DictOfH (nestedKind X.prog X.w) p (z3 nk as us) := by
  obtain ⟨z, hd, nd, ku, lk, lv, o, es, ep, kus, us, ho, hx, hdt, rv, ru, ee⟩ := ad_fact I g
  obtain ⟨as, ea⟩ := tp_refs h rk
  subst ea
  have lu : us.length = nk.length := ru.length.symm.trans lv
  have la : as.length = nk.length := by rw [List.length_map] at lk; exact lk
  rw [vals_refs rv] at ee
  refine ⟨as, us, rfl, la, ru, lu, o, es, ep, ho, hx, hdt, by rw [ee]; exact ents_tp la lu, nis_all I eK h rk lu, by rw [z3_keys la lu]; exact nd⟩
theorem ku_cases (h : KU (k :: nk)) : (nSc k = true ∧ nk.all nSc = true) ∨ (nTp k = true ∧ nk.all nTp = true) := by
  unfold KU at h
  simpa only [List.all_cons, Bool.and_eq_true] using h
theorem ad_is (hk : nSc k = true) (ry : Rep c L H S (nD k) y) (ru : RelV y u) : (mixKind X.prog X.w).is (nK k) u = true := by
  rw [sV_rep hk ry] at ru
  exact (sV_is (w := X.w) hk ru).1
theorem val_vals : ∀ {nk : List NestedKey} {vs : List V} {us : List Value}, Vals vs us → RelO (valW nk vs k) (valW nk us k)
  | [], _, _, _ => True.intro
  | k' :: nk, _, _, .nil => True.intro
  | k' :: nk, _, _, .cons r1 r2 => by
    rw [valW_cons, valW_cons]
    by_cases e : k' = k
    · rw [if_pos e, if_pos e]; exact r1
    · rw [if_neg e, if_neg e]; exact val_vals r2
theorem rm_in (hu : A.units + 9 < cLine) : (nestedKind X.prog X.w).room A.in1 := by
  show A.units + 1 + 8 < cLine
  omega
/-- d[k], there -/
theorem ad_getItem {Q : Value → Shared → Prop} (hu : A.units + 9 < cLine) (I : Inv X pins σ H s) (eK : c.K = X.K) (g : Rd H p (AdO X.w p nk kvs vs)) (rk : Reps c L H S (nk.map nD) kvs) (kk : KU (k :: nk)) (ry : Rep c L H S (nD k) y) (ru : RelV y u)
    (hv : valW nk vs k = some v) (h : ∀ w' s', Inv X pins σ H s' → RelV v w' → Q w' s') : wpAny (model X.prog X.w) A (getItem (.ref p) u) Q E s := by
  rcases ku_cases kk with ⟨h1, h2⟩ | ⟨h1, h2⟩
  · obtain ⟨us, rv, lu, dd⟩ := ad_sc I g rk h2
    obtain ⟨w', hw, rw'⟩ := RelO.some_of (v := v) (o := valW nk us k) (by rw [← hv]; exact val_vals rv)
    exact wpAny_getItem_of (ad_is h1 ry ru) dd.mapOf (by rw [val_sc h1 h2]; exact hw) (h w' _ (I.tok _) rw')
  · obtain ⟨as, us, ea, la, rv, lu, dd⟩ := ad_tp I eK g rk h2
    obtain ⟨w', hw, rw'⟩ := RelO.some_of (v := v) (o := valW nk us k) (by rw [← hv]; exact val_vals rv)
    obtain ⟨b, eb⟩ := tp_ref h1 ry
    subst eb
    cases (show u = Value.ref b from ru)
    rw [← atKey_z3 la lu] at hw
    obtain ⟨q, hq, hq2⟩ := Option.map_eq_some_iff.mp hw
    refine wpAny_getItem_heap (rm_in hu) ⟨nis I eK k _ _ ry rfl, tp_depth h1⟩ dd hq ?_
    rw [hq2]
    exact h w' _ (I.tok _) rw'
end
end DL
namespace DL
open PySem PySem.Spec PyProof.Rows L2
mutual
theorem nD_inj : ∀ {a b : NestedKey}, nD a = nD b → a = b
  | .none, b, h => by cases b <;> first | rfl | (unfold nD at h; cases h)
  | .num i, b, h => by cases b <;> first | (unfold nD at h; cases h; rfl) | (unfold nD at h; cases h)
  | .text x, b, h => by cases b <;> first | (unfold nD at h; cases h; rfl) | (unfold nD at h; cases h)
  | .tup ks, b, h => by
    cases b with
    | tup js =>
      unfold nD at h
      injection h with h
      rw [nDs_inj h]
    | none => unfold nD at h; cases h
    | num _ => unfold nD at h; cases h
    | text _ => unfold nD at h; cases h
theorem nDs_inj : ∀ {a b : List NestedKey}, nDs a = nDs b → a = b
  | [], [], _ => rfl
  | [], _ :: _, h => by unfold nDs at h; cases h
  | _ :: _, [], h => by unfold nDs at h; cases h
  | a :: as, b :: bs, h => by
    unfold nDs at h
    injection h with h1 h2
    rw [nD_inj h1, nDs_inj h2]
end
theorem nDm_inj {a b : List NestedKey} (h : a.map nD = b.map nD) : a = b := nDs_inj (by rw [nDs_map, nDs_map]; exact h)
/-- the value is a dict -/
def DicIs (S : Sto) (x : D) (nk : List NestedKey) (xs : List D) : Prop := (∃ p, x = .ref p ∧ S p = some (.dic nk xs)) ∨ x = .dic (nk.map nD) xs
section
variable {c : Cfg} {L : Lk} {H : Hp} {S : Sto}
theorem dic_ok {x : D} {v : V} {nk : List NestedKey} {xs : List D} (so : StoR c L H S) (r : Rep c L H S x v) (h : DicIs S x nk xs) : ∃ p kvs vs, v = .ref p ∧ Rd H p (AdO c.w p nk kvs vs) ∧ Reps c L H S (nk.map nD) kvs ∧ Reps c L H S xs vs := by
  rcases h with ⟨p, ex, hs⟩ | ex
  · subst ex
    unfold Rep at r
    obtain ⟨⟨kvs, vs, hp, rk, rv⟩, _⟩ := so.at_ p _ hs
    exact ⟨p, kvs, vs, r, .inl hp, rk, rv⟩
  · subst ex
    unfold Rep at r
    obtain ⟨p, o, nk', kvs, vs, ev, hp, _, ek, rk, rv⟩ := r
    cases nDm_inj ek
    exact ⟨p, kvs, vs, ev, .inr ⟨o, hp⟩, rk, rv⟩
end
section
variable {X : Cx} {A : Cla} {W : WX} {e o i value : Expr} {pos pos' apos cpos : Pos} {t u w : DT}
/-- d[k] -/
def dGetD (t u : DT) : DT := fun ρ S Q E => t ρ S (fun x S1 => u ρ S1 (fun y S2 => ∃ nk xs k d, DicIs S2 x nk xs ∧ y = nD k ∧ KU (k :: nk) ∧ valW nk xs k = some d ∧ Q d S2) E) E
theorem ad_type {s : Shared} {pins : List (Addr × Obj)} {σ : L2.St} {H : Hp} {w : World} {p : Addr} {nk : List NestedKey} {kvs vs : List V} (I : L2.Inv X pins σ H s) (g : Rd H p (AdO w p nk kvs vs)) : s.TypeIs (.ref p) "dict" ∧ (∀ b, Value.ref p = .ref b → ∃ ob, s.heap.get? b = some ob ∧ ob.dict = none) := by
  obtain ⟨z, hd, nd, kk, lk, lv, o, es, ep, kus, us, ho, hx, hdt, _⟩ := ad_fact I g
  refine ⟨⟨o, ho, hx.1⟩, fun b q => ?_⟩
  cases q
  exact ⟨o, ho, hx.2.1⟩
theorem de_getD (hw : A.w = X.w) (hu : X.A.units + 9 < cLine) (ho : DE X A W o t) (hi : DE X A W i u) (hs : NoSl i) : DE X A W (.Subscript o i pos) (dGetD t u) := by
  refine ⟨fun pins s σ H Q I ⟨ρ, S, L, Qd, Ed, sl, so, h, kq, kx⟩ => ?_⟩
  refine subD_of PySem.F.slot_dict_getitem.lookup hs (thn (ho.run pins s σ H (fun x H1 => liftE (cX X A) W u σ H1 fun y H2 => ∃ L S nk xs k d, StoR (cX X A) L H2 S ∧ ∃ dx dy, Rep (cX X A) L H2 S dx x ∧ Rep (cX X A) L H2 S dy y ∧ DicIs S dx nk xs ∧ dy = nD k ∧ KU (k :: nk) ∧ valW nk xs k = some d ∧ ∀ v, Rep (cX X A) L H2 S d v → Q v H2) I
    ⟨ρ, S, L, _, Ed, sl, so, h, fun ov H1 x S1 e1 so1 r1 q1 => ⟨ρ, S1, L, _, Ed, sl.ext e1, so1, q1, fun iv H2 y S2 e2 so2 r2 ⟨nk, xs, k, d, hd, ey, kk, hv, q2⟩ => ⟨L, S2, nk, xs, k, d, so2, x, y, r1.ext e2, r2, hd, ey, kk, hv, fun v rv => kq v H2 d S2 (e1.trans e2) so2 rv q2⟩, kx.ext e1⟩, kx⟩) fun uv s1 ⟨x, H1, I1, rx, q1⟩ =>
    thn (hi.run pins s1 σ H1 _ I1 q1) fun iv s2 ⟨y, H2, I2, ry, L2, S2, nk, xs, k, d, so2, dx, dy, r1, r2, hd, ey, kk, hv, q⟩ => ?_)
  subst ey
  obtain ⟨p, kvs, vs, ex, g, rk, rv⟩ := dic_ok so2 r1 hd
  subst ex
  obtain rfl : uv = Value.ref p := rx
  obtain ⟨v, hv', rv'⟩ := rv.valW hv
  have g : Rd H2 p (AdO X.w p nk kvs vs) := by rw [← hw]; exact g
  exact ⟨(ad_type I2 g).1, ad_getItem (c := cX X A) hu I2 rfl g rk kk r2 ry hv' fun w' s3 I3 rw' => ⟨v, H2, I3, rw', q v rv'⟩⟩
end
end DL
namespace PySem
open Sem (wp)
end PySem
namespace DL
open PySem PySem.Spec PyProof.Rows L2
def inS (ks : List Key) (k : Key) : Bool := ks.any fun j => decide (j = k)
def putS (ks : List Key) (k : Key) : List Key := if inS ks k = true then ks else ks ++ [k]
end DL
namespace DLb
open PySem PySem.Spec PySem.Calls PyProof.Rows PySem.W
section
variable {prog : Program} {w : World} {A : Around} {E : Value → Shared → Prop} {s : Shared} {K : Frag} {x D : Addr} {ox : Obj} {od : Option Obj}
theorem findObj_dataX {C : Addr} {name : Str} {a g : Value} (hc : (clsIn K C).isSome = true) (ha : findIn K (.ref C) name = some (some a)) (hg : specialIn K a "__get__" = some (some g)) (ht : takesIn K a = some true) : findObj K C od name = some (.bind g a) := by
  obtain ⟨cd, hc⟩ := Option.isSome_iff_exists.mp hc
  unfold findObj
  rw [hc, Option.bind_some, ha, Option.bind_some]
  simp [hg, ht]
theorem cls_read (T : L2.ExcC K D) {Q : Option Value → Shared → Prop} (X : K.In s.heap) (I : InstAt s.heap x ox D od) (h : Q (some (.ref D)) { s with toks := s.toks + 1 }) : wpAny (model prog w) A (getAttr? (.ref x) "__class__") Q E s := by
  have hf : findObj K D od "__class__" = some (.bind (.builtin "getset_descriptor.__get__") (.builtin "object.__class__")) := findObj_dataX (by obtain ⟨cd, hc, _⟩ := any_some T.hd; rw [hc]; rfl) T.ha T.hn T.ht
  obtain ⟨hp, g, d, t, os⟩ := s
  have L0 := I.type (M := model prog w)
  have L1 := looks_findIn (M := model prog w) X T.hg
  have L2 := looks_findIn (M := model prog w) X T.hk
  have L3 := looks_find (M := model prog w) X I hf
  have sub : Looks (model prog w) hp (isInstance (.ref x) (.type "BaseException")) true := L0.andThen (looks_subIn X T.hs)
  have hx0 : (false && onTheHeap (Value.builtin "BaseException.__getattribute__")) = false := rfl
  have hx2 : (Value.builtin "BaseException.__getattribute__" == Value.builtin "object.__getattribute__") = false := by decide +kernel
  have hx1 : (onTheHeap (Value.ref D) && Value.builtin "BaseException.__getattribute__" == Value.builtin "object.__getattribute__") = false := by rw [hx2]; rfl
  unfold getAttr? getAttrBy? getAttrBy
  refine wpAny_bind (wpAny_mkText (wpAny_bind (wpAny_attempt (wpAny_holding (wpAny_bind (L0.at (wpAny_bind (L1.at ?_))))))))
  show wpAny _ _ (if (onTheHeap (Value.ref D) && Value.builtin "BaseException.__getattribute__" == Value.builtin "object.__getattribute__") = true then _ else _) _ _ _
  rw [hx1, if_neg Bool.false_ne_true]
  unfold getAttrByItsOwn hookBefore
  refine wpAny_bind ?_
  rw [if_pos (show onTheHeap (Value.ref D) = true from rfl)]
  refine L2.at ?_
  refine wpAny_bind (wpAny_attempt (wpAny_holding ?_))
  unfold callGetattribute
  rw [hx0, if_neg Bool.false_ne_true]
  unfold boundAndCalled
  rw [PySem.F.excAttr_ValueError.ga.bind (.ref x)]
  refine wpAny_bind (wpAny_pure ?_)
  show wpAny _ _ (call (.builtin "BaseException.__getattribute__") [.ref x, .str "__class__" t]) _ _ _
  refine wpAny_call (codeAny_call_builtin PySem.F.excAttr_ValueError.ga.plain PySem.F.entry_bexc_ga ?_)
  refine @check_slot (model prog w) _ _ ⟨hp, g, d, t + 1, os⟩ "BaseException.__getattribute__" "BaseException" "__getattribute__" (.ref x) [.str "__class__" t] [] _ (by decide +kernel) (by decide +kernel) sub (PySem.F.args_bexc_ga (.ref x) (.str "__class__" t)) ?_
  unfold Builtin.«object.__getattribute__»
  refine wpAny_bind (wpAny_of_eq (a := ((Value.ref x : Value), [Value.str "__class__" t])) (by first | rfl | (simp only [slotArgs]; rfl)) ?_)
  refine wpAny_bind (wpAny_pure (wpAny_bind (L0.at (wpAny_bind (L3.at ?_)))))
  show wpAny _ _ (holding [Value.builtin "object.__class__"] (call (.builtin "getset_descriptor.__get__") [.builtin "object.__class__", .ref x, .ref D]) >>= ret) _ _ _
  refine wpAny_bind (wpAny_holding (wpAny_call (class_get (s := ⟨hp, g, d, t + 1, os⟩) (ox := ox) (od := od) X I T.hm ?_)))
  refine wpAny_pure ?_
  show wpAny _ _ (handedOut (.ref D)) _ _ _
  rw [handedOut_of (v := .ref D) rfl]
  first
    | exact wpAny_pure (wpAny_pure h)
    | exact wpAny_pure h
    | exact wpAny_pure (wpAny_bind (wpAny_pure (wpAny_pure h)))
theorem kitX (T : L2.ExcC K D) : KitX K (.ref x) (.ref D) (fun h => InstAt h x ox D od) where
  ty := fun _ _ _ I => I.type
  it := fun _ _ X _ => by
    obtain ⟨cd, hc, _⟩ := any_some T.hd
    unfold clsIn at hc
    split at hc
    · rename_i c' d' cd' sl' ho
      intro A' Q' E' s' k q
      unfold isType loadHead
      exact wpAny_bind (wpAny_loadPart (k _ _ (X _ _ ho)) (wpAny_pure q))
    · cases hc
  ne := (handS_kitx_exc (x := x) (ox := ox) T.hg T.hk T.hs T.hd T.ha T.hn T.ht T.hm).ne
  ca := fun X I k => cls_read T X I k
end
end DLb
namespace DL
open PySem PySem.Spec PyProof.Rows L2
structure Ru (A : Around) : Prop where
  un : A.units + 200 < cLine
  g : A.guards = some []
section
variable {P : Program} {w : World} {K : PySem.W.Frag} {A : Cla} {mg : Str → Option Value} {base : Heap} {N : List Str} {sc : Scope} {fo : Str → Bool} {lv : Nat} {X : Cx} {W : WX}
variable {e : Expr} {es : List Expr} {p pos pos' : Pos} {x : Str} {ta : DTA} {C : Addr} {n i : Nat}
/-- what holds in a suite -/
structure IsU (P : Program) (w : World) (K : PySem.W.Frag) (mg : Str → Option Value) (base : Heap) (N : List Str) (sc : Scope) (X : Cx) : Prop where
  h : InH P w K mg base N sc X
  ru : Ru X.A
theorem IsU.var {i : Nat} {x : Str} (h : IsU P w K mg base N sc X) (ck : nmB N sc i x = true) : DE X A W (.Name x pos) (dVar i) := h.h.var ck
theorem IsU.bi {id : String} {R : DRA} (h : IsU P w K mg base N sc X) (hc : CallD X A (.builtin id) R) (hg : glB sc x = true) (hm : mg x = none) (hv : bootBuiltins x = some (.builtin id)) (ha : DA X A W (e :: es) ta)
    (he : starEach (e :: es) X.env = (false, eval e X.env) :: starEach es X.env := by rfl) (hpl : (backTo pos (starEach es X.env)).any (·.1) = false := by rfl) : DE X A W (.Call (.Name x p) (e :: es) [] pos) (dCB R ta) := h.h.bi hc hg hm hv ha he hpl
end
end DL
namespace DL
open PySem PySem.Spec PyProof.Rows L2
/-- what the written part says of a def with its class's cell -/
structure CelC (K : PySem.W.Frag) (cl C : Addr) : Prop where
  cell : ∃ oc od sl, K.lookup cl = some ⟨oc, od, .cell (some (.ref C)), sl⟩
structure PTop (X : Cx) (body sts : List Stmt) (t : TS) : Prop where
  run : ∀ (s : Shared) (σ : L2.St) (H : Hp) (D : Ends), Inv X [] σ H s → t D σ H → PySem.wpAt (model X.prog X.w) X.A (.func body X.env) (execs sts X.env) (SP X [] D) X.xe s
theorem PTop.mono {X : Cx} {body sts : List Stmt} {t t' : TS} (h : PTop X body sts t) (m : ∀ D σ H, t' D σ H → t D σ H) : PTop X body sts t' := ⟨fun s σ H D I q => h.run s σ H D I (m _ _ _ q)⟩
end DL
namespace PySem
open Sem (wp)
open PySem.W
section
variable {prog : Program} {w : World} {M : Model} {A : Around} {E : Value → Shared → Prop} {h : Heap} {g : Array GenState} {d : Drawn} {t : Nat} {os : OsState}
/-- the attribute of a super object, as an expression asks for it -/
theorem dl_getAttr_super {so D x C f : Addr} {of : Obj} {l₀ l : List Value} {K : Frag} {name : Str} {Q : Value → Shared → Prop}
    (hso : h.get? so = some { cls := .type "super", dict := none, data := .fields #[.ref D, .ref x, .ref C], slots := #[] }) (hno : Looks (model prog w) h (opaqueClassAbove (.ref C)) none)
    (hC : Looks (model prog w) h (mroOf (.ref C)) l₀) (hl : (l₀.dropWhile (· != .ref D)).drop 1 = l) (X : K.In h)
    (hf : alongIn K name l = some (some (.ref f))) (hfo : h.get? f = some of) (hfc : of.cls = .type "function") (hxC : x ≠ C) (hn : (name == ("__class__" : Str)) = false)
    (hq : Q (.ref h.objs.size) ⟨h.push { cls := .type "method", data := .fields #[.ref f, .ref x] }, g, d, t + 1, os⟩) :
    wpAny (model prog w) A (getAttr (.ref so) name true) Q E ⟨h, g, d, t, os⟩ := by
  have hlk := F.ks_slot_super_ga.lookup
  have hT : ∀ t', (⟨h, g, d, t', os⟩ : Shared).TypeIs (.ref so) "super" := fun _ => ⟨_, hso, rfl⟩
  unfold getAttr getAttrBy
  refine wpAny_bind (wpAny_mkText (wpAny_holding (wpAny_bind (wpAny_typeOf (hT _) (wpAny_bind (wpAny_of_eq hlk ?_))))))
  show wpAny _ _ (getAttrByItsOwn (.ref so) (.str name t) (.type "super") (.builtin "super.__getattribute__") true true) _ _ _
  unfold getAttrByItsOwn hookBefore callGetattribute boundAndCalled
  refine wpAny_bind (wpAny_of_eq (show (if onTheHeap (.type "super") then typeLookup (.type "super") "__getattr__" else pure none) = pure none from rfl) ?_)
  refine wpAny_bind (wpAny_attempt (wpAny_holding ?_))
  show wpAny _ _ (bindSpecial (.builtin "super.__getattribute__") (.ref so) >>= _) _ _ _
  refine wpAny_bind (wpAny_of_eq (F.ks_slot_super_ga.bind _) ?_)
  refine wpAny_mono (Q := fun v s' => v = .ref h.objs.size ∧ s' = ⟨h.push { cls := .type "method", data := .fields #[.ref f, .ref x] }, g, d, t + 1, os⟩) (E := fun _ _ => False)
    (wpAny_call_entry F.ks_slot_super_ga (hT _) F.ks_entry_super_ga (ks_wpAny_super_ga hso hno hC hl X hf hfo hfc hxC hn ⟨_, rfl, rfl, rfl⟩) (F.ks_gaArgs_super _ _)) (fun v s' hv => ?_) fun _ _ z => z.elim
  obtain ⟨rfl, rfl⟩ := hv
  exact wpAny_pure hq
end
end PySem
namespace DL
open PySem PySem.Spec PyProof.Rows L2
/-- what the written part says of super().m in a def of the class D, for an object of the class C -/
structure SupC (K : PySem.W.Frag) (file : Str) (cda cl D C : Addr) (m : Str) (g : Addr) : Prop where
  cell : CelC K cl D
  code : ∃ ccl cdd vs ccs tf, K.lookup cda = some ⟨ccl, cdd, .fields vs, ccs⟩ ∧ vs[2]? = some (.str file tf)
  sup : PySem.W.ks_superIn K C D m = some (some (.ref g))
  mro : PySem.W.mroIn K C (.ref D) = some true
  opq : PySem.W.nsIn K cStatics "thirdparty.any" = some none
  clsD : (PySem.W.clsIn K D).isSome = true
  ty : PySem.W.typeIn K (.ref g) = some (.type "function")
  fi : PySem.W.fnIn K g = true
section
variable {M : Model} {A : Around} {c : Code} {E : Value → Shared → Prop} {s : Shared} {env : PySem.Env}
theorem wpAt_MethodCallK {o : Expr} {name : Str} {apos pos : Pos} {args : List Expr} {kws : List Keyword} {gm : Value → Sem (Value × List Value)} {Q : Value → Shared → Prop}
    (h : PySem.wpAt M A c (attributeBase o name env (eval o env)) (fun ov s₁ => wpAny M A (gm ov) (fun fx s₂ => wpAny M A (callWith pos fx.1 fx.2 (backTo pos (starEach args env)) (backToKw pos (keywordEach kws env))) Q E s₂) E s₁) E s)
    (he : eval (.Call (.Attribute o name apos) args kws pos) env = (do
      let ov ← attributeBase o name env (eval o env)
      standAt apos.atName
      let (f, first) ← holding [ov] (gm ov)
      callWith pos f first (backTo pos (starEach args env)) (backToKw pos (keywordEach kws env)))) :
    PySem.wpAt M A c (eval (.Call (.Attribute o name apos) args kws pos) env) Q E s := by
  rw [he]
  refine PySem.wpAt_bind (PySem.wpAt_mono h (fun ov s₁ h₁ => PySem.wpAt_of_wpAny (wpAny_bind (wpAny_standAt (wpAny_bind (wpAny_holding (wpAny_mono h₁ (fun fx s₂ h₂ => ?_) fun _ _ x => x)))))) fun _ _ x => x)
  exact h₂
end
section
variable {X : Cx} {pins : List (Addr × Obj)} {σ : L2.St} {H : Hp} {s : Shared} {E : Value → Shared → Prop}
theorem super_meth {file : Str} {f cda cl D C g p dx : Addr} {m qual : Str} {L : Addr} {oc : Value} {od : Option Addr} {osl : Array (Option Value)} {fd : FuncData} {ar : Arg} {fs : List (Str × V)} {args : List Expr} {kws : List Keyword} {p0 p1 apos pos : Pos} {gm : Value → Sem (Value × List Value)} {Q : Value → Shared → Prop} {body : List Stmt}
    (hgm : (∃ pl, gm = fun ov => getMethod ov m pl) ∨ gm = fun ov => getAttr ov m true >>= fun v => pure (v, []))
    (I : Inv X pins σ H s) (T : SupC X.K file cda cl D C m g) (hf : X.K.lookup f = some ⟨oc, od, .func fd, osl⟩) (hp : (fd.params.posonlyargs ++ fd.params.args).head? = some ar) (henv : X.env = PySem.W.ksEnv qual X.env.scope L f (.ref cda) cl)
    (hN : X.N[0]? = some ar.arg) (hσ : σ[0]? = some (some (.ref p))) (hH : H p = some (.ins C dx fs)) (hm : X.mg "super" = none) (hfile : ((X.prog.main.file : Str) == file) = true) (htop : (X.prog.main.scope.names.lookup ("super" : Str)).isSome = false)
    (hks : X.env.scope.names.lookup ("super" : Str) = some .globalImplicit) (hkc : X.env.scope.names.lookup ("__class__" : Str) = some .free) (hka : X.env.scope.names.lookup ar.arg = some .local) (hat : (m == ("__class__" : Str)) = false)
    (he : eval (.Call (.Attribute (.Call (.Name "super" p0) [] [] p1) m apos) args kws pos) X.env = (do
      let ov ← attributeBase (.Call (.Name "super" p0) [] [] p1) m X.env (eval (.Call (.Name "super" p0) [] [] p1) X.env)
      standAt apos.atName
      let (f, first) ← holding [ov] (gm ov)
      callWith pos f first (backTo pos (starEach args X.env)) (backToKw pos (keywordEach kws X.env))))
    (hq : ∀ s2 q, Inv X ((q, PySem.W.methodObj (.ref g) (.ref p)) :: pins) σ H s2 → X.base.get? q = none → wpAny (model X.prog X.w) X.A (callWith pos (.ref q) [] (backTo pos (starEach args X.env)) (backToKw pos (keywordEach kws X.env))) Q E s2) :
    PySem.wpAt (model X.prog X.w) X.A (.func body X.env) (eval (.Call (.Attribute (.Call (.Name "super" p0) [] [] p1) m apos) args kws pos) X.env) Q E s := by
  refine wpAt_MethodCallK (gm := gm) ?_ he
  obtain ⟨lc, lod, lsl, hcell⟩ := T.cell.cell
  obtain ⟨ccl, cdd, vs, ccs, tf, hcode, hvs⟩ := T.code
  obtain ⟨cdD, hD⟩ := Option.isSome_iff_exists.mp T.clsD
  have KX := I.kIn
  obtain ⟨mA, O, _, _, _, _⟩ := ins_get I.hok hH
  obtain ⟨mL, nsL, look⟩ := I.loc
  obtain ⟨u, ru, lk⟩ := look 0 ar.arg (.ref p) hN hσ (.inl hka)
  have eu : u = Value.ref p := ru
  subst eu
  have hv : mL ar.arg = some (.ref p) := by
    rcases lk with ⟨_, h⟩ | ⟨h, _⟩
    · exact h
    · rcases h with h | h <;> · have h : X.env.scope.names.lookup ar.arg = _ := h; rw [hka] at h; cases h
  have kind := I.ok.kind
  obtain ⟨mb, hmb, hmb2⟩ := I.mod.blt
  have hG := I.mod.glob.keeps I.bk
  have hB := hmb.keeps I.bk
  have hbs : mb ("super" : Str) = some (.type "super") := (hmb2 _ (by decide +kernel)).trans (by decide +kernel)
  obtain ⟨oD, hD1, hD2⟩ : ∃ oD, s.heap.get? D = some oD ∧ oD.data = .cls cdD := by
    unfold PySem.W.clsIn at hD
    split at hD
    · rename_i c d cd' sl ho
      cases hD
      exact ⟨_, KX _ _ ho, rfl⟩
    · cases hD
  have cf : X.env.func = some f := by rw [henv]
  have cco : X.env.code = .ref cda := by rw [henv]
  have ccl' : X.env.cells.lookup ("__class__" : Str) = some cl := by rw [henv]; show List.lookup _ [(("__class__" : Str), cl)] = some cl; rw [List.lookup_cons]; simp
  have cgl : X.env.globals = mainGlobals := I.ok.glob
  have cbl : X.env.builtins = builtinsNs := I.ok.blt
  obtain ⟨hh, g0, d, t, os⟩ := s
  refine PySem.ks_wpAt_super_base hks hkc hat cf (KX _ _ hf) rfl hp cco (KX _ _ hcode) rfl hvs hfile htop ?_
  refine PySem.W.ks_loadName_global kind hks (Calls.loadGlobal_builtin (mg := X.mg) (mb := mb) (by rw [cgl]; exact hG) hm (by rw [cbl]; exact hB) hbs ⟨rfl, ?_⟩)
  refine wpAny_loadName_free kind hkc ccl' ⟨_, KX _ _ hcell, rfl⟩ ?_
  refine wpAny_loadName_local kind hka nsL hv ?_
  refine ks_wpAny_isType_cls hD1 hD2 ⟨rfl, ?_⟩
  refine ks_wpAny_call_super hD1 hD2 O.obj rfl (fun c z => by cases z) (PySem.W.looks_mroIn KX T.mro) (fun h1 e1 k1 => ?_)
  have I1 : Inv X pins σ H ⟨h1, g0, d, t, os⟩ := I.kept (t' := t) k1
  have KX1 := I1.kIn
  cases hc : PySem.W.clsIn X.K C with
  | none =>
    have := T.sup
    unfold PySem.W.ks_superIn at this
    rw [hc] at this; cases this
  | some cd =>
    have sup := T.sup
    unfold PySem.W.ks_superIn at sup
    rw [hc] at sup
    obtain ⟨of, hof, hofc⟩ : ∃ of, h1.get? g = some of ∧ of.cls = .type "function" := by
      have ht' : (X.K.lookup g).map (·.cls) = some (.type "function") := T.ty
      cases z : X.K.lookup g with
      | none => rw [z] at ht'; cases ht'
      | some of => rw [z] at ht'; exact ⟨of, KX1 _ _ z, Option.some.inj ht'⟩
    have ne : p ≠ C := fun e => by
      subst e
      unfold PySem.W.clsIn at hc
      split at hc
      · rename_i c d cd' sl ho
        have := I.bs _ _ (I.ok.mod.kin _ _ ho)
        rw [hH] at this
        cases this.2
      · cases hc
    have I2 := ClX.met_new (g := g) (C := p) I1
    rcases hgm with ⟨pl, rfl⟩ | rfl
    · refine ks_wpAny_getMethod_super e1 (PySem.W.looks_opaque KX1 T.opq) (l₀ := cd.mro) (fun A Q E s k q => wpAny_bind ((PySem.W.looks_clsIn KX1 hc) A _ E s k (wpAny_pure q))) rfl KX1 sup hof hofc ne hat ?_
      exact hq _ _ I2 (ClX.base_none I1 (Nat.le_refl _))
    · refine wpAny_bind (PySem.dl_getAttr_super e1 (PySem.W.looks_opaque KX1 T.opq) (l₀ := cd.mro) (fun A Q E s k q => wpAny_bind ((PySem.W.looks_clsIn KX1 hc) A _ E s k (wpAny_pure q))) rfl KX1 sup hof hofc ne hat (wpAny_pure ?_))
      exact hq _ _ I2 (ClX.base_none I1 (Nat.le_refl _))
end
end DL
namespace DL
open PySem PySem.Spec PyProof.Rows L2
structure PEt (X : Cx) (body : List Stmt) (e : Expr) (t : TE) : Prop where
  run : ∀ (s : Shared) (σ : L2.St) (H : Hp) (Q : VK), Inv X [] σ H s → t σ H Q → PySem.wpAt (model X.prog X.w) X.A (.func body X.env) (eval e X.env) (EP X [] σ Q) X.xe s
abbrev DEt (X : Cx) (A : Cla) (W : WX) (body : List Stmt) (e : Expr) (t : DT) : Prop := PEt X body e (liftE (cX X A) W t)
abbrev DTop (X : Cx) (A : Cla) (W : WX) (body sts : List Stmt) (t : DTS) : Prop := PTop X body sts (liftS (cX X A) W t)
section
variable {X : Cx} {A : Cla} {W : WX} {body rest : List Stmt} {st : Stmt} {e : Expr} {pos : Pos} {t u : DTS} {te : DT}
theorem DTop.mono {t t' : DTS} (h : DTop X A W body rest t) (m : ∀ D ρ S, t' D ρ S → t D ρ S) : DTop X A W body rest t' := PTop.mono h fun D σ H ⟨ρ, S, L, DD, sl, so, q, k⟩ => ⟨ρ, S, L, DD, sl, so, m _ _ _ q, k⟩
end
/-- where super() stands: the def f of the class D -/
structure SupW (X : Cx) (file : Str) (f cda cl : Addr) (x : Str) : Prop where
  fn : ∃ oc od osl fd ar, X.K.lookup f = some ⟨oc, od, .func fd, osl⟩ ∧ (fd.params.posonlyargs ++ fd.params.args).head? = some ar ∧ ar.arg = x
  env : ∃ qual L, X.env = PySem.W.ksEnv qual X.env.scope L f (.ref cda) cl
  nm : X.N[0]? = some x
  mg : X.mg "super" = none
  file : ((X.prog.main.file : Str) == file) = true
  top : (X.prog.main.scope.names.lookup ("super" : Str)).isSome = false
  ks : X.env.scope.names.lookup ("super" : Str) = some .globalImplicit
  kc : X.env.scope.names.lookup ("__class__" : Str) = some .free
  ka : X.env.scope.names.lookup x = some .local
/-- the object itself, then the arguments -/
def dSup (C : Nat) (sp : DSp) (ta : DTA) : DT := fun ρ S Q E => ∃ d, ρ[0]? = some (some d) ∧ isC S C d ∧ ta ρ S (fun ds S1 => sp (d :: ds) S1 Q E) E
theorem env_at {c : Cfg} {L : Lk} {H : Hp} {S : Sto} {ρ : DSt} {σ : L2.St} {i : Nat} {d : D} (sl : EnvR c L H S ρ σ) (h : ρ[i]? = some (some d)) : ∃ v, σ[i]? = some (some v) ∧ Rep c L H S d v := sl.at_ i d h
section
variable {X : Cx} {A : Cla} {W : WX} {body : List Stmt} {e : Expr} {es : List Expr} {kws : List Keyword} {ks : List Str} {p0 p1 apos pos sp0 : Pos} {m x file : Str} {f cda cl D g : Addr} {C k : Nat} {sp : DSp} {ta tk : DTA} {te : DT} {pl : Sem Bool}
theorem det_sup (B : SupW X file f cda cl x) (T : SupC X.K file cda cl D (A.cA C) m g) (hat : (m == ("__class__" : Str)) = false) (F : FnD X.prog X.w (cX X A) X.mg X.base k g sp) (hr : Rm k X.A) (tkk : L2N.Takes X W) (ha : DA X A W (e :: es) ta)
    (hst : starEach (e :: es) X.env = (false, eval e X.env) :: starEach es X.env) (hpl : (backTo pos (starEach es X.env)).any (·.1) = false)
    (he : eval (.Call (.Attribute (.Call (.Name "super" p0) [] [] p1) m apos) (e :: es) [] pos) X.env = (do
      let ov ← attributeBase (.Call (.Name "super" p0) [] [] p1) m X.env (eval (.Call (.Name "super" p0) [] [] p1) X.env)
      standAt apos.atName
      let (f, first) ← holding [ov] (getMethod ov m pl)
      callWith pos f first (backTo pos (starEach (e :: es) X.env)) (backToKw pos (keywordEach [] X.env)))) : DEt X A W body (.Call (.Attribute (.Call (.Name "super" p0) [] [] p1) m apos) (e :: es) [] pos) (dSup C sp ta) := by
  refine ⟨fun s σ H Q I ⟨ρ, S, L, Qd, Ed, sl, so, ⟨d, hd, ⟨xs, hi⟩, h⟩, kq, kx⟩ => ?_⟩
  obtain ⟨v, hv, rv0⟩ := env_at sl hd
  obtain ⟨p, dx, vs0, ev, hH, _⟩ := insOf_ok so rv0 hi
  subst ev
  obtain ⟨oc, od, osl, fd, ar, hf, hp, har⟩ := B.fn
  subst har
  obtain ⟨qual, Lo, henv⟩ := B.env
  refine super_meth (.inl ⟨pl, rfl⟩) I T hf hp henv B.nm hv hH B.mg B.file B.top B.ks B.kc B.ka hat he fun s2 q I2 hb => ?_
  refine ClX.callwith_cm I2 hb T.fi (thn (ha.run pos _ s2 σ H (fun vs H2 => liftSp (cX X A) sp (V.ref p :: vs) H2 Q (WE W σ)) I2 ⟨ρ, S, L, _, Ed, sl, so, h, fun vs H2 ds S2 e2 so2 r2 q2 => ⟨d :: ds, S2, L, Qd, Ed, so2, .cons (rv0.ext e2) r2, q2, kq.ext e2, (kx.ext e2).slots⟩, kx⟩) fun us s3 ⟨vs, H2, I3, rv, q2⟩ => ⟨⟨ClX.pin_at I3, I3.kIn⟩, ?_⟩) hst hpl
  refine thn (wpAny_call (PySem.W.method_call (ClX.pin_at I3) (codeAny_mono (run_code (us := .ref p :: us) (vs := .ref p :: vs) rfl F hr tkk I3 (.cons rfl rv) q2) fun q s' hq => by
    match q, hq with
    | .error e, hq => exact hq
    | .ok (.ret w), hq => exact hq))) fun _ _ y => ClX.unpinE y
end
end DL
namespace DL
open PySem PySem.Spec PyProof.Rows L2
section
variable {P : Program} {w : World} {K : PySem.W.Frag} {mg : Str → Option Value} {base : Heap} {N : List Str} {sc : Scope} {fo : Str → Bool} {lv : Nat} {X : Cx} {A : Cla} {W : WX}
variable {body : List Stmt} {e : Expr} {es : List Expr} {kws : List Keyword} {ks : List Str} {p0 p1 apos pos sp0 : Pos} {m x file : Str} {f cda cl Dc g : Addr} {C k : Nat} {sp : DSp} {ta tk : DTA} {te : DT} {pl : Sem Bool}
theorem In.sup (h : In P w K mg base N sc fo lv X W) (B : SupW X file f cda cl x) (T : SupC K file cda cl Dc (A.cA C) m g) (F : FnD P w (cc K A) mg base k g sp) (hk : k ≤ lv) (ha : DA X A W (e :: es) ta) (hat : (m == ("__class__" : Str)) = false := by rfl)
    (hst : starEach (e :: es) X.env = (false, eval e X.env) :: starEach es X.env := by rfl) (hpl : (backTo pos (starEach es X.env)).any (·.1) = false := by rfl)
    (he : eval (.Call (.Attribute (.Call (.Name "super" p0) [] [] p1) m apos) (e :: es) [] pos) X.env = (do
      let ov ← attributeBase (.Call (.Name "super" p0) [] [] p1) m X.env (eval (.Call (.Name "super" p0) [] [] p1) X.env)
      standAt apos.atName
      let (f, first) ← holding [ov] (getMethod ov m pl)
      callWith pos f first (backTo pos (starEach (e :: es) X.env)) (backToKw pos (keywordEach [] X.env))) := by rfl) : DEt X A W body (.Call (.Attribute (.Call (.Name "super" p0) [] [] p1) m apos) (e :: es) [] pos) (dSup C sp ta) := by
  have := h.eM; subst this
  have := h.eP; subst this
  have := h.eW; subst this
  have := h.eK; subst this
  have := h.eB; subst this
  exact det_sup B T hat F (h.rm.mono hk) h.tk ha hst hpl he
end
end DL
namespace DL
open PySem PySem.Spec PyProof.Rows L2
section
open PySem.W
variable {K : Frag} {C D B g : Addr} {cd cdB : ClassData} {m : Str} {o1 o2 : Value} {d1 d2 : Option Addr} {s1 s2 : Array (Option Value)}
theorem cls_some (lk : K.lookup C = some ⟨o1, d1, .cls cd, s1⟩) : (clsIn K C).isSome = true := by
  have c1 : clsIn K C = some cd := by unfold clsIn; rw [lk]
  rw [c1]; rfl
end
end DL
namespace DL
open PySem PySem.Spec PyProof.Rows L2
def zipD (xs ys : List D) : List D := (xs.zip ys).map fun p => D.tup [p.1, p.2]
def iZipD (t : DTA) : DTI := fun ρ S R E => t ρ S (fun ds S1 => ∃ x y xs ys, ds = [x, y] ∧ ((x = .lst xs ∧ y = .lst ys) ∨ (x = .tup xs ∧ y = .tup ys)) ∧ R (zipD xs ys) noG S1) E
theorem zipD_get {xs ys : List D} {i : Nat} {d : D} (h : (zipD xs ys)[i]? = some d) : ∃ x y, xs[i]? = some x ∧ ys[i]? = some y ∧ d = .tup [x, y] := by
  unfold zipD at h
  rw [List.getElem?_map] at h
  obtain ⟨⟨x, y⟩, e, ed⟩ := Option.map_eq_some_iff.mp h
  obtain ⟨h1, h2⟩ := List.getElem?_zip_eq_some.mp e
  exact ⟨x, y, h1, h2, ed.symm⟩
theorem zipD_len {xs ys : List D} : (zipD xs ys).length = min xs.length ys.length := by unfold zipD; rw [List.length_map, List.length_zip]
section
variable {X : Cx} {A : Cla} {W : WX} {pins : List (Addr × Obj)} {σ : L2.St} {H : Hp} {s : Shared}
theorem itd_zip {c : Cfg} {L : Lk} {S : Sto} {xs ys : List D} {J : It} {SQ SQ2 : Hp → List V → Prop}
    (h : ∀ (L' : Lk) H' S', (∀ q, L' q → L q ∨ H q = none) → Ext H S H' S' → ∃ vs us, SQ H' vs ∧ Reps c L' H' S' xs vs ∧ SQ2 H' us ∧ Reps c L' H' S' ys us)
    (go : ∀ i H' vs us v u, SQ H' vs → SQ2 H' us → vs[i]? = some v → us[i]? = some u → J.go i H') (st : ∀ i H' vs us, SQ H' vs → SQ2 H' us → (vs.length ≤ i ∨ us.length ≤ i) → J.stop i H')
    (yl : ∀ i H' v H'' vs us, J.yld i H' v H'' → SQ H' vs → SQ2 H' us → ∃ T x y, v = .ref T ∧ H' T = none ∧ H'' = upd H' T (.tup [x, y]) ∧ vs[i]? = some x ∧ us[i]? = some y) : ItD c L noG H S J (zipD xs ys) := by
  intro L' H' S' hl e so g
  obtain ⟨vs, us, q, rs, q2, rs2⟩ := h L' H' S' hl e
  refine ⟨fun i d ed => ?_, fun i hi => st i H' vs us q q2 (by rw [rs.length, rs2.length]; rw [zipD_len] at hi; omega)⟩
  obtain ⟨x, y, ex, ey, dx⟩ := zipD_get ed
  subst dx
  obtain ⟨v, ev, rv⟩ := rs.get ex
  obtain ⟨u, eu, ru⟩ := rs2.get ey
  refine ⟨go i H' vs us v u q q2 ev eu, fun w H'' yy => ?_⟩
  obtain ⟨T, v', u', ew, nT, eH, e1, e2⟩ := yl i H' w H'' vs us yy q q2
  rw [ev] at e1
  rw [eu] at e2
  cases e1
  cases e2
  subst ew eH
  have fr := so.free nT
  have xt : Ext H' S' (upd H' T (.tup [v, u])) S' := Ext.upd nT
  refine ⟨xt, so.upd nT, ?_⟩
  unfold Rep
  exact ⟨T, _, rfl, .inl ⟨.inl upd_same, fr.1, fr.2⟩, .cons (rv.ext xt) (.cons (ru.ext xt) .nil)⟩
theorem di_zip {e e2 : Expr} {p pos tpos : Pos} {elts : List Expr} {kk : Nat} {t : DTA} (hg : Gl X "zip") (hm : X.mg "zip" = none) (ha : DA X A W [e, e2] t)
    (hs : starEach [e, e2] X.env = (false, eval e X.env) :: starEach [e2] X.env := by rfl) (hpl : (backTo pos (starEach [e2] X.env)).any (·.1) = false := by rfl) :
    DItr X A W (.Tuple elts kk tpos) (.Call (.Name "zip" p) [e, e2] [] pos) (iZipD t) :=
  PI.mono (RZ.pi_zipA hg hm ha hs hpl) fun σ H R ⟨ρ, S, L, Rd, Ed, sl, so, h, ki, kx⟩ => by
    refine ⟨ρ, S, L, _, Ed, sl, so, h, ?_, kx⟩
    rintro vs H1 ds S1 e1 so1 r1 ⟨x, y, xs, ys, ed, hxy, q⟩
    subst ed
    obtain ⟨v, vs', ev, rx, r1⟩ := r1.of_cons
    obtain ⟨u, ev2, ry⟩ := reps1 r1
    subst ev ev2
    rcases hxy with ⟨ex, ey⟩ | ⟨ex, ey⟩
    · subst ex ey
      unfold Rep at rx ry
      obtain ⟨a, ws, ev, f, ⟨fs, fl⟩, rs⟩ := rx
      obtain ⟨b, ws2, ev2, f2, ⟨fs2, fl2⟩, rs2⟩ := ry
      subst ev ev2
      refine ⟨a, b, ws, ws2, rfl, .inl ⟨SqL.of f, SqL.of f2, ki _ H1 _ noG S1 e1 so1 (itd_zip (SQ := fun H' vs => SqL X.K H' a vs) (SQ2 := fun H' vs => SqL X.K H' b vs) (fun L' H' S' hl x => ⟨ws, ws2, SqL.of (x a _ f fs).1, (rs.lock hl).ext x, SqL.of (x b _ f2 fs2).1, (rs2.lock hl).ext x⟩) (fun i H' vs us v u q1 q2 e1 e2 => ⟨vs, us, v, u, q1, q2, e1, e2⟩) (fun i H' vs us q1 q2 h => ⟨vs, us, q1, q2, h⟩) fun i H' v H'' vs us ⟨T, x, y, a1, b1, c1, d1, d2⟩ q1 q2 => ⟨T, x, y, a1, b1, c1, d1 vs q1, d2 us q2⟩) q⟩⟩
    · subst ex ey
      unfold Rep at rx ry
      obtain ⟨a, ws, ev, f, rs⟩ := rx
      obtain ⟨b, ws2, ev2, f2, rs2⟩ := ry
      subst ev ev2
      refine ⟨a, b, ws, ws2, rfl, .inr ⟨f.sq, f2.sq, ki _ H1 _ noG S1 e1 so1 (itd_zip (SQ := fun H' vs => SqT X.K H' a vs) (SQ2 := fun H' vs => SqT X.K H' b vs) (fun L' H' S' hl x => ⟨ws, ws2, ((f.lock hl).ext x).sq, (rs.lock hl).ext x, ((f2.lock hl).ext x).sq, (rs2.lock hl).ext x⟩) (fun i H' vs us v u q1 q2 e1 e2 => ⟨vs, us, v, u, q1, q2, e1, e2⟩) (fun i H' vs us q1 q2 h => ⟨vs, us, q1, q2, h⟩) fun i H' v H'' vs us ⟨T, x, y, a1, b1, c1, d1, d2⟩ q1 q2 => ⟨T, x, y, a1, b1, c1, d1 vs q1, d2 us q2⟩) q⟩⟩
end
section
variable {P : Program} {w : World} {K : PySem.W.Frag} {mg : Str → Option Value} {base : Heap} {N : List Str} {sc : Scope} {fo : Str → Bool} {lv : Nat} {X : Cx} {A : Cla} {W : WX} {p pos : Pos}
theorem In.zip {e e2 : Expr} {tpos : Pos} {elts : List Expr} {kk : Nat} {t : DTA} (h : In P w K mg base N sc fo lv X W) (hg : glB sc "zip" = true) (hm : mg "zip" = none) (ha : DA X A W [e, e2] t)
    (hs : starEach [e, e2] X.env = (false, eval e X.env) :: starEach [e2] X.env := by rfl) (hpl : (backTo pos (starEach [e2] X.env)).any (·.1) = false := by rfl) :
    DItr X A W (.Tuple elts kk tpos) (.Call (.Name "zip" p) [e, e2] [] pos) (iZipD t) := by
  have g := h.gl hg
  have := h.eM; subst this
  exact di_zip g hm ha hs hpl
end
end DL
namespace PySem.W
open PySem Sem
end PySem.W
namespace PySem.W
open PySem Sem
end PySem.W
namespace DL
open PySem PySem.Spec PyProof.Rows L2
theorem kit_xrl {K : PySem.W.Frag} {D : Addr} {t : Value} {r : Bool} {o1 : Value} {d1 : Option Addr} {cd : ClassData} {s1 : Array (Option Value)} (ne : (t == Value.ref D) = false) (lk : K.lookup D = some ⟨o1, d1, .cls cd, s1⟩) (ty : PySem.W.typeIn K (.ref D) = some (.type "type")) (h : PySem.W.subIn K t (.ref D) = some r) : PySem.W.kitOne K t (.ref D) = some r := by
  obtain ⟨cl, hc⟩ := Option.isSome_iff_exists.mp (cls_some lk)
  exact kit_xr ne hc ty h
section
variable {P : Program} {w : World} {K : PySem.W.Frag} {A : Cla} {mg : Str → Option Value} {base : Heap} {N : List Str} {sc : Scope} {fo : Str → Bool} {lv : Nat} {X : Cx} {W : WX}
variable {e : Expr} {es : List Expr} {p pos pos' : Pos} {x : Str} {ta : DTA} {C : Addr} {n i : Nat}
/-- the clauses of a try whose suites call more -/
inductive HdIsU (P : Program) (w : World) (base : Heap) (K : PySem.W.Frag) (A : Cla) (mg : Str → Option Value) (N : List Str) (sc : Scope) (known : Nat → Bool) : List ExceptHandler → List HdD → Prop
  | nil : HdIsU P w base K A mg N sc known [] []
  | cons {x y : Str} {i : Nat} (n : Nat) {th : Addr → List D → DTS} {b0 : Stmt} {sts : List Stmt} {np hp : Pos} {hs : List ExceptHandler} {l : List HdD} (ck : lcB N sc i y = true) (hg : glB sc x = true) (hm : mg x = some (A.cv n))
      (hex : ∀ m, known m = true → PySem.W.exmOne K (A.cv m) (A.cv n) = some (decide (m = n)))
      (su : ∀ (X' : Cx) (a q : Addr) (ds : List D), IsU P w K mg base N sc X' → Xs K X' A a q n ds → DStms X' (A.hot q n ds) WF (b0 :: sts) (th a ds)) (rest : HdIsU P w base K A mg N sc known hs l) :
      HdIsU P w base K A mg N sc known (.ExceptHandler (some (.Name x np)) (some y) (b0 :: sts) hp :: hs) ((i, n, th) :: l)
end
end DL
namespace DL
open PySem PySem.Spec PyProof.Rows L2
def dMkE (n k : Nat) (ta : DTA) : DT := fun ρ S Q E => ta ρ S (fun ds S1 => ds.length = k ∧ Q (.err n ds) S1) E
section
variable {X : Cx} {pins : List (Addr × Obj)} {σ : L2.St} {H1 : Hp} {s : Shared} {C : Addr} {fl : List Str} {vs : List V} {us : List Value} {Q : VK} {u : Value} {s' : Shared}
theorem made_val (I1 : Inv X pins σ H1 s) (r : Vals vs us) (hm : ErrMade C (fun y => (fl.zip us).lookup y) s u s') (q : ∀ e d, H1 e = none → H1 d = none → d ≠ e → Q (.ref e) (upd (upd H1 d (.xd (fl.zip vs))) e (EO (.ref C) d e))) : EP X pins σ Q u s' := by
  obtain ⟨e, h2, tk', d, t1, eu, es, k, ne, nd, hde, hoe, hns⟩ := hm
  subst eu
  subst es
  obtain ⟨hp, g1, d1, t1', os1⟩ := s
  have hd1 : H1 d = none := HOk.gone I1.hok nd
  have hn : H1 e = none := I1.hok.fresh ne
  have hn2 : upd H1 d (.xd (fl.zip vs)) e = none := by rw [upd_ne (Ne.symm hde)]; exact hn
  have nha : ∀ {b : Addr} {o : Obj}, hp.get? b = some o → b ≠ e := fun {b o} z => Nat.ne_of_lt (Nat.lt_of_lt_of_le (Heap.lt_size z) ne)
  have nda : ∀ {b : Addr} {o : Obj}, hp.get? b = some o → b ≠ d := fun {b o} z y => by
    rw [y] at z
    have nd' : hp.get? d = none := nd
    rw [nd'] at z
    cases z
  have old : ∀ {b : Addr} {z : HO}, H1 b = some z → upd (upd H1 d (.xd (fl.zip vs))) e (EO (.ref C) d e) b = some z := fun {b z} hz => by
    rw [upd_ne (ne_of_none hz hn), upd_ne (ne_of_none hz hd1)]
    exact hz
  have U : Un (frs X.stack) [] H1 (upd (upd H1 d (.xd (fl.zip vs))) e (EO (.ref C) d e)) hp h2 := {
    keep := fun b o z n hf hx => k b o z
    slot := fun b o z n hf hx => ⟨o.slots, k b o z⟩
    free := fun b o z n hx => by rw [upd_ne (nha z), upd_ne (nda z)]; exact n
    there := fun b o z hx => ⟨o, k b o z⟩
    tups := fun b xs z => old z
    frzs := fun b o v z => old z
    tbls := fun b ps z => ⟨#[], by rw [old z]; simp⟩ }
  have hok3 : HOk X.prog X.w (upd (upd H1 d (.xd (fl.zip vs))) e (EO (.ref C) d e)) h2 := fun b o z => by
    by_cases hbe : b = e
    · subst hbe
      rw [upd_same] at z
      cases z
      refine ⟨⟨_, hoe, rfl, rfl, ?_⟩, ⟨_, hoe⟩, fun g1 g2 hg kk => ?_⟩
      · unfold HandSPX.excO; exact ⟨_, rfl⟩
      · obtain ⟨oe, h1, h2⟩ := hg
        exact ⟨oe, kk oe h1, h2⟩
    · rw [upd_ne hbe] at z
      by_cases hbd : b = d
      · subst hbd
        rw [upd_same] at z
        cases z
        exact ⟨_, hns, zip_rel r⟩
      · rw [upd_ne hbd] at z
        exact (I1.hok b o z).stay (fun c v hc y => k c v y) (fun c hc => old hc) (fun c xs hc => old hc)
  have J : Inv X pins σ (upd (upd H1 d (.xd (fl.zip vs))) e (EO (.ref C) d e)) ⟨h2, g1, d1, tk', os1⟩ := I1.call' (ch := []) rfl U hok3 I1.bare (fun b z => absurd z (by simp))
  exact ⟨.ref e, _, J, rfl, q e d hn hd1 hde⟩
end
section
variable {X : Cx} {A : Cla} {W : WX} {x : Str} {C : Addr} {e : Expr} {es : List Expr} {t : DTA} {p pos : Pos} {k n : Nat}
theorem de_mkE (R : ErrR X.prog X.w X.K X.mg X.base C (A.fl n)) (ecv : A.cv n = .ref C) (hr : Room k X.A) (hg : Gl X x) (hm : X.mg x = some (.ref C)) (ha : DA X A W (e :: es) t)
    (hdb : (x == ("__debug__" : Str)) = false) (he : starEach (e :: es) X.env = (false, eval e X.env) :: starEach es X.env) (hpl : (backTo pos (starEach es X.env)).any (·.1) = false) :
    DE X A W (.Call (.Name x p) (e :: es) [] pos) (dMkE n (A.fl n).length t) := by
  refine ⟨fun pins s σ H Q I ⟨ρ, S, L, Qd, Ed, sl, so, h, kq, kx⟩ => ?_⟩
  refine wpAny_Call_Name_kw (ld_glob I hg hm ?_ hdb)
  refine PySem.W.callWith_K (h₀ := X.base) I.ok.mod.kin R.kC (thn (ha.run pos pins s σ H (fun vs H1 => vs.length = (A.fl n).length ∧ ∀ e d, H1 e = none → H1 d = none → d ≠ e → Q (.ref e) (upd (upd H1 d (.xd ((A.fl n).zip vs))) e (EO (.ref C) d e))) I
    ⟨ρ, S, L, _, Ed, sl, so, h, fun vs H1 ds S1 e1 so1 r1 ⟨z, q1⟩ => ⟨by rw [r1.length]; exact z, fun e d hn hd hde => ?_⟩, kx⟩) fun us s1 ⟨vs, H1, I1, r1, hz, q1⟩ => ⟨I1.kIn, ?_⟩) he hpl
  · have fd := so1.free hd
    have fe := so1.free hn
    have hn2 : upd H1 d (.xd ((A.fl n).zip vs)) e = none := by rw [upd_ne (Ne.symm hde)]; exact hn
    have x1 : Ext H1 S1 (upd H1 d (.xd ((A.fl n).zip vs))) S1 := Ext.upd hd
    have x2 : Ext (upd H1 d (.xd ((A.fl n).zip vs))) S1 (upd (upd H1 d (.xd ((A.fl n).zip vs))) e (EO (.ref C) d e)) S1 := Ext.upd hn2
    refine kq (.ref e) _ (.err n ds) S1 (e1.trans (x1.trans x2)) ((so1.upd hd).upd hn2) ?_ q1
    unfold Rep
    exact ⟨e, d, vs, rfl, by rw [upd_same]; show _ = some (EO (A.cv n) d e); rw [ecv], by rw [upd_ne hde]; exact upd_same, ⟨fe.1, fe.2⟩, ⟨fd.1, fd.2⟩, r1.ext (x1.trans x2)⟩
  · refine wpAny_mono (R.run X.A X.xe s1 us (by rw [← r1.length]; exact hz) (by have := hr.dp; omega) I1.bk I1.mod) (fun u s' hm => ?_) fun _ _ z => z
    exact made_val I1 r1 hm q1
end
def dEf (n : Nat) (f : Str) (fl : List Str) (t : DT) : DT := fun ρ S Q E => t ρ S (fun d S1 => ∃ xs x, d = .err n xs ∧ (fl.zip xs).lookup f = some x ∧ Q x S1) E
section
variable {X : Cx} {A : Cla} {W : WX} {f : Str} {C : Addr} {n : Nat} {e : Expr} {t : DT} {pos : Pos}
theorem de_ef (T : XfC X.K C) (hno : PySem.W.findIn X.K (.ref C) f = some none) (hcv : A.cv n = .ref C) (he : DE X A W e t) (hb : attributeBase e f X.env (eval e X.env) = eval e X.env) :
    DE X A W (.Attribute e f pos) (dEf n f (A.fl n) t) := by
  refine ⟨fun pins s σ H Q I ⟨ρ, S, L, Qd, Ed, sl, so, h, kq, kx⟩ => ?_⟩
  refine attr_of hb (thn (he.run pins s σ H (fun v H1 => ∃ p q vs w, v = .ref p ∧ H1 p = some (EO (.ref C) q p) ∧ H1 q = some (.xd ((A.fl n).zip vs)) ∧ ((A.fl n).zip vs).lookup f = some w ∧ Q w H1) I
    ⟨ρ, S, L, _, Ed, sl, so, h, fun v H1 d S1 e1 so1 r1 ⟨xs, x, ed, hl, q1⟩ => ?_, kx⟩) fun u s1 hh => ?_)
  · subst ed
    unfold Rep at r1
    obtain ⟨p, q, vs, ev, hp, hq, fp, fq, rs⟩ := r1
    obtain ⟨w, hw, rw'⟩ := zip_get rs hl
    exact ⟨p, q, vs, w, ev, by rw [hp]; show some (EO (A.cv n) q p) = _; rw [hcv], hq, hw, kq _ H1 _ S1 e1 so1 rw' q1⟩
  · obtain ⟨v, H1, I1, rv, p, dd, vs, w, ev, hp, hq, hw, q1⟩ := hh
    subst ev
    obtain rfl : u = Value.ref p := rv
    obtain ⟨⟨oe, ha, hc, hd, vz, hv⟩, _⟩ := I1.hok p _ hp
    have hx : ObjOk X.prog X.w H1 s1.heap dd (.xd ((A.fl n).zip vs)) := I1.hok dd _ hq
    obtain ⟨mA, hns, hr⟩ := hx
    obtain ⟨od, ho, hl⟩ := lookIn_ns hns
    obtain ⟨u, hu, ru⟩ := RelO.some_of (v := w) (o := mA f) (by rw [← hw]; exact hr f)
    have J : PySem.W.InstAt s1.heap p oe C (some od) := ⟨ha, hc, by unfold PySem.W.notCls; rw [hv] <;> rfl, by rw [hd]; exact ho⟩
    exact HandSPX.exc_get I1.kIn J T.ga T.gg T.exC (PySem.W.findObj_own T.hdC hno rfl (by rw [hl, hu])) (handed_of ru) ⟨w, H1, I1.tok _, ru, q1⟩
end
/-- what is known of the errors, asked for one class -/
def ErrIs (K : PySem.W.Frag) (cv : Nat → Value) (kn f : Nat → Bool) (tv : Value) : Prop := ∀ n, kn n = true → ∃ C, cv n = .ref C ∧ ExcC K C ∧ PySem.W.kitOne K (.ref C) tv = some (f n)
def rIsW (K : PySem.W.Frag) (c : V) (tv : Value) : List V → Hp → VK → Prop := fun xs H Q => ∃ (p q C : Addr) (b : Bool) (fs : List (Str × V)), xs = [.ref p, c] ∧ (∀ u, RelV c u → u = tv) ∧ H p = some (EO (.ref C) q p) ∧ H q = some (.xd fs) ∧ ExcC K C ∧ PySem.W.kitOne K (.ref C) tv = some b ∧ Q (.bl b) H
def dIsE (kn f : Nat → Bool) (t : DT) : DT := fun ρ S Q E => t ρ S (fun d S1 => ∃ n xs, d = .err n xs ∧ kn n = true ∧ Q (.bl (f n)) S1) E
section
variable {X : Cx} {A : Cla} {W : WX} {kn f : Nat → Bool} {c : V} {tv : Value}
theorem call_isW : CallR X (.builtin "isinstance") (rIsW X.K c tv) := by
  intro pins s σ H xs us Q I r h
  obtain ⟨p, q, C, b, fs, ed, hcv, hp, hq, EC, hone, h⟩ := h
  subst ed
  cases r with
  | cons rx rr =>
    cases rr with
    | cons rt rr =>
      cases rr
      cases rx
      have ec := hcv _ rt
      subst ec
      obtain ⟨⟨oe, hget, hcl, hd, vz, hv⟩, _⟩ := I.hok p _ hp
      obtain ⟨mA, hns, hr⟩ := I.hok q _ hq
      obtain ⟨od2, ho2, hl⟩ := lookIn_ns hns
      have J : PySem.W.InstAt s.heap p oe C (some od2) := ⟨hget, hcl, by unfold PySem.W.notCls; rw [hv] <;> rfl, by rw [hd]; exact ho2⟩
      exact PySem.W.kia_one (DLb.kitX EC) I.kIn J hone (fun z => nomatch z) fun tk => ⟨.bl _, H, I.kept (t' := tk) fun _ _ z => z, rfl, h⟩
theorem de_isE {e : Expr} {t : DT} {xi xt : Str} {ip tp pos : Pos} (hk : ErrIs X.K A.cv kn f tv) (hc : ∀ u, RelV c u → u = tv) (he : DE X A W e t) (pt : PE X (.Name xt tp) (tC c))
    (hgi : Gl X xi) (hmi : X.mg xi = none) (hbi : bootBuiltins xi = some (.builtin "isinstance")) (hni : xi ≠ "__name__") (hdi : (xi == ("__debug__" : Str)) = false)
    (he1 : starEach [e, .Name xt tp] X.env = (false, eval e X.env) :: starEach [.Name xt tp] X.env) (hs2 : starEach [.Name xt tp] X.env = (false, eval (.Name xt tp) X.env) :: starEach [] X.env) (hpl : (backTo pos (starEach [.Name xt tp] X.env)).any (·.1) = false) :
    DE X A W (.Call (.Name xi ip) [e, .Name xt tp] [] pos) (dIsE kn f t) := by
  refine PE.mono (pe_callB (call_isW (c := c) (tv := tv)) hgi hmi hbi (pa_cons he (pa_cons pt pa_nil hs2) he1) hni hdi he1 hpl) fun σ H Q ⟨ρ, S, L, Qd, Ed, sl, so, h, kq, kx⟩ => ?_
  refine ⟨ρ, S, L, _, Ed, sl, so, h, fun v H1 d S1 e1 so1 r1 ⟨n, xs, ed, kk, q⟩ => ?_, kx⟩
  subst ed
  unfold Rep at r1
  obtain ⟨p, d, vs, ev, hp, hq, fp, fq, rs⟩ := r1
  obtain ⟨C, ecv, EC, hone⟩ := hk n kk
  subst ev
  exact ⟨p, d, C, f n, _, rfl, hc, by rw [hp]; show some (EO (A.cv n) d p) = _; rw [ecv], hq, EC, hone, kq (.bl (f n)) H1 (.bl (f n)) S1 e1 so1 (by unfold Rep; rfl) q⟩
end
section
variable {P : Program} {w : World} {K : PySem.W.Frag} {A : Cla} {mg : Str → Option Value} {base : Heap} {N : List Str} {sc : Scope} {fo : Str → Bool} {lv : Nat} {X : Cx} {W : WX}
variable {e : Expr} {es : List Expr} {p pos pos' ip tp : Pos} {x xt f : Str} {ta : DTA} {t : DT} {C D : Addr} {kn g : Nat → Bool}
theorem In.mkE (h : In P w K mg base N sc fo lv X W) (n : Nat) (R : ErrR P w K mg base C (A.fl n)) (ecv : A.cv n = .ref C) (hg : glB sc x = true) (hm : mg x = some (.ref C)) (ha : DA X A W (e :: es) ta)
    (he : starEach (e :: es) X.env = (false, eval e X.env) :: starEach es X.env := by rfl) (hpl : (backTo pos (starEach es X.env)).any (·.1) = false := by rfl) :
    DE X A W (.Call (.Name x p) (e :: es) [] pos) (dMkE n (A.fl n).length ta) := by
  have g := h.gl hg
  have := h.eM; subst this
  have := h.eP; subst this
  have := h.eW; subst this
  have := h.eK; subst this
  have := h.eB; subst this
  exact de_mkE R ecv h.rm.1 g hm ha (glB_ok hg).2.1 he hpl
theorem In.ef (h : In P w K mg base N sc fo lv X W) (n : Nat) (T : XfC K C) (hno : PySem.W.findIn K (.ref C) f = some none) (hcv : A.cv n = .ref C) (he : DE X A W e t) (hb : attributeBase e f X.env (eval e X.env) = eval e X.env := by rfl) :
    DE X A W (.Attribute e f pos) (dEf n f (A.fl n) t) := by
  have := h.eK; subst this
  exact de_ef T hno hcv he hb
/-- isinstance of an own class of errors -/
theorem In.isE (h : In P w K mg base N sc fo lv X W) (hk : ErrIs K A.cv kn g (.ref D)) (hgi : glB sc "isinstance" = true) (hmi : mg "isinstance" = none) (hgt : glB sc xt = true) (hmt : mg xt = some (.ref D)) (he : DE X A W e t)
    (he1 : starEach [e, .Name xt tp] X.env = (false, eval e X.env) :: starEach [.Name xt tp] X.env := by rfl) (hs2 : starEach [.Name xt tp] X.env = (false, eval (.Name xt tp) X.env) :: starEach [] X.env := by rfl) (hpl : (backTo pos (starEach [.Name xt tp] X.env)).any (·.1) = false := by rfl) :
    DE X A W (.Call (.Name "isinstance" ip) [e, .Name xt tp] [] pos) (dIsE kn g t) := by
  have g1 := glB_ok hgi
  have g2 := glB_ok hgt
  have g0 := h.gl hgi
  have g3 := h.gl hgt
  have := h.eM; subst this
  have := h.eK; subst this
  exact de_isE hk (c := .ref D) (fun u hu => hu) he (pe_glob (v := .ref D) g3 hmt rfl g2.2.1) g0 hmi rfl g1.2.2 g1.2.1 he1 hs2 hpl
/-- isinstance of a built-in class of errors -/
theorem In.isEb {T : String} (h : In P w K mg base N sc fo lv X W) (hk : ErrIs K A.cv kn g (.type T)) (hgi : glB sc "isinstance" = true) (hmi : mg "isinstance" = none) (hgt : glB sc xt = true) (hmt : mg xt = none) (hbt : bootBuiltins xt = some (.type T)) (he : DE X A W e t)
    (he1 : starEach [e, .Name xt tp] X.env = (false, eval e X.env) :: starEach [.Name xt tp] X.env := by rfl) (hs2 : starEach [.Name xt tp] X.env = (false, eval (.Name xt tp) X.env) :: starEach [] X.env := by rfl) (hpl : (backTo pos (starEach [.Name xt tp] X.env)).any (·.1) = false := by rfl) :
    DE X A W (.Call (.Name "isinstance" ip) [e, .Name xt tp] [] pos) (dIsE kn g t) := by
  have g1 := glB_ok hgi
  have g2 := glB_ok hgt
  have g0 := h.gl hgi
  have g3 := h.gl hgt
  have := h.eM; subst this
  have := h.eK; subst this
  exact de_isE hk (c := .ty T) (fun u hu => hu) he (pe_bltn g3 hmt hbt rfl g2.2.2 g2.2.1) g0 hmi rfl g1.2.2 g1.2.1 he1 hs2 hpl
end
theorem inj_of {α β : Type} {f : α → β} : ∀ {l : List α}, (l.map f).Nodup → ∀ {a b : α}, a ∈ l → b ∈ l → f a = f b → a = b
  | x :: l, nd, a, b, ha, hb, e => by
    rw [List.map_cons, List.nodup_cons] at nd
    rcases List.mem_cons.mp ha with h1 | h1 <;> rcases List.mem_cons.mp hb with h2 | h2
    · rw [h1, h2]
    · subst h1; exact absurd (e ▸ List.mem_map_of_mem h2) nd.1
    · subst h2; exact absurd (e.symm ▸ List.mem_map_of_mem h1) nd.1
    · exact inj_of nd.2 h1 h2 e
/-- what the head says of an error's class: its row of classes, its base -/
structure ErrM (K : PySem.W.Frag) (C : Addr) (bs : List Value) : Prop where
  ec : ExcC K C
  lk : ∃ o1 d1 cd s1, K.lookup C = some ⟨o1, d1, .cls cd, s1⟩ ∧ cd.mro = .ref C :: bs
  ty : PySem.W.typeIn K (.ref C) = some (.type "type")
inductive ErrAll (K : PySem.W.Frag) (cv : Nat → Value) : List (Nat × Addr × List Value) → Prop
  | nil : ErrAll K cv []
  | cons {n : Nat} {C : Addr} {bs : List Value} {l : List (Nat × Addr × List Value)} (h : ErrM K C bs) (e : cv n = .ref C) (r : ErrAll K cv l) : ErrAll K cv ((n, C, bs) :: l)
theorem ErrAll.at_ {K : PySem.W.Frag} {cv : Nat → Value} : ∀ {l : List (Nat × Addr × List Value)}, ErrAll K cv l → ∀ x ∈ l, ErrM K x.2.1 x.2.2 ∧ cv x.1 = .ref x.2.1
  | _, .cons h e r, x, hx => by
    rcases List.mem_cons.mp hx with q | q
    · subst q; exact ⟨h, e⟩
    · exact r.at_ x q
theorem ErrM.sub {K : PySem.W.Frag} {C : Addr} {bs : List Value} (h : ErrM K C bs) (v : Value) : PySem.W.subIn K (.ref C) v = some ((Value.ref C :: bs).contains v) := by
  obtain ⟨o1, d1, cd, s1, lk, hm⟩ := h.lk
  show PySem.W.mroIn K C v = _
  unfold PySem.W.mroIn PySem.W.clsIn
  rw [lk]
  show (if cd.mro.isEmpty = true then none else some (cd.mro.contains v)) = _
  rw [hm]
  rfl
def knN (l : List Nat) (n : Nat) : Bool := l.any fun x => x == n
theorem knE_mem {l : List (Nat × Addr × List Value)} {n : Nat} (h : knN (l.map (·.1)) n = true) : ∃ x ∈ l, x.1 = n := by
  obtain ⟨y, hy, e⟩ := List.any_eq_true.mp h
  obtain ⟨x, hx, ex⟩ := List.mem_map.mp hy
  exact ⟨x, hx, ex.trans (beq_iff_eq.mp e)⟩
theorem ErrAll.isT {K : PySem.W.Frag} {cv : Nat → Value} {l : List (Nat × Addr × List Value)} (h : ErrAll K cv l) {T : String} {f : Nat → Bool} (m : PySem.W.kitMeta T = true) (hf : (l.all fun x => (Value.ref x.2.1 :: x.2.2).contains (.type T) == f x.1) = true) : ErrIs K cv (knN (l.map (·.1))) f (.type T) := fun n hn => by
  obtain ⟨x, hx, e⟩ := knE_mem hn
  subst e
  obtain ⟨M, ecv⟩ := h.at_ x hx
  refine ⟨_, ecv, M.ec, kit_rt m ?_⟩
  rw [M.sub, beq_iff_eq.mp (List.all_eq_true.mp hf x hx)]
theorem ErrAll.isO {K : PySem.W.Frag} {cv : Nat → Value} {l : List (Nat × Addr × List Value)} (h : ErrAll K cv l) (nd : (l.map (·.2.1)).Nodup) (nn : (l.map (·.1)).Nodup) (hb : (l.all fun x => x.2.2.all fun v => match v with | .type _ => true | _ => false) = true)
    {k : Nat} {D : Addr} {bD : List Value} (hD : (k, D, bD) ∈ l) : ErrIs K cv (knN (l.map (·.1))) (fun n => decide (n = k)) (.ref D) := fun n hn => by
  obtain ⟨x, hx, e⟩ := knE_mem hn
  subst e
  obtain ⟨M, ecv⟩ := h.at_ x hx
  obtain ⟨MD, _⟩ := h.at_ _ hD
  refine ⟨_, ecv, M.ec, ?_⟩
  by_cases hc : x.2.1 = D
  · have hk : x.1 = k := by
      have : x = (k, D, bD) := inj_of nd hx hD hc
      rw [this]
    rw [hc, hk]
    simp only [decide_true]
    exact kit_self
  · have hk : x.1 ≠ k := fun z => hc (by rw [inj_of nn hx hD z])
    obtain ⟨o1, d1, cd, s1, lk, hm⟩ := MD.lk
    show _ = some (decide (x.1 = k))
    rw [decide_eq_false hk]
    refine kit_xrl (by show (Value.ref x.2.1 == Value.ref D) = false; simpa using hc) lk MD.ty ?_
    rw [M.sub]
    congr 1
    rw [List.contains_cons]
    have h1 : (Value.ref D == Value.ref x.2.1) = false := by simpa using fun z => hc z.symm
    rw [h1, Bool.false_or]
    cases hq : x.2.2.contains (.ref D) with
    | false => rfl
    | true =>
      have z := List.all_eq_true.mp (List.all_eq_true.mp hb x hx) (.ref D) (by simpa using hq)
      cases z
end DL
namespace DL
open PySem PySem.Spec PyProof.Rows L2
/-- a slot: a value; a tree of one's own that may change; a bag of drawn numbers -/
inductive Sl where
  | v (d : D) | o (t : OT) | b
abbrev OSt := List (Option Sl)
def Sl.own : Sl → Bool
  | .v _ => false
  | _ => true
def IsBag (o : Option MO) : Prop := ∃ a b, BagOk a b ∧ o = some (.lst [.int a, .int b])
abbrev At (os : OSt) (i : Nat) (s : Sl) : Prop := os[i]? = some (some s)
/-- the value of a slot -/
abbrev Vf (ρ : DSt) (i : Nat) (d : D) : Prop := ρ[i]? = some (some d)
abbrev Rf (ρ : DSt) (i : Nat) (p : Addr) : Prop := ρ[i]? = some (some (.ref p))
/-- a slot's content stands at a value; its places -/
def Hd (S : Sto) : Sl → D → Prop
  | .v x, d => d = x
  | .o t, d => Tr S t d
  | .b, d => ∃ p, d = .ref p ∧ IsBag (S p)
def Hp' (S : Sto) : Sl → D → Addr → Prop
  | .v _, _, _ => False
  | .o t, d, a => Fp S t d a
  | .b, d, a => d = .ref a
structure R (os : OSt) (ρ : DSt) (S : Sto) : Prop where
  len : os.length ≤ ρ.length
  hd : ∀ i s, At os i s → ∃ d, Vf ρ i d ∧ Hd S s d
  ne : ∀ i j s s' d d' a, i ≠ j → At os i s → At os j s' → Vf ρ i d → Vf ρ j d' → Hp' S s d a → ¬ Hp' S s' d' a
theorem vf_eq {ρ : DSt} {i : Nat} {d d' : D} (h : Vf ρ i d) (k : Vf ρ i d') : d = d' := by
  have := h.symm.trans k
  cases this
  rfl
/-- the bags' places -/
def BgA (os : OSt) (ρ : DSt) (p : Addr) : Prop := ∃ i, At os i .b ∧ Rf ρ i p
/-- what an expression leaves alone -/
def Kp (os : OSt) (ρ : DSt) (S S' : Sto) : Prop := ∀ p, S p ≠ none → (BgA os ρ p → IsBag (S' p)) ∧ (¬ BgA os ρ p → S' p = S p)
theorem IsBag.some {o : Option MO} (h : IsBag o) : o ≠ none := fun e => by
  obtain ⟨_, _, _, z⟩ := h
  rw [e] at z
  cases z
section
variable {os os' : OSt} {ρ ρ' : DSt} {S S' S2 : Sto}
theorem R.vl (r : R os ρ S) (i : Nat) (d : D) (h : At os i (.v d)) : Vf ρ i d := by
  obtain ⟨x, a, b⟩ := r.hd i _ h
  have b : x = d := b
  rw [b] at a
  exact a
theorem R.ob (r : R os ρ S) {i : Nat} {t : OT} (h : At os i (.o t)) : ∃ d, Vf ρ i d ∧ Tr S t d := r.hd i _ h
theorem R.bg (r : R os ρ S) (i : Nat) (h : At os i .b) : ∃ p, Rf ρ i p ∧ IsBag (S p) := by
  obtain ⟨x, a, p, b, c⟩ := r.hd i _ h
  rw [b] at a
  exact ⟨p, a, c⟩
theorem Hp'.live {s : Sl} {d : D} {a : Addr} (h : Hp' S s d a) (k : Hd S s d) : S a ≠ none := by
  cases s with
  | v x => exact h.elim
  | o t => exact Fp.live h
  | b =>
    obtain ⟨p, e, z⟩ := k
    have h : d = .ref a := h
    rw [e] at h
    cases h
    exact z.some
theorem Kp.refl (r : R os ρ S) : Kp os ρ S S := fun p hp => ⟨fun ⟨i, h1, h2⟩ => by
  obtain ⟨q, a, b⟩ := r.bg i h1
  have := vf_eq a h2
  cases this
  exact b, fun _ => rfl⟩
theorem Kp.some {p : Addr} (h : Kp os ρ S S') (hp : S p ≠ none) : S' p ≠ none := by
  by_cases e : BgA os ρ p
  · exact ((h p hp).1 e).some
  · rw [(h p hp).2 e]; exact hp
theorem Kp.trans (h : Kp os ρ S S') (k : Kp os ρ S' S2) : Kp os ρ S S2 := fun p hp => ⟨fun e => (k p (h.some hp)).1 e, fun e => ((k p (h.some hp)).2 e).trans ((h p hp).2 e)⟩
/-- a tree's places are no bag's -/
theorem R.off (r : R os ρ S) {i : Nat} {t : OT} {d : D} {a : Addr} (h : At os i (.o t)) (hv : Vf ρ i d) (f : Fp S t d a) : ¬ BgA os ρ a := fun ⟨j, h1, h2⟩ => by
  by_cases e : i = j
  · subst e
    have := h.symm.trans h1
    cases this
  · exact r.ne i j _ _ d _ a e h h1 hv h2 f rfl
theorem Kp.tree (r : R os ρ S) (k : Kp os ρ S S') {i : Nat} {t : OT} {d : D} (h : At os i (.o t)) (hv : Vf ρ i d) : ∀ a, Fp S t d a → S' a = S a := fun a f => (k a f.live).2 (r.off h hv f)
/-- places under a change that keeps each slot -/
theorem Hp'.eq (r : R os ρ S) {i : Nat} {s : Sl} {d : D} (h : At os i s) (hv : Vf ρ i d) (e : ∀ t, s = .o t → ∀ a, Fp S t d a → S' a = S a) (a : Addr) : Hp' S' s d a ↔ Hp' S s d a := by
  cases s with
  | v x => exact Iff.rfl
  | b => exact Iff.rfl
  | o t =>
    obtain ⟨d', hv', tr⟩ := r.ob h
    cases vf_eq hv hv'
    exact Fp.eq (e t rfl) tr a
theorem R.kp (r : R os ρ S) (h : Kp os ρ S S') : R os ρ S' where
  len := r.len
  hd := fun i s a => by
    obtain ⟨d, hv, hd⟩ := r.hd i s a
    refine ⟨d, hv, ?_⟩
    cases s with
    | v x => exact hd
    | o t => exact Tr.eq (h.tree r a hv) hd
    | b =>
      obtain ⟨p, e, z⟩ := hd
      subst e
      exact ⟨p, rfl, (h p z.some).1 ⟨i, a, hv⟩⟩
  ne := fun i j s s' d d' a n hi hj di dj p q => by
    refine r.ne i j s s' d d' a n hi hj di dj ((Hp'.eq r hi di ?_ a).mp p) ((Hp'.eq r hj dj ?_ a).mp q)
    · intro t e; subst e; exact h.tree r hi di
    · intro t e; subst e; exact h.tree r hj dj
theorem at_set {i j : Nat} {x : Option Sl} {s : Sl} (h : At (os.set i x) j s) : (j = i ∧ x = some s ∧ i < os.length) ∨ (j ≠ i ∧ At os j s) := by
  unfold At at h
  rw [List.getElem?_set] at h
  by_cases e : i = j
  · subst e
    rw [if_pos rfl] at h
    split at h
    · rename_i hl
      cases h
      exact .inl ⟨rfl, rfl, hl⟩
    · cases h
  · rw [if_neg e] at h
    exact .inr ⟨fun z => e z.symm, h⟩
theorem vf_ne {i j : Nat} {x : Option D} (n : j ≠ i) {d : D} : Vf (ρ.set i x) j d ↔ Vf ρ j d := by
  unfold Vf
  rw [List.getElem?_set_ne (Ne.symm n)]
/-- a slot gets a new content, whose places are new -/
theorem R.put {i : Nat} {s : Sl} {d : D} (r : R os ρ S) (h : Hd S s d) (n : ∀ j s' d' a, j ≠ i → At os j s' → Vf ρ j d' → Hp' S s d a → ¬ Hp' S s' d' a) : R (os.set i (some s)) (ρ.set i (some d)) S where
  len := by rw [List.length_set, List.length_set]; exact r.len
  hd := fun j s' a => by
    rcases at_set a with ⟨rfl, e, hl⟩ | ⟨n, a⟩
    · cases e
      exact ⟨d, List.getElem?_set_self (Nat.lt_of_lt_of_le hl r.len), h⟩
    · obtain ⟨x, y, z⟩ := r.hd j s' a
      exact ⟨x, (vf_ne n).mpr y, z⟩
  ne := fun j k s1 s2 d1 d2 a hjk h1 h2 v1 v2 p q => by
    rcases at_set h1 with ⟨rfl, e, hl⟩ | ⟨n1, g1⟩
    · cases e
      have := List.getElem?_set_self (a := some d) (Nat.lt_of_lt_of_le hl r.len)
      cases vf_eq v1 this
      rcases at_set h2 with ⟨e, _, _⟩ | ⟨n2, g2⟩
      · exact hjk e.symm
      · exact n k s2 d2 a n2 g2 ((vf_ne n2).mp v2) p q
    · rcases at_set h2 with ⟨rfl, e, hl⟩ | ⟨n2, g2⟩
      · cases e
        have := List.getElem?_set_self (a := some d) (Nat.lt_of_lt_of_le hl r.len)
        cases vf_eq v2 this
        exact n j s1 d1 a n1 g1 ((vf_ne n1).mp v1) q p
      · exact r.ne j k s1 s2 d1 d2 a hjk g1 g2 ((vf_ne n1).mp v1) ((vf_ne n2).mp v2) p q
theorem R.set {i : Nat} {d : D} (r : R os ρ S) : R (os.set i (some (.v d))) (ρ.set i (some d)) S := r.put (s := .v d) rfl fun _ _ _ _ _ _ _ h => h.elim
/-- some slots are forgotten -/
inductive Le : OSt → OSt → Prop where
  | nil {a} : Le [] a
  | same {a b x} : Le a b → Le (x :: a) (x :: b)
  | drop {a b x} : Le a b → Le (none :: a) (x :: b)
theorem Le.at_ : ∀ {a b : OSt}, Le a b → ∀ {i s}, At a i s → At b i s
  | _, _, .nil, i, s, h => by unfold At at h; simp at h
  | _, _, .same l, 0, s, h => h
  | _, _, .same l, i + 1, s, h => l.at_ (i := i) h
  | _, _, .drop l, 0, s, h => by unfold At at h; simp at h
  | _, _, .drop l, i + 1, s, h => l.at_ (i := i) h
theorem Le.len : ∀ {a b : OSt}, Le a b → a.length ≤ b.length
  | _, _, .nil => Nat.zero_le _
  | _, _, .same l => Nat.succ_le_succ l.len
  | _, _, .drop l => Nat.succ_le_succ l.len
theorem Le.refl : ∀ {a : OSt}, Le a a
  | [] => .nil
  | _ :: _ => .same Le.refl
theorem Le.trans : ∀ {a b c : OSt}, Le a b → Le b c → Le a c
  | _, _, _, .nil, _ => .nil
  | _, _, _, .same l, .same m => .same (l.trans m)
  | _, _, _, .same l, .drop m => .drop (l.trans m)
  | _, _, _, .drop l, .same m => .drop (l.trans m)
  | _, _, _, .drop l, .drop m => .drop (l.trans m)
theorem R.le (l : Le os' os) (r : R os ρ S) : R os' ρ S where
  len := Nat.le_trans l.len r.len
  hd := fun i s h => r.hd i s (l.at_ h)
  ne := fun i j s s' d d' a n h1 h2 => r.ne i j s s' d d' a n (l.at_ h1) (l.at_ h2)
end
abbrev XW := Nat → List D → Prop
abbrev W (α : Type) := (α → Prop) → XW → Prop
abbrev X0 : XW := fun _ _ => False
/-- a value that is had at once -/
def pu {α : Type} (a : α) : W α := fun q _ => q a
section
variable {α β γ δ : Type}
def mapW (m : W α) (g : α → β) : W β := fun q x => m (fun a => q (g a)) x
def unW (m : W α) (f : α → (γ → Prop) → Prop) : W γ := fun q x => m (fun a => f a q) x
def opW (m1 : W α) (m2 : W β) (f : α → β → (γ → Prop) → Prop) : W γ := fun q x => m1 (fun a => m2 (fun b => f a b q) x) x
def pairW (m1 : W α) (m2 : W β) : W (α × β) := fun q x => m1 (fun a => m2 (fun b => q (a, b)) x) x
def chW (m1 : W α) (m2 : W β) (m3 : W γ) (f : α → β → (Bool → Prop) → Prop) (g : β → γ → (Bool → Prop) → Prop) : W Bool :=
  fun q x => m1 (fun a => m2 (fun b => f a b (fun k => if k = true then m3 (fun c => g b c q) x else q false)) x) x
def andW (m1 m2 : W Bool) : W Bool := fun q x => m1 (fun a => if a = true then m2 q x else q false) x
def orW (m1 m2 : W Bool) : W Bool := fun q x => m1 (fun a => if a = true then q true else m2 q x) x
def ifW (mc : W Bool) (m1 m2 : W α) : W α := fun q x => mc (fun c => if c = true then m1 q x else m2 q x) x
def lenW (m1 : W α) (n : α → Nat) : W α := fun q x => m1 (fun a => n a ≤ sizeLine ∧ q a) x
end
section
variable {α β γ : Type}
/-- an expression's reading over typed data -/
def rdE (os : OSt) (e : α → D) (m : W α) : DT := fun ρ S Q E => ∃ q x, R os ρ S ∧ m q x ∧ (∀ v S', Kp os ρ S S' → q v → Q (e v) S') ∧ (∀ n ds S', Kp os ρ S S' → x n ds → E n ds S')
/-- arguments -/
def rdA (os : OSt) (e : α → List D) (m : W α) : DTA := fun ρ S Q E => ∃ q x, R os ρ S ∧ m q x ∧ (∀ v S', Kp os ρ S S' → q v → Q (e v) S') ∧ (∀ n ds S', Kp os ρ S S' → x n ds → E n ds S')
/-- what is walked -/
def rdI (os : OSt) (e : α → D) (m : W (List α)) : DTI := fun ρ S Q E => ∃ q x, R os ρ S ∧ m q x ∧ (∀ v S', Kp os ρ S S' → q v → Q (v.map e) noG S') ∧ (∀ n ds S', Kp os ρ S S' → x n ds → E n ds S')
/-- t' is stronger than t -/
abbrev Imp (t' t : DT) : Prop := ∀ ρ S Q E, t' ρ S Q E → t ρ S Q E
abbrev ImpA (t' t : DTA) : Prop := ∀ ρ S Q E, t' ρ S Q E → t ρ S Q E
abbrev ImpI (t' t : DTI) : Prop := ∀ ρ S Q E, t' ρ S Q E → t ρ S Q E
abbrev ImpS (t' t : DTS) : Prop := ∀ D ρ S, t' D ρ S → t D ρ S
theorem te {X : Cx} {A : Cla} {Wx : WX} {ex : Expr} {t t' : DT} (h : DE X A Wx ex t) (i : Imp t' t) : DE X A Wx ex t' := PE.mono h fun σ H Q ⟨ρ, S, L, Qd, Ed, sl, so, h, k⟩ => ⟨ρ, S, L, Qd, Ed, sl, so, i _ _ _ _ h, k⟩
theorem tsa {X : Cx} {A : Cla} {Wx : WX} {ex : List Expr} {t t' : DTA} (h : DA X A Wx ex t) (i : ImpA t' t) : DA X A Wx ex t' := PA.mono h fun σ H Q ⟨ρ, S, L, Qd, Ed, sl, so, h, k⟩ => ⟨ρ, S, L, Qd, Ed, sl, so, i _ _ _ _ h, k⟩
theorem tt {X : Cx} {A : Cla} {Wx : WX} {ex : Expr} {t t' : DT} (h : DTst X A Wx ex (dTst t)) (i : Imp t' t) : DTst X A Wx ex (dTst t') := PT.mono h fun σ H Q ⟨ρ, S, L, Qd, Ed, sl, so, h, k⟩ => ⟨ρ, S, L, Qd, Ed, sl, so, i _ _ _ _ h, k⟩
theorem tw {X : Cx} {A : Cla} {Wx : WX} {ex : Expr} {t t' : DT} (h : DWst X A Wx ex (dTst t)) (i : Imp t' t) : DWst X A Wx ex (dTst t') := PW.mono h fun σ H Q ⟨ρ, S, L, Qd, Ed, sl, so, h, k⟩ => ⟨ρ, S, L, Qd, Ed, sl, so, i _ _ _ _ h, k⟩
theorem ti {X : Cx} {A : Cla} {Wx : WX} {tg ex : Expr} {t t' : DTI} (h : DItr X A Wx tg ex t) (i : ImpI t' t) : DItr X A Wx tg ex t' := PI.mono h fun σ H Q ⟨ρ, S, L, Qd, Ed, sl, so, h, k⟩ => ⟨ρ, S, L, Qd, Ed, sl, so, i _ _ _ _ h, k⟩
theorem ts {X : Cx} {A : Cla} {Wx : WX} {st : Stmt} {t t' : DTS} (h : DStm X A Wx st t) (i : ImpS t' t) : DStm X A Wx st t' := PS.mono h fun D σ H ⟨ρ, S, L, DD, sl, so, h, k⟩ => ⟨ρ, S, L, DD, sl, so, i _ _ _ h, k⟩
theorem tss {X : Cx} {A : Cla} {Wx : WX} {st : List Stmt} {t t' : DTS} (h : DStms X A Wx st t) (i : ImpS t' t) : DStms X A Wx st t' := PSs.mono h fun D σ H ⟨ρ, S, L, DD, sl, so, h, k⟩ => ⟨ρ, S, L, DD, sl, so, i _ _ _ h, k⟩
theorem dsU {ι : Type} {X : Cx} {A : Cla} {Wx : WX} {st : List Stmt} {t : ι → DTS} (h : ∀ i, DStms X A Wx st (t i)) : DStms X A Wx st (fun D ρ S => ∃ i, t i D ρ S) := ⟨fun pins s σ H D I ⟨ρ, S, L, DD, sl, so, ⟨i, hi⟩, k⟩ => (h i).run pins s σ H D I ⟨ρ, S, L, DD, sl, so, hi, k⟩⟩
theorem deU {ι : Type} {X : Cx} {A : Cla} {Wx : WX} {ex : Expr} {t : ι → DT} (h : ∀ i, DE X A Wx ex (t i)) : DE X A Wx ex (fun ρ S Q E => ∃ i, t i ρ S Q E) := ⟨fun pins s σ H Q I ⟨ρ, S, L, Qd, Ed, sl, so, ⟨i, hi⟩, k⟩ => (h i).run pins s σ H Q I ⟨ρ, S, L, Qd, Ed, sl, so, hi, k⟩⟩
theorem dtU {ι : Type} {X : Cx} {A : Cla} {Wx : WX} {ex : Expr} {t : ι → DT} (h : ∀ i, DTst X A Wx ex (dTst (t i))) : DTst X A Wx ex (dTst (fun ρ S Q E => ∃ i, t i ρ S Q E)) := ⟨fun pins s σ H Q I ⟨ρ, S, L, Qd, Ed, sl, so, ⟨i, hi⟩, k⟩ => (h i).run pins s σ H Q I ⟨ρ, S, L, Qd, Ed, sl, so, hi, k⟩⟩
variable {os : OSt} {e e1 e2 e3 : α → D} {t u : DT}
theorem i_var {i : Nat} {e : α → D} {a : α} (h : At os i (.v (e a))) : Imp (rdE os e (pu a)) (dVar i) := fun ρ S Q E ⟨q, x, r, hq, k, _⟩ => ⟨_, r.vl i _ h, k _ S (.refl r) hq⟩
theorem i_cst {e : α → D} {a : α} : Imp (rdE os e (pu a)) (dCst (e a)) := fun ρ S Q E ⟨q, x, r, hq, k, _⟩ => k _ S (.refl r) hq
theorem i_as {e : α → D} {e' : β → D} {m : W α} (f : α → β) (h : ∀ a, e a = e' (f a)) : Imp (rdE os e' (mapW m f)) (rdE os e m) := fun ρ S Q E ⟨q, x, r, hm, k, kx⟩ => ⟨_, x, r, hm, fun v S' kp hq => by rw [h]; exact k _ S' kp hq, kx⟩
/-- a binary operator over typed data -/
def Op2 (R : DR2) (e1 : α → D) (e2 : β → D) (e : γ → D) (f : α → β → (γ → Prop) → Prop) : Prop := ∀ a b q S Q E, f a b q → (∀ v, q v → Q (e v) S) → R (e1 a) (e2 b) S Q E
def Op1 (R : DR1) (e1 : α → D) (e : γ → D) (f : α → (γ → Prop) → Prop) : Prop := ∀ a q S Q E, f a q → (∀ v, q v → Q (e v) S) → R (e1 a) S Q E
def OpA (R : DRA) (e1 : α → List D) (e : γ → D) (f : α → (γ → Prop) → Prop) : Prop := ∀ a q S Q E, f a q → (∀ v, q v → Q (e v) S) → R (e1 a) S Q E
end
section
variable {α β γ δ : Type} {os : OSt} {t u : DT}
theorem i_op {R2 : DR2} {e1 : α → D} {e2 : β → D} {e : γ → D} {f : α → β → (γ → Prop) → Prop} {m1 : W α} {m2 : W β} (o : Op2 R2 e1 e2 e f) :
    Imp (rdE os e (opW m1 m2 f)) (dOp R2 (rdE os e1 m1) (rdE os e2 m2)) := fun ρ S Q E ⟨q, x, r, hm, k, kx⟩ =>
  ⟨_, x, r, hm, fun a S1 k1 h1 => ⟨_, x, r.kp k1, h1, fun b S2 k2 h2 => o a b q S2 Q _ h2 fun v hv => k v S2 (k1.trans k2) hv, fun n ds S2 k2 hx => kx n ds S2 (k1.trans k2) hx⟩, kx⟩
theorem i_un {R1 : DR1} {e1 : α → D} {e : γ → D} {f : α → (γ → Prop) → Prop} {m1 : W α} (o : Op1 R1 e1 e f) :
    Imp (rdE os e (unW m1 f)) (dUn R1 (rdE os e1 m1)) := fun ρ S Q E ⟨q, x, r, hm, k, kx⟩ =>
  ⟨_, x, r, hm, fun a S1 k1 h1 => o a q S1 Q _ h1 fun v hv => k v S1 k1 hv, kx⟩
theorem i_cb {RA : DRA} {e1 : α → List D} {e : γ → D} {f : α → (γ → Prop) → Prop} {m1 : W α} (o : OpA RA e1 e f) :
    Imp (rdE os e (unW m1 f)) (dCB RA (rdA os e1 m1)) := fun ρ S Q E ⟨q, x, r, hm, k, kx⟩ =>
  ⟨_, x, r, hm, fun a S1 k1 h1 => o a q S1 Q _ h1 fun v hv => k v S1 k1 hv, kx⟩
theorem i_or {m1 m2 : W Bool} : Imp (rdE os D.bl (orW m1 m2)) (dOr (rdE os D.bl m1) (rdE os D.bl m2)) := fun ρ S Q E ⟨q, x, r, hm, k, kx⟩ =>
  ⟨_, x, r, hm, fun a S1 k1 h1 => ⟨a, rfl, by
    cases a with
    | false =>
      rw [if_neg Bool.false_ne_true] at h1 ⊢
      exact ⟨q, x, r.kp k1, h1, fun v S2 k2 h2 => k v S2 (k1.trans k2) h2, fun n ds S2 k2 hx => kx n ds S2 (k1.trans k2) hx⟩
    | true => exact k _ S1 k1 h1⟩, kx⟩
theorem i_if {mc : W Bool} {e : α → D} {m1 m2 : W α} : Imp (rdE os e (ifW mc m1 m2)) (dIf (rdE os D.bl mc) (rdE os e m1) (rdE os e m2)) := fun ρ S Q E ⟨q, x, r, hm, k, kx⟩ =>
  ⟨_, x, r, hm, fun a S1 k1 h1 => ⟨a, rfl, by
    cases a with
    | true =>
      rw [if_pos rfl] at h1 ⊢
      exact ⟨q, x, r.kp k1, h1, fun v S2 k2 h2 => k v S2 (k1.trans k2) h2, fun n ds S2 k2 hx => kx n ds S2 (k1.trans k2) hx⟩
    | false =>
      rw [if_neg Bool.false_ne_true] at h1 ⊢
      exact ⟨q, x, r.kp k1, h1, fun v S2 k2 h2 => k v S2 (k1.trans k2) h2, fun n ds S2 k2 hx => kx n ds S2 (k1.trans k2) hx⟩⟩, kx⟩
end
end DL
namespace DL
open PySem PySem.Spec PyProof.Rows L2
structure K (β κ : Type) where
  rt : β → Prop
  bk : κ → Prop
  ct : κ → Prop
  xx : XW
/-- a block's mirror: what is wanted behind it, at its other ends -/
abbrev M (α β κ : Type) := (α → Prop) → K β κ → Prop
section
variable {α β κ γ σ τ : Type}
def sqK {α1 : Type} (m1 : M α1 β κ) (m2 : α1 → M α β κ) : M α β κ := fun nx k => m1 (fun a => m2 a nx k) k
def endK (a : α) : M α β κ := fun nx _ => nx a
def bkK (a : κ) : M α β κ := fun _ k => k.bk a
def ctK (a : κ) : M α β κ := fun _ k => k.ct a
def noK : M α β κ := fun _ _ => False
def ifK (mc : W Bool) (m1 m2 : M α β κ) : M α β κ := fun nx k => mc (fun c => if c = true then m1 nx k else m2 nx k) k.xx
def setK (m : W α) : M α β κ := fun nx k => m nx k.xx
def dropK (m : W γ) : M Unit β κ := fun nx k => m (fun _ => nx ()) k.xx
def retK (m : W β) : M α β κ := fun _ k => m k.rt k.xx
def rtK (b : β) : M α β κ := fun _ k => k.rt b
def forK (xs : List τ) (a : σ) (body : τ → σ → M σ β σ) (nx : σ → Prop) (k : K β κ) : Prop := match xs with
  | [] => nx a
  | x :: xs => body x a (fun a' => forK xs a' body nx k) ⟨k.rt, nx, fun a' => forK xs a' body nx k, k.xx⟩
def forM (mi : W (List τ)) (a : σ) (body : τ → σ → M σ β σ) : M σ β κ := fun nx k => mi (fun xs => forK xs a body nx k) k.xx
end
/-- a value that is handed back: a value, a new tree of one's own, the object of a slot -/
inductive RV where
  | v (d : D) | n (t : OT) | p (j : Nat)
/-- what stood ahead of the def; the bags; the slots that stay -/
structure Fr where
  S0 : Sto
  B0 : Addr → Prop
  pin : Nat → Option D
def FrR (F : Fr) (S : Sto) : Prop := ∀ p, F.S0 p ≠ none → (F.B0 p → IsBag (S p)) ∧ (¬ F.B0 p → S p = F.S0 p)
structure G (F : Fr) (os : OSt) (ρ : DSt) (S : Sto) : Prop where
  env : R os ρ S
  fr : FrR F S
  own : ∀ i s d a, At os i s → Vf ρ i d → Hp' S s d a → F.S0 a = none ∨ (s = .b ∧ F.B0 a)
  pin : ∀ i d, F.pin i = some d → Vf ρ i d
structure Sig (β κ : Type) where
  rv : β → RV
  po : β → OSt := fun _ => []
  rl : κ → OSt
  osx : OSt := []
  pz : List Nat := []
/-- the places of one's own trees -/
def OwA (os : OSt) (ρ : DSt) (S : Sto) (p : Addr) : Prop := ∃ i t d, At os i (.o t) ∧ Vf ρ i d ∧ Fp S t d p
/-- a step that changes one's own trees -/
structure Kf (os : OSt) (ρ : DSt) (S : Sto) (os' : OSt) (S' : Sto) : Prop where
  env : R os' ρ S'
  fr : ∀ p, S p ≠ none → ¬ OwA os ρ S p → (BgA os ρ p → IsBag (S' p)) ∧ (¬ BgA os ρ p → S' p = S p)
  nw : ∀ i s d a, At os' i s → Vf ρ i d → Hp' S' s d a → S a = none ∨ ∃ j s' d', At os j s' ∧ Vf ρ j d' ∧ Hp' S s' d' a ∧ (s' = .b → s = .b)
section
variable {α β κ : Type} {F : Fr} {os os' os2 : OSt} {ρ : DSt} {S S' S2 : Sto}
theorem r_nil : R [] ρ S := ⟨Nat.zero_le _, fun _ _ a => (by cases a), fun _ _ _ _ _ _ _ _ a => (by cases a)⟩
theorem Kf.le (k : Kf os ρ S os' S') (l : Le os2 os') : Kf os ρ S os2 S' := ⟨k.env.le l, k.fr, fun i s d a h => k.nw i s d a (l.at_ h)⟩
theorem Kf.nil (k : Kf os ρ S os' S') : Kf os ρ S [] S' := ⟨r_nil, k.fr, fun i s d a h => by cases h⟩
theorem Kp.kf (r : R os ρ S) (k : Kp os ρ S S') : Kf os ρ S os S' := ⟨r.kp k, fun p hp _ => k p hp, fun i s d a h hv f => by
  refine .inr ⟨i, s, d, h, hv, (Hp'.eq r h hv ?_ a).mp f, id⟩
  intro t e; subst e; exact k.tree r h hv⟩
theorem Kf.live (r : R os ρ S) (k : Kf os ρ S os' S') {p : Addr} (hp : S p ≠ none) (n : ¬ OwA os ρ S p) : S' p ≠ none := by
  obtain ⟨h1, h2⟩ := k.fr p hp n
  by_cases e : BgA os ρ p
  · exact (h1 e).some
  · rw [h2 e]; exact hp
theorem Kf.trans (r : R os ρ S) (h : Kf os ρ S os' S') (k : Kf os' ρ S' os2 S2) : Kf os ρ S os2 S2 where
  env := k.env
  fr := fun p hp no => by
    obtain ⟨h1, h2⟩ := h.fr p hp no
    have no' : ¬ OwA os' ρ S' p := fun ⟨i, t, d, a, b, f⟩ => by
      rcases h.nw i _ d p a b f with z | ⟨j, s', d', a', b', f', c⟩
      · exact hp z
      · cases s' with
        | v x => exact f'
        | o t' => exact no ⟨j, t', d', a', b', f'⟩
        | b => cases c rfl
    obtain ⟨k1, k2⟩ := k.fr p (h.live r hp no) no'
    by_cases e : BgA os' ρ p
    · have e0 : BgA os ρ p := by
        obtain ⟨i, a, b⟩ := e
        rcases h.nw i _ _ p a b rfl with z | ⟨j, s', d', a', b', f', c⟩
        · exact absurd z hp
        · cases s' with
          | v x => exact f'.elim
          | o t' => exact absurd ⟨j, t', d', a', b', f'⟩ no
          | b =>
            have f' : d' = .ref p := f'
            subst f'
            exact ⟨j, a', b'⟩
      exact ⟨fun _ => k1 e, fun z => absurd e0 z⟩
    · have e2 := k2 e
      rw [e2]
      exact ⟨h1, h2⟩
  nw := fun i s d a x y f => by
    rcases k.nw i s d a x y f with z | ⟨j, s', d', a', b', f', c⟩
    · cases e : S a with
      | none => exact .inl rfl
      | some o =>
        have hp : S a ≠ none := by rw [e]; simp
        by_cases no : OwA os ρ S a
        · obtain ⟨j, t, d2, a2, b2, f2⟩ := no
          exact .inr ⟨j, .o t, d2, a2, b2, f2, fun z => by cases z⟩
        · exact absurd z (h.live r hp no)
    · rcases h.nw j s' d' a a' b' f' with z | ⟨j2, s2, d2, a2, b2, f2, c2⟩
      · exact .inl z
      · exact .inr ⟨j2, s2, d2, a2, b2, f2, fun z => c (c2 z)⟩
theorem G.kf (g : G F os ρ S) (k : Kf os ρ S os' S') : G F os' ρ S' where
  env := k.env
  fr := fun p hp => by
    obtain ⟨h1, h2⟩ := g.fr p hp
    have no : ¬ OwA os ρ S p := fun ⟨i, t, d, a, b, f⟩ => by
      rcases g.own i _ d p a b f with z | ⟨z, _⟩
      · exact hp z
      · cases z
    by_cases hb : BgA os ρ p
    · obtain ⟨i, a, b⟩ := hb
      obtain ⟨q, c, d⟩ := g.env.bg i a
      have s : S p ≠ none := by
        cases vf_eq b c
        exact d.some
      refine ⟨fun _ => (k.fr p s no).1 ⟨i, a, b⟩, fun n => ?_⟩
      rcases g.own i _ _ p a b rfl with z | ⟨_, z⟩
      · exact absurd z hp
      · exact absurd z n
    · have s : S p ≠ none := by
        by_cases e : F.B0 p
        · exact (h1 e).some
        · rw [h2 e]; exact hp
      rw [(k.fr p s no).2 hb]
      exact ⟨h1, h2⟩
  own := fun i s d a x y f => by
    rcases k.nw i s d a x y f with z | ⟨j, s', d', a', b', f', c⟩
    · refine .inl ?_
      cases e : F.S0 a with
      | none => rfl
      | some o =>
        have hn : F.S0 a ≠ none := by rw [e]; simp
        obtain ⟨h1, h2⟩ := g.fr a hn
        by_cases hb : F.B0 a
        · exact absurd z (h1 hb).some
        · rw [h2 hb] at z; exact absurd z hn
    · rcases g.own j s' d' a a' b' f' with z | ⟨z, w⟩
      · exact .inl z
      · exact .inr ⟨c z, w⟩
  pin := g.pin
theorem G.kp (g : G F os ρ S) (k : Kp os ρ S S') : G F os ρ S' := g.kf (k.kf g.env)
theorem G.le (l : Le os' os) (g : G F os ρ S) : G F os' ρ S where
  env := g.env.le l
  fr := g.fr
  own := fun i s d a h => g.own i s d a (l.at_ h)
  pin := g.pin
theorem G.fresh (g : G F os ρ S) {p : Addr} (hp : S p = none) : F.S0 p = none := by
  cases e : F.S0 p with
  | none => rfl
  | some o =>
    have hn : F.S0 p ≠ none := by rw [e]; exact fun z => by cases z
    obtain ⟨h1, h2⟩ := g.fr p hn
    by_cases hb : F.B0 p
    · exact absurd hp (h1 hb).some
    · rw [h2 hb] at hp; exact absurd hp hn
/-- a slot gets a new content -/
theorem G.put {i : Nat} {s : Sl} {d : D} (g : G F os ρ S) (hp : F.pin i = none) (h : Hd S s d) (n : ∀ j s' d' a, j ≠ i → At os j s' → Vf ρ j d' → Hp' S s d a → ¬ Hp' S s' d' a)
    (ho : ∀ a, Hp' S s d a → F.S0 a = none) : G F (os.set i (some s)) (ρ.set i (some d)) S where
  env := g.env.put h n
  fr := g.fr
  own := fun j s' d' a x y f => by
    rcases at_set x with ⟨e1, e, hl⟩ | ⟨n1, x⟩
    · cases e
      subst e1
      have := List.getElem?_set_self (a := some d) (Nat.lt_of_lt_of_le hl g.env.len)
      cases vf_eq y this
      exact .inl (ho a f)
    · exact g.own j s' d' a x ((vf_ne n1).mp y) f
  pin := fun j x h => by
    have n : j ≠ i := fun e => by rw [e, hp] at h; cases h
    exact (vf_ne n).mpr (g.pin j x h)
theorem G.set {i : Nat} {d : D} (g : G F os ρ S) (h : F.pin i = none) : G F (os.set i (some (.v d))) (ρ.set i (some d)) S := g.put (s := .v d) h rfl (fun _ _ _ _ _ _ _ h => h.elim) fun _ h => h.elim
/-- a new tree: its places are new behind S -/
structure New (S S' : Sto) (t : OT) (d : D) : Prop where
  tr : Tr S' t d
  nw : ∀ a, Fp S' t d a → S a = none
/-- a new tree is apart from the slots -/
theorem New.off {t : OT} {d : D} (n : New S S' t d) (r : R os ρ S) (k : Kp os ρ S S') {j : Nat} {s : Sl} {x : D} {a : Addr} (h : At os j s) (hv : Vf ρ j x) (f : Fp S' t d a) : ¬ Hp' S' s x a := fun z => by
  have z := (Hp'.eq r h hv (fun t e => by subst e; exact k.tree r h hv) a).mp z
  obtain ⟨y, hy, hd⟩ := r.hd j s h
  cases vf_eq hv hy
  exact z.live hd (n.nw a f)
theorem G.new {i : Nat} {t : OT} {d : D} (g : G F os ρ S) (h : F.pin i = none) (k : Kp os ρ S S') (n : New S S' t d) : G F (os.set i (some (.o t))) (ρ.set i (some d)) S' :=
  (g.kp k).put (s := .o t) h n.tr (fun j s' d' a _ hj hv f => n.off g.env k hj hv f) fun a f => g.fresh (n.nw a f)
/-- one's own tree at a slot is changed -/
theorem Kf.chg {i : Nat} {t t' : OT} {d : D} (r : R os ρ S) (hi : At os i (.o t)) (hv : Vf ρ i d) (ho : ∀ a, S a ≠ none → ¬ Fp S t d a → S' a = S a) (ht : Tr S' t' d) (hn : ∀ a, Fp S' t' d a → Fp S t d a ∨ S a = none) :
    Kf os ρ S (os.set i (some (.o t'))) S' := by
  have off : ∀ j s x, j ≠ i → At os j s → Vf ρ j x → ∀ a, Hp' S s x a → S' a = S a := fun j s x n hj hx a f => by
    obtain ⟨y, hy, hd⟩ := r.hd j s hj
    cases vf_eq hx hy
    exact ho a (f.live hd) fun z => r.ne i j _ s d x a (Ne.symm n) hi hj hv hx z f
  have hp' : ∀ j s x, j ≠ i → At os j s → Vf ρ j x → ∀ a, Hp' S' s x a ↔ Hp' S s x a := fun j s x n hj hx a => Hp'.eq r hj hx (fun t e => by subst e; exact off j _ x n hj hx) a
  refine ⟨⟨?_, fun j s a => ?_, fun j k s s' x x' a n hj hk hx hx' p q => ?_⟩, fun p hp no => ?_, fun j s x a hj hx f => ?_⟩
  · rw [List.length_set]; exact r.len
  · rcases at_set a with ⟨rfl, e, _⟩ | ⟨n, a⟩
    · cases e
      exact ⟨d, hv, ht⟩
    · obtain ⟨y, hy, hd⟩ := r.hd j s a
      refine ⟨y, hy, ?_⟩
      cases s with
      | v x => exact hd
      | o t2 => exact Tr.eq (off j _ y n a hy) hd
      | b =>
        obtain ⟨q, e, z⟩ := hd
        subst e
        exact ⟨q, rfl, by rw [off j _ _ n a hy q rfl]; exact z⟩
  · have tr : ∀ a, Fp S' t' d a → ∀ j s x, j ≠ i → At os j s → Vf ρ j x → ¬ Hp' S' s x a := fun a f j s x n hj hx z => by
      have z := (hp' j s x n hj hx a).mp z
      rcases hn a f with y | y
      · exact r.ne i j _ s d x a (Ne.symm n) hi hj hv hx y z
      · obtain ⟨y', hy, hd⟩ := r.hd j s hj
        cases vf_eq hx hy
        exact z.live hd y
    rcases at_set hj with ⟨e1, e, _⟩ | ⟨n1, g1⟩
    · cases e
      subst e1
      rcases at_set hk with ⟨e2, _, _⟩ | ⟨n2, g2⟩
      · exact n e2.symm
      · cases vf_eq hx hv
        exact tr a p k s' x' n2 g2 hx' q
    · rcases at_set hk with ⟨e2, e, _⟩ | ⟨n2, g2⟩
      · cases e
        subst e2
        cases vf_eq hx' hv
        exact tr a q j s x n1 g1 hx p
      · exact r.ne j k s s' x x' a n g1 g2 hx hx' ((hp' j s x n1 g1 hx a).mp p) ((hp' k s' x' n2 g2 hx' a).mp q)
  · have e := ho p hp fun z => no ⟨i, t, d, hi, hv, z⟩
    rw [e]
    refine ⟨fun ⟨j, a, b⟩ => ?_, fun _ => rfl⟩
    obtain ⟨q, b', c⟩ := r.bg j a
    cases vf_eq b b'
    exact c
  · rcases at_set hj with ⟨e1, e, _⟩ | ⟨n, hj⟩
    · cases e
      subst e1
      cases vf_eq hx hv
      rcases hn a f with z | z
      · exact .inr ⟨j, .o t, _, hi, hv, z, fun z => by cases z⟩
      · exact .inl z
    · exact .inr ⟨j, s, x, hj, hx, (hp' j s x n hj hx a).mp f, id⟩
end
section
variable {α β κ α1 : Type}
/-- what a def hands back -/
def RvG (F : Fr) (os : OSt) (ρ : DSt) (S : Sto) : RV → D → Prop
  | .v x, d => d = x
  | .n t, d => Tr S t d ∧ ∀ a, Fp S t d a → F.S0 a = none ∧ ∀ j s x, At os j s → Vf ρ j x → ¬ Hp' S s x a
  | .p j, d => F.pin j = some d
structure Kont (F : Fr) (sg : Sig β κ) (res : α → OSt) (nx : α → Prop) (k : K β κ) (DD : DEnds) : Prop where
  nx : ∀ a ρ S, G F (res a) ρ S → nx a → DD.nx ρ S
  rt : ∀ b d ρ S, G F (sg.po b) ρ S → RvG F (sg.po b) ρ S (sg.rv b) d → k.rt b → DD.rt d S
  bk : ∀ l ρ S, G F (sg.rl l) ρ S → k.bk l → DD.bk ρ S
  ct : ∀ l ρ S, G F (sg.rl l) ρ S → k.ct l → DD.ct ρ S
  xx : ∀ n ds ρ S, G F sg.osx ρ S → k.xx n ds → DD.xx ρ n ds S
def PzOk (sg : Sig β κ) (F : Fr) : Prop := ∀ i, (F.pin i).isSome = sg.pz.contains i
theorem PzOk.none {sg : Sig β κ} {F : Fr} {i : Nat} (z : PzOk sg F) (hp : sg.pz.contains i = false) : F.pin i = none := by
  have := z i
  rw [hp] at this
  cases e : F.pin i with
  | none => rfl
  | some d => rw [e] at this; cases this
theorem PzOk.some {sg : Sig β κ} {F : Fr} {i : Nat} (z : PzOk sg F) (hp : sg.pz.contains i = true) : ∃ d, F.pin i = some d := by
  have := z i
  rw [hp] at this
  exact Option.isSome_iff_exists.mp this
/-- a block's reading over typed data -/
def rdS (sg : Sig β κ) (os : OSt) (res : α → OSt) (m : M α β κ) : DTS := fun DD ρ S => ∃ nx k F, G F os ρ S ∧ PzOk sg F ∧ m nx k ∧ Kont F sg res nx k DD
/-- an expression that makes a new tree -/
def rdN (os : OSt) (e : α → OT) (m : W α) : DT := fun ρ S Q E => ∃ q x, R os ρ S ∧ m q x ∧ (∀ v d S', Kp os ρ S S' → New S S' (e v) d → q v → Q d S') ∧ (∀ n ds S', Kp os ρ S S' → x n ds → E n ds S')
/-- an expression that changes one's own trees -/
def RvF (os' : OSt) (ρ : DSt) (S : Sto) (os : OSt) (S' : Sto) : RV → D → Prop
  | .v x, d => d = x
  | .n t, d => Tr S' t d ∧ ∀ a, Fp S' t d a → (S a = none ∨ OwA os ρ S a) ∧ ∀ j s x, At os' j s → Vf ρ j x → ¬ Hp' S' s x a
  | .p j, d => Vf ρ j d
variable {sg : Sig β κ} {os : OSt} {res : α → OSt} {res1 : α1 → OSt}
theorem s_end {a : α} (l : Le (res a) os) : ImpS (rdS sg os res (endK a)) sNext := fun DD ρ S ⟨nx, k, F, g, _, h, kk⟩ => kk.nx a ρ S (g.le l) h
theorem s_seq {m1 : M α1 β κ} {m2 : α1 → M α β κ} : ImpS (rdS sg os res (sqK m1 m2)) (sSeq (rdS sg os res1 m1) (fun DD ρ S => ∃ a, rdS sg (res1 a) res (m2 a) DD ρ S)) :=
  fun DD ρ S ⟨nx, k, F, g, z, h, kk⟩ => ⟨_, k, F, g, z, h, ⟨fun a ρ' S' g' h' => ⟨a, nx, k, F, g', z, h', kk⟩, kk.rt, kk.bk, kk.ct, kk.xx⟩⟩
theorem s_if {mc : W Bool} {m1 m2 : M α β κ} (hx : Le sg.osx os) : ImpS (rdS sg os res (ifK mc m1 m2)) (sIf (rdE os D.bl mc) (rdS sg os res m1) (rdS sg os res m2)) :=
  fun DD ρ S ⟨nx, k, F, g, z, h, kk⟩ => ⟨_, k.xx, g.env, h, fun c S1 k1 h1 => ⟨c, rfl, by
    cases c with
    | true => rw [if_pos rfl] at h1 ⊢; exact ⟨nx, k, F, g.kp k1, z, h1, kk⟩
    | false => rw [if_neg Bool.false_ne_true] at h1 ⊢; exact ⟨nx, k, F, g.kp k1, z, h1, kk⟩⟩, fun n ds S1 k1 h1 => kk.xx n ds ρ S1 ((g.kp k1).le hx) h1⟩
theorem s_set {γ : Type} {e : γ → D} {m : W γ} {i : Nat} (hx : Le sg.osx os) (hp : sg.pz.contains i = false) : ImpS (rdS sg os (fun v => os.set i (some (.v (e v)))) (setK m)) (sAsg (rdE os e m) (gNm i)) :=
  fun DD ρ S ⟨nx, k, F, g, z, h, kk⟩ => ⟨_, k.xx, g.env, h, fun v S1 k1 h1 => kk.nx v _ S1 ((g.kp k1).set (z.none hp)) h1, fun n ds S1 k1 h1 => kk.xx n ds ρ S1 ((g.kp k1).le hx) h1⟩
/-- a new tree at a slot -/
theorem s_new {γ : Type} {e : γ → OT} {m : W γ} {i : Nat} (hx : Le sg.osx os) (hp : sg.pz.contains i = false) : ImpS (rdS sg os (fun v => os.set i (some (.o (e v)))) (setK m)) (sAsg (rdN os e m) (gNm i)) :=
  fun DD ρ S ⟨nx, k, F, g, z, h, kk⟩ => ⟨_, k.xx, g.env, h, fun v d S1 k1 n1 h1 => kk.nx v _ S1 (g.new (z.none hp) k1 n1) h1, fun n ds S1 k1 h1 => kk.xx n ds ρ S1 ((g.kp k1).le hx) h1⟩
/-- returns -/
theorem s_ret {e : β → D} {m : W β} (hx : Le sg.osx os) (hr : ∀ b, sg.rv b = .v (e b)) (hl : ∀ b, Le (sg.po b) os) : ImpS (rdS sg os res (retK m)) (sRet (rdE os e m)) :=
  fun DD ρ S ⟨nx, k, F, g, z, h, kk⟩ => ⟨_, k.xx, g.env, h, fun v S1 k1 h1 => kk.rt v _ ρ S1 ((g.kp k1).le (hl v)) (by rw [hr]; rfl) h1, fun n ds S1 k1 h1 => kk.xx n ds ρ S1 ((g.kp k1).le hx) h1⟩
end
/-- the objects of the slots are old ones -/
def Sub (os : OSt) (ρ : DSt) (os' : OSt) (ρ' : DSt) : Prop := ∀ i s, s.own = true → At os' i s → At os i s ∧ ρ'[i]? = ρ[i]?
theorem Sub.trans {os os1 os2 : OSt} {ρ ρ1 ρ2 : DSt} (h : Sub os ρ os1 ρ1) (k : Sub os1 ρ1 os2 ρ2) : Sub os ρ os2 ρ2 := fun i s hs a => by
  obtain ⟨b, c⟩ := k i s hs a
  obtain ⟨d, e⟩ := h i s hs b
  exact ⟨d, c.trans e⟩
theorem Sub.bg {os os' : OSt} {ρ ρ' : DSt} {p : Addr} (h : Sub os ρ os' ρ') : BgA os' ρ' p → BgA os ρ p := fun ⟨i, a, b⟩ => by
  obtain ⟨c, d⟩ := h i .b rfl a
  exact ⟨i, c, by unfold Rf at b ⊢; rw [← d]; exact b⟩
theorem Kp.sub {os os' : OSt} {ρ ρ' : DSt} {S S' : Sto} (r : R os ρ S) (h : Sub os ρ os' ρ') (k : Kp os' ρ' S S') : Kp os ρ S S' := fun p hp => by
  obtain ⟨k1, k2⟩ := k p hp
  refine ⟨fun b => ?_, fun n => k2 fun z => n (h.bg z)⟩
  by_cases e : BgA os' ρ' p
  · exact k1 e
  · rw [k2 e]
    exact (Kp.refl r p hp).1 b
def TgOk (g : Tg) (d : D) (os os' : OSt) : Prop := ∀ F ρ S (Q : DP), G F os ρ S → (∀ i, i ∈ g.slots → F.pin i = none) → (∀ ρ', G F os' ρ' S → Sub os ρ os' ρ' → Q ρ' S) → g.d d ρ Q S
def TgsOk (gs : List Tg) (ds : List D) (os os' : OSt) : Prop := ∀ F ρ S (Q : DP), G F os ρ S → (∀ i, i ∈ Tg.slotss gs → F.pin i = none) → (∀ ρ', G F os' ρ' S → Sub os ρ os' ρ' → Q ρ' S) → Tg.ds gs ds ρ Q S
theorem tg_nm {i : Nat} {d : D} {os : OSt} : TgOk (.nm i) d os (os.set i (some (.v d))) := fun F ρ S Q g hp k => by
  unfold Tg.d
  refine k _ (g.set (hp i (by unfold Tg.slots; exact List.mem_singleton.mpr rfl))) fun j s hs a => ?_
  rcases at_set a with ⟨_, e, _⟩ | ⟨n, a⟩
  · cases e
    cases hs
  · exact ⟨a, List.getElem?_set_ne (Ne.symm n)⟩
theorem tg_tup {gs : List Tg} {ds : List D} {os os' : OSt} (h : TgsOk gs ds os os') : TgOk (.tup gs) (.tup ds) os os' := fun F ρ S Q g hp k => by
  unfold Tg.d
  exact ⟨ds, rfl, h F ρ S Q g (fun i hi => hp i (by unfold Tg.slots; exact hi)) k⟩
theorem tgs_nil {os : OSt} : TgsOk [] [] os os := fun F ρ S Q g hp k => by
  unfold Tg.ds
  exact ⟨rfl, k ρ g fun _ _ _ a => ⟨a, rfl⟩⟩
theorem tgs_cons {g : Tg} {gs : List Tg} {d : D} {ds : List D} {os os1 os' : OSt} (h : TgOk g d os os1) (hs : TgsOk gs ds os1 os') : TgsOk (g :: gs) (d :: ds) os os' := fun F ρ S Q gg hp k => by
  unfold Tg.ds
  refine ⟨d, ds, rfl, h F ρ S _ gg ?_ fun ρ1 g1 s1 => hs F ρ1 S Q g1 ?_ fun ρ2 g2 s2 => k ρ2 g2 (s1.trans s2)⟩
  · exact fun i z => hp i (by unfold Tg.slotss; exact List.mem_append_left _ z)
  · exact fun i z => hp i (by unfold Tg.slotss; exact List.mem_append_right _ z)
section
variable {α β κ τ σ : Type} {sg : Sig β κ} {os : OSt}
theorem pz_tg {g : Tg} {F : Fr} (hp : g.slots.all (fun i => !sg.pz.contains i) = true) (z : PzOk sg F) : ∀ i, i ∈ g.slots → F.pin i = none := fun i hi => z.none (by
  have := List.all_eq_true.mp hp i hi
  simpa using this)
theorem s_for {e : τ → D} {mi : W (List τ)} {rs : σ → OSt} {a0 : σ} {mb : τ → σ → M σ β σ} {g : Tg} {osb : τ → σ → OSt}
    (l0 : Le (rs a0) os) (ht : ∀ x a, TgOk g (e x) (rs a) (osb x a)) (hx : Le sg.osx os) (hx2 : ∀ a, Le sg.osx (rs a)) (hp : g.slots.all (fun i => !sg.pz.contains i) = true) :
    ImpS (rdS sg os rs (forM mi a0 mb))
      (sFor (rdI os e mi) (gOf g) (fun DD ρ S => ∃ y a, rdS (⟨sg.rv, sg.po, rs, sg.osx, sg.pz⟩ : Sig β σ) (osb y a) rs (mb y a) DD ρ S)) :=
  fun DD ρ S ⟨nx, k, F, gg, z, h, kk⟩ => by
    refine ⟨_, k.xx, gg.env, h, fun xs S1 k1 h1 => ?_, fun n ds S1 k1 h1 => kk.xx n ds ρ S1 ((gg.kp k1).le hx) h1⟩
    have g1 := (gg.kp k1).le l0
    clear h k1 gg
    revert h1 g1
    generalize a0 = a
    generalize S1 = S1
    generalize ρ = ρ
    induction xs generalizing a S1 ρ with
    | nil => exact fun h1 g1 => ⟨trivial, kk.nx a ρ S1 g1 h1⟩
    | cons y xs ih =>
      intro h1 g1
      refine ⟨trivial, ht y a F ρ S1 _ g1 (pz_tg hp z) fun ρ1 g2 _ => ?_⟩
      exact ⟨y, a, _, _, F, g2, z, h1, ⟨fun a' ρ' S' g' h' => ih a' S' ρ' h' g', kk.rt, fun a' ρ' S' g' h' => kk.nx a' ρ' S' g' h', fun a' ρ' S' g' h' => ih a' S' ρ' h' g', kk.xx⟩⟩
/-- the walks -/
theorem i_seq {e : τ → D} {en : α → D} {f : α → List τ} {m : W α} (h : ∀ a S, seqI S (en a) = some ((f a).map e, noG)) : ImpI (rdI os e (mapW m f)) (iSeqD (rdE os en m)) :=
  fun ρ S Q E ⟨q, x, r, hm, k, kx⟩ => ⟨_, x, r, hm, fun a S1 k1 h1 => ⟨_, _, h a S1, k _ S1 k1 h1⟩, kx⟩
def rng (lo : Int) (n : Nat) : List Int := (List.range n).map fun (i : Nat) => lo + (i : Int)
theorem rng_map {lo : Int} {n : Nat} : (rng lo n).map D.int = rngD lo n := by
  unfold rng rngD
  rw [List.map_map]
  rfl
def rng1W (m : W Int) : W (List Int) := fun q x => m (fun j => (-(2 ^ 62) ≤ j ∧ j < 2 ^ 62) ∧ q (rng 0 j.toNat)) x
def rng2W (m : W (Int × Int × Unit)) : W (List Int) := fun q x => m (fun j => (-(2 ^ 62) ≤ j.1 ∧ j.1 < 2 ^ 62 ∧ -(2 ^ 62) ≤ j.2.1 ∧ j.2.1 < 2 ^ 62) ∧ q (rng j.1 (j.2.1 - j.1).toNat)) x
def oneW {α : Type} (m : W α) : W (α × Unit) := fun q x => m (fun a => q (a, ())) x
theorem i_rng1 {m : W Int} : ImpI (rdI os D.int (rng1W m)) (iRng1D (rdA os (fun (a : Int × Unit) => [D.int a.1]) (oneW m))) :=
  fun ρ S Q E ⟨q, x, r, hm, k, kx⟩ => ⟨fun a => (-(2 ^ 62) ≤ a.1 ∧ a.1 < 2 ^ 62) ∧ q (rng 0 a.1.toNat), x, r, hm, fun a S1 k1 ⟨⟨h0, h1⟩, h2⟩ => ⟨a.1, rfl, h0, h1, by
    have := k _ S1 k1 h2
    rw [rng_map] at this
    exact this⟩, kx⟩
def enumT (i : Nat) : List τ → List (Int × τ)
  | [] => []
  | x :: xs => ((i : Nat), x) :: enumT (i + 1) xs
def eP (e1 : α → D) (e2 : β → D) (a : α × β) : D := .tup [e1 a.1, e2 a.2]
def eP3 {γ : Type} (e1 : α → D) (e2 : β → D) (e3 : γ → D) (a : α × β × γ) : D := .tup [e1 a.1, e2 a.2.1, e3 a.2.2]
def eP4 {γ δ : Type} (e1 : α → D) (e2 : β → D) (e3 : γ → D) (e4 : δ → D) (a : α × β × γ × δ) : D := .tup [e1 a.1, e2 a.2.1, e3 a.2.2.1, e4 a.2.2.2]
def eL (e : α → D) (xs : List α) : D := .lst (xs.map e)
def eT (e : α → D) (xs : List α) : D := .tup (xs.map e)
def eC (xs : List Int) : D := .cst (xs.map D.int)
def eN (_ : Unit) : D := .non
def eD (d : D) : D := d
def eO (e : α → D) : Option α → D
  | none => .non
  | some a => e a
def eLo (e : α → D) (xs : List α) : OT := .l ((xs.map e).map OT.v)
theorem enumT_map {e : τ → D} : ∀ (xs : List τ) (i : Nat), (enumT i xs).map (eP D.int e) = enumL i (xs.map e)
  | [], _ => rfl
  | x :: xs, i => by
    show D.tup [D.int (i : Nat), e x] :: (enumT (i + 1) xs).map (eP D.int e) = _
    rw [enumT_map xs (i + 1)]
    rfl
theorem i_enum {e : τ → D} {en : α → D} {f : α → List τ} {m : W α} (h : ∀ a S, seqI S (en a) = some ((f a).map e, noG) ∧ (match en a with | .str _ => False | _ => True)) :
    ImpI (rdI os (eP D.int e) (mapW m (fun a => enumT 0 (f a)))) (iEnumD (rdA os (fun (a : α × Unit) => [en a.1]) (oneW m))) :=
  fun ρ S Q E ⟨q, x, r, hm, k, kx⟩ => ⟨fun a => q (enumT 0 (f a.1)), x, r, hm, fun a S1 k1 h1 => ⟨_, _, _, rfl, (h a.1 S1).1, (h a.1 S1).2, by
    have := k _ S1 k1 h1
    rw [enumT_map] at this
    exact this⟩, kx⟩
theorem sq_lst {e : τ → D} (a : List τ) (S : Sto) : seqI S (eL e a) = some (a.map e, noG) := rfl
end
end DL
namespace DL
open PySem PySem.Spec PyProof.Rows L2
def wipeO (os : OSt) : List Nat → OSt
  | [] => os
  | v :: vs => (wipeO os vs).set v none
theorem at_wipe1 {os : OSt} {i j : Nat} {s : Sl} (h : At (os.set i none) j s) : j ≠ i ∧ At os j s := by
  rcases at_set h with ⟨_, e, _⟩ | h
  · cases e
  · exact h
theorem R.wipe1 {os : OSt} {ρ : DSt} {S : Sto} {i : Nat} (r : R os ρ S) : R (os.set i none) (ρ.set i none) S where
  len := by rw [List.length_set, List.length_set]; exact r.len
  hd := fun j s a => by
    obtain ⟨n, a⟩ := at_wipe1 a
    obtain ⟨d, x, y⟩ := r.hd j s a
    exact ⟨d, (vf_ne n).mpr x, y⟩
  ne := fun j k s s' d d' a hjk h1 h2 v1 v2 => by
    obtain ⟨n1, h1⟩ := at_wipe1 h1
    obtain ⟨n2, h2⟩ := at_wipe1 h2
    exact r.ne j k s s' d d' a hjk h1 h2 ((vf_ne n1).mp v1) ((vf_ne n2).mp v2)
theorem R.wipe {os : OSt} {ρ : DSt} {S : Sto} (r : R os ρ S) : ∀ vs : List Nat, R (wipeO os vs) (wipeD ρ vs) S ∧ Sub os ρ (wipeO os vs) (wipeD ρ vs)
  | [] => ⟨r, fun _ _ _ a => ⟨a, rfl⟩⟩
  | v :: vs => by
    obtain ⟨r1, s1⟩ := r.wipe vs
    refine ⟨r1.wipe1, s1.trans fun i s hs a => ?_⟩
    obtain ⟨n, a⟩ := at_wipe1 a
    exact ⟨a, List.getElem?_set_ne (Ne.symm n)⟩
/-- no frame -/
abbrev F0 : Fr := ⟨fun _ => none, fun _ => False, fun _ => none⟩
theorem R.g0 {os : OSt} {ρ : DSt} {S : Sto} (r : R os ρ S) : G F0 os ρ S := ⟨r, fun p h => absurd rfl h, fun _ _ _ _ _ _ _ => .inl rfl, fun p d h => by cases h⟩
def compK {τ β : Type} (xs : List τ) (c : τ → (Bool → Prop) → Prop) (f : τ → (β → Prop) → Prop) (q : List β → Prop) : Prop := match xs with
  | [] => q []
  | x :: xs => c x (fun b => if b = true then f x (fun y => compK xs c f (fun ys => q (y :: ys))) else compK xs c f q)
def mapK {τ β : Type} (xs : List τ) (f : τ → (β → Prop) → Prop) (q : List β → Prop) : Prop := match xs with
  | [] => q []
  | x :: xs => f x (fun y => mapK xs f (fun ys => q (y :: ys)))
def lcW {τ β : Type} (mi : W (List τ)) (mc : τ → W Bool) (mf : τ → W β) : W (List β) := fun q x => mi (fun xs => xs.length ≤ sizeLine ∧ compK xs (fun x k => mc x k X0) (fun x k => mf x k X0) q) x
def lcyW {τ β : Type} (mi : W (List τ)) (mf : τ → W β) : W (List β) := fun q x => mi (fun xs => xs.length ≤ sizeLine ∧ mapK xs (fun x k => mf x k X0) q) x
section
variable {α β γ τ σ : Type} {os : OSt}
theorem lc_go {e : τ → D} {e2 : β → D} {mc : τ → W Bool} {mf : τ → W β} {g : Tg} {vs : List Nat} {osb : τ → OSt} {ρ : DSt} {Q : List D → Sto → Prop} {q : List β → Prop}
    (ht : ∀ x, TgOk g (e x) (wipeO os vs) (osb x)) : ∀ (xs : List τ) (acc : List D) (S : Sto), R os ρ S → compK xs (fun x k => mc x k X0) (fun x k => mf x k X0) q →
    (∀ ys S', Kp os ρ S S' → q ys → Q (acc ++ ys.map e2) S') →
    lcGo g noG (dTst (fun ρ S Q E => ∃ x, rdE (osb x) D.bl (mc x) ρ S Q E)) (fun ρ S Q E => ∃ x, rdE (osb x) e2 (mf x) ρ S Q E) (wipeD ρ vs) Q (xs.map e) acc S := by
  intro xs
  induction xs generalizing q with
  | nil =>
    intro acc S r h k
    unfold compK at h
    refine ⟨trivial, ?_⟩
    have := k [] S (.refl r) h
    rw [List.map_nil, List.append_nil] at this
    exact this
  | cons x xs ih =>
    intro acc S r h k
    unfold compK at h
    refine ⟨trivial, ?_⟩
    obtain ⟨r1, s1⟩ := r.wipe vs
    refine ht x F0 (wipeD ρ vs) S _ r1.g0 (fun _ _ => rfl) fun ρ1 g1 s2 => ?_
    have sub := s1.trans s2
    refine ⟨x, _, X0, g1.env, h, fun b S1 k1 hb => ⟨b, rfl, ?_⟩, fun _ _ _ _ z => z.elim⟩
    have kk1 := k1.sub r sub
    cases b with
    | true =>
      rw [if_pos rfl] at hb
      dsimp only
      rw [if_pos rfl]
      refine ⟨x, _, X0, g1.env.kp k1, hb, fun y S2 k2 hy => ?_, fun _ _ _ _ z => z.elim⟩
      have kk2 := kk1.trans (k2.sub (r.kp kk1) sub)
      refine ih (acc ++ [e2 y]) S2 (r.kp kk2) hy fun ys S' k3 hq => ?_
      have := k (y :: ys) S' (kk2.trans k3) hq
      rw [List.append_assoc]
      exact this
    | false =>
      rw [if_neg Bool.false_ne_true] at hb
      dsimp only
      rw [if_neg Bool.false_ne_true]
      exact ih acc S1 (r.kp kk1) hb fun ys S' k3 hq => k ys S' (kk1.trans k3) hq
/-- a new flat list -/
theorem new_flat {os : OSt} {ρ : DSt} {S S' : Sto} {ds : List D} {p : Addr} (k : Kp os ρ S S') (hp : S' p = none) : Kp os ρ S (S'.set p (.lst ds)) ∧ New S (S'.set p (.lst ds)) (.l (ds.map OT.v)) (.ref p) := by
  refine ⟨fun q hq => ?_, ?_, fun a f => ?_⟩
  · have := k q hq
    have n : q ≠ p := fun e => k.some hq (by rw [e]; exact hp)
    rw [Sto.set_ne n]
    exact this
  · unfold Tr
    exact ⟨p, ds, rfl, Sto.set_same, Trs.vals.mpr rfl, Fps.vals⟩
  · unfold Fp at f
    obtain ⟨q, es, e, _, f⟩ := f
    cases e
    rcases f with f | f
    · subst f
      cases e : S a with
      | none => rfl
      | some o => exact absurd hp (k.some (by rw [e]; simp))
    · exact absurd f Fps.vals
theorem i_lc {e : τ → D} {e2 : β → D} {mi : W (List τ)} {mc : τ → W Bool} {mf : τ → W β} {g : Tg} {vs : List Nat} {osb : τ → OSt} (ht : ∀ x, TgOk g (e x) (wipeO os vs) (osb x)) :
    Imp (rdE os (eL e2) (lcW mi mc mf))
      (dLc false (rdI os e mi) g (dTst (fun ρ S Q E => ∃ x, rdE (osb x) D.bl (mc x) ρ S Q E)) (fun ρ S Q E => ∃ x, rdE (osb x) e2 (mf x) ρ S Q E) vs) := fun ρ S Q E ⟨q, x, r, hm, k, kx⟩ =>
  ⟨_, x, r, hm, fun xs S1 k1 ⟨hl, h1⟩ => ⟨by rw [List.length_map]; exact hl, lc_go ht xs [] S1 (r.kp k1) h1 fun ys S' k2 hq => k ys S' (k1.trans k2) hq⟩, kx⟩
/-- what is new stays as it is -/
theorem New.kp {ρ : DSt} {S S1 S2 : Sto} {t : OT} {d : D} (n : New S S1 t d) (r : R os ρ S) (k1 : Kp os ρ S S1) (k : Kp os ρ S1 S2) : New S S2 t d := by
  have e : ∀ a, Fp S1 t d a → S2 a = S1 a := fun a f => (k a f.live).2 fun b => by
    obtain ⟨i, h1, h2⟩ := b
    obtain ⟨p, h3, h4⟩ := r.bg i h1
    cases vf_eq h2 h3
    exact h4.some (n.nw a f)
  exact ⟨Tr.eq e n.tr, fun a f => n.nw a ((Fp.eq e n.tr a).mp f)⟩
end
section
variable {α β κ γ τ : Type} {sg : Sig β κ} {os : OSt}
theorem R.obL {ρ : DSt} {S : Sto} (r : R os ρ S) {e : τ → D} {xs : List τ} {i : Nat} (hi : At os i (.o (eLo e xs))) : ∃ p, Rf ρ i p ∧ S p = some (.lst (xs.map e)) := by
  obtain ⟨d, hv, tr⟩ := r.ob hi
  unfold eLo Tr at tr
  obtain ⟨p, ds, e1, e2, e3, _⟩ := tr
  rw [Trs.vals.mp e3] at e2
  subst e1
  exact ⟨p, hv, e2⟩
theorem fp_l {S : Sto} {ds : List D} {p a : Addr} (hs : ∃ m, S p = some m) : Fp S (.l (ds.map OT.v)) (.ref p) a → a = p := fun f => by
  unfold Fp at f
  obtain ⟨q, es, e, _, f⟩ := f
  cases e
  exact f.elim id fun z => absurd z Fps.vals
theorem fp_i {S : Sto} {C : Nat} {ds : List D} {p a : Addr} : Fp S (.i C (ds.map OT.v)) (.ref p) a → a = p := fun f => by
  unfold Fp at f
  obtain ⟨q, es, e, _, f⟩ := f
  cases e
  exact f.elim id fun z => absurd z Fps.vals
theorem Kf.lst {ρ : DSt} {S : Sto} {ds es : List D} {i : Nat} {p : Addr} (r : R os ρ S) (hi : At os i (.o (.l (ds.map OT.v)))) (hr : Rf ρ i p) : Kf os ρ S (os.set i (some (.o (.l (es.map OT.v))))) (S.set p (.lst es)) := by
  obtain ⟨d, hv, tr⟩ := r.ob hi
  cases vf_eq hv hr
  have hp : Fp S (.l (ds.map OT.v)) (.ref p) p := by
    unfold Tr at tr
    obtain ⟨q, x, e1, e2, _⟩ := tr
    cases e1
    unfold Fp
    exact ⟨p, x, rfl, e2, .inl rfl⟩
  refine Kf.chg r hi hr (fun a ha n => Sto.set_ne fun e => n (by rw [e]; exact hp)) ?_ fun a f => ?_
  · unfold Tr
    exact ⟨p, es, rfl, Sto.set_same, Trs.vals.mpr rfl, Fps.vals⟩
  · have := fp_l ⟨_, Sto.set_same⟩ f
    subst this
    exact .inl hp
theorem Kf.ins {ρ : DSt} {S : Sto} {C : Nat} {ds es : List D} {i : Nat} {p : Addr} (r : R os ρ S) (hi : At os i (.o (.i C (ds.map OT.v)))) (hr : Rf ρ i p) : Kf os ρ S (os.set i (some (.o (.i C (es.map OT.v))))) (S.set p (.ins C es)) := by
  obtain ⟨d, hv, tr⟩ := r.ob hi
  cases vf_eq hv hr
  have hp : Fp S (.i C (ds.map OT.v)) (.ref p) p := by
    unfold Tr at tr
    obtain ⟨q, x, e1, e2, _⟩ := tr
    cases e1
    unfold Fp
    exact ⟨p, x, rfl, e2, .inl rfl⟩
  refine Kf.chg r hi hr (fun a ha n => Sto.set_ne fun e => n (by rw [e]; exact hp)) ?_ fun a f => ?_
  · unfold Tr
    exact ⟨p, es, rfl, Sto.set_same, Trs.vals.mpr rfl, Fps.vals⟩
  · have := fp_i f
    subst this
    exact .inl hp
theorem G.writeL {F : Fr} {ρ : DSt} {S : Sto} {e : τ → D} {xs ys : List τ} {i : Nat} {p : Addr} (g : G F os ρ S) (hi : At os i (.o (eLo e xs))) (hr : Rf ρ i p) : G F (os.set i (some (.o (eLo e ys)))) ρ (S.set p (.lst (ys.map e))) := g.kf (Kf.lst g.env hi hr)
def appK (m : W γ) (n : Nat) : M γ β κ := fun nx k => m (fun v => n < sizeLine ∧ nx v) k.xx
def extK (m : W γ) (n : Nat) (f : γ → Nat) : M γ β κ := fun nx k => m (fun v => n + f v ≤ sizeLine ∧ nx v) k.xx
theorem s_append {e : τ → D} {xs : List τ} {m : W τ} {i : Nat} (hi : At os i (.o (eLo e xs))) (hx : Le sg.osx os) :
    ImpS (rdS sg os (fun v => os.set i (some (.o (eLo e (xs ++ [v]))))) (appK m xs.length)) (sDrop (dMt mAppend (dVar i) (dCons (rdE os e m) dNil))) :=
  fun DD ρ S ⟨nx, k, F, g, z, h, kk⟩ => by
    obtain ⟨p, hr, hs⟩ := g.env.obL hi
    refine ⟨_, hr, ⟨p, _, rfl, hs⟩, _, k.xx, g.env, h, fun v S1 k1 ⟨hl, h1⟩ => ?_, fun n ds S1 k1 h1 => kk.xx n ds ρ S1 ((g.kp k1).le hx) h1⟩
    obtain ⟨p', hr', hs'⟩ := (g.kp k1).env.obL hi
    cases vf_eq hr hr'
    refine ⟨p, _, _, rfl, rfl, hs', by rw [List.length_map]; exact hl, ?_⟩
    have e2 : xs.map e ++ [e v] = (xs ++ [v]).map e := by rw [List.map_append]; rfl
    rw [e2]
    exact kk.nx v ρ _ ((g.kp k1).writeL hi hr) h1
/-- a tree is let stand -/
theorem Sub.frz_at {i j : Nat} {d : D} {s : Sl} (h : At (os.set i (some (.v d))) j s) (hs : s.own = true) : j ≠ i ∧ At os j s := by
  rcases at_set h with ⟨_, e, _⟩ | h
  · cases e; cases hs
  · exact h
theorem G.frz {F : Fr} {ρ : DSt} {S : Sto} {i : Nat} {t : OT} {d : D} (g : G F os ρ S) (hp : F.pin i = none) (hi : At os i (.o t)) (hv : Vf ρ i d) : G F (os.set i (some (.v (frzO t)))) (ρ.set i (some (frzO t))) (S.les (Fp S t d)) := by
  have g2 := g.set (d := frzO t) hp
  have off : ∀ j s x, j ≠ i → At os j s → Vf ρ j x → ∀ a, Hp' S s x a → (S.les (Fp S t d)) a = S a := fun j s x n hj hx a f => Sto.les_out fun z => g.env.ne i j _ s d x a (Ne.symm n) hi hj hv hx z f
  have tr2 : ∀ j t2 x, j ≠ i → At os j (.o t2) → Vf ρ j x → Tr S t2 x → Tr (S.les (Fp S t d)) t2 x := fun j t2 x n hj hx tr => Tr.eq (off j _ x n hj hx) tr
  have hpe : ∀ j s x, At (os.set i (some (.v (frzO t)))) j s → Vf (ρ.set i (some (frzO t))) j x → ∀ a, Hp' (S.les (Fp S t d)) s x a → Hp' S s x a := fun j s x hj hx a f => by
    cases s with
    | v y => exact f
    | b => exact f
    | o t2 =>
      obtain ⟨n, hj⟩ := Sub.frz_at hj rfl
      have hx := (vf_ne n).mp hx
      obtain ⟨y, hy, tr⟩ := g.env.ob hj
      cases vf_eq hx hy
      exact (Fp.eq (off j _ _ n hj hx) tr a).mp f
  refine ⟨⟨g2.env.len, fun j s a => ?_, fun j k s s' x x' a n h1 h2 v1 v2 p q => g2.env.ne j k s s' x x' a n h1 h2 v1 v2 (hpe j s x h1 v1 a p) (hpe k s' x' h2 v2 a q)⟩, fun q hq => ?_, fun j s x a h1 v1 f => g2.own j s x a h1 v1 (hpe j s x h1 v1 a f), g2.pin⟩
  · obtain ⟨y, hy, hd⟩ := g2.env.hd j s a
    refine ⟨y, hy, ?_⟩
    cases s with
    | v x => exact hd
    | o t2 =>
      obtain ⟨n, a⟩ := Sub.frz_at a rfl
      exact tr2 j t2 y n a ((vf_ne n).mp hy) hd
    | b =>
      obtain ⟨n, a⟩ := Sub.frz_at a rfl
      obtain ⟨q, e, z⟩ := hd
      subst e
      exact ⟨q, rfl, by rw [off j .b _ n a ((vf_ne n).mp hy) q rfl]; exact z⟩
  · obtain ⟨h1, h2⟩ := g.fr q hq
    have : (S.les (Fp S t d)) q = S q := Sto.les_out fun f => by
      rcases g.own i _ d q hi hv f with z | ⟨z, _⟩
      · exact hq z
      · cases z
    rw [this]
    exact ⟨h1, h2⟩
theorem t_frz {res : α → OSt} {X : Cx} {A : Cla} {Wx : WX} {sts : List Stmt} {t0 : OT} {m : M α β κ} (i : Nat) (hi : At os i (.o t0)) (hp : sg.pz.contains i = false) (h : DStms X A Wx sts (rdS sg (os.set i (some (.v (frzO t0)))) res m)) (hnd : t0.nd = true) :
    DStms X A Wx sts (rdS sg os res m) := tss (ds_frzO i h) fun DD ρ S ⟨nx, k, F, g, z, hm, kk⟩ => by
  obtain ⟨d, hv, tr⟩ := g.env.ob hi
  exact ⟨d, t0, hv, tr, hnd, nx, k, F, g.frz (z.none hp) hi hv, z, hm, kk⟩
theorem frz_lo {e : τ → D} {xs : List τ} : frzO (eLo e xs) = eL e xs := by
  unfold eLo eL frzO
  rw [frzOs_vals]
theorem nd_lo {e : τ → D} {xs : List τ} : (eLo e xs).nd = true := nds_vals
/-- one's own flat list is let stand -/
theorem t_frzL {res : α → OSt} {X : Cx} {A : Cla} {Wx : WX} {sts : List Stmt} {e : τ → D} {xs : List τ} {m : M α β κ} (i : Nat) (hi : At os i (.o (eLo e xs))) (hp : sg.pz.contains i = false) (h : DStms X A Wx sts (rdS sg (os.set i (some (.v (eL e xs)))) res m)) :
    DStms X A Wx sts (rdS sg os res m) := t_frz i hi hp (by rw [frz_lo]; exact h) nd_lo
def lendW (m : W α) : W α := fun q x => m q (fun n ds => D.lgs ds = true ∧ x n ds)
/-- data without lists; without lists and instances -/
class NoL (e : α → D) : Prop where
  lg : ∀ a, (e a).lg = true
class NoI (e : α → D) : Prop where
  lf : ∀ a, (e a).lf = true
abbrev LL := List (Nat × OT × D)
def Lent (os : OSt) : LL → Prop
  | [] => True
  | (i, t, d) :: ls => At os i (.o t) ∧ t.nd = true ∧ frzO t = d ∧ Lent os ls
abbrev l2 (ls : LL) : List (Nat × OT) := ls.map fun x => (x.1, x.2.1)
theorem Lent.at_ : ∀ {ls : LL} {i : Nat} {t : OT} {d : D}, Lent os ls → (i, t, d) ∈ ls → At os i (.o t) ∧ t.nd = true ∧ frzO t = d
  | (j, u, c) :: ls, i, t, d, h, m => by
    unfold Lent at h
    rcases List.mem_cons.mp m with e | m
    · cases e
      exact ⟨h.1, h.2.1, h.2.2.1⟩
    · exact Lent.at_ h.2.2.2 m
theorem lgs_map {e : τ → D} [N : NoL e] : ∀ (xs : List τ), D.lgs (xs.map e) = true
  | [] => rfl
  | x :: xs => by rw [List.map_cons]; unfold D.lgs; rw [N.lg, lgs_map xs]; rfl
theorem lfs_map {e : τ → D} [N : NoI e] : ∀ (xs : List τ), D.lfs (xs.map e) = true
  | [] => rfl
  | x :: xs => by rw [List.map_cons]; unfold D.lfs; rw [N.lf, lfs_map xs]; rfl
instance : NoL D.int := ⟨fun _ => rfl⟩
instance : NoL D.bl := ⟨fun _ => rfl⟩
instance : NoL D.str := ⟨fun _ => rfl⟩
instance : NoL D.rp := ⟨fun _ => rfl⟩
instance : NoL eN := ⟨fun _ => rfl⟩
instance {e : τ → D} [NoL e] : NoL (eT e) := ⟨fun a => by unfold eT D.lg; exact lgs_map a⟩
instance {e : τ → D} [N : NoL e] : NoL (eO e) := ⟨fun a => by cases a <;> first | rfl | exact N.lg _⟩
instance {e1 : α → D} {e2 : τ → D} [N1 : NoL e1] [N2 : NoL e2] : NoL (eP e1 e2) := ⟨fun a => by unfold eP D.lg; simp [D.lgs, N1.lg, N2.lg]⟩
instance {e1 : α → D} {e2 : τ → D} {e3 : γ → D} [N1 : NoL e1] [N2 : NoL e2] [N3 : NoL e3] : NoL (eP3 e1 e2 e3) := ⟨fun a => by unfold eP3 D.lg; simp [D.lgs, N1.lg, N2.lg, N3.lg]⟩
instance {δ : Type} {e1 : α → D} {e2 : τ → D} {e3 : γ → D} {e4 : δ → D} [N1 : NoL e1] [N2 : NoL e2] [N3 : NoL e3] [N4 : NoL e4] : NoL (eP4 e1 e2 e3 e4) := ⟨fun a => by unfold eP4 D.lg; simp [D.lgs, N1.lg, N2.lg, N3.lg, N4.lg]⟩
instance : NoI D.int := ⟨fun _ => rfl⟩
instance : NoI D.bl := ⟨fun _ => rfl⟩
instance : NoI D.str := ⟨fun _ => rfl⟩
instance : NoI D.rp := ⟨fun _ => rfl⟩
instance : NoI eN := ⟨fun _ => rfl⟩
instance {e : τ → D} [NoI e] : NoI (eT e) := ⟨fun a => by unfold eT D.lf; exact lfs_map a⟩
instance {e : τ → D} [N : NoI e] : NoI (eO e) := ⟨fun a => by cases a <;> first | rfl | exact N.lf _⟩
instance {e1 : α → D} {e2 : τ → D} [N1 : NoI e1] [N2 : NoI e2] : NoI (eP e1 e2) := ⟨fun a => by unfold eP D.lf; simp [D.lfs, N1.lf, N2.lf]⟩
instance {e1 : α → D} {e2 : τ → D} {e3 : γ → D} [N1 : NoI e1] [N2 : NoI e2] [N3 : NoI e3] : NoI (eP3 e1 e2 e3) := ⟨fun a => by unfold eP3 D.lf; simp [D.lfs, N1.lf, N2.lf, N3.lf]⟩
end
end DL
namespace DL
open PySem PySem.Spec PyProof.Rows L2
section
variable {α β γ κ : Type}
/-- slots, the rest of the arguments, the slots behind, the value, the wish -/
def spG (sl : α → List Sl) (rest : α → List D) (po : β → OSt) (rv : β → RV) (m : α → W β) : DSp := fun ds S Q E => ∃ a q x pre, ds = pre ++ rest a ∧ pre.length = (sl a).length ∧ R ((sl a).map some) (pre.map some) S ∧ m a q x ∧
  (∀ v d S', Kf ((sl a).map some) (pre.map some) S (po v) S' → RvF (po v) (pre.map some) S ((sl a).map some) S' (rv v) d → q v → Q d S') ∧ (∀ n xs S', Kf ((sl a).map some) (pre.map some) S [] S' → x n xs → E n xs S')
abbrev rvV (eb : β → D) : β → RV := fun b => .v (eb b)
abbrev po0 : β → OSt := fun _ => []
abbrev spT (sl : α → List Sl) (eb : β → D) (m : α → W β) : DSp := spG sl (fun _ => []) po0 (rvV eb) m
/-- the arguments: values, bags, one's own trees; the slots that are passed -/
def ArR (os : OSt) (ρ : DSt) : List Sl → List D → List Nat → Prop
  | [], ds, is => ds = [] ∧ is = []
  | .v d :: ss, ds, is => ∃ r, ds = d :: r ∧ ArR os ρ ss r is
  | .b :: ss, ds, is => ∃ i p r js, ds = .ref p :: r ∧ is = i :: js ∧ At os i .b ∧ Rf ρ i p ∧ ArR os ρ ss r js
  | .o t :: ss, ds, is => ∃ i d r js, ds = d :: r ∧ is = i :: js ∧ At os i (.o t) ∧ Vf ρ i d ∧ ArR os ρ ss r js
def Sl.vb : Sl → Bool
  | .o _ => false
  | _ => true
theorem ArR.len {os : OSt} {ρ : DSt} : ∀ {ss : List Sl} {ds : List D} {is : List Nat}, ArR os ρ ss ds is → ds.length = ss.length
  | [], ds, is, h => by
    have h : ds = [] ∧ _ := h
    rw [h.1]; rfl
  | .v d :: ss, ds, is, ⟨r, e, h⟩ => by rw [e]; simp [h.len]
  | .b :: ss, ds, is, ⟨_, _, r, _, e, _, _, _, h⟩ => by rw [e]; simp [h.len]
  | .o m :: ss, ds, is, ⟨_, _, r, _, e, _, _, _, h⟩ => by rw [e]; simp [h.len]
theorem ArR.at_ {os : OSt} {ρ : DSt} : ∀ {ss : List Sl} {ds : List D} {is : List Nat} {i : Nat} {s : Sl}, ArR os ρ ss ds is → ss[i]? = some s → ∃ d, ds[i]? = some d ∧ ((∃ d', s = .v d' ∧ d = d') ∨ (s.own = true ∧ ∃ j, j ∈ is ∧ At os j s ∧ Vf ρ j d))
  | [], ds, is, i, s, h, e => by simp at e
  | .v d :: ss, ds, is, 0, s, ⟨r, ed, h⟩, e => by
    simp at e
    subst e ed
    exact ⟨d, rfl, .inl ⟨d, rfl, rfl⟩⟩
  | .b :: ss, ds, is, 0, s, ⟨j, p, r, js, ed, ei, a, b, h⟩, e => by
    simp at e
    subst e ed ei
    exact ⟨_, rfl, .inr ⟨rfl, j, List.mem_cons_self, a, b⟩⟩
  | .o m :: ss, ds, is, 0, s, ⟨j, p, r, js, ed, ei, a, b, h⟩, e => by
    simp at e
    subst e ed ei
    exact ⟨_, rfl, .inr ⟨rfl, j, List.mem_cons_self, a, b⟩⟩
  | .v d :: ss, ds, is, i + 1, s, ⟨r, ed, h⟩, e => by
    subst ed
    simpa using h.at_ (i := i) (by simpa using e)
  | .b :: ss, ds, is, i + 1, s, ⟨_, _, r, js, ed, ei, _, _, h⟩, e => by
    subst ed ei
    obtain ⟨d, h1, h2⟩ := h.at_ (i := i) (by simpa using e)
    exact ⟨d, by simpa using h1, h2.imp id fun ⟨z, j, m, y⟩ => ⟨z, j, List.mem_cons_of_mem _ m, y⟩⟩
  | .o m :: ss, ds, is, i + 1, s, ⟨_, _, r, js, ed, ei, _, _, h⟩, e => by
    subst ed ei
    obtain ⟨d, h1, h2⟩ := h.at_ (i := i) (by simpa using e)
    exact ⟨d, by simpa using h1, h2.imp id fun ⟨z, j, m, y⟩ => ⟨z, j, List.mem_cons_of_mem _ m, y⟩⟩
theorem at_map {ss : List Sl} {i : Nat} {s : Sl} (h : At (ss.map some) i s) : ss[i]? = some s := by
  unfold At at h
  rw [List.getElem?_map] at h
  cases e : ss[i]? with
  | none => rw [e] at h; cases h
  | some x => rw [e] at h; cases h; rfl
theorem rf_map {ds : List D} {i : Nat} {d : D} (h : ds[i]? = some d) : (ds.map some)[i]? = some (some d) := by rw [List.getElem?_map, h]; rfl
/-- places of two arguments are apart -/
theorem ArR.two {os : OSt} {ρ : DSt} {S : Sto} (r : R os ρ S) : ∀ {ss : List Sl} {ds : List D} {is : List Nat} {i j : Nat} {s s' : Sl} {d d' : D} {a : Addr}, ArR os ρ ss ds is → is.Nodup → i < j → ss[i]? = some s → ss[j]? = some s' → ds[i]? = some d → ds[j]? = some d' → Hp' S s d a → ¬ Hp' S s' d' a
  | [], ds, is, i, j, s, s', d, d', a, h, nd, ij, e1, e2, f1, f2 => by simp at e1
  | .v x :: ss, ds, is, i, j, s, s', d, d', a, ⟨r0, ed, h⟩, nd, ij, e1, e2, f1, f2 => fun p q => by
    obtain ⟨j, rfl⟩ : ∃ k, j = k + 1 := ⟨j - 1, by omega⟩
    subst ed
    cases i with
    | zero => simp at e1; subst e1; exact p
    | succ i => exact ArR.two r h nd (by omega) (i := i) (j := j) (by simpa using e1) (by simpa using e2) (by simpa using f1) (by simpa using f2) p q
  | .b :: ss, ds, is, i, j, s, s', d, d', a, ⟨k, p0, r0, js, ed, ei, h1, h2, h⟩, nd, ij, e1, e2, f1, f2 => fun p q => by
    obtain ⟨j, rfl⟩ : ∃ k, j = k + 1 := ⟨j - 1, by omega⟩
    subst ed ei
    have nd := List.nodup_cons.mp nd
    cases i with
    | zero =>
      simp at e1 f1
      subst e1 f1
      obtain ⟨d2, g1, g2⟩ := h.at_ (i := j) (by simpa using e2)
      have : d2 = d' := by
        have f2 : r0[j]? = some d' := by simpa using f2
        rw [g1] at f2; cases f2; rfl
      subst this
      rcases g2 with ⟨d3, z, _⟩ | ⟨_, k', mem, g3, g4⟩
      · subst z; exact q
      · exact r.ne k k' _ _ _ _ a (fun e => nd.1 (by rw [e]; exact mem)) h1 g3 h2 g4 p q
    | succ i => exact ArR.two r h nd.2 (by omega) (i := i) (j := j) (by simpa using e1) (by simpa using e2) (by simpa using f1) (by simpa using f2) p q
  | .o t :: ss, ds, is, i, j, s, s', d, d', a, ⟨k, p0, r0, js, ed, ei, h1, h2, h⟩, nd, ij, e1, e2, f1, f2 => fun p q => by
    obtain ⟨j, rfl⟩ : ∃ k, j = k + 1 := ⟨j - 1, by omega⟩
    subst ed ei
    have nd := List.nodup_cons.mp nd
    cases i with
    | zero =>
      simp at e1 f1
      subst e1 f1
      obtain ⟨d2, g1, g2⟩ := h.at_ (i := j) (by simpa using e2)
      have : d2 = d' := by
        have f2 : r0[j]? = some d' := by simpa using f2
        rw [g1] at f2; cases f2; rfl
      subst this
      rcases g2 with ⟨d3, z, _⟩ | ⟨_, k', mem, g3, g4⟩
      · subst z; exact q
      · exact r.ne k k' _ _ _ _ a (fun e => nd.1 (by rw [e]; exact mem)) h1 g3 h2 g4 p q
    | succ i => exact ArR.two r h nd.2 (by omega) (i := i) (j := j) (by simpa using e1) (by simpa using e2) (by simpa using f1) (by simpa using f2) p q
theorem vf_map {ds : List D} {i : Nat} {d : D} (h : Vf (ds.map some) i d) : ds[i]? = some d := by
  unfold Vf at h
  rw [List.getElem?_map] at h
  cases e : ds[i]? with
  | none => rw [e] at h; cases h
  | some x => rw [e] at h; cases h; rfl
/-- the arguments for a callee -/
theorem ArR.R {os : OSt} {ρ : DSt} {S : Sto} {ss : List Sl} {ds : List D} {is : List Nat} (h : ArR os ρ ss ds is) (nd : is.Nodup) (r : R os ρ S) : R (ss.map some) (ds.map some) S where
  len := by rw [List.length_map, List.length_map, h.len]; exact Nat.le_refl _
  hd := fun i s a => by
    obtain ⟨d, e, k⟩ := h.at_ (at_map a)
    refine ⟨d, rf_map e, ?_⟩
    rcases k with ⟨d2, e1, e2⟩ | ⟨_, j, _, b, c⟩
    · subst e1 e2; rfl
    · obtain ⟨d', c', hd⟩ := r.hd j s b
      cases vf_eq c c'
      exact hd
  ne := fun i j s s' d d' a n h1 h2 v1 v2 p q => by
    rcases Nat.lt_or_gt_of_ne n with l | l
    · exact ArR.two r h nd l (at_map h1) (at_map h2) (vf_map v1) (vf_map v2) p q
    · exact ArR.two r h nd l (at_map h2) (at_map h1) (vf_map v2) (vf_map v1) q p
theorem ArR.bg {os : OSt} {ρ : DSt} {ss : List Sl} {ds : List D} {is : List Nat} {p : Addr} (h : ArR os ρ ss ds is) : BgA (ss.map some) (ds.map some) p → BgA os ρ p := fun ⟨i, a, b⟩ => by
  obtain ⟨d', e, k⟩ := h.at_ (at_map a)
  have := vf_map b
  rw [e] at this
  cases this
  rcases k with ⟨d2, e1, _⟩ | ⟨_, j, _, x, y⟩
  · cases e1
  · exact ⟨j, x, y⟩
theorem vb_o {ss : List Sl} (h : ss.all Sl.vb = true) {i : Nat} {t : OT} : ¬ At (ss.map some) i (.o t) := fun a => by
  have := List.all_eq_true.mp h _ (List.mem_of_getElem? (at_map a))
  cases this
theorem Kf.vb {os : OSt} {ρ : DSt} {S S' : Sto} {ss : List Sl} {ds : List D} {is : List Nat} {po : OSt} (h : ArR os ρ ss ds is) (r : DL.R os ρ S) (vb : ss.all Sl.vb = true) (k : Kf (ss.map some) (ds.map some) S po S') : Kp os ρ S S' := fun p hp => by
  have no : ¬ OwA (ss.map some) (ds.map some) S p := fun ⟨i, m, d, a, _⟩ => vb_o vb a
  obtain ⟨k1, k2⟩ := k.fr p hp no
  refine ⟨fun b => ?_, fun n => k2 fun z => n (h.bg z)⟩
  by_cases e : BgA (ss.map some) (ds.map some) p
  · exact k1 e
  · rw [k2 e]
    exact (Kp.refl r p hp).1 b
theorem rv_new {os : OSt} {ρ : DSt} {S S' : Sto} {ss : List Sl} {ds : List D} {po : OSt} {t : OT} {d : D} (vb : ss.all Sl.vb = true) (h : RvF po (ds.map some) S (ss.map some) S' (.n t) d) : New S S' t d :=
  ⟨h.1, fun a f => (h.2 a f).1.elim id fun ⟨i, m, d, a, _⟩ => absurd a (vb_o vb)⟩
def callW {δ : Type} (ma : W δ) (m : α → W β) (c : δ → α) : W β := fun q x => ma (fun d => m (c d) q x) x
def methW {δ ω : Type} (mo : W ω) (ma : W δ) (m : α → W β) (c : ω → δ → α) : W β := fun q x => mo (fun o => ma (fun d => m (c o d) q x) x) x
/-- arguments: values, bags, own trees -/
def rdB (os : OSt) (sl : α → List Sl) (is : List Nat) (m : W α) : DTA := fun ρ S Q E => ∃ q x, R os ρ S ∧ m q x ∧ (∀ v ds S', Kp os ρ S S' → ArR os ρ (sl v) ds is → q v → Q ds S') ∧ (∀ n ds S', Kp os ρ S S' → x n ds → E n ds S')
variable {os : OSt} {sg : Sig β κ} {is : List Nat}
theorem b_nil : ImpA (rdB os (fun (_ : Unit) => []) [] (pu ())) dNil := fun ρ S Q E ⟨q, x, r, hm, k, kx⟩ => k () [] S (.refl r) ⟨rfl, rfl⟩ hm
theorem b_consV {e1 : α → D} {sl : γ → List Sl} {m1 : W α} {m2 : W γ} : ImpA (rdB os (fun (a : α × γ) => .v (e1 a.1) :: sl a.2) is (pairW m1 m2)) (dCons (rdE os e1 m1) (rdB os sl is m2)) := fun ρ S Q E ⟨q, x, r, hm, k, kx⟩ =>
  ⟨_, x, r, hm, fun a S1 k1 h1 => ⟨_, x, r.kp k1, h1, fun b ds S2 k2 hr h2 => k (a, b) _ S2 (k1.trans k2) ⟨ds, rfl, hr⟩ h2, fun n ds S2 k2 hx => kx n ds S2 (k1.trans k2) hx⟩, kx⟩
theorem b_consB {sl : γ → List Sl} {m2 : W γ} {i : Nat} (hi : At os i .b) : ImpA (rdB os (fun (a : γ) => .b :: sl a) (i :: is) m2) (dCons (dVar i) (rdB os sl is m2)) := fun ρ S Q E ⟨q, x, r, hm, k, kx⟩ => by
  obtain ⟨p, hr, _⟩ := r.bg i hi
  exact ⟨_, hr, q, x, r, hm, fun b ds S2 k2 ha h2 => k b _ S2 k2 ⟨i, p, ds, is, rfl, rfl, hi, hr, ha⟩ h2, kx⟩
theorem ArR.split {ρ : DSt} : ∀ {s1 s2 : List Sl} {ds : List D} {is : List Nat}, ArR os ρ (s1 ++ s2) ds is → s2.all (fun s => !s.own) = true → ∃ d1 d2, ds = d1 ++ d2 ∧ ArR os ρ s1 d1 is ∧ ArR os ρ s2 d2 []
  | [], s2, ds, is, h, hv => by
    have : ∀ {s2 : List Sl} {ds : List D} {is : List Nat}, ArR os ρ s2 ds is → s2.all (fun s => !s.own) = true → is = [] := by
      intro s2
      induction s2 with
      | nil => intro ds is h _; exact h.2
      | cons s s2 ih =>
        intro ds is h hv
        rw [List.all_cons] at hv
        obtain ⟨h1, h2⟩ := Bool.and_eq_true_iff.mp hv
        cases s with
        | v d => obtain ⟨r, _, h⟩ := h; exact ih h h2
        | o t => cases h1
        | b => cases h1
    have e := this h hv
    subst e
    exact ⟨[], ds, rfl, ⟨rfl, rfl⟩, h⟩
  | .v d :: s1, s2, ds, is, ⟨r, e, h⟩, hv => by
    obtain ⟨d1, d2, e2, a, b⟩ := ArR.split (s1 := s1) h hv
    exact ⟨d :: d1, d2, by rw [e, e2]; rfl, ⟨d1, rfl, a⟩, b⟩
  | .b :: s1, s2, ds, is, ⟨i, p, r, js, e, ei, x, y, h⟩, hv => by
    obtain ⟨d1, d2, e2, a, b⟩ := ArR.split (s1 := s1) h hv
    exact ⟨.ref p :: d1, d2, by rw [e, e2]; rfl, ⟨i, p, d1, js, rfl, ei, x, y, a⟩, b⟩
  | .o m :: s1, s2, ds, is, ⟨i, p, r, js, e, ei, x, y, h⟩, hv => by
    obtain ⟨d1, d2, e2, a, b⟩ := ArR.split (s1 := s1) h hv
    exact ⟨p :: d1, d2, by rw [e, e2]; rfl, ⟨i, p, d1, js, rfl, ei, x, y, a⟩, b⟩
theorem vals_own : ∀ {ds : List D}, (ds.map Sl.v).all (fun s => !s.own) = true
  | [] => rfl
  | d :: ds => by rw [List.map_cons, List.all_cons, vals_own]; rfl
theorem ArR.vals {ρ : DSt} : ∀ {ds es : List D} {is : List Nat}, ArR os ρ (ds.map Sl.v) es is → es = ds
  | [], es, is, h => h.1
  | d :: ds, es, is, ⟨r, e, h⟩ => by rw [e, ArR.vals h]
/-- a promise is asked -/
theorem spG_ask {δ : Type} {sl : α → List Sl} {rest : α → List D} {po : β → OSt} {rv : β → RV} {m : α → W β} {cl : δ → List Sl} (c : δ → α) (hc : ∀ d, cl d = sl (c d) ++ (rest (c d)).map Sl.v) (vb : ∀ d, (sl (c d)).all Sl.vb = true) (nd : is.Nodup)
    {ρ : DSt} {S : Sto} {Q : DQ} {E : DX} {d : δ} {ds : List D} {q : β → Prop} {x : XW} (r : R os ρ S) (ha : ArR os ρ (cl d) ds is) (hm : m (c d) q x) (k : ∀ v d' S', Kp os ρ S S' → (∀ y, rv v = .v y → d' = y) → (∀ t, rv v = .n t → New S S' t d') → q v → Q d' S') (kx : ∀ n xs S', Kp os ρ S S' → x n xs → E n xs S') :
    spG sl rest po rv m ds S Q E := by
  rw [hc] at ha
  obtain ⟨d1, d2, e, h1, h2⟩ := ha.split vals_own
  have e2 := h2.vals
  subst e2
  exact ⟨c d, q, x, d1, e, h1.len, h1.R nd r, hm, fun v d' S' kp rr hv => k v d' S' (kp.vb h1 r (vb d)) (fun y ey => by rw [ey] at rr; exact rr) (fun t et => by rw [et] at rr; exact rv_new (os := os) (ρ := ρ) (vb d) rr) hv, fun n xs S' kp hx => kx n xs S' (kp.vb h1 r (vb d)) hx⟩
theorem i_call {δ : Type} {sl : α → List Sl} {rest : α → List D} {po : β → OSt} {eb : β → D} {m : α → W β} {cl : δ → List Sl} {ma : W δ} (c : δ → α) (hc : ∀ d, cl d = sl (c d) ++ (rest (c d)).map Sl.v) (vb : ∀ d, (sl (c d)).all Sl.vb = true) (nd : is.Nodup := by decide) :
    Imp (rdE os eb (callW ma m c)) (dCall (spG sl rest po (rvV eb) m) (rdB os cl is ma)) := fun ρ S Q E ⟨q, x, r, hm, k, kx⟩ =>
  ⟨_, x, r, hm, fun d ds S1 k1 ha h1 => spG_ask c hc vb nd (r.kp k1) ha h1 (fun v d' S' kp ev _ hv => by rw [ev _ rfl]; exact k v S' (k1.trans kp) hv) (fun n xs S' kp hx => kx n xs S' (k1.trans kp) hx), kx⟩
/-- a slot ahead of the others -/
theorem R.cons {ρ : DSt} {S : Sto} {s : Sl} {d : D} (r : R os ρ S) (h : Hd S s d) (n : ∀ j s' d' a, At os j s' → Vf ρ j d' → Hp' S s d a → ¬ Hp' S s' d' a) : R (some s :: os) (some d :: ρ) S where
  len := Nat.succ_le_succ r.len
  hd := fun i s' a => by
    cases i with
    | zero =>
      have a : some (some s) = some (some s') := a
      cases a
      exact ⟨d, rfl, h⟩
    | succ i => exact r.hd i s' a
  ne := fun i j s1 s2 d1 d2 a hij h1 h2 v1 v2 p q => by
    cases i with
    | zero =>
      have h1 : some (some s) = some (some s1) := h1
      have v1 : some (some d) = some (some d1) := v1
      cases h1
      cases v1
      cases j with
      | zero => exact hij rfl
      | succ j => exact n j s2 d2 a h2 v2 p q
    | succ i =>
      cases j with
      | zero =>
        have h2 : some (some s) = some (some s2) := h2
        have v2 : some (some d) = some (some d2) := v2
        cases h2
        cases v2
        exact n i s1 d1 a h1 v1 q p
      | succ j => exact r.ne i j s1 s2 d1 d2 a (fun e => hij (by rw [e])) h1 h2 v1 v2 p q
/-- more places at the end -/
theorem pad_env {ss : List Sl} {ds : List D} {S : Sto} {n : Nat} (hl : ds.length = ss.length) (r : R (ss.map some) (ds.map some) S) : R (ss.map some ++ List.replicate (n - ss.length) none) (startD n ds) S := by
  unfold startD
  rw [hl]
  have at_ : ∀ {i s}, At (ss.map some ++ List.replicate (n - ss.length) none) i s → At (ss.map some) i s := fun {i s} a => by
    unfold At at a ⊢
    by_cases h : i < (ss.map some).length
    · rwa [List.getElem?_append_left h] at a
    · rw [List.getElem?_append_right (Nat.le_of_not_lt h), List.getElem?_replicate] at a
      split at a <;> cases a
  have rf : ∀ {i : Nat} {x : Option D}, (ds.map some)[i]? = some x → (ds.map some ++ List.replicate (n - ss.length) none)[i]? = some x := fun {i x} a => by
    rw [List.getElem?_append_left (List.getElem?_eq_some_iff.mp a).1]
    exact a
  have fr : ∀ {i : Nat} {d : D}, Vf (ds.map some ++ List.replicate (n - ss.length) none) i d → Vf (ds.map some) i d := fun {i d} a => by
    unfold Vf at a ⊢
    by_cases h : i < (ds.map some).length
    · rwa [List.getElem?_append_left h] at a
    · rw [List.getElem?_append_right (Nat.le_of_not_lt h), List.getElem?_replicate] at a
      split at a <;> cases a
  refine ⟨?_, fun i s a => ?_, fun i j s s' d d' a n h1 h2 v1 v2 => r.ne i j s s' d d' a n (at_ h1) (at_ h2) (fr v1) (fr v2)⟩
  · simp [hl]
  · obtain ⟨d, x, y⟩ := r.hd i s (at_ a)
    exact ⟨d, rf x, y⟩
/-- slots behind: pinned ones -/
def poAll (pz : List Nat) (k : Nat) : OSt → Bool
  | [] => true
  | none :: ss => poAll pz (k + 1) ss
  | some _ :: ss => pz.contains k && poAll pz (k + 1) ss
theorem poAll_at {pz : List Nat} : ∀ {os : OSt} {k i : Nat} {s : Sl}, poAll pz k os = true → At os i s → pz.contains (k + i) = true
  | [], k, i, s, _, a => by unfold At at a; simp at a
  | none :: os, k, 0, s, _, a => by unfold At at a; simp at a
  | none :: os, k, i + 1, s, h, a => by
    have := poAll_at (k := k + 1) (i := i) (s := s) (by unfold poAll at h; exact h) a
    rwa [show k + 1 + i = k + (i + 1) from by omega] at this
  | some x :: os, k, 0, s, h, a => by
    unfold poAll at h
    exact (Bool.and_eq_true_iff.mp h).1
  | some x :: os, k, i + 1, s, h, a => by
    unfold poAll at h
    have := poAll_at (k := k + 1) (i := i) (s := s) (Bool.and_eq_true_iff.mp h).2 a
    rwa [show k + 1 + i = k + (i + 1) from by omega] at this
/-- the body at the entry -/
theorem ent {n : Nat} {sl : α → List Sl} {rest : α → List D} {m : α → W β} {osf : α → OSt} {δ : Type} {res : δ → OSt} {mb : α → M δ β κ} {fin : δ → β} (bound : List D → List D → List D) (sl2 : α → List Sl)
    (hb : ∀ a pre, pre.length = (sl a).length → ∀ S, R ((sl a).map some) (pre.map some) S → R ((sl2 a).map some) ((bound pre (rest a)).map some) S ∧ (bound pre (rest a)).length = (sl2 a).length ∧ (∀ i s, s.own = true → (At ((sl2 a).map some) i s ↔ At ((sl a).map some) i s)) ∧ (∀ i, i < (sl a).length → ((bound pre (rest a)).map some)[i]? = (pre.map some)[i]?))
    (hos : ∀ a, osf a = (sl2 a).map some ++ List.replicate (n - (sl2 a).length) none) (hm : ∀ a q x, m a q x → mb a (fun r => q (fin r)) ⟨q, fun _ => False, fun _ => False, x⟩)
    (hpz : ∀ a i, sg.pz.contains i = true → i < (sl a).length) (hpo : ∀ b, poAll sg.pz 0 (sg.po b) = true) (hpl : ∀ a b, (sg.po b).length ≤ (sl a).length)
    (hfin : ∀ r, sg.rv (fin r) = .v .non ∧ Le (sg.po (fin r)) (res r)) (hx : sg.osx = []) {ds : List D} {S : Sto} {Q : DQ} {E : DX} (h : spG sl rest sg.po sg.rv m ds S Q E) :
    ∃ a pre, ds = pre ++ rest a ∧ pre.length = (sl a).length ∧ ∃ b, rdS sg (osf b) res (mb b) { nx := fun _ S' => Q .non S', rt := Q, xx := fun _ => E } (startD n (bound pre (rest a))) S := by
  obtain ⟨a, q, x, pre, ed, hl, r, h, kq, kx⟩ := h
  refine ⟨a, pre, ed, hl, a, ?_⟩
  obtain ⟨r2, hl2, hat, hvf⟩ := hb a pre hl S r
  classical
  let F : Fr := ⟨fun p => if OwA ((sl a).map some) (pre.map some) S p then none else S p, BgA ((sl a).map some) (pre.map some), fun i => if sg.pz.contains i = true then pre[i]? else none⟩
  have re := pad_env (n := n) hl2 r2
  have at_ : ∀ {i s}, At ((sl2 a).map some ++ List.replicate (n - (sl2 a).length) none) i s → At ((sl2 a).map some) i s := fun {i s} h0 => by
    unfold At at h0 ⊢
    by_cases h : i < ((sl2 a).map some).length
    · rwa [List.getElem?_append_left h] at h0
    · rw [List.getElem?_append_right (Nat.le_of_not_lt h), List.getElem?_replicate] at h0
      split at h0 <;> cases h0
  have lt : ∀ {ss : List Sl} {i s}, At (ss.map some) i s → i < ss.length := fun {ss i s} h0 => by
    have := (List.getElem?_eq_some_iff.mp h0).1
    rwa [List.length_map] at this
  have st : ∀ {i : Nat}, i < (sl2 a).length → (startD n (bound pre (rest a)))[i]? = ((bound pre (rest a)).map some)[i]? := fun {i} hi => by
    unfold startD
    rw [List.getElem?_append_left (by rw [List.length_map, hl2]; exact hi)]
  have plt : ∀ i, sg.pz.contains i = true → i < (sl a).length := hpz a
  -- what the pinned slots hold
  have pin : ∀ i d, F.pin i = some d → Vf (pre.map some) i d := fun i d e => by
    have e : (if sg.pz.contains i = true then pre[i]? else none) = some d := e
    by_cases c : sg.pz.contains i = true
    · rw [if_pos c] at e
      exact rf_map e
    · rw [if_neg c] at e; cases e
  have pin2 : ∀ i d, sg.pz.contains i = true → Vf (pre.map some) i d → F.pin i = some d := fun i d c e => by
    show (if sg.pz.contains i = true then pre[i]? else none) = some d
    rw [if_pos c]
    exact vf_map e
  have own : ∀ i s d c, At ((sl2 a).map some) i s → Vf ((bound pre (rest a)).map some) i d → Hp' S s d c → F.S0 c = none ∨ (s = .b ∧ F.B0 c) := fun i s d c x1 y1 f => by
    cases s with
    | v y => exact f.elim
    | o t =>
      have x2 := (hat i _ rfl).mp x1
      unfold Vf at y1
      rw [hvf i (lt x2)] at y1
      exact .inl (if_pos ⟨i, t, d, x2, y1, f⟩)
    | b =>
      have x2 := (hat i _ rfl).mp x1
      unfold Vf at y1
      rw [hvf i (lt x2)] at y1
      have f : d = .ref c := f
      subst f
      exact .inr ⟨rfl, i, x2, y1⟩
  have g0 : G F (osf a) (startD n (bound pre (rest a))) S := by
    refine ⟨by rw [hos]; exact re, fun p hp => ?_, fun i s d c x1 y1 f => ?_, fun i d e => ?_⟩
    · have hn : ¬ OwA ((sl a).map some) (pre.map some) S p := fun o => hp (if_pos o)
      have eS : F.S0 p = S p := if_neg hn
      rw [eS] at hp ⊢
      refine ⟨fun ⟨i, x1, y1⟩ => ?_, fun _ => rfl⟩
      obtain ⟨p', x2, y2⟩ := r.bg i x1
      cases vf_eq x2 y1
      exact y2
    · rw [hos] at x1
      have x1 := at_ x1
      refine own i s d c x1 ?_ f
      unfold Vf at y1 ⊢
      rwa [st (lt x1)] at y1
    · have v := pin i d e
      have hi : i < (sl a).length := by
        have := (List.getElem?_eq_some_iff.mp v).1
        rwa [List.length_map, hl] at this
      have v2 : Vf ((bound pre (rest a)).map some) i d := by
        unfold Vf
        rw [hvf i hi]
        exact v
      have hi2 : i < (sl2 a).length := by
        have := (List.getElem?_eq_some_iff.mp v2).1
        rwa [List.length_map, hl2] at this
      unfold Vf
      rw [st hi2]
      exact v2
  have hz : PzOk sg F := fun i => by
    show (if sg.pz.contains i = true then pre[i]? else none).isSome = _
    by_cases c : sg.pz.contains i = true
    · rw [if_pos c, c]
      have := plt i c
      rw [List.getElem?_eq_getElem (by rw [hl]; exact this)]
      rfl
    · rw [if_neg c]
      cases e : sg.pz.contains i with
      | true => exact absurd e c
      | false => rfl
  -- behind the body
  have kfE : ∀ (po : OSt), po.length ≤ (sl a).length → (∀ i s, At po i s → sg.pz.contains i = true) → ∀ ρ' S', G F po ρ' S' → Kf ((sl a).map some) (pre.map some) S po S' ∧ (∀ i s d, At po i s → (Vf (pre.map some) i d ↔ Vf ρ' i d)) := fun po hlen hp ρ' S' g' => by
    have vv : ∀ i s d, At po i s → (Vf (pre.map some) i d ↔ Vf ρ' i d) := fun i s d ha => by
      have c := hp i s ha
      obtain ⟨d0, e0⟩ := hz.some c
      have v1 := pin i d0 e0
      have v2 := g'.pin i d0 e0
      constructor
      · intro v; cases vf_eq v v1; exact v2
      · intro v; cases vf_eq v v2; exact v1
    refine ⟨⟨⟨?_, fun i s ha => ?_, fun i j s s' d d' c n h1 h2 v1 v2 => g'.env.ne i j s s' d d' c n h1 h2 ((vv i s d h1).mp v1) ((vv j s' d' h2).mp v2)⟩, fun p hp' no => ?_, fun i s d c ha hv f => ?_⟩, vv⟩
    · -- the slots behind are no more than the arguments
      rw [List.length_map, hl]
      exact hlen
    · obtain ⟨d, v, hd⟩ := g'.env.hd i s ha
      exact ⟨d, (vv i s d ha).mpr v, hd⟩
    · have eS : F.S0 p = S p := if_neg no
      obtain ⟨f1, f2⟩ := g'.fr p (by rw [eS]; exact hp')
      rw [eS] at f2
      exact ⟨f1, f2⟩
    · rcases g'.own i s d c ha ((vv i s d ha).mp hv) f with z | ⟨z, j, x1, y1⟩
      · by_cases o : OwA ((sl a).map some) (pre.map some) S c
        · obtain ⟨j, t, d', x1, y1, f1⟩ := o
          exact .inr ⟨j, .o t, d', x1, y1, f1, fun e => by cases e⟩
        · have eS : F.S0 c = S c := if_neg o
          rw [eS] at z
          exact .inl z
      · subst z
        exact .inr ⟨j, .b, _, x1, y1, rfl, id⟩
  refine ⟨_, _, F, g0, hz, hm a q x h, ⟨fun a' ρ' S' g' h' => ?_, fun b d ρ' S' g' rr h' => ?_, fun _ _ _ _ z => z.elim, fun _ _ _ _ z => z.elim, fun n ds ρ' S' g' h' => ?_⟩⟩
  · obtain ⟨e1, l1⟩ := hfin a'
    obtain ⟨kf, _⟩ := kfE _ (hpl a _) (fun i s ha => by have := poAll_at (hpo (fin a')) ha; rwa [Nat.zero_add] at this) ρ' S' (g'.le l1)
    exact kq (fin a') .non S' kf (by rw [e1]; rfl) h'
  · obtain ⟨kf, vv⟩ := kfE _ (hpl a _) (fun i s ha => by have := poAll_at (hpo b) ha; rwa [Nat.zero_add] at this) ρ' S' g'
    refine kq b d S' kf ?_ h'
    cases e : sg.rv b with
    | v y => rw [e] at rr; exact rr
    | n t =>
      rw [e] at rr
      refine ⟨rr.1, fun c f => ⟨?_, fun j s y ha hv => (rr.2 c f).2 j s y ha ((vv j s y ha).mp hv)⟩⟩
      have z := (rr.2 c f).1
      by_cases o : OwA ((sl a).map some) (pre.map some) S c
      · exact .inr o
      · have eS : F.S0 c = S c := if_neg o
        rw [eS] at z
        exact .inl z
    | p j =>
      rw [e] at rr
      exact pin j d rr
  · rw [hx] at g'
    obtain ⟨kf, _⟩ := kfE [] (Nat.zero_le _) (fun i s ha => by unfold At at ha; simp at ha) ρ' S' g'
    exact kx n ds S' kf h'
end
end DL
namespace DL
open PySem PySem.Spec PyProof.Rows L2
/-- data of a depth, equal as Python says exactly if they are equal -/
class EqE {α : Type} (e : α → D) (n : outParam Nat) : Prop where
  eq : ∀ a b, PyData.eqv (e a).p (e b).p = true ↔ a = b
  dat : ∀ a, (e a).dat n = true
theorem dat_up : ∀ {n m : Nat}, n ≤ m → ∀ {d : D}, d.dat n = true → d.dat m = true := by
  intro n
  induction n with
  | zero => intro m _ d h; cases d <;> cases m <;> first | rfl | cases h
  | succ n ih =>
    intro m hm d h
    obtain ⟨m, rfl⟩ : ∃ k, m = k + 1 := ⟨m - 1, by omega⟩
    have hm : n ≤ m := by omega
    cases d with
    | tup xs => exact List.all_eq_true.mpr fun x hx => ih hm (List.all_eq_true.mp h x hx)
    | lst xs => exact List.all_eq_true.mpr fun x hx => ih hm (List.all_eq_true.mp h x hx)
    | cst xs => exact List.all_eq_true.mpr fun x hx => ih hm (List.all_eq_true.mp h x hx)
    | _ => first | rfl | cases h
theorem dat_view {d : D} {n : Nat} (h : d.dat n = true) (S : Sto) : view S d = d := by cases d <;> first | rfl | (cases n <;> cases h)
instance : EqE D.int 0 := ⟨fun a b => by unfold D.p PyData.eqv; exact beq_iff_eq, fun _ => rfl⟩
instance : EqE D.bl 0 := ⟨fun a b => by unfold D.p PyData.eqv; exact beq_iff_eq, fun _ => rfl⟩
instance : EqE D.str 0 := ⟨fun a b => by unfold D.p PyData.eqv; exact beq_iff_eq, fun _ => rfl⟩
instance : EqE eN 0 := ⟨fun a b => by unfold eN D.p PyData.eqv; exact ⟨fun _ => rfl, fun _ => rfl⟩, fun _ => rfl⟩
theorem eqvAll_map {α : Type} {e : α → D} {n : Nat} [E : EqE e n] : ∀ xs ys : List α, PyData.eqvAll (D.ps (xs.map e)) (D.ps (ys.map e)) = true ↔ xs = ys
  | [], [] => by unfold List.map D.ps PyData.eqvAll; simp
  | [], y :: ys => by unfold List.map D.ps PyData.eqvAll; simp
  | x :: xs, [] => by unfold List.map D.ps PyData.eqvAll; simp
  | x :: xs, y :: ys => by
    rw [List.map_cons, List.map_cons]
    unfold D.ps PyData.eqvAll
    rw [Bool.and_eq_true, E.eq, eqvAll_map xs ys]
    simp
instance {α : Type} {e : α → D} {n : Nat} [E : EqE e n] : EqE (eL e) (n + 1) := ⟨fun a b => by unfold eL D.p PyData.eqv; exact eqvAll_map a b, fun a => List.all_eq_true.mpr fun x hx => by
  obtain ⟨y, _, e⟩ := List.mem_map.mp hx
  subst e
  exact E.dat y⟩
instance {α : Type} {e : α → D} {n : Nat} [E : EqE e n] : EqE (eT e) (n + 1) := ⟨fun a b => by unfold eT D.p PyData.eqv; exact eqvAll_map a b, fun a => List.all_eq_true.mpr fun x hx => by
  obtain ⟨y, _, e⟩ := List.mem_map.mp hx
  subst e
  exact E.dat y⟩
instance {α β : Type} {e1 : α → D} {e2 : β → D} {n m : Nat} [E1 : EqE e1 n] [E2 : EqE e2 m] : EqE (eP e1 e2) (max n m + 1) := ⟨fun a b => by
  unfold eP D.p PyData.eqv D.ps PyData.eqvAll D.ps PyData.eqvAll D.ps PyData.eqvAll
  rw [Bool.and_eq_true, Bool.and_true, E1.eq, E2.eq]
  exact Prod.ext_iff.symm, fun a => by
  show ((e1 a.1).dat (max n m) && ((e2 a.2).dat (max n m) && true)) = true
  rw [dat_up (Nat.le_max_left ..) (E1.dat _), dat_up (Nat.le_max_right ..) (E2.dat _)]
  rfl⟩
instance {α β γ : Type} {e1 : α → D} {e2 : β → D} {e3 : γ → D} {n m k : Nat} [E1 : EqE e1 n] [E2 : EqE e2 m] [E3 : EqE e3 k] : EqE (eP3 e1 e2 e3) (max n (max m k) + 1) := ⟨fun a b => by
  unfold eP3 D.p PyData.eqv D.ps PyData.eqvAll D.ps PyData.eqvAll D.ps PyData.eqvAll D.ps PyData.eqvAll
  rw [Bool.and_eq_true, Bool.and_eq_true, Bool.and_true, E1.eq, E2.eq, E3.eq]
  exact ⟨fun ⟨x, y, z⟩ => Prod.ext x (Prod.ext y z), fun h => by rw [h]; exact ⟨rfl, rfl, rfl⟩⟩, fun a => by
  show ((e1 a.1).dat (max n (max m k)) && ((e2 a.2.1).dat (max n (max m k)) && ((e3 a.2.2).dat (max n (max m k)) && true))) = true
  rw [dat_up (by omega) (E1.dat _), dat_up (by omega) (E2.dat _), dat_up (by omega) (E3.dat _)]
  rfl⟩
instance {α β γ δ : Type} {e1 : α → D} {e2 : β → D} {e3 : γ → D} {e4 : δ → D} {n m k l : Nat} [E1 : EqE e1 n] [E2 : EqE e2 m] [E3 : EqE e3 k] [E4 : EqE e4 l] : EqE (eP4 e1 e2 e3 e4) (max n (max m (max k l)) + 1) := ⟨fun a b => by
  unfold eP4 D.p PyData.eqv D.ps PyData.eqvAll D.ps PyData.eqvAll D.ps PyData.eqvAll D.ps PyData.eqvAll D.ps PyData.eqvAll
  rw [Bool.and_eq_true, Bool.and_eq_true, Bool.and_eq_true, Bool.and_true, E1.eq, E2.eq, E3.eq, E4.eq]
  exact ⟨fun ⟨x, y, z, w⟩ => Prod.ext x (Prod.ext y (Prod.ext z w)), fun h => by rw [h]; exact ⟨rfl, rfl, rfl, rfl⟩⟩, fun a => by
  show ((e1 a.1).dat (max n (max m (max k l))) && ((e2 a.2.1).dat (max n (max m (max k l))) && ((e3 a.2.2.1).dat (max n (max m (max k l))) && ((e4 a.2.2.2).dat (max n (max m (max k l))) && true)))) = true
  rw [dat_up (by omega) (E1.dat _), dat_up (by omega) (E2.dat _), dat_up (by omega) (E3.dat _), dat_up (by omega) (E4.dat _)]
  rfl⟩
/-- never None -/
class NnE {α : Type} (e : α → D) : Prop where
  nn : ∀ a, (e a).isN = false ∧ PyData.eqv .none (e a).p = false ∧ PyData.eqv (e a).p .none = false
instance : NnE D.int := ⟨fun _ => ⟨rfl, by unfold D.p PyData.eqv; rfl, by unfold D.p PyData.eqv; rfl⟩⟩
instance : NnE D.bl := ⟨fun _ => ⟨rfl, by unfold D.p PyData.eqv; rfl, by unfold D.p PyData.eqv; rfl⟩⟩
instance : NnE D.str := ⟨fun _ => ⟨rfl, by unfold D.p PyData.eqv; rfl, by unfold D.p PyData.eqv; rfl⟩⟩
instance {α : Type} {e : α → D} : NnE (eL e) := ⟨fun _ => ⟨rfl, by unfold eL D.p PyData.eqv; rfl, by unfold eL D.p PyData.eqv; rfl⟩⟩
instance {α : Type} {e : α → D} : NnE (eT e) := ⟨fun _ => ⟨rfl, by unfold eT D.p PyData.eqv; rfl, by unfold eT D.p PyData.eqv; rfl⟩⟩
instance {α β : Type} {e1 : α → D} {e2 : β → D} : NnE (eP e1 e2) := ⟨fun _ => ⟨rfl, by unfold eP D.p PyData.eqv; rfl, by unfold eP D.p PyData.eqv; rfl⟩⟩
instance {α β γ : Type} {e1 : α → D} {e2 : β → D} {e3 : γ → D} : NnE (eP3 e1 e2 e3) := ⟨fun _ => ⟨rfl, by unfold eP3 D.p PyData.eqv; rfl, by unfold eP3 D.p PyData.eqv; rfl⟩⟩
instance {α β γ δ : Type} {e1 : α → D} {e2 : β → D} {e3 : γ → D} {e4 : δ → D} : NnE (eP4 e1 e2 e3 e4) := ⟨fun _ => ⟨rfl, by unfold eP4 D.p PyData.eqv; rfl, by unfold eP4 D.p PyData.eqv; rfl⟩⟩
instance {α : Type} {e : α → D} {n : Nat} [E : EqE e n] [N : NnE e] : EqE (eO e) n := ⟨fun a b => by
  have n1 : D.non.p = .none := by unfold D.p; rfl
  cases a <;> cases b
  · exact ⟨fun _ => rfl, fun _ => by unfold eO; rw [n1]; unfold PyData.eqv; rfl⟩
  · show PyData.eqv D.non.p _ = true ↔ _
    rw [n1, (show PyData.eqv .none (eO e (some _)).p = false from (N.nn _).2.1)]
    simp
  · show PyData.eqv _ D.non.p = true ↔ _
    rw [n1, (show PyData.eqv (eO e (some _)).p .none = false from (N.nn _).2.2)]
    simp
  · show PyData.eqv (e _).p (e _).p = true ↔ _
    rw [E.eq]
    simp, fun a => by
  cases a with
  | none => cases n <;> rfl
  | some a => exact E.dat a⟩
section
variable {α β γ τ : Type} {e : α → D} {n : Nat}
theorem eqv_dec [E : EqE e n] [DecidableEq α] (a b : α) : PyData.eqv (e a).p (e b).p = decide (a = b) := by
  by_cases h : a = b
  · rw [decide_eq_true h, (E.eq a b).mpr h]
  · rw [decide_eq_false h]
    exact Bool.eq_false_iff.mpr fun z => h ((E.eq a b).mp z)
theorem eqR_of [E : EqE e n] [DecidableEq α] (hn : n ≤ 32) {a b : α} {S : Sto} {Q : Bool → Prop} (h : Q (decide (a = b))) : rEqR (e a) (e b) S Q := by
  have da := E.dat a
  have db := E.dat b
  have h2 : rEqD (e a) (e b) S Q := by
    unfold rEqD
    rw [dat_view da, dat_view db, eqv_dec]
    exact ⟨dat_up hn da, dat_up hn db, h⟩
  unfold rEqR
  split
  · rename_i e1 _; rw [e1] at da; cases n <;> cases da
  · rename_i e1 _; rw [e1] at da; cases n <;> cases da
  · rename_i e1; rw [e1] at db; cases n <;> cases db
  · exact h2
theorem op_eq [EqE e n] [DecidableEq α] (hn : n ≤ 32 := by decide) : Op2 (rCmp .Eq) e e D.bl (fun a b q => q (decide (a = b))) := fun a b q S Q E h k => eqR_of hn (Q := fun b => Q (.bl b) S) (k _ h)
theorem op_ne [EqE e n] [DecidableEq α] (hn : n ≤ 32 := by decide) : Op2 (rCmp .NotEq) e e D.bl (fun a b q => q (!decide (a = b))) := fun a b q S Q E h k => eqR_of hn (Q := fun b => Q (.bl (!b)) S) (k _ h)
theorem op_lt : Op2 (rCmp .Lt) D.int D.int D.bl (fun a b q => q (decide (a < b))) := fun a b q S Q E h k => k _ h
theorem op_le : Op2 (rCmp .LtE) D.int D.int D.bl (fun a b q => q (decide (a ≤ b))) := fun a b q S Q E h k => k _ h
theorem op_gt : Op2 (rCmp .Gt) D.int D.int D.bl (fun a b q => q (decide (b < a))) := fun a b q S Q E h k => k _ h
theorem op_ge : Op2 (rCmp .GtE) D.int D.int D.bl (fun a b q => q (decide (b ≤ a))) := fun a b q S Q E h k => k _ h
theorem op_isN [N : NnE e] : Op2 (rCmp .Is) (eO e) eN D.bl (fun a _ q => q a.isNone) := fun a b q S Q E h k => ⟨rfl, by
  have := k _ h
  cases a with
  | none => exact this
  | some a => show Q (.bl (e a).isN) S; rw [(N.nn a).1]; exact this⟩
theorem op_add {m : Bool} : Op2 (rBin m .Add) D.int D.int D.int (fun a b q => q (a + b)) := fun a b q S Q E h k => k _ h
theorem op_sub {m : Bool} : Op2 (rBin m .Sub) D.int D.int D.int (fun a b q => q (a - b)) := fun a b q S Q E h k => ⟨a, b, rfl, rfl, k _ h⟩
theorem op_mul {m : Bool} : Op2 (rBin m .Mult) D.int D.int D.int (fun a b q => MulOk a b ∧ q (a * b)) := fun a b q S Q E h k => ⟨h.1, k _ h.2⟩
theorem op_mod {m : Bool} : Op2 (rBin m .Mod) D.int D.int D.int (fun a b q => 0 < b ∧ q (a % b)) := fun a b q S Q E h k => ⟨a, b, rfl, rfl, h.1, k _ h.2⟩
theorem op_pow {m : Bool} : Op2 (rBin m .Pow) D.int D.int D.int (fun a b q => (0 ≤ b ∧ b ≤ 1000000 ∧ a.natAbs < 2 ^ 64) ∧ q (a ^ b.toNat)) := fun a b q S Q E h k => ⟨a, b, rfl, rfl, h.1, k _ h.2⟩
theorem op_addL : Op2 (rBin false .Add) (eL e) (eL e) (eL e) (fun a b q => a.length + b.length ≤ sizeLine ∧ q (a ++ b)) := fun a b q S Q E h k => by
  refine ⟨_, _, rfl, rfl, by rw [List.length_map, List.length_map]; exact h.1, ?_⟩
  have := k _ h.2
  unfold eL at this
  rw [List.map_append] at this
  exact this
theorem op_neg : Op1 rNeg D.int D.int (fun a q => q (-a)) := fun a q S Q E h k => ⟨a, rfl, k _ h⟩
/-- an item of a sequence -/
def idxK (xs : List α) (i : Int) (q : α → Prop) : Prop := ∃ a, atI xs i = some a ∧ q a
theorem atI_map {xs : List α} {i : Int} {f : α → β} {a : α} (h : atI xs i = some a) : atI (xs.map f) i = some (f a) := by
  unfold atI at h ⊢
  rw [List.length_map]
  cases q : ixN xs.length i with
  | none => rw [q] at h; cases h
  | some j =>
    rw [q] at h
    show (xs.map f)[j]? = _
    have h : xs[j]? = some a := h
    rw [List.getElem?_map, h]
    rfl
theorem op_idxL : Op2 rIdx (eL e) D.int e (fun xs i q => idxK xs i q) := fun xs i q S Q E ⟨a, h, hq⟩ k => ⟨_, i, e a, rfl, rfl, atI_map h, k _ hq⟩
/-- an item of a tuple by its place -/
theorem i_item {os : OSt} {δ : Type} {ds : δ → List D} {e2 : β → D} {f : δ → β} {m : W δ} (j : Nat) (h : ∀ a, atI (ds a) (j : Nat) = some (e2 (f a))) : Imp (rdE os e2 (mapW m f)) (dOp rIdx (rdE os (fun a => D.tup (ds a)) m) (rdE os D.int (pu ((j : Nat) : Int)))) := fun ρ S Q E ⟨q, x, r, hm, k, kx⟩ =>
  ⟨_, x, r, hm, fun a S1 k1 h1 => ⟨fun v => v = ((j : Nat) : Int), X0, r.kp k1, rfl, fun v S2 k2 hv => by
    subst hv
    exact ⟨_, _, _, rfl, rfl, h a, k _ S2 (k1.trans k2) h1⟩, fun _ _ _ _ z => z.elim⟩, kx⟩
/-- slices -/
def partW : Option (W Int) → W (Option Int)
  | none => fun q _ => q none
  | some m => fun q x => m (fun i => q (some i)) x
def rdO (os : OSt) : Option (W Int) → Option DT := Option.map (rdE os D.int)
theorem o_part {os : OSt} {o : Option (W Int)} {ρ : DSt} {S : Sto} {Q : Option Int → Sto → Prop} {E : DX} {q : Option Int → Prop} {x : XW} (r : R os ρ S) (h : partW o q x) (k : ∀ v S', Kp os ρ S S' → q v → Q v S') (kx : ∀ n ds S', Kp os ρ S S' → x n ds → E n ds S') : dPart (rdO os o) ρ S Q E := by
  cases o with
  | none => exact k none S (.refl r) h
  | some m => exact ⟨_, x, r, h, fun v S' kp hv => ⟨v, rfl, k _ S' kp hv⟩, kx⟩
theorem cutD_map {f : α → β} (xs : List α) (lo hi : Option Int) : cutD (xs.map f) lo hi = (cutD xs lo hi).map f := by
  unfold cutD
  rw [List.length_map, List.map_take, List.map_drop]
def slcW (m : W α) (lo hi : Option (W Int)) (g : α → Option Int → Option Int → γ) : W γ := fun q x => m (fun a => partW lo (fun l => partW hi (fun h => q (g a l h)) x) x) x
theorem i_slc {os : OSt} {e1 : α → D} {e2 : γ → D} {g : α → Option Int → Option Int → γ} {m : W α} {lo hi : Option (W Int)} (hg : ∀ a l h S (Q : DQ), Q (e2 (g a l h)) S → rSlc false (e1 a) l h S Q) :
    Imp (rdE os e2 (slcW m lo hi g)) (dSlc false (rdE os e1 m) (rdO os lo) (rdO os hi)) := fun ρ S Q E ⟨q, x, r, hm, k, kx⟩ =>
  ⟨_, x, r, hm, fun a S1 k1 h1 => o_part (r.kp k1) h1 (fun l S2 k2 h2 => o_part ((r.kp k1).kp k2) h2 (fun h S3 k3 h3 => hg a l h S3 Q (k _ S3 ((k1.trans k2).trans k3) h3)) fun n ds S3 k3 hx => kx n ds S3 ((k1.trans k2).trans k3) hx) fun n ds S2 k2 hx => kx n ds S2 (k1.trans k2) hx, kx⟩
theorem sl_L : ∀ (a : List α) l h S (Q : DQ), Q (eL e (cutD a l h)) S → rSlc false (eL e a) l h S Q := fun a l h S Q q => ⟨_, rfl, by
  unfold eL at q
  rw [← cutD_map] at q
  exact q⟩
/-- built-in functions -/
abbrev a1 (e1 : α → D) (a : α × Unit) : List D := [e1 a.1]
abbrev a2 (e1 : α → D) (e2 : β → D) (a : α × β × Unit) : List D := [e1 a.1, e2 a.2.1]
theorem f_lenC : OpA rLen (a1 eC) D.int (fun a q => q (a.1.length : Int)) := fun a q S Q E h k => ⟨_, _, rfl, rfl, by rw [List.length_map]; exact k _ h⟩
theorem f_max : OpA rMax (a2 D.int D.int) D.int (fun a q => q (if a.2.1 > a.1 then a.2.1 else a.1)) := fun a q S Q E h k => ⟨_, _, rfl, k _ h⟩
theorem f_min : OpA rMin (a2 D.int D.int) D.int (fun a q => q (if a.2.1 < a.1 then a.2.1 else a.1)) := fun a q S Q E h k => ⟨_, _, rfl, k _ h⟩
theorem f_int : OpA rInt (a1 D.int) D.int (fun a q => q a.1) := fun a q S Q E h k => ⟨_, _, rfl, rfl, k _ h⟩
/-- repr -/
def Shw (d : D) : Prop := d.dat 16 = true ∧ d.p.showable = true ∧ d.p.shown.length ≤ sizeLine
theorem op_neR : Op2 (rCmp .NotEq) D.rp D.rp D.bl (fun a b q => q (!decide (a.shown = b.shown))) := fun a b q S Q E h k => k _ h
end
end DL
namespace DL
open PySem PySem.Spec PyProof.Rows L2
section
variable {α β κ δ : Type} {sg : Sig β κ} {sl : α → List Sl} {rest : α → List D} {m : α → W β} {osf : α → OSt} {res : δ → OSt} {mb : α → M δ β κ} {fin : δ → β} {n mm : Nat}
theorem ent_body (hlen : ∀ a, (sl a).length = mm) (hos : ∀ a, osf a = (sl a).map some ++ List.replicate (n - (sl a).length) none) (hm : ∀ a q x, m a q x → mb a (fun r => q (fin r)) ⟨q, fun _ => False, fun _ => False, x⟩)
    (hpz : sg.pz.all (· < mm) = true) (hpo : ∀ b, poAll sg.pz 0 (sg.po b) = true) (hpl : ∀ b, (sg.po b).length ≤ mm)
    (hfin : ∀ r, sg.rv (fin r) = .v .non ∧ Le (sg.po (fin r)) (res r)) (hx : sg.osx = []) {ds : List D} {S : Sto} {Q : DQ} {E : DX} (h : spG sl (fun _ => []) sg.po sg.rv m ds S Q E) :
    bodySp n mm (fun DD ρ S => ∃ b, rdS sg (osf b) res (mb b) DD ρ S) ds S Q E := by
  obtain ⟨a, pre, ed, hl, h⟩ := ent (n := n) (fun pre _ => pre) sl (fun a pre hl S r => ⟨r, hl, fun _ _ _ => Iff.rfl, fun _ _ => rfl⟩) hos hm (fun a i hi => by
    rw [hlen]
    have := List.all_eq_true.mp hpz i (List.contains_iff_mem.mp hi)
    simpa using this) hpo (fun a b => by rw [hlen]; exact hpl b) hfin hx h
  rw [List.append_nil] at ed
  subst ed
  exact ⟨by rw [hl, hlen], h⟩
end
section
variable {P : Program} {w : World} {Kf : PySem.W.Frag} {A : Cla} {mg : Str → Option Value} {base : Heap} {N ps : List Str} {name qual : Str} {st : Stmt} {f : Addr} {k : Nat}
variable {α β κ δ : Type} {sg : Sig β κ} {sl : α → List Sl} {rest : α → List D} {m : α → W β} {osf : α → OSt} {res : δ → OSt} {mb : α → M δ β κ}
/-- a def's mirror -/
theorem fnT (fin : δ → β) (F : FunP Kf name qual st f) (Sc : FnScope N ps (defScope st))
    (hb : ∀ (kV doc pm cdv ct : Value) (an : Option Addr) (us : List Value), us.length = ps.length → bindArgs (PySem.W.fnOf name qual (defArgs st) (defBody st) (defScope st) .none kV doc pm an cdv ct) ⟨us, []⟩ = pure (ps.zip us))
    (hbody : ∀ (X : Cx) (Wx : WX), In P w Kf mg base N (defScope st) fAll k X Wx → HPs X → ∀ a, DStms X A Wx (defBody st) (rdS sg (osf a) res (mb a)))
    (hlen : ∀ a, (sl a).length = ps.length) (hos : ∀ a, osf a = (sl a).map some ++ List.replicate (N.length - (sl a).length) none) (hm : ∀ a q x, m a q x → mb a (fun r => q (fin r)) ⟨q, fun _ => False, fun _ => False, x⟩)
    (hpz : sg.pz.all (· < ps.length) = true) (hpo : ∀ b, poAll sg.pz 0 (sg.po b) = true) (hpl : ∀ b, (sg.po b).length ≤ ps.length)
    (hfin : ∀ r, sg.rv (fin r) = .v .non ∧ Le (sg.po (fin r)) (res r)) (hx : sg.osx = []) : FnD P w (cc Kf A) mg base (k + 1) f (spG sl (fun _ => []) sg.po sg.rv m) :=
  (fnd_mk F Sc hb fun X Wx h hp => dsU fun a => hbody X Wx h hp a).imp fun _ _ _ _ => ent_body hlen hos hm hpz hpo hpl hfin hx
end
section
variable {α β κ γ : Type} {sg : Sig β κ} {os : OSt}
def drawW (a : Int × Unit) : W Int := fun q _ => (0 < a.1 ∧ a.1 < 2 ^ 64) ∧ ∀ r, 0 ≤ r → r < a.1 → q r
theorem draw_T {ds : List D} {S : Sto} {Q : DQ} {E : DX} (h : spT (fun (a : Int × Unit) => [.b, .v (.int a.1)]) D.int drawW ds S Q E) : sp_draw ds S Q E := by
  obtain ⟨a, q, x, pre, ed, hl, r, ⟨⟨h0, h1⟩, hq⟩, kq, _⟩ := h
  rw [List.append_nil] at ed
  subst ed
  match ds, hl with
  | [d0, d1], _ =>
    have v1 : d1 = .int a.1 := by
      have := r.vl 1 (.int a.1) rfl
      exact Option.some.inj (Option.some.inj this)
    obtain ⟨p, hp, hbg⟩ := r.bg 0 rfl
    have v0 : d0 = .ref p := Option.some.inj (Option.some.inj hp)
    subst v0 v1
    obtain ⟨x1, x2, x3, x4⟩ := hbg
    refine ⟨p, a.1, rfl, h0, h1, .refl x4 x3, fun r' S' b r0 r1 => kq r' (.int r') S' ?_ rfl (hq r' r0 r1)⟩
    refine ⟨r_nil, fun p' hp' no => ?_, fun i s d a hi => by cases hi⟩
    have e : BgA [some .b, some (.v (.int a.1))] [some (.ref p), some (.int a.1)] p' ↔ p' = p := by
      constructor
      · rintro ⟨i, a1, b1⟩
        match i, a1, b1 with
        | 0, _, b1 => exact (D.ref.inj (Option.some.inj (Option.some.inj b1))).symm
        | 1, a1, _ => cases a1
      · rintro rfl
        exact ⟨0, rfl, rfl⟩
    refine ⟨fun z => ?_, fun z => b.2 p' (fun y => z (e.mpr y)) hp'⟩
    rw [e.mp z]
    obtain ⟨y1, y2, y3, y4⟩ := b.1
    exact ⟨y1, y2, y3, y4⟩
theorem kp_same' {ρ : DSt} {S S' : Sto} (r : R os ρ S) (h : ∀ p, S p ≠ none → S' p = S p) : Kp os ρ S S' := fun p hp => ⟨fun b => by rw [h p hp]; exact (Kp.refl r p hp).1 b, fun _ => h p hp⟩
/-- a new bag at a slot -/
theorem G.bag {F : Fr} {ρ : DSt} {S S' : Sto} {i : Nat} {p : Addr} (g : G F os ρ S) (h : F.pin i = none) (hp : S p = none) (b : Bg p S S') : G F (os.set i (some .b)) (ρ.set i (some (.ref p))) S' := by
  have off : ∀ q, S q ≠ none → S' q = S q := fun q hq => b.2 q (fun e => hq (by rw [e]; exact hp)) hq
  have k : Kp os ρ S S' := kp_same' g.env off
  refine (g.kp k).put (s := .b) h ?_ (fun j s' d' a n hj hv f z => ?_) fun a f => ?_
  · obtain ⟨y1, y2, y3, y4⟩ := b.1
    exact ⟨p, rfl, y1, y2, y3, y4⟩
  · have f : D.ref p = .ref a := f
    cases f
    obtain ⟨y, hy, hd⟩ := g.env.hd j s' hj
    cases vf_eq hv hy
    exact ((Hp'.eq g.env hj hv (fun t e => by subst e; exact k.tree g.env hj hv) p).mp z).live hd hp
  · have f : D.ref p = .ref a := f
    cases f
    exact g.fresh hp
def bagK (ma : W (List Int × Int × Unit)) : M Unit β κ := fun nx k => ma (fun a => (a.1.length ≤ 63 ∧ 0 ≤ a.2.1 ∧ a.2.1 < 100) ∧ nx ()) k.xx
theorem s_bag {ma : W (List Int × Int × Unit)} {i : Nat} (hx : Le sg.osx os) (hp : sg.pz.contains i = false) :
    ImpS (rdS sg os (fun (_ : Unit) => os.set i (some .b)) (bagK ma)) (sAsg (dCall sp_bag (rdA os (a2 eC D.int) ma)) (gNm i)) :=
  fun DD ρ S ⟨nx, k, F, g, z, h, kk⟩ => ⟨_, k.xx, g.env, h, fun a S1 k1 ⟨⟨h0, h1, h2⟩, h3⟩ => ⟨a.1, a.2.1, rfl, h1, h2, h0, fun p S' hp1 b => kk.nx () _ _ ((g.kp k1).bag (z.none hp) hp1 b) h3⟩, fun n ds S1 k1 h1 => kk.xx n ds ρ S1 ((g.kp k1).le hx) h1⟩
end
end DL
namespace DL
open PySem PySem.Spec PyProof.Rows L2
section
variable {X : Cx} {A : Cla} {Wx : WX} {ex tg : Expr} {es : List Expr} {st : Stmt} {sts : List Stmt}
theorem xe {t t' : DT} (i : Imp t' t) (h : DE X A Wx ex t) : DE X A Wx ex t' := te h i
theorem xa {t t' : DTA} (i : ImpA t' t) (h : DA X A Wx es t) : DA X A Wx es t' := tsa h i
theorem xt {t t' : DT} (i : Imp t' t) (h : DTst X A Wx ex (dTst t)) : DTst X A Wx ex (dTst t') := tt h i
theorem xw {t t' : DT} (i : Imp t' t) (h : DWst X A Wx ex (dTst t)) : DWst X A Wx ex (dTst t') := tw h i
theorem xi {t t' : DTI} (i : ImpI t' t) (h : DItr X A Wx tg ex t) : DItr X A Wx tg ex t' := ti h i
theorem xs {t t' : DTS} (i : ImpS t' t) (h : DStm X A Wx st t) : DStm X A Wx st t' := ts h i
theorem xss {t t' : DTS} (i : ImpS t' t) (h : DStms X A Wx sts t) : DStms X A Wx sts t' := tss h i
theorem dsU2 {ι κ : Type} {t : ι → κ → DTS} (h : ∀ i j, DStms X A Wx sts (t i j)) : DStms X A Wx sts (fun D ρ S => ∃ i j, t i j D ρ S) := dsU fun i => dsU fun j => h i j
variable {α β κ α1 γ δ : Type} {sg : Sig β κ} {os : OSt} {res : α → OSt} {res1 : α1 → OSt}
theorem ts_cons {m1 : M α1 β κ} {m2 : α1 → M α β κ} (h1 : DStm X A Wx st (rdS sg os res1 m1)) (h2 : ∀ a, DStms X A Wx sts (rdS sg (res1 a) res (m2 a))) : DStms X A Wx (st :: sts) (rdS sg os res (sqK m1 m2)) :=
  xss s_seq (ds_cons h1 (dsU h2))
theorem ts_last {m1 : M α β κ} (h1 : DStm X A Wx st (rdS sg os res m1)) : DStms X A Wx [st] (rdS sg os res m1) :=
  xss (t := sSeq (rdS sg os res m1) sNext) (fun DD ρ S ⟨nx, k, F, g, z, h, kk⟩ => ⟨nx, k, F, g, z, h, ⟨kk.nx, kk.rt, kk.bk, kk.ct, kk.xx⟩⟩) (ds_cons h1 ds_nil)
theorem t_end (a : α) (l : Le (res a) os) : DStms X A Wx [] (rdS sg os res (endK a)) := xss (s_end l) ds_nil
/-- if without else, whose block ends in a return -/
theorem s_if1 {mc : W Bool} {m1 : M Unit β κ} (hx : Le sg.osx os) : ImpS (rdS sg os (fun (_ : Unit) => os) (ifK mc m1 (endK ()))) (sIf (rdE os D.bl mc) (rdS sg os (fun (_ : Unit) => os) m1) (rdS sg os (fun (_ : Unit) => os) (endK ()))) := s_if hx
end
section
variable {α β γ δ : Type} {os : OSt}
theorem a_1 {e : α → D} {m : W α} : ImpA (rdA os (a1 e) (oneW m)) (dCons (rdE os e m) dNil) := fun ρ S Q E ⟨q, x, r, hm, k, kx⟩ =>
  ⟨_, x, r, hm, fun a S1 k1 h1 => k (a, ()) S1 k1 h1, kx⟩
def twoW (m : W α) (m2 : W β) : W (α × β × Unit) := fun q x => m (fun a => m2 (fun b => q (a, b, ())) x) x
theorem a_2 {e : α → D} {e2 : β → D} {m : W α} {m2 : W β} : ImpA (rdA os (a2 e e2) (twoW m m2)) (dCons (rdE os e m) (dCons (rdE os e2 m2) dNil)) := fun ρ S Q E ⟨q, x, r, hm, k, kx⟩ =>
  ⟨_, x, r, hm, fun a S1 k1 h1 => ⟨_, x, r.kp k1, h1, fun b S2 k2 h2 => k (a, b, ()) S2 (k1.trans k2) h2, fun n ds S2 k2 hx => kx n ds S2 (k1.trans k2) hx⟩, kx⟩
/-- displays: the items one by one -/
def itW : List (W α) → W (List α)
  | [] => fun q _ => q []
  | m :: ms => fun q x => m (fun a => itW ms (fun as => q (a :: as)) x) x
def rdAn (os : OSt) (e : α → D) (ms : List (W α)) : DTA := fun ρ S Q E => ∃ q x, R os ρ S ∧ itW ms q x ∧ (∀ v S', Kp os ρ S S' → v.length = ms.length → q v → Q (v.map e) S') ∧ (∀ n ds S', Kp os ρ S S' → x n ds → E n ds S')
theorem it_nil {e : α → D} : ImpA (rdAn os e []) dNil := fun ρ S Q E ⟨q, x, r, hm, k, kx⟩ => k [] S (.refl r) rfl hm
theorem it_cons {e : α → D} {m : W α} {ms : List (W α)} {t : DTA} (h : ImpA (rdAn os e ms) t) : ImpA (rdAn os e (m :: ms)) (dCons (rdE os e m) t) := fun ρ S Q E ⟨q, x, r, hm, k, kx⟩ =>
  ⟨_, x, r, hm, fun a S1 k1 h1 => h ρ S1 _ _ ⟨fun as => q (a :: as), x, r.kp k1, h1, fun as S2 k2 hl hq => k (a :: as) S2 (k1.trans k2) (by rw [List.length_cons, List.length_cons, hl]) hq, fun n ds S2 k2 hx => kx n ds S2 (k1.trans k2) hx⟩, kx⟩
theorem small_ok {n : Nat} (h : n ≤ 1000) : n ≤ sizeLine := Nat.le_trans h (by decide)
theorem i_disp {e : α → D} {ms : List (W α)} (hl : ms.length ≤ 1000 := by exact Nat.le_of_ble_eq_true rfl) : Imp (rdE os (eL e) (itW ms)) (dLst false (rdAn os e ms)) := fun ρ S Q E ⟨q, x, r, hm, k, kx⟩ =>
  ⟨_, x, r, hm, fun a S1 k1 hz h1 => ⟨by rw [List.length_map, hz]; exact small_ok hl, k a S1 k1 h1⟩, kx⟩
theorem i_dispT {e : α → D} {ms : List (W α)} (hl : ms.length ≤ 1000 := by exact Nat.le_of_ble_eq_true rfl) : Imp (rdE os (eT e) (itW ms)) (dTup (rdAn os e ms)) := fun ρ S Q E ⟨q, x, r, hm, k, kx⟩ =>
  ⟨_, x, r, hm, fun a S1 k1 hz h1 => ⟨by rw [List.length_map, hz]; exact small_ok hl, k a S1 k1 h1⟩, kx⟩
theorem n_disp {e : α → D} {ms : List (W α)} (hl : ms.length ≤ 1000 := by exact Nat.le_of_ble_eq_true rfl) : Imp (rdN os (eLo e) (itW ms)) (dLst true (rdAn os e ms)) := fun ρ S Q E ⟨q, x, r, hm, k, kx⟩ =>
  ⟨_, x, r, hm, fun a S1 k1 hz h1 => ⟨by rw [List.length_map, hz]; exact small_ok hl, fun p hp => by
    obtain ⟨b, c⟩ := new_flat (ds := a.map e) k1 hp
    exact k a _ _ b c h1⟩, kx⟩
theorem len_ok {n : Nat} (h : n ≤ 1000) : n ≤ sizeLine := Nat.le_trans h (by decide)
def p3W (m1 : W α) (m2 : W β) (m3 : W γ) : W (α × β × γ) := fun q x => m1 (fun a => m2 (fun b => m3 (fun c => q (a, b, c)) x) x) x
def p4W (m1 : W α) (m2 : W β) (m3 : W γ) (m4 : W δ) : W (α × β × γ × δ) := fun q x => m1 (fun a => m2 (fun b => m3 (fun c => m4 (fun d => q (a, b, c, d)) x) x) x) x
/-- tuples of a few items -/
theorem i_p2 {e1 : α → D} {e2 : β → D} {m1 : W α} {m2 : W β} : Imp (rdE os (eP e1 e2) (pairW m1 m2)) (dTup (dCons (rdE os e1 m1) (dCons (rdE os e2 m2) dNil))) := fun ρ S Q E ⟨q, x, r, hm, k, kx⟩ =>
  ⟨_, x, r, hm, fun a S1 k1 h1 => ⟨_, x, r.kp k1, h1, fun b S2 k2 h2 => ⟨len_ok (by show 2 ≤ 1000; decide), k (a, b) S2 (k1.trans k2) h2⟩, fun n ds S2 k2 hx => kx n ds S2 (k1.trans k2) hx⟩, kx⟩
end
section
variable {α β γ δ κ : Type} {sg : Sig β κ} {os : OSt}
theorem asg_mono {t t' : DT} {g : DTG} (i : Imp t' t) : ImpS (sAsg t' g) (sAsg t g) := fun DD ρ S h => i ρ S _ _ h
def subK {τ : Type} (m : W γ) (mi : W Int) (xs : List τ) : M (γ × Nat) β κ := fun nx k => m (fun a => mi (fun j => ∃ n, ixN xs.length j = some n ∧ nx (a, n)) k.xx) k.xx
def popK (mi : W Int) (xs : List γ) : M (γ × Nat) β κ := fun nx k => mi (fun n => (-(2 ^ 63) ≤ n ∧ n < 2 ^ 63) ∧ ∃ l a, seqIndex? n xs.length = some l ∧ xs[l]? = some a ∧ nx (a, l)) k.xx
def augK (m : W γ) (f : γ → (δ → Prop) → Prop) : M δ β κ := fun nx k => m (fun b => f b nx) k.xx
/-- an item of one's own list is stored -/
theorem s_sub {e : α → D} {xs : List α} {m : W α} {mi : W Int} {i : Nat} (hi : At os i (.o (eLo e xs))) (hx : Le sg.osx os) :
    ImpS (rdS sg os (fun (v : α × Nat) => os.set i (some (.o (eLo e (xs.set v.2 v.1))))) (subK m mi xs)) (sAsg (rdE os e m) (gSubD (dVar i) (rdE os D.int mi))) :=
  fun DD ρ S ⟨nx, k, F, g, z, h, kk⟩ => ⟨_, k.xx, g.env, h, fun a S1 k1 h1 => by
    obtain ⟨p, hr, hs⟩ := (g.kp k1).env.obL hi
    refine ⟨_, hr, _, k.xx, (g.kp k1).env, h1, fun j S2 k2 ⟨n, hn, h2⟩ => ?_, fun n ds S2 k2 hx2 => kk.xx n ds ρ S2 (((g.kp k1).kp k2).le hx) hx2⟩
    have g2 := (g.kp k1).kp k2
    obtain ⟨p', hr', hs'⟩ := g2.env.obL hi
    cases vf_eq hr hr'
    refine ⟨p, _, j, n, rfl, rfl, hs', by rw [List.length_map]; exact hn, ?_⟩
    have e2 : (xs.map e).set n (e a) = (xs.set n a).map e := by rw [List.map_set]
    rw [e2]
    exact kk.nx (a, n) ρ _ (g2.writeL hi hr) h2, fun n ds S1 k1 h1 => kk.xx n ds ρ S1 ((g.kp k1).le hx) h1⟩
def opxW (m1 : W α) (m2 : W β) (f : α → β → W γ) : W γ := fun q x => m1 (fun a => m2 (fun b => f a b q x) x) x
/-- a promise over two values is asked -/
theorem kp_nil {S S' : Sto} (kp : Kp [] [] S S') : ∀ p, S p ≠ none → S' p = S p := fun p hp => (kp p hp).2 fun ⟨i, a, _⟩ => by cases a
theorem ask1 {ω : Type} {sl : ω → List Sl} {rest : ω → List D} {po : β → OSt} {eb : β → D} {m : ω → W β} {d1 : D} (c : ω) (hc : [.v d1] = sl c ++ (rest c).map Sl.v) (vb : (sl c).all Sl.vb = true)
    {S : Sto} {Q : DQ} {E : DX} {q : β → Prop} {x : XW} (hm : m c q x) (k : ∀ v S', (∀ p, S p ≠ none → S' p = S p) → q v → Q (eb v) S') (kx : ∀ n ds S', (∀ p, S p ≠ none → S' p = S p) → x n ds → E n ds S') : spG sl rest po (rvV eb) m [d1] S Q E :=
  spG_ask (os := []) (ρ := []) (is := []) (δ := Unit) (cl := fun _ => [.v d1]) (fun _ => c) (fun _ => hc) (fun _ => vb) List.nodup_nil (d := ()) r_nil ⟨_, rfl, ⟨rfl, rfl⟩⟩ hm (fun v d' S' kp ev _ hv => by rw [ev _ rfl]; exact k v S' (kp_nil kp) hv) fun n xs S' kp hx => kx n xs S' (kp_nil kp) hx
end
section
variable {α β γ δ κ : Type} {sg : Sig β κ} {os : OSt}
/-- a slot's new content: a value, an own tree -/
inductive Nw where
  | v (d : D) | o (t : OT)
def Nw.sl : Nw → Sl
  | .v d => .v d
  | .o t => .o t
/-- what is had for a slot -/
def NwOk (S S' : Sto) : Nw → D → Prop
  | .v x, d => d = x
  | .o t, d => New S S' t d
/-- an expression whose value goes to a slot -/
def rdV (os : OSt) (e : α → Nw) (m : W α) : DT := fun ρ S Q E => ∃ q x, R os ρ S ∧ m q x ∧ (∀ v d S', Kp os ρ S S' → NwOk S S' (e v) d → q v → Q d S') ∧ (∀ n ds S', Kp os ρ S S' → x n ds → E n ds S')
theorem v_v {e : α → D} {m : W α} : Imp (rdV os (fun a => .v (e a)) m) (rdE os e m) := fun ρ S Q E ⟨q, x, r, hm, k, kx⟩ => ⟨q, x, r, hm, fun v S' kp hq => k v _ S' kp rfl hq, kx⟩
structure Got (F : Fr) (os : OSt) (ρ : DSt) (S : Sto) (w : Nw) (d : D) : Prop where
  hd : Hd S w.sl d
  fr : ∀ a, Hp' S w.sl d a → F.S0 a = none
  off : ∀ a, Hp' S w.sl d a → ∀ j s x, At os j s → Vf ρ j x → ¬ Hp' S s x a
theorem Got.eq {F : Fr} {ρ : DSt} {S S' : Sto} {w : Nw} {d : D} (h : Got F os ρ S w d) (r : R os ρ S) (k : Kp os ρ S S') : (∀ a, Hp' S w.sl d a → S' a = S a) ∧ ∀ a, Hp' S' w.sl d a ↔ Hp' S w.sl d a := by
  have e : ∀ a, Hp' S w.sl d a → S' a = S a := fun a f => (k a (f.live h.hd)).2 fun ⟨i, a1, b1⟩ => h.off a f i .b _ a1 b1 rfl
  refine ⟨e, fun a => ?_⟩
  cases w with
  | v x => exact Iff.rfl
  | o t => exact Fp.eq e h.hd a
theorem Got.kp {F : Fr} {ρ : DSt} {S S' : Sto} {w : Nw} {d : D} (h : Got F os ρ S w d) (r : R os ρ S) (k : Kp os ρ S S') : Got F os ρ S' w d := by
  obtain ⟨e, f⟩ := h.eq r k
  refine ⟨?_, fun a z => h.fr a ((f a).mp z), fun a z j s x hj hx y => h.off a ((f a).mp z) j s x hj hx ((Hp'.eq r hj hx (fun t e => by subst e; exact k.tree r hj hx) a).mp y)⟩
  cases w with
  | v x => exact h.hd
  | o t => exact Tr.eq e h.hd
theorem Got.of {F : Fr} {ρ : DSt} {S S' : Sto} {w : Nw} {d : D} (g : G F os ρ S) (k : Kp os ρ S S') (n : NwOk S S' w d) : Got F os ρ S' w d := by
  cases w with
  | v x => exact ⟨n, fun a z => z.elim, fun a z => z.elim⟩
  | o t =>
    have n : New S S' t d := n
    exact ⟨n.tr, fun a f => g.fresh (n.nw a f), fun a f j s x hj hx => n.off g.env k hj hx f⟩
def Dj (S : Sto) (w1 : Nw) (d1 : D) (w2 : Nw) (d2 : D) : Prop := ∀ a, Hp' S w1.sl d1 a → ¬ Hp' S w2.sl d2 a
/-- what was had ahead is apart from what is new -/
theorem Dj.of {F : Fr} {ρ : DSt} {S S' : Sto} {w w' : Nw} {d d' : D} (h : Got F os ρ S w d) (r : R os ρ S) (k : Kp os ρ S S') (n : NwOk S S' w' d') : Dj S' w d w' d' := fun a f z => by
  have f := ((h.eq r k).2 a).mp f
  cases w' with
  | v x => exact z
  | o t =>
    have n : New S S' t d' := n
    exact f.live h.hd (n.nw a z)
theorem Dj.kp {F : Fr} {ρ : DSt} {S S' : Sto} {w w' : Nw} {d d' : D} (j : Dj S w d w' d') (h : Got F os ρ S w d) (h' : Got F os ρ S w' d') (r : R os ρ S) (k : Kp os ρ S S') : Dj S' w d w' d' := fun a f z => j a (((h.eq r k).2 a).mp f) (((h'.eq r k).2 a).mp z)
theorem Got.put {F : Fr} {ρ : DSt} {S : Sto} {w : Nw} {d : D} {i : Nat} (h : Got F os ρ S w d) (g : G F os ρ S) (hi : F.pin i = none) : G F (os.set i (some w.sl)) (ρ.set i (some d)) S :=
  g.put hi h.hd (fun j s x a _ hj hx f => h.off a f j s x hj hx) h.fr
theorem Got.more {F : Fr} {ρ : DSt} {S : Sto} {w w1 : Nw} {d d1 : D} {i : Nat} (h : Got F os ρ S w d) (hi : i < ρ.length) (n : Dj S w1 d1 w d) : Got F (os.set i (some w1.sl)) (ρ.set i (some d1)) S w d :=
  ⟨h.hd, h.fr, fun a f j s x hj hx z => by
    rcases at_set hj with ⟨rfl, e, hl⟩ | ⟨ne, hj⟩
    · cases e
      cases vf_eq hx (List.getElem?_set_self hi)
      exact n a z f
    · exact h.off a f j s x hj ((vf_ne ne).mp hx) z⟩
theorem Got.more' {F : Fr} {ρ : DSt} {S : Sto} {w w1 : Nw} {d d1 : D} {i : Nat} (h : Got F os ρ S w d) (n : Dj S w1 d1 w d) : Got F (os.set i (some w1.sl)) (ρ.set i (some d1)) S w d := by
  by_cases hi : i < ρ.length
  · exact h.more hi n
  · have e1 : ρ.set i (some d1) = ρ := List.set_eq_of_length_le (by omega)
    refine ⟨h.hd, h.fr, fun a f j s x hj hx z => ?_⟩
    rw [e1] at hx
    rcases at_set hj with ⟨rfl, e, hl⟩ | ⟨ne, hj⟩
    · have := (List.getElem?_eq_some_iff.mp hx).1
      omega
    · exact h.off a f j s x hj hx z
def par2K (m1 : W α) (m2 : W γ) : M (α × γ) β κ := fun nx k => m1 (fun a => m2 (fun b => nx (a, b)) k.xx) k.xx
def par3K (m1 : W α) (m2 : W γ) (m3 : W δ) : M (α × γ × δ) β κ := fun nx k => m1 (fun a => m2 (fun b => m3 (fun c => nx (a, b, c)) k.xx) k.xx) k.xx
theorem s_par2 {e1 : α → Nw} {e2 : γ → Nw} {m1 : W α} {m2 : W γ} {i j : Nat} (hx : Le sg.osx os) (hp : sg.pz.contains i = false) (hp2 : sg.pz.contains j = false) :
    ImpS (rdS sg os (fun (v : α × γ) => (os.set i (some (e1 v.1).sl)).set j (some (e2 v.2).sl)) (par2K m1 m2)) (sPar [i, j] (dCons (rdV os e1 m1) (dCons (rdV os e2 m2) dNil))) :=
  fun DD ρ S ⟨nx, k, F, g, z, h, kk⟩ => by
    refine ⟨_, k.xx, g.env, h, fun a d1 S1 k1 n1 h1 => ?_, fun n ds S1 k1 h1 => kk.xx n ds ρ S1 ((g.kp k1).le hx) h1⟩
    have g1 := g.kp k1
    have t1 := Got.of g k1 n1
    refine ⟨_, k.xx, g1.env, h1, fun b d2 S2 k2 n2 h2 => ?_, fun n ds S2 k2 h2 => kk.xx n ds ρ S2 ((g1.kp k2).le hx) h2⟩
    have g2 := g1.kp k2
    have t2 := Got.of g1 k2 n2
    refine ⟨_, rfl, kk.nx (a, b) _ S2 ?_ h2⟩
    exact (Got.more' t2 (Dj.of t1 g1.env k2 n2)).put ((t1.kp g1.env k2).put g2 (z.none hp)) (z.none hp2)
end
end DL
namespace DL
open PySem PySem.Spec PyProof.Rows L2
section
variable {α β γ δ κ ω : Type} {sg : Sig β κ} {os : OSt}
def olenW (mo : W ω) (m : α → W Int) (c : ω → α) : W Int := fun q x => mo (fun o => m (c o) (fun n => (0 ≤ n ∧ n < 2 ^ 63) ∧ q n) x) x
def ShwA (d : D) : Prop := (∃ i : Int, d = .int i ∧ i.natAbs.log2 < 1920 ∧ (PyData.shown (.int i)).length ≤ sizeLine) ∨ (∃ xs, (d = .lst xs ∨ d = .tup xs) ∧ Shw d) ∨ (isSc d = true ∧ d.p.shown.length ≤ sizeLine)
theorem f_reprA {e1 : α → D} : OpA rReprD (a1 e1) D.rp (fun a q => ShwA (e1 a.1) ∧ q (e1 a.1).p) := fun a q S Q E ⟨h, hq⟩ k => by
  have k := k _ hq
  unfold a1
  rcases h with ⟨i, e, h1, h2⟩ | ⟨xs, e, h1, h2, h3⟩ | ⟨h1, h2⟩
  · rw [e] at k ⊢
    have e2 : (D.int i).p = .int i := by unfold D.p; rfl
    rw [e2] at k
    exact ⟨_, rfl, .inl ⟨i, rfl, h1, h2, k⟩⟩
  · rcases e with e | e
    · rw [e] at h1 h2 h3 k ⊢
      exact ⟨_, rfl, .inr (.inl ⟨xs, rfl, h1, h2, h3, k⟩)⟩
    · rw [e] at h1 h2 h3 k ⊢
      exact ⟨_, rfl, .inr (.inl ⟨xs, rfl, h1, h2, h3, k⟩)⟩
  · exact ⟨_, rfl, .inr (.inr ⟨h1, h2, k⟩)⟩
/-- the law at its end -/
theorem asks_T {m : List Int × Unit → W Bool} {sp : DSp} (h : ∀ zs : List Int, zs.length ≤ 63 → m (zs, ()) (fun r => r = true) X0) : Asks 63 (spT (fun (a : List Int × Unit) => [.v (eC a.1)]) D.bl m) := fun zs Qd hl hq =>
  ask1 (c := ((zs, ()) : List Int × Unit)) rfl rfl (h zs hl) (fun v S' _ hv => by rw [hv]; exact hq S') fun _ _ _ _ z => z.elim
end
end DL
namespace DL
open PySem PySem.Spec PyProof.Rows L2
def lowB (k : Nat) : Bool := decide (97 ≤ k) && decide (k ≤ 122)
def isWordS (z : Str) : Bool := decide (1 ≤ z.length) && decide (z.length ≤ 8) && z.cps.toList.all lowB
def isNameS (z : Str) : Bool := if cutS z (some (-1)) none = (Str.ofString "!") then isWordS (cutS z none (some (-1))) else isWordS z
def wordD : D → Bool
  | .str z => isWordS z
  | _ => false
def nameD : D → Bool
  | .str z => isNameS z
  | _ => false
def lineD : D → Bool
  | .tup [a, .str z] => wordD a && (decide (z = Str.ofString "") || isNameS z)
  | _ => false
def isiR (a b : Ty) : Bool := decide (a = b) || decide ((a, b) = (.bl, .int))
def bTys : List Ty := [.non, .bl, .int, .str, .tup, .lst, .dct]
/-- its type is known to isinstance -/
def Isok (T : Isi) (x : D) : Prop := (∀ p, x ≠ .rp p) ∧ ∃ a, tyN (fun _ => none) x = some a ∧ ∀ b ∈ bTys, T.lookup (a, b) = some (isiR a b)
theorem Isok.at_ {T : Isi} {x : D} {a b : Ty} (h : Isok T x) (ha : tyN (fun _ => none) x = some a) (hb : b ∈ bTys) : T.lookup (a, b) = some (isiR a b) := by
  obtain ⟨_, a', h1, h2⟩ := h
  rw [ha] at h1
  cases h1
  exact h2 b hb
def Isok2 (T : Isi) (x : D) : Prop := Isok T x ∧ ∀ a b, x = .tup [a, b] → Isok T a ∧ Isok T b
theorem str_ext {a b : Str} (h : a.cps.toList = b.cps.toList) : a = b := by
  obtain ⟨⟨x⟩⟩ := a
  obtain ⟨⟨y⟩⟩ := b
  cases h
  rfl
theorem len_list (z : Str) : z.cps.toList.length = z.length := by simp; rfl
theorem bang_list : (Str.ofString "!").cps.toList = [33] := by decide +kernel
theorem cut_list (z : Str) (lo hi : Option Int) : (cutS z lo hi).cps.toList = (z.cps.toList.drop (HT.sIx z.length 0 lo)).take (HT.sIx z.length z.length hi - HT.sIx z.length 0 lo) := by
  unfold cutS
  simp
theorem ends_cut (z : Str) : Txt.endswith z (Str.ofString "!") = decide (cutS z (some (-1)) none = (Str.ofString "!")) := by
  have e : (Txt.endswith z (Str.ofString "!") = true) ↔ cutS z (some (-1)) none = (Str.ofString "!") := by
    have l1 : (Str.ofString "!").length = 1 := by decide +kernel
    have s1 : HT.sIx z.length 0 (some (-1)) = z.length - 1 := by
      show (if (-1 : Int) < 0 then ((-1 : Int) + (z.length : Int)).toNat else min (-1 : Int).toNat z.length) = z.length - 1
      rw [if_pos (by decide)]
      omega
    have c : (cutS z (some (-1)) none).cps.toList = (z.cps.toList.drop (z.length - 1)).take (z.length - (z.length - 1)) := by
      rw [cut_list, s1]
      rfl
    unfold Txt.endswith
    rw [PySem.StrLaws.subAt_eq, l1, bang_list, Bool.and_eq_true, decide_eq_true_eq, beq_iff_eq]
    constructor
    · rintro ⟨h1, h2⟩
      refine str_ext ?_
      rw [c, bang_list, ← h2, show z.length - (z.length - 1) = 1 by omega]
    · intro h
      have h2 := congrArg (fun y : Str => y.cps.toList) h
      have h2 : (cutS z (some (-1)) none).cps.toList = (Str.ofString "!").cps.toList := h2
      rw [c, bang_list] at h2
      have hl := congrArg List.length h2
      rw [List.length_take, List.length_drop, len_list] at hl
      have : 1 ≤ z.length := by
        simp at hl
        omega
      rw [show z.length - (z.length - 1) = 1 by omega] at h2
      exact ⟨by omega, h2⟩
  by_cases h : cutS z (some (-1)) none = (Str.ofString "!")
  · rw [decide_eq_true h]
    exact e.mpr h
  · rw [decide_eq_false h]
    exact Bool.eq_false_iff.mpr fun k => h (e.mp k)
theorem name_eq (z : Str) : isNameS z = (isWordS z || (Txt.endswith z (Str.ofString "!") && isWordS (cutS z none (some ((z.length : Int) - 1))))) := by
  rw [ends_cut]
  unfold isNameS
  by_cases h : cutS z (some (-1)) none = (Str.ofString "!")
  · rw [if_pos h, decide_eq_true h, Bool.true_and]
    have h2 := congrArg (fun y : Str => y.cps.toList) h
    have h2 : (cutS z (some (-1)) none).cps.toList = (Str.ofString "!").cps.toList := h2
    rw [cut_list, bang_list] at h2
    have m : (33 : Nat) ∈ z.cps.toList := List.mem_of_mem_drop (List.mem_of_mem_take (by rw [h2]; exact List.mem_cons_self ..))
    have nw : isWordS z = false := by
      unfold isWordS
      have : z.cps.toList.all lowB = false := by
        rw [List.all_eq_false]
        exact ⟨33, m, by decide⟩
      rw [this, Bool.and_false]
    have hp : 0 < z.length := by
      rw [← len_list]
      exact List.length_pos_of_mem m
    rw [nw, Bool.false_or]
    congr 1
    refine str_ext ?_
    rw [cut_list, cut_list]
    congr 2
    show (if (-1 : Int) < 0 then ((-1 : Int) + (z.length : Int)).toNat else min (-1 : Int).toNat z.length) = (if (z.length : Int) - 1 < 0 then ((z.length : Int) - 1 + (z.length : Int)).toNat else min ((z.length : Int) - 1).toNat z.length)
    rw [if_pos (by decide), if_neg (by omega)]
    omega
  · rw [if_neg h, decide_eq_false h, Bool.false_and, Bool.or_false]
theorem app_len (a b : Str) : (a ++ b).length = a.length + b.length := by
  show (a.cps ++ b.cps).size = a.cps.size + b.cps.size
  exact Array.size_append
theorem word_line {z : Str} (h1 : 1 ≤ z.length) (h2 : (z.length : Int) ≤ 8) (h3 : z.cps.toList.all lowB = true) : isWordS z = true := by
  unfold isWordS
  rw [decide_eq_true h1, decide_eq_true (by omega : z.length ≤ 8), h3]
  rfl
/-- a word that the law draws -/
def GoodW (z : Str) : Prop := 1 ≤ z.length ∧ z.length ≤ 8 ∧ z.cps.toList.all lowB = true
theorem GoodW.word {z : Str} (h : GoodW z) : isWordS z = true := word_line h.1 (by have := h.2.1; omega) h.2.2
theorem app_list (a b : Str) : (a ++ b).cps.toList = a.cps.toList ++ b.cps.toList := by
  show (a.cps ++ b.cps).toList = _
  rw [Array.toList_append]
/-- a name as the law makes them -/
def GoodN (n : Str) : Prop := n = Str.ofString "" ∨ GoodW n ∨ ∃ w, GoodW w ∧ n = w ++ Str.ofString "!"
theorem cut_app {a b : Str} : cutS (a ++ b) none (some (-(b.length : Int))) = a ∨ b.length = 0 := by
  by_cases h : b.length = 0
  · exact .inr h
  · refine .inl (str_ext ?_)
    rw [cut_list, app_list]
    show (List.drop 0 (a.cps.toList ++ b.cps.toList)).take ((if -(b.length : Int) < 0 then (-(b.length : Int) + ((a ++ b).length : Int)).toNat else min (-(b.length : Int)).toNat (a ++ b).length) - 0) = a.cps.toList
    rw [if_pos (by omega), app_len, List.drop_zero]
    have : (-(b.length : Int) + ((a.length + b.length : Nat) : Int)).toNat - 0 = a.cps.toList.length := by rw [len_list]; omega
    rw [this, List.take_left']
    rfl
theorem GoodN.name {n : Str} (h : GoodN n) : (decide (n = Str.ofString "") || isNameS n) = true := by
  rcases h with h | h | ⟨w, h, e⟩
  · rw [decide_eq_true h, Bool.true_or]
  · rw [name_eq, h.word, Bool.true_or, Bool.or_true]
  · subst e
    have e1 : (Str.ofString "!").length = 1 := by decide +kernel
    have c : cutS (w ++ Str.ofString "!") none (some (-1)) = w := by
      rcases cut_app (a := w) (b := Str.ofString "!") with h | h
      · rw [e1] at h
        exact h
      · rw [e1] at h
        cases h
    have c2 : cutS (w ++ Str.ofString "!") (some (-1)) none = Str.ofString "!" := by
      refine str_ext ?_
      rw [cut_list, app_list]
      show (List.drop (if (-1 : Int) < 0 then ((-1 : Int) + ((w ++ Str.ofString "!").length : Int)).toNat else min (-1 : Int).toNat (w ++ Str.ofString "!").length) (w.cps.toList ++ (Str.ofString "!").cps.toList)).take ((w ++ Str.ofString "!").length - (if (-1 : Int) < 0 then ((-1 : Int) + ((w ++ Str.ofString "!").length : Int)).toNat else min (-1 : Int).toNat (w ++ Str.ofString "!").length)) = _
      rw [if_pos (by decide), app_len, e1]
      have : ((-1 : Int) + ((w.length + 1 : Nat) : Int)).toNat = w.cps.toList.length := by rw [len_list]; omega
      rw [this, List.drop_left' rfl, len_list]
      have : w.length + 1 - w.length = (Str.ofString "!").cps.toList.length := by rw [bang_list]; show _ = 1; omega
      rw [this, List.take_length]
    unfold isNameS
    rw [if_pos c2, c, h.word, Bool.or_true]
abbrev Line := Str × Str
abbrev eLine : Line → D := eP D.str D.str
/-- a line that the laws draw -/
def GdL (l : Line) : Prop := GoodW l.1 ∧ GoodN l.2
theorem GdL.line {l : Line} (h : GdL l) : lineD (eLine l) = true := by
  show (isWordS l.1 && (decide (l.2 = Str.ofString "") || isNameS l.2)) = true
  rw [h.1.word, h.2.name]
  rfl
def isWordW (T : Isi) (a : D × Unit) : W Bool := fun q _ => Isok T a.1 ∧ q (wordD a.1)
def isNameW (T : Isi) (a : D × Unit) : W Bool := fun q _ => Isok T a.1 ∧ q (nameD a.1)
def isLineW (T : Isi) (a : D × Unit) : W Bool := fun q _ => Isok2 T a.1 ∧ q (lineD a.1)
end DL
namespace DL
open PySem PySem.Spec PyProof.Rows L2
abbrev Stretch := Int × List Line × List Line
abbrev eStretch : Stretch → D := eP3 D.int (eT eLine) (eT eLine)
def eFile (a : List Line) : D := .ins 0 [eT eLine a]
def eEdit (a : List Stretch) : D := .ins 1 [eT eStretch a]
end DL
namespace DL
open PySem PySem.Spec PyProof.Rows L2
section
variable {α β κ σ τ : Type}
theorem forK_inv {xs : List τ} {a0 : σ} {body : τ → σ → M σ β σ} {nx : σ → Prop} {k : K β κ} (I : List τ → σ → Prop) (h0 : I [] a0)
    (hs : ∀ pre x post a (nx' : σ → Prop), xs = pre ++ x :: post → I pre a → (∀ a', I (pre ++ [x]) a' → nx' a') → body x a nx' ⟨k.rt, nx, nx', k.xx⟩)
    (he : ∀ a, I xs a → nx a) : forK xs a0 body nx k := by
  have gen : ∀ (post pre : List τ) (a : σ), xs = pre ++ post → I pre a → forK post a body nx k := by
    intro post
    induction post with
    | nil =>
      intro pre a e h
      rw [List.append_nil] at e
      subst e
      exact he a h
    | cons x post ih =>
      intro pre a e h
      exact hs pre x post a _ e h fun a' h' => ih (pre ++ [x]) a' (by rw [e, List.append_assoc]; rfl) h'
  exact gen xs [] a0 rfl h0
/-- each turn keeps I -/
theorem forK_keep {xs : List τ} {a0 : σ} {body : τ → σ → M σ β σ} {nx : σ → Prop} {k : K β κ} (I : σ → Prop) (h0 : I a0)
    (hs : ∀ x ∈ xs, ∀ a (nx' : σ → Prop), I a → (∀ a', I a' → nx' a') → body x a nx' ⟨k.rt, nx, nx', k.xx⟩) (he : ∀ a, I a → nx a) : forK xs a0 body nx k :=
  forK_inv (fun _ => I) h0 (fun pre x post a nx' e h k' => hs x (by rw [e]; simp) a nx' h k') he
theorem compK_filter {xs : List τ} {c : τ → (Bool → Prop) → Prop} {f : τ → (β → Prop) → Prop} {q : List β → Prop} (p : τ → Bool) (g : τ → β) (hc : ∀ x ∈ xs, ∀ q', q' (p x) → c x q') (h : ∀ x ∈ xs, p x = true → ∀ q', q' (g x) → f x q') (hq : q ((xs.filter p).map g)) : compK xs c f q := by
  induction xs generalizing q with
  | nil => exact hq
  | cons x xs ih =>
    unfold compK
    refine hc x (List.mem_cons_self ..) _ ?_
    cases hp : p x with
    | true =>
      rw [if_pos rfl]
      rw [List.filter_cons_of_pos hp, List.map_cons] at hq
      exact h x (List.mem_cons_self ..) hp _ (ih (fun y hy => hc y (List.mem_cons_of_mem _ hy)) (fun y hy => h y (List.mem_cons_of_mem _ hy)) hq)
    | false =>
      rw [if_neg Bool.false_ne_true]
      rw [List.filter_cons_of_neg (by rw [hp]; exact Bool.false_ne_true)] at hq
      exact ih (fun y hy => hc y (List.mem_cons_of_mem _ hy)) (fun y hy => h y (List.mem_cons_of_mem _ hy)) hq
theorem rng_mem {lo : Int} {n : Nat} {x : Int} (h : x ∈ rng lo n) : lo ≤ x ∧ x < lo + n := by
  obtain ⟨i, hi, e⟩ := List.mem_map.mp h
  have := List.mem_range.mp hi
  omega
theorem rng_len {lo : Int} {n : Nat} : (rng lo n).length = n := by unfold rng; rw [List.length_map, List.length_range]
/-- an item at a place within -/
theorem idx_in {xs : List α} {i : Int} {q : α → Prop} (h0 : 0 ≤ i) (h1 : i < xs.length) (h : ∀ a, xs[i.toNat]? = some a → a ∈ xs → q a) : idxK xs i q := by
  have hl : i.toNat < xs.length := by omega
  refine ⟨xs[i.toNat], ?_, h _ (List.getElem?_eq_getElem hl) (List.getElem_mem hl)⟩
  unfold atI ixN
  rw [if_pos h0, if_pos h1]
  exact List.getElem?_eq_getElem hl
theorem draw_ok' {n : Int} {q : Int → Prop} {x : XW} (h0 : 0 < n) (h1 : n < 2 ^ 64) (h : ∀ r, 0 ≤ r → r < n → q r) : drawW (n, ()) q x := ⟨⟨h0, h1⟩, h⟩
/-- an item that is drawn -/
theorem draw_idx {xs : List α} {q : α → Prop} {x : XW} (h0 : 0 < xs.length) (h1 : xs.length < 10000) (h : ∀ a ∈ xs, q a) : drawW ((xs.length : Int), ()) (fun i => idxK xs i q) x :=
  draw_ok' (by omega) (by omega) fun r r0 r1 => idx_in r0 r1 fun a _ ha => h a ha
theorem line_sz {n : Nat} (h : n ≤ 1000000) : n ≤ sizeLine := Nat.le_trans h (by decide)
end
end DL
namespace DL
open PySem PySem.Spec PyProof.Rows L2
section
variable {α β κ δ : Type} {sg : Sig β κ} {os : OSt}
def raiseK (n : Nat) (m : W α) (f : α → List D) : M δ β κ := fun _ k => m (fun a => k.xx n (f a)) k.xx
end
end DL
namespace DL
open PySem PySem.Spec PyProof.Rows L2
section
variable {α β κ ω δ : Type} {sg : Sig β κ} {os : OSt} {is : List Nat}
/-- nothing is raised -/
def nox {α β : Type} (m : α → W β) (c : ω → α) (mo : W ω) : W β := fun q x => mo (fun o => m (c o) q X0) x
end
end DL
namespace DL
open PySem PySem.Spec PyProof.Rows L2
open PySem.SeqAt (ltP ltL)
class LtE {α : Type} (e : α → D) (lt : outParam (α → α → Bool)) : Prop where
  ok : ∀ a b, ltP (e a).p (e b).p = some (lt a b)
def ltI (a b : Int) : Bool := decide (a < b)
def ltPr {α β : Type} [DecidableEq α] [DecidableEq β] (l1 : α → α → Bool) (l2 : β → β → Bool) (a b : α × β) : Bool := if a.1 = b.1 then (if a.2 = b.2 then false else l2 a.2 b.2) else l1 a.1 b.1
def ltLs {α : Type} [DecidableEq α] (l : α → α → Bool) : List α → List α → Bool
  | [], [] => false
  | [], _ :: _ => true
  | _ :: _, [] => false
  | x :: xs, y :: ys => if x = y then ltLs l xs ys else l x y
instance : LtE D.int ltI := ⟨fun a b => by unfold D.p ltP; rfl⟩
instance : LtE D.str strLt := ⟨fun a b => by unfold D.p ltP; rfl⟩
theorem ltL_map {α : Type} {e : α → D} {n : Nat} {l : α → α → Bool} [DecidableEq α] [E : EqE e n] [O : LtE e l] : ∀ xs ys : List α, ltL (D.ps (xs.map e)) (D.ps (ys.map e)) = some (ltLs l xs ys)
  | [], [] => by unfold List.map D.ps ltL ltLs; rfl
  | [], y :: ys => by unfold List.map D.ps ltL ltLs; rfl
  | x :: xs, [] => by unfold List.map D.ps ltL ltLs; rfl
  | x :: xs, y :: ys => by
    rw [List.map_cons, List.map_cons]
    unfold D.ps ltL ltLs
    rw [eqv_dec, ltL_map xs ys, O.ok]
    by_cases h : x = y <;> simp [h]
instance {α : Type} {e : α → D} {n : Nat} {l : α → α → Bool} [DecidableEq α] [E : EqE e n] [O : LtE e l] : LtE (eT e) (ltLs l) := ⟨fun a b => by
  unfold eT D.p ltP
  exact ltL_map a b⟩
instance {α β : Type} {e1 : α → D} {e2 : β → D} {n m : Nat} {l1 : α → α → Bool} {l2 : β → β → Bool} [DecidableEq α] [DecidableEq β] [E1 : EqE e1 n] [E2 : EqE e2 m] [O1 : LtE e1 l1] [O2 : LtE e2 l2] : LtE (eP e1 e2) (ltPr l1 l2) := ⟨fun a b => by
  unfold eP D.p ltP D.ps ltL D.ps ltL D.ps ltL ltPr
  rw [eqv_dec, eqv_dec, O1.ok, O2.ok]
  by_cases h : a.1 = b.1
  · by_cases h2 : a.2 = b.2 <;> simp [h, h2]
  · simp [h]⟩
end DL
namespace DL
open PySem PySem.Spec PyProof.Rows L2
section
variable {α β γ δ κ ω τ : Type} {sg : Sig β κ} {os : OSt}
instance : NoL eFile := ⟨fun a => by unfold eFile; simp only [D.lg, D.lgs, NoL.lg, Bool.and_self]⟩
instance : NoL eEdit := ⟨fun a => by unfold eEdit; simp only [D.lg, D.lgs, NoL.lg, Bool.and_self]⟩
end
end DL
namespace DL
open PySem PySem.Spec PyProof.Rows L2
section
variable {α β γ δ κ ω τ : Type} {sg : Sig β κ} {os : OSt}
def putK (m : W γ) (mk : W Int) (n : Nat) : M (γ × Int) β κ := fun nx k => m (fun v => mk (fun j => n < sizeLine ∧ nx (v, j)) k.xx) k.xx
/-- what is never reached -/
def neverW : W α := fun _ _ => False
end
section
variable {P : Program} {w : World} {K : PySem.W.Frag} {A : Cla} {mg : Str → Option Value} {base : Heap} {N : List Str} {sc : Scope} {fo : Str → Bool} {lv : Nat} {X : Cx} {W : WX} {e o i value : Expr} {pos pos' : Pos} {t u w' : DT}
theorem In.un (h : In P w K mg base N sc fo lv X W) : X.A.units + 1 < cLine := by
  have := h.rm.r.un
  omega
end
end DL
namespace DL
open PySem PySem.Spec PyProof.Rows L2
section
variable {α β γ δ κ ω τ : Type} {sg : Sig β κ} {os : OSt}
def nilW : W (List α) := fun q _ => q []
def consW (m1 : W α) (m2 : W (List α)) : W (List α) := fun q x => m1 (fun a => m2 (fun as => q (a :: as)) x) x
def catW (m1 m2 : W (List α)) : W (List α) := fun q x => m1 (fun as => m2 (fun bs => q (as ++ bs)) x) x
def szW (m : W (List α)) : W (List α) := fun q x => m (fun v => v.length ≤ sizeLine ∧ q v) x
theorem w_never {q : α → Prop} {x : XW} : neverW q x ↔ False := Iff.rfl
theorem w_nil {q : List α → Prop} {x : XW} : nilW q x ↔ q [] := Iff.rfl
theorem w_cons {m1 : W α} {m2 : W (List α)} {q : List α → Prop} {x : XW} : consW m1 m2 q x ↔ m1 (fun a => m2 (fun as => q (a :: as)) x) x := Iff.rfl
theorem w_cat {m1 m2 : W (List α)} {q : List α → Prop} {x : XW} : catW m1 m2 q x ↔ m1 (fun as => m2 (fun bs => q (as ++ bs)) x) x := Iff.rfl
theorem w_sz {m : W (List α)} {q : List α → Prop} {x : XW} : szW m q x ↔ m (fun v => v.length ≤ sizeLine ∧ q v) x := Iff.rfl
theorem w_putK {m : W γ} {mk : W Int} {n : Nat} {nx : γ × Int → Prop} {k : K β κ} : putK m mk n nx k ↔ m (fun v => mk (fun j => n < sizeLine ∧ nx (v, j)) k.xx) k.xx := Iff.rfl
theorem w_lend {m : W α} {q : α → Prop} {x : XW} : lendW m q x ↔ m q (fun n ds => D.lgs ds = true ∧ x n ds) := Iff.rfl
end
end DL
namespace DL
open PySem PySem.Spec PyProof.Rows L2
section
variable {α β γ κ τ : Type} {sg : Sig β κ} {os : OSt} {S : Sto}
/-- y[j].append(z) -/
def app2K (mi : W Int) (m : W τ) (xss : List (List τ)) : M (Nat × τ) β κ := fun nx k => mi (fun j => ∃ n xs, ixN xss.length j = some n ∧ xss[n]? = some xs ∧ m (fun v => xs.length < sizeLine ∧ nx (n, v)) k.xx) k.xx
theorem w_app2 {mi : W Int} {m : W τ} {xss : List (List τ)} {nx : Nat × τ → Prop} {k : K β κ} : app2K mi m xss nx k ↔ mi (fun j => ∃ n xs, ixN xss.length j = some n ∧ xss[n]? = some xs ∧ m (fun v => xs.length < sizeLine ∧ nx (n, v)) k.xx) k.xx := Iff.rfl
end
end DL
namespace DL
open PySem PySem.Spec PyProof.Rows L2
def jsF : List (W Str) → Str → W Str
  | [], acc => fun q _ => q acc
  | m :: ms, acc => fun q x => m (fun z => acc.length + z.length ≤ sizeLine ∧ jsF ms (acc ++ z) q x) x
def jsW (ms : List (W Str)) : W Str := jsF ms Str.empty
end DL
namespace DL
open PySem PySem.Spec PyProof.Rows L2
section
variable {S S1 S' : Sto}
/-- the items of the list at a path -/
def OT.sub : List Nat → OT → Option (List OT)
  | [], .l ts => some ts
  | n :: p, .l ts => match ts[n]? with | some u => OT.sub p u | none => none
  | n :: p, .t ts => match ts[n]? with | some u => OT.sub p u | none => none
  | _, _ => none
end
end DL
namespace DL
open PySem PySem.Spec PyProof.Rows L2
/-- a merge: base, edits, gap -/
abbrev Merge3 := List Line × List (List Stretch) × Int
def eMerge (a : Merge3) : D := .ins 2 [eFile a.1, eT eEdit a.2.1, D.int a.2.2]
section
variable {α β κ : Type} {sg : Sig β κ} {os : OSt}
/-- the clauses of a try, typed -/
inductive HdTs {β κ : Type} (K : PySem.W.Frag) (A : Cla) (mg : Str → Option Value) (N : List Str) (sc : Scope) (known : Nat → Bool) (e : β → D) (rl : κ → OSt) (pz : List Nat) (osb : OSt) (i : Nat) : List ExceptHandler → List (Nat × (List D → W β)) → Prop
  | nil : HdTs K A mg N sc known e rl pz osb i [] []
  | cons {x y : Str} {n : Nat} {hw : List D → W β} {b0 : Stmt} {sts : List Stmt} {np hp : Pos} {hs : List ExceptHandler} {l : List (Nat × (List D → W β))} (ck : lcB N sc i y = true) (hg : glB sc x = true) (hm : mg x = some (A.cv n))
      (hex : ∀ m, known m = true → PySem.W.exmOne K (A.cv m) (A.cv n) = some (decide (m = n)))
      (su : ∀ (X' : Cx) (a q : Addr) (ds : List D), Is N sc X' → Xs K X' A a q n ds → DStms X' (A.hot q n ds) WF (b0 :: sts) (rdS (⟨rvV e, po0, rl, [], pz⟩ : Sig β κ) (osb.set i (some (.v (.ref a)))) (fun (e : Empty) => nomatch e) (retK (hw ds)))) (rest : HdTs K A mg N sc known e rl pz osb i hs l) :
      HdTs K A mg N sc known e rl pz osb i (.ExceptHandler (some (.Name x np)) (some y) (b0 :: sts) hp :: hs) ((n, hw) :: l)
theorem HdTs.is {K : PySem.W.Frag} {A : Cla} {mg : Str → Option Value} {N : List Str} {sc : Scope} {known : Nat → Bool} {e : β → D} {rl : κ → OSt} {pz : List Nat} {osb : OSt} {i : Nat} {hs : List ExceptHandler} {l : List (Nat × (List D → W β))} (h : HdTs K A mg N sc known e rl pz osb i hs l) :
    HdIs K A mg N sc known hs (l.map fun q => (i, q.1, fun a ds => rdS (⟨rvV e, po0, rl, [], pz⟩ : Sig β κ) (osb.set i (some (.v (.ref a)))) (fun (e : Empty) => nomatch e) (retK (q.2 ds)))) := by
  induction h with
  | nil => exact .nil
  | cons ck hg hm hex su rest ih => exact .cons _ ck hg hm hex su ih
end
end DL
namespace DL
open PySem PySem.Spec PyProof.Rows L2
section
variable {α β γ δ κ σ τ : Type} {sg : Sig β κ} {os : OSt}
def popLK (xs : List α) : M α β κ := fun nx _ => ∃ a, xs[xs.length - 1]? = some a ∧ nx a
def appPopK (mi : W Int) (ys : List α) (n : Nat) : M (α × Nat) β κ := fun nx k => mi (fun r => (-(2 ^ 63) ≤ r ∧ r < 2 ^ 63) ∧ ∃ l a, seqIndex? r ys.length = some l ∧ ys[l]? = some a ∧ n < sizeLine ∧ nx (a, l)) k.xx
end
end DL
namespace DL
open PySem PySem.Spec PyProof.Rows L2
def p5W {α β γ δ ε : Type} (m1 : W α) (m2 : W β) (m3 : W γ) (m4 : W δ) (m5 : W ε) : W (α × β × γ × δ × ε) := fun q x => m1 (fun a => m2 (fun b => m3 (fun c => m4 (fun d => m5 (fun f => q (a, b, c, d, f)) x) x) x) x) x
theorem w_p5 {α β γ δ ε : Type} {m1 : W α} {m2 : W β} {m3 : W γ} {m4 : W δ} {m5 : W ε} {q : (α × β × γ × δ × ε) → Prop} {x : XW} : p5W m1 m2 m3 m4 m5 q x ↔ m1 (fun a => m2 (fun b => m3 (fun c => m4 (fun d => m5 (fun f => q (a, b, c, d, f)) x) x) x) x) x := Iff.rfl
def p6W {α β γ δ ε ζ : Type} (m1 : W α) (m2 : W β) (m3 : W γ) (m4 : W δ) (m5 : W ε) (m6 : W ζ) : W (α × β × γ × δ × ε × ζ) := fun q x => m1 (fun a => m2 (fun b => m3 (fun c => m4 (fun d => m5 (fun f => m6 (fun g => q (a, b, c, d, f, g)) x) x) x) x) x) x
theorem w_p6 {α β γ δ ε ζ : Type} {m1 : W α} {m2 : W β} {m3 : W γ} {m4 : W δ} {m5 : W ε} {m6 : W ζ} {q : (α × β × γ × δ × ε × ζ) → Prop} {x : XW} : p6W m1 m2 m3 m4 m5 m6 q x ↔ m1 (fun a => m2 (fun b => m3 (fun c => m4 (fun d => m5 (fun f => m6 (fun g => q (a, b, c, d, f, g)) x) x) x) x) x) x := Iff.rfl
end DL
namespace DL
open PySem PySem.Spec PyProof.Rows L2
instance : NoL eMerge := ⟨fun a => by unfold eMerge; simp only [D.lg, D.lgs, NoL.lg, Bool.and_self]⟩
end DL
namespace DL
open PySem PySem.Spec PyProof.Rows L2
section
variable {τ τ1 β : Type} {os os' : OSt} {ρ ρ' : DSt} {S S' : Sto} {D0 : Addr} {o : MO}
/-- a place that no slot has -/
def Un (os : OSt) (ρ : DSt) (S : Sto) (a : Addr) : Prop := ∀ i s d, At os i s → Vf ρ i d → ¬ Hp' S s d a
theorem Un.fresh (r : R os ρ S) (h : S D0 = none) : Un os ρ S D0 := fun i s d a v f => by
  obtain ⟨x, hx, hd⟩ := r.hd i s a
  cases vf_eq v hx
  exact f.live hd h
theorem Un.kp (u : Un os ρ S D0) (r : R os ρ S) (k : Kp os ρ S S') : Un os ρ S' D0 := fun i s d a v f =>
  u i s d a v ((Hp'.eq r a v (fun t e => by subst e; exact k.tree r a v) D0).mp f)
theorem Un.bg (u : Un os ρ S D0) : ¬ BgA os ρ D0 := fun ⟨i, a, v⟩ => u i .b (.ref D0) a v rfl
theorem Un.off (u : Un os ρ S D0) (r : R os ρ S) {i : Nat} {s : Sl} {d : D} (a : At os i s) (v : Vf ρ i d) : ∀ b, Hp' S s d b → (S.set D0 o) b = S b := fun b f => Sto.set_ne fun z => u i s d a v (z ▸ f)
theorem Un.set (u : Un os ρ S D0) (r : R os ρ S) : R os ρ (S.set D0 o) ∧ Un os ρ (S.set D0 o) D0 := by
  have eq : ∀ i s d, At os i s → Vf ρ i d → ∀ b, Hp' (S.set D0 o) s d b ↔ Hp' S s d b := fun i s d a v b => Hp'.eq r a v (fun t e => by subst e; exact u.off r a v) b
  refine ⟨⟨r.len, fun i s a => ?_, fun i j s s' d d' a n h1 h2 v1 v2 p q => ?_⟩, fun i s d a v f => u i s d a v ((eq i s d a v D0).mp f)⟩
  · obtain ⟨x, hx, hd⟩ := r.hd i s a
    refine ⟨x, hx, ?_⟩
    cases s with
    | v y => exact hd
    | o t => exact Tr.eq (u.off r a hx) hd
    | b =>
      obtain ⟨q, e, z⟩ := hd
      subst e
      exact ⟨q, rfl, by rw [u.off r a hx q rfl]; exact z⟩
  · exact r.ne i j s s' d d' a n h1 h2 v1 v2 ((eq i s d h1 v1 a).mp p) ((eq j s' d' h2 v2 a).mp q)
theorem Un.sub (u : Un os ρ S D0) (h : Sub os ρ os' ρ') : Un os' ρ' S D0 := fun i s d a v f => by
  cases s with
  | v y => exact f
  | o t =>
    obtain ⟨a1, e⟩ := h i _ rfl a
    exact u i _ d a1 (by unfold Vf at v ⊢; rw [← e]; exact v) f
  | b =>
    obtain ⟨a1, e⟩ := h i _ rfl a
    exact u i _ d a1 (by unfold Vf at v ⊢; rw [← e]; exact v) f
theorem Un.same (u : Un os ρ S D0) (k : Kp os ρ S S') (h : S D0 ≠ none) : S' D0 = S D0 := (k D0 h).2 u.bg
end
end DL
namespace DL
open PySem PySem.Spec PyProof.Rows L2
def kP {α β : Type} (k1 : α → NestedKey) (k2 : β → NestedKey) (a : α × β) : NestedKey := .tup [k1 a.1, k2 a.2]
section
variable {κ α : Type} [DecidableEq κ]
def hasF (kvs : List (κ × α)) (k : κ) : Bool := kvs.any fun p => decide (p.1 = k)
def putF (kvs : List (κ × α)) (k : κ) (x : α) : List (κ × α) := if hasF kvs k = true then kvs.map (fun p => if p.1 = k then (p.1, x) else p) else kvs ++ [(k, x)]
variable {kn : κ → NestedKey} {ev : α → D}
def kks (kn : κ → NestedKey) (kvs : List (κ × α)) : List NestedKey := kvs.map fun p => kn p.1
def kvs' (ev : α → D) (kvs : List (κ × α)) : List D := kvs.map fun p => ev p.2
end
/-- a dict that stands; one's own -/
def eDc {κ α : Type} (kn : κ → NestedKey) (ev : α → D) (kvs : List (κ × α)) : D := .dic ((kks kn kvs).map nD) (kvs' ev kvs)
section
variable {κ α β γ τ ω : Type} [DecidableEq κ] {sg : Sig β ω} {os : OSt} {kn : κ → NestedKey} {ek : κ → D} {ev : α → D}
/-- {k: v} -/
def d1W (mk : W κ) (mv : W α) : W (List (κ × α)) := fun q _ => mk (fun k => mv (fun v => q [(k, v)]) X0) X0
/-- {**m, k: v} -/
def starW (mm : W (List (κ × α))) (mk : W κ) (mv : W α) : W (List (κ × α)) := fun q _ => mm (fun kvs => kvs.length < sizeLine ∧ mk (fun k => mv (fun v => q (putF kvs k v)) X0) X0) X0
/-- d[k] = v -/
def putFK (m : W α) (mk : W κ) (n : Nat) : M (α × κ) β ω := fun nx k => m (fun v => mk (fun j => n < sizeLine ∧ nx (v, j)) k.xx) k.xx
end
end DL
namespace DL
open PySem PySem.Spec PyProof.Rows L2
section
variable {τ κ α β ω : Type} [DecidableEq κ] {os : OSt} {kn : κ → NestedKey} {ek : κ → D} {ev : α → D}
/-- the entries, one after another -/
def dcK (xs : List τ) (c : τ → (Bool → Prop) → Prop) (fk : τ → (κ → Prop) → Prop) (fv : τ → (α → Prop) → Prop) (acc : List (κ × α)) (q : List (κ × α) → Prop) : Prop := match xs with
  | [] => q acc
  | x :: xs => c x (fun b => if b = true then fk x (fun k => fv x (fun v => dcK xs c fk fv (putF acc k v) q)) else dcK xs c fk fv acc q)
def dcW (mi : W (List τ)) (mc : τ → W Bool) (mk : τ → W κ) (mv : τ → W α) : W (List (κ × α)) := fun q x => mi (fun xs => xs.length < sizeLine ∧ dcK xs (fun x k => mc x k X0) (fun x k => mk x k X0) (fun x k => mv x k X0) [] q) x
def dcyW (mi : W (List τ)) (mk : τ → W κ) (mv : τ → W α) : W (List (κ × α)) := fun q x => mi (fun xs => xs.length < sizeLine ∧ dcK xs (fun _ k => k true) (fun x k => mk x k X0) (fun x k => mv x k X0) [] q) x
/-- len({x for ..}) of integers -/
def cntI (ns : List Int) : List Key → Int
  | acc => ((ns.foldl (fun acc n => putS acc (.inl n)) acc).length : Int)
def scW (mi : W (List τ)) (mf : τ → W Int) : W Int := fun q x => mi (fun xs => xs.length < 4000 ∧ mapK xs (fun x k => mf x k X0) (fun ns => q (cntI ns []))) x
end
section
variable {κ α β γ ω : Type} [DecidableEq κ] {sg : Sig β ω} {os : OSt} {kn : κ → NestedKey} {ev : α → D}
theorem lgs_nD : ∀ nk : List NestedKey, D.lgs (nk.map nD) = true := by
  have h : (∀ k : NestedKey, (nD k).lg = true) ∧ ∀ ks : List NestedKey, D.lgs (nDs ks) = true := by
    constructor
    · intro k
      exact NestedKey.rec (motive_1 := fun k => (nD k).lg = true) (motive_2 := fun ks => D.lgs (nDs ks) = true) (by unfold nD; rfl) (fun _ => by unfold nD; rfl) (fun _ => by unfold nD; rfl) (fun ks ih => by unfold nD D.lg; exact ih) (by unfold nDs; rfl) (fun k ks h1 h2 => by unfold nDs D.lgs; rw [h1, h2]; rfl) k
    · intro ks
      exact NestedKey.rec_1 (motive_1 := fun k => (nD k).lg = true) (motive_2 := fun ks => D.lgs (nDs ks) = true) (by unfold nD; rfl) (fun _ => by unfold nD; rfl) (fun _ => by unfold nD; rfl) (fun ks ih => by unfold nD D.lg; exact ih) (by unfold nDs; rfl) (fun k ks h1 h2 => by unfold nDs D.lgs; rw [h1, h2]; rfl) ks
  intro nk
  rw [← nDs_map]
  exact h.2 nk
instance [N : NoL ev] : NoL (eDc kn ev) := ⟨fun kvs => by
  unfold eDc D.lg
  rw [lgs_nD, Bool.true_and]
  unfold kvs'
  induction kvs with
  | nil => rfl
  | cons p kvs ih => rw [List.map_cons]; unfold D.lgs; rw [N.lg, ih]; rfl⟩
end
section
variable {P : Program} {w : World} {K : PySem.W.Frag} {A : Cla} {mg : Str → Option Value} {base : Heap} {N : List Str} {sc : Scope} {fo : Str → Bool} {lv : Nat} {X : Cx} {W : WX} {e e2 o i value kx vx mx : Expr} {pos pos' apos cpos p : Pos} {x : Str} {t u w' : DT}
theorem In.un9 (h : In P w K mg base N sc fo lv X W) : X.A.units + 9 < cLine := by
  have := h.rm.r.un
  omega
theorem In.aw (h : In P w K mg base N sc fo lv X W) (hA : A.w = w) : A.w = X.w := hA.trans h.eW.symm
theorem In.getD (h : In P w K mg base N sc fo lv X W) (hA : A.w = w) (ho : DE X A W o t) (hi : DE X A W i u) (hs : NoSl i := by intro _ _; rfl) : DE X A W (.Subscript o i pos) (dGetD t u) := de_getD (h.aw hA) h.un9 ho hi hs
end
end DL
namespace DL
open PySem PySem.Spec PyProof.Rows L2
open PySem.SeqAt (ltP ltL)
instance {α β γ δ : Type} {e1 : α → D} {e2 : β → D} {e3 : γ → D} {e4 : δ → D} {n m k l : Nat} {l1 : α → α → Bool} {l2 : β → β → Bool} {l3 : γ → γ → Bool} {l4 : δ → δ → Bool} [DecidableEq α] [DecidableEq β] [DecidableEq γ] [DecidableEq δ] [E1 : EqE e1 n] [E2 : EqE e2 m] [E3 : EqE e3 k] [E4 : EqE e4 l] [O1 : LtE e1 l1] [O2 : LtE e2 l2] [O3 : LtE e3 l3] [O4 : LtE e4 l4] :
    LtE (eP4 e1 e2 e3 e4) (ltPr l1 (ltPr l2 (ltPr l3 l4))) := ⟨fun a b => by
  unfold eP4 D.p ltP D.ps ltL D.ps ltL D.ps ltL D.ps ltL D.ps ltL ltPr
  rw [eqv_dec, eqv_dec, eqv_dec, eqv_dec, O1.ok, O2.ok, O3.ok, O4.ok]
  obtain ⟨a1, a2, a3, a4⟩ := a
  obtain ⟨b1, b2, b3, b4⟩ := b
  dsimp only
  by_cases h : a1 = b1
  · by_cases h2 : a2 = b2
    · by_cases h3 : a3 = b3
      · by_cases h4 : a4 = b4 <;> simp [h, h2, h3, h4]
      · simp [h, h2, h3]
    · simp [h, h2]
  · simp [h]⟩
abbrev Move := Int × Str × Int × Str
abbrev Steps := List ((Int × Str) × (Int × Str))
abbrev Shp := List Str × List Move × List Int × Int × Steps
def eShape (s : Shp) : D := .ins 4 [eT D.str s.1, eT (eP4 D.int D.str D.int D.str) s.2.1, eT D.int s.2.2.1, D.int s.2.2.2.1, eDc (kP NestedKey.num NestedKey.text) (eP D.int D.str) s.2.2.2.2]
instance : NoL eShape := ⟨fun a => by unfold eShape; simp only [D.lg, D.lgs, NoL.lg, Bool.and_self]⟩
end DL
namespace DL
open PySem PySem.Spec PyProof.Rows L2
section
variable {α β γ ω τ : Type} {os : OSt}
/-- the first of two values that is true, else the second -/
def orA (f : α → Bool) (m1 m2 : W α) : W α := fun q x => m1 (fun a => if f a = true then q a else m2 q x) x
theorem w_orA {f : α → Bool} {m1 m2 : W α} {q : α → Prop} {x : XW} : orA f m1 m2 q x ↔ m1 (fun a => if f a = true then q a else m2 q x) x := Iff.rfl
end
end DL
namespace DL
open PySem PySem.Spec PyProof.Rows L2
section
variable {α β γ τ : Type} {os : OSt}
def scvW (mi : W (List τ)) (mc : τ → W Bool) (mf : τ → W Str) : W (List Str) := fun q x => mi (fun xs => xs.length < 4000 ∧ compK xs (fun x k => mc x k X0) (fun x k => mf x k X0) q) x
theorem w_scv {mi : W (List τ)} {mc : τ → W Bool} {mf : τ → W Str} {q : List Str → Prop} {x : XW} : scvW mi mc mf q x ↔ mi (fun xs => xs.length < 4000 ∧ compK xs (fun x k => mc x k X0) (fun x k => mf x k X0) q) x := Iff.rfl
end
end DL
namespace DL
open PySem PySem.Spec PyProof.Rows L2
abbrev RuF := List Str × List Str × List Str
def eRuC (C : Nat) (r : RuF) : D := .ins C [eT D.str r.1, eT D.str r.2.1, eT D.str r.2.2]
inductive RK | once | sorted | uses | early
  deriving DecidableEq
def RK.num : RK → Nat | .once => 5 | .sorted => 6 | .uses => 7 | .early => 8
abbrev RuV := RK × RuF
def eRule (a : RuV) : D := eRuC a.1.num a.2
end DL
namespace DL
open PySem PySem.Spec PyProof.Rows L2
abbrev Fmt := Shp × List RuV × List Str × Int
/-- a format: shape, rules, named kinds, gap -/
def eFormat (a : Fmt) : D := .ins 10 [eShape a.1, eT eRule a.2.1, eT D.str a.2.2.1, D.int a.2.2.2]
end DL
namespace DL
open PySem PySem.Spec PyProof.Rows L2
section
variable {α β κ : Type} {os : OSt} {sg : Sig β κ}
/-- x = [y.pop(n)] if c else [] -/
def popIfK (mc : W Bool) (mi : W Int) (ys : List α) : M (List α × List α) β κ := fun nx k => mc (fun c => if c = true then mi (fun n => (-(2 ^ 63) ≤ n ∧ n < 2 ^ 63) ∧ ∃ l a, seqIndex? n ys.length = some l ∧ ys[l]? = some a ∧ nx (ys.eraseIdx l, [a])) k.xx else nx (ys, [])) k.xx
theorem w_popIf {mc : W Bool} {mi : W Int} {ys : List α} {nx : List α × List α → Prop} {k : K β κ} : popIfK mc mi ys nx k ↔ mc (fun c => if c = true then mi (fun n => (-(2 ^ 63) ≤ n ∧ n < 2 ^ 63) ∧ ∃ l a, seqIndex? n ys.length = some l ∧ ys[l]? = some a ∧ nx (ys.eraseIdx l, [a])) k.xx else nx (ys, [])) k.xx := Iff.rfl
end
end DL
namespace DL
open PySem PySem.Spec PyProof.Rows L2
section
variable {α β γ κ τ : Type} {sg : Sig β κ} {os : OSt}
/-- x.append(y), x a list of one's own or a value -/
def appOVK (m : W τ) (t : Sum (List τ) D) : M (Sum (List τ) D) β κ := fun nx k => ∃ xs, t = .inl xs ∧ appK m xs.length (fun v => nx (.inl (xs ++ [v]))) k
theorem w_appOV {m : W τ} {t : Sum (List τ) D} {nx : Sum (List τ) D → Prop} {k : K β κ} : appOVK m t nx k ↔ ∃ xs, t = .inl xs ∧ appK m xs.length (fun v => nx (.inl (xs ++ [v]))) k := Iff.rfl
end
section
variable {α β κ : Type} {sg : Sig β κ} {os : OSt} {X : Cx} {A : Cla} {Wx : WX} {sts : List Stmt} {res : α → OSt} {m : M α β κ}
/-- the slots, written out anew; some may be forgotten -/
theorem t_le (os' : OSt) (l : Le os' os) (h : DStms X A Wx sts (rdS sg os' res m)) : DStms X A Wx sts (rdS sg os res m) := tss h fun DD ρ S ⟨nx, k, F, g, z, h, kk⟩ => ⟨nx, k, F, g.le l, z, h, kk⟩
end
end DL
namespace DL
open PySem PySem.Spec PyProof.Rows L2
section
variable {P : Program} {w : World} {K : PySem.W.Frag} {A : Cla} {mg : Str → Option Value} {base : Heap} {N : List Str} {sc : Scope} {fo : Str → Bool} {lv : Nat} {X : Cx} {W : WX}
theorem In.vr (h : In P w K mg base N sc fo lv X W) {x : Str} {pos : Pos} (i : Nat) (ck : nmB N sc i x = true := by decide +kernel) : DE X A W (.Name x pos) (dVar i) := h.var ck
theorem In.ev (h : In P w K mg base N sc fo lv X W) {α : Type} {os : OSt} {x : Str} {pos : Pos} (e : α → D) (a : α) (i : Nat) (hA : At os i (.v (e a)) := by exact rfl) (ck : nmB N sc i x = true := by decide +kernel) : DE X A W (.Name x pos) (rdE os e (pu a)) := xe (i_var hA) (h.var ck)
theorem Is.vr (h : Is N sc X) {x : Str} {pos : Pos} (i : Nat) (ck : nmB N sc i x = true := by decide +kernel) : DE X A W (.Name x pos) (dVar i) := h.var ck
theorem Is.ev (h : Is N sc X) {α : Type} {os : OSt} {x : Str} {pos : Pos} (e : α → D) (a : α) (i : Nat) (hA : At os i (.v (e a)) := by exact rfl) (ck : nmB N sc i x = true := by decide +kernel) : DE X A W (.Name x pos) (rdE os e (pu a)) := xe (i_var hA) (h.var ck)
end
end DL
namespace DL
open PySem PySem.Spec PyProof.Rows L2
instance : NoL eRule := ⟨fun a => by unfold eRule eRuC; simp only [D.lg, D.lgs, NoL.lg, Bool.and_self]⟩
instance : NoL eFormat := ⟨fun a => by unfold eFormat; simp only [D.lg, D.lgs, NoL.lg, Bool.and_self]⟩
end DL
namespace DL
open PySem PySem.Spec PyProof.Rows L2
section
variable {P : Program} {w : World} {K : PySem.W.Frag} {A : Cla} {mg : Str → Option Value} {base : Heap} {N : List Str} {sc : Scope} {X : Cx} {W : WX}
theorem IsU.vr (h : IsU P w K mg base N sc X) {x : Str} {pos : Pos} (i : Nat) (ck : nmB N sc i x = true := by decide +kernel) : DE X A W (.Name x pos) (dVar i) := h.var ck
theorem IsU.ev (h : IsU P w K mg base N sc X) {α : Type} {os : OSt} {x : Str} {pos : Pos} (e : α → D) (a : α) (i : Nat) (hA : At os i (.v (e a)) := by exact rfl) (ck : nmB N sc i x = true := by decide +kernel) : DE X A W (.Name x pos) (rdE os e (pu a)) := xe (i_var hA) (h.var ck)
end
section
variable {α β κ : Type} {sg : Sig β κ} {os : OSt}
/-- the clauses of a try, typed: suites that return, and that call more -/
inductive HdTsU {β κ : Type} (P : Program) (w : World) (base : Heap) (K : PySem.W.Frag) (A : Cla) (mg : Str → Option Value) (N : List Str) (sc : Scope) (known : Nat → Bool) (e : β → D) (rl : κ → OSt) (pz : List Nat) (osb : OSt) (i : Nat) : List ExceptHandler → List (Nat × (List D → DL.W β)) → Prop
  | nil : HdTsU P w base K A mg N sc known e rl pz osb i [] []
  | cons {x y : Str} {n : Nat} {hw : List D → DL.W β} {b0 : Stmt} {sts : List Stmt} {np hp : Pos} {hs : List ExceptHandler} {l : List (Nat × (List D → DL.W β))} (ck : lcB N sc i y = true) (hg : glB sc x = true) (hm : mg x = some (A.cv n))
      (hex : ∀ m, known m = true → PySem.W.exmOne K (A.cv m) (A.cv n) = some (decide (m = n)))
      (su : ∀ (X' : Cx) (a q : Addr) (ds : List D), IsU P w K mg base N sc X' → Xs K X' A a q n ds → DStms X' (A.hot q n ds) WF (b0 :: sts) (rdS (⟨rvV e, po0, rl, [], pz⟩ : Sig β κ) (osb.set i (some (.v (.ref a)))) (fun (e : Empty) => nomatch e) (retK (hw ds)))) (rest : HdTsU P w base K A mg N sc known e rl pz osb i hs l) :
      HdTsU P w base K A mg N sc known e rl pz osb i (.ExceptHandler (some (.Name x np)) (some y) (b0 :: sts) hp :: hs) ((n, hw) :: l)
theorem HdTsU.is {P : Program} {w : World} {base : Heap} {K : PySem.W.Frag} {A : Cla} {mg : Str → Option Value} {N : List Str} {sc : Scope} {known : Nat → Bool} {e : β → D} {rl : κ → OSt} {pz : List Nat} {osb : OSt} {i : Nat} {hs : List ExceptHandler} {l : List (Nat × (List D → DL.W β))} (h : HdTsU P w base K A mg N sc known e rl pz osb i hs l) :
    HdIsU P w base K A mg N sc known hs (l.map fun q => (i, q.1, fun a ds => rdS (⟨rvV e, po0, rl, [], pz⟩ : Sig β κ) (osb.set i (some (.v (.ref a)))) (fun (e : Empty) => nomatch e) (retK (q.2 ds)))) := by
  induction h with
  | nil => exact .nil
  | cons ck hg hm hex su rest ih => exact .cons _ ck hg hm hex su ih
/-- the same, the suites any blocks -/
inductive HdTsS {α β κ : Type} (P : Program) (w : World) (base : Heap) (K : PySem.W.Frag) (A : Cla) (mg : Str → Option Value) (N : List Str) (sc : Scope) (known : Nat → Bool) (sg : Sig β κ) (res : α → OSt) (osb : OSt) (i : Nat) : List ExceptHandler → List (Nat × (List D → M α β κ)) → Prop
  | nil : HdTsS P w base K A mg N sc known sg res osb i [] []
  | cons {x y : Str} {n : Nat} {hw : List D → M α β κ} {b0 : Stmt} {sts : List Stmt} {np hp : Pos} {hs : List ExceptHandler} {l : List (Nat × (List D → M α β κ))} (ck : lcB N sc i y = true) (hg : glB sc x = true) (hm : mg x = some (A.cv n))
      (hex : ∀ m, known m = true → PySem.W.exmOne K (A.cv m) (A.cv n) = some (decide (m = n)))
      (su : ∀ (X' : Cx) (a q : Addr) (ds : List D), IsU P w K mg base N sc X' → Xs K X' A a q n ds → DStms X' (A.hot q n ds) WF (b0 :: sts) (rdS ({ sg with osx := [] } : Sig β κ) (osb.set i (some (.v (.ref a)))) res (hw ds))) (rest : HdTsS P w base K A mg N sc known sg res osb i hs l) :
      HdTsS P w base K A mg N sc known sg res osb i (.ExceptHandler (some (.Name x np)) (some y) (b0 :: sts) hp :: hs) ((n, hw) :: l)
theorem HdTsS.is {P : Program} {w : World} {base : Heap} {K : PySem.W.Frag} {A : Cla} {mg : Str → Option Value} {N : List Str} {sc : Scope} {known : Nat → Bool} {res : α → OSt} {osb : OSt} {i : Nat} {hs : List ExceptHandler} {l : List (Nat × (List D → M α β κ))} (h : HdTsS P w base K A mg N sc known sg res osb i hs l) :
    HdIsU P w base K A mg N sc known hs (l.map fun q => (i, q.1, fun a ds => rdS ({ sg with osx := [] } : Sig β κ) (osb.set i (some (.v (.ref a)))) res (q.2 ds))) := by
  induction h with
  | nil => exact .nil
  | cons ck hg hm hex su rest ih => exact .cons _ ck hg hm hex su ih
end
end DL
namespace DL
open PySem PySem.Spec PyProof.Rows L2
def efK (n : Nat) (f : Str) (fl : List Str) (d : D) (q : D → Prop) : Prop := ∃ xs x, d = .err n xs ∧ (fl.zip xs).lookup f = some x ∧ q x
def isEK (kn g : Nat → Bool) (d : D) (q : Bool → Prop) : Prop := ∃ n xs, d = .err n xs ∧ kn n = true ∧ q (g n)
section
variable {os : OSt} {α : Type}
theorem i_mkE {n k : Nat} {e1 : α → List D} {m : DL.W α} (hl : ∀ a, (e1 a).length = k) : Imp (rdE os eD (mapW m (fun a => D.err n (e1 a)))) (dMkE n k (rdA os e1 m)) := fun ρ S Q E ⟨q, x, r, hm, k, kx⟩ =>
  ⟨_, x, r, hm, fun v S' kp hq => ⟨hl v, k _ S' kp hq⟩, kx⟩
theorem i_ef {n : Nat} {f : Str} {fl : List Str} {m : DL.W D} : Imp (rdE os eD (unW m (efK n f fl))) (dEf n f fl (rdE os eD m)) := fun ρ S Q E ⟨q, x, r, hm, k, kx⟩ =>
  ⟨_, x, r, hm, fun v S' kp ⟨xs, y, e, l, hq⟩ => ⟨xs, y, e, l, k _ S' kp hq⟩, kx⟩
theorem i_isE {kn g : Nat → Bool} {m : DL.W D} : Imp (rdE os D.bl (unW m (isEK kn g))) (dIsE kn g (rdE os eD m)) := fun ρ S Q E ⟨q, x, r, hm, k, kx⟩ =>
  ⟨_, x, r, hm, fun v S' kp ⟨n, xs, e, l, hq⟩ => ⟨n, xs, e, l, k _ S' kp hq⟩, kx⟩
end
end DL
namespace DL
open PySem PySem.Spec PyProof.Rows L2
theorem w_pu {α : Type} {a : α} {q : α → Prop} {x : XW} : pu a q x ↔ q a := Iff.rfl
theorem w_map {α β : Type} {m : W α} {g : α → β} {q : β → Prop} {x : XW} : mapW m g q x ↔ m (fun a => q (g a)) x := Iff.rfl
theorem w_un {α γ : Type} {m : W α} {f : α → (γ → Prop) → Prop} {q : γ → Prop} {x : XW} : unW m f q x ↔ m (fun a => f a q) x := Iff.rfl
theorem w_op {α β γ : Type} {m1 : W α} {m2 : W β} {f : α → β → (γ → Prop) → Prop} {q : γ → Prop} {x : XW} : opW m1 m2 f q x ↔ m1 (fun a => m2 (fun b => f a b q) x) x := Iff.rfl
theorem w_pair {α β : Type} {m1 : W α} {m2 : W β} {q : (α × β) → Prop} {x : XW} : pairW m1 m2 q x ↔ m1 (fun a => m2 (fun b => q (a, b)) x) x := Iff.rfl
theorem w_ch {α β γ : Type} {m1 : W α} {m2 : W β} {m3 : W γ} {f : α → β → (Bool → Prop) → Prop} {g : β → γ → (Bool → Prop) → Prop} {q : Bool → Prop} {x : XW} : chW m1 m2 m3 f g q x ↔ m1 (fun a => m2 (fun b => f a b (fun k => if k = true then m3 (fun c => g b c q) x else q false)) x) x := Iff.rfl
theorem w_and {m1 m2 : W Bool} {q : Bool → Prop} {x : XW} : andW m1 m2 q x ↔ m1 (fun a => if a = true then m2 q x else q false) x := Iff.rfl
theorem w_or {m1 m2 : W Bool} {q : Bool → Prop} {x : XW} : orW m1 m2 q x ↔ m1 (fun a => if a = true then q true else m2 q x) x := Iff.rfl
theorem w_if {α : Type} {mc : W Bool} {m1 m2 : W α} {q : α → Prop} {x : XW} : ifW mc m1 m2 q x ↔ mc (fun c => if c = true then m1 q x else m2 q x) x := Iff.rfl
theorem w_len {α : Type} {m : W α} {n : α → Nat} {q : α → Prop} {x : XW} : lenW m n q x ↔ m (fun a => n a ≤ sizeLine ∧ q a) x := Iff.rfl
theorem w_rng1 {m : W Int} {q : List Int → Prop} {x : XW} : rng1W m q x ↔ m (fun j => (-(2 ^ 62) ≤ j ∧ j < 2 ^ 62) ∧ q (rng 0 j.toNat)) x := Iff.rfl
theorem w_rng2 {m : W (Int × Int × Unit)} {q : List Int → Prop} {x : XW} : rng2W m q x ↔ m (fun j => (-(2 ^ 62) ≤ j.1 ∧ j.1 < 2 ^ 62 ∧ -(2 ^ 62) ≤ j.2.1 ∧ j.2.1 < 2 ^ 62) ∧ q (rng j.1 (j.2.1 - j.1).toNat)) x := Iff.rfl
theorem w_one {α : Type} {m : W α} {q : (α × Unit) → Prop} {x : XW} : oneW m q x ↔ m (fun a => q (a, ())) x := Iff.rfl
theorem w_two {α β : Type} {m : W α} {m2 : W β} {q : (α × β × Unit) → Prop} {x : XW} : twoW m m2 q x ↔ m (fun a => m2 (fun b => q (a, b, ())) x) x := Iff.rfl
theorem w_lc {τ β : Type} {mi : W (List τ)} {mc : τ → W Bool} {mf : τ → W β} {q : List β → Prop} {x : XW} : lcW mi mc mf q x ↔ mi (fun xs => xs.length ≤ sizeLine ∧ compK xs (fun x k => mc x k X0) (fun x k => mf x k X0) q) x := Iff.rfl
theorem w_lcy {τ β : Type} {mi : W (List τ)} {mf : τ → W β} {q : List β → Prop} {x : XW} : lcyW mi mf q x ↔ mi (fun xs => xs.length ≤ sizeLine ∧ mapK xs (fun x k => mf x k X0) q) x := Iff.rfl
theorem w_call {α β δ : Type} {ma : W δ} {m : α → W β} {c : δ → α} {q : β → Prop} {x : XW} : callW ma m c q x ↔ ma (fun d => m (c d) q x) x := Iff.rfl
theorem w_meth {α β δ ω : Type} {mo : W ω} {ma : W δ} {m : α → W β} {c : ω → δ → α} {q : β → Prop} {x : XW} : methW mo ma m c q x ↔ mo (fun o => ma (fun d => m (c o d) q x) x) x := Iff.rfl
theorem w_slc {α γ : Type} {m : W α} {lo hi : Option (W Int)} {g : α → Option Int → Option Int → γ} {q : γ → Prop} {x : XW} : slcW m lo hi g q x ↔ m (fun a => partW lo (fun l => partW hi (fun h => q (g a l h)) x) x) x := Iff.rfl
theorem w_p0 {q : Option Int → Prop} {x : XW} : partW none q x ↔ q none := Iff.rfl
theorem w_p1 {m : W Int} {q : Option Int → Prop} {x : XW} : partW (some m) q x ↔ m (fun i => q (some i)) x := Iff.rfl
theorem w_p3 {α β γ : Type} {m1 : W α} {m2 : W β} {m3 : W γ} {q : (α × β × γ) → Prop} {x : XW} : p3W m1 m2 m3 q x ↔ m1 (fun a => m2 (fun b => m3 (fun c => q (a, b, c)) x) x) x := Iff.rfl
theorem w_p4 {α β γ δ : Type} {m1 : W α} {m2 : W β} {m3 : W γ} {m4 : W δ} {q : (α × β × γ × δ) → Prop} {x : XW} : p4W m1 m2 m3 m4 q x ↔ m1 (fun a => m2 (fun b => m3 (fun c => m4 (fun d => q (a, b, c, d)) x) x) x) x := Iff.rfl
theorem w_it0 {α : Type} {q : List α → Prop} {x : XW} : itW ([] : List (W α)) q x ↔ q [] := Iff.rfl
theorem w_it1 {α : Type} {m : W α} {ms : List (W α)} {q : List α → Prop} {x : XW} : itW (m :: ms) q x ↔ m (fun a => itW ms (fun as => q (a :: as)) x) x := Iff.rfl
theorem w_opx {α β γ : Type} {m1 : W α} {m2 : W β} {f : α → β → W γ} {q : γ → Prop} {x : XW} : opxW m1 m2 f q x ↔ m1 (fun a => m2 (fun b => f a b q x) x) x := Iff.rfl
theorem w_olen {α ω : Type} {mo : W ω} {m : α → W Int} {c : ω → α} {q : Int → Prop} {x : XW} : olenW mo m c q x ↔ mo (fun o => m (c o) (fun n => (0 ≤ n ∧ n < 2 ^ 63) ∧ q n) x) x := Iff.rfl
theorem w_nox {α β ω : Type} {m : α → W β} {c : ω → α} {mo : W ω} {q : β → Prop} {x : XW} : nox m c mo q x ↔ mo (fun o => m (c o) q X0) x := Iff.rfl
theorem w_sq {α α1 β κ : Type} {A : M α1 β κ} {B : α1 → M α β κ} {nx : α → Prop} {k : K β κ} : sqK A B nx k ↔ A (fun a => B a nx k) k := Iff.rfl
theorem w_end {α β κ : Type} {a : α} {nx : α → Prop} {k : K β κ} : endK a nx k ↔ nx a := Iff.rfl
theorem w_bk {α β κ : Type} {a : κ} {nx : α → Prop} {k : K β κ} : bkK a nx k ↔ k.bk a := Iff.rfl
theorem w_ct {α β κ : Type} {a : κ} {nx : α → Prop} {k : K β κ} : ctK a nx k ↔ k.ct a := Iff.rfl
theorem w_no {α β κ : Type} {nx : α → Prop} {k : K β κ} : noK nx k ↔ False := Iff.rfl
theorem w_ifk {α β κ : Type} {mc : W Bool} {A B : M α β κ} {nx : α → Prop} {k : K β κ} : ifK mc A B nx k ↔ mc (fun c => if c = true then A nx k else B nx k) k.xx := Iff.rfl
theorem w_set {α β κ : Type} {m : W α} {nx : α → Prop} {k : K β κ} : setK m nx k ↔ m nx k.xx := Iff.rfl
theorem w_drop {γ β κ : Type} {m : W γ} {nx : Unit → Prop} {k : K β κ} : dropK m nx k ↔ m (fun _ => nx ()) k.xx := Iff.rfl
theorem w_ret {α β κ : Type} {m : W β} {nx : α → Prop} {k : K β κ} : retK m nx k ↔ m k.rt k.xx := Iff.rfl
theorem w_rt {α β κ : Type} {b : β} {nx : α → Prop} {k : K β κ} : rtK b nx k ↔ k.rt b := Iff.rfl
theorem w_for {σ τ β κ : Type} {mi : W (List τ)} {a : σ} {body : τ → σ → M σ β σ} {nx : σ → Prop} {k : K β κ} : forM mi a body nx k ↔ mi (fun xs => forK xs a body nx k) k.xx := Iff.rfl
theorem w_app {γ β κ : Type} {m : W γ} {n : Nat} {nx : γ → Prop} {k : K β κ} : appK m n nx k ↔ m (fun v => n < sizeLine ∧ nx v) k.xx := Iff.rfl
theorem w_ext {γ β κ : Type} {m : W γ} {n : Nat} {f : γ → Nat} {nx : γ → Prop} {k : K β κ} : extK m n f nx k ↔ m (fun v => n + f v ≤ sizeLine ∧ nx v) k.xx := Iff.rfl
theorem w_sub {τ γ β κ : Type} {m : W γ} {mi : W Int} {xs : List τ} {nx : γ × Nat → Prop} {k : K β κ} : subK m mi xs nx k ↔ m (fun a => mi (fun j => ∃ n, ixN xs.length j = some n ∧ nx (a, n)) k.xx) k.xx := Iff.rfl
theorem w_pop {γ β κ : Type} {mi : W Int} {xs : List γ} {nx : γ × Nat → Prop} {k : K β κ} : popK mi xs nx k ↔ mi (fun n => (-(2 ^ 63) ≤ n ∧ n < 2 ^ 63) ∧ ∃ l a, seqIndex? n xs.length = some l ∧ xs[l]? = some a ∧ nx (a, l)) k.xx := Iff.rfl
theorem w_aug {γ δ β κ : Type} {m : W γ} {f : γ → (δ → Prop) → Prop} {nx : δ → Prop} {k : K β κ} : augK m f nx k ↔ m (fun b => f b nx) k.xx := Iff.rfl
theorem w_bag {β κ : Type} {ma : W (List Int × Int × Unit)} {nx : Unit → Prop} {k : K β κ} : bagK ma nx k ↔ ma (fun a => (a.1.length ≤ 63 ∧ 0 ≤ a.2.1 ∧ a.2.1 < 100) ∧ nx ()) k.xx := Iff.rfl
theorem w_par2 {α γ β κ : Type} {A : W α} {B : W γ} {nx : α × γ → Prop} {k : K β κ} : par2K A B nx k ↔ A (fun a => B (fun b => nx (a, b)) k.xx) k.xx := Iff.rfl
theorem w_par3 {α γ δ β κ : Type} {A : W α} {B : W γ} {C : W δ} {nx : α × γ × δ → Prop} {k : K β κ} : par3K A B C nx k ↔ A (fun a => B (fun b => C (fun c => nx (a, b, c)) k.xx) k.xx) k.xx := Iff.rfl
theorem w_raise {α β κ δ : Type} {n : Nat} {m : W α} {f : α → List D} {nx : δ → Prop} {k : K β κ} : raiseK n m f nx k ↔ m (fun a => k.xx n (f a)) k.xx := Iff.rfl
theorem w_isw {T : Isi} {d : D} {q : Bool → Prop} {x : XW} : isWordW T (d, ()) q x ↔ Isok T d ∧ q (wordD d) := Iff.rfl
theorem w_isn {T : Isi} {d : D} {q : Bool → Prop} {x : XW} : isNameW T (d, ()) q x ↔ Isok T d ∧ q (nameD d) := Iff.rfl
theorem w_isl {T : Isi} {d : D} {q : Bool → Prop} {x : XW} : isLineW T (d, ()) q x ↔ Isok2 T d ∧ q (lineD d) := Iff.rfl
theorem w_js {ms : List (W Str)} {q : Str → Prop} {x : XW} : jsW ms q x ↔ jsF ms Str.empty q x := Iff.rfl
theorem w_js0 {acc : Str} {q : Str → Prop} {x : XW} : jsF [] acc q x ↔ q acc := Iff.rfl
theorem w_js1 {m : W Str} {ms : List (W Str)} {acc : Str} {q : Str → Prop} {x : XW} : jsF (m :: ms) acc q x ↔ m (fun z => acc.length + z.length ≤ sizeLine ∧ jsF ms (acc ++ z) q x) x := Iff.rfl
theorem w_popL {α β κ : Type} {xs : List α} {nx : α → Prop} {k : K β κ} : popLK xs nx k ↔ ∃ a, xs[xs.length - 1]? = some a ∧ nx a := Iff.rfl
theorem w_appPop {α β κ : Type} {mi : W Int} {ys : List α} {n : Nat} {nx : α × Nat → Prop} {k : K β κ} : appPopK mi ys n nx k ↔ mi (fun r => (-(2 ^ 63) ≤ r ∧ r < 2 ^ 63) ∧ ∃ l a, seqIndex? r ys.length = some l ∧ ys[l]? = some a ∧ n < sizeLine ∧ nx (a, l)) k.xx := Iff.rfl
theorem w_putF {κ α β ω : Type} {m : W α} {mk : W κ} {n : Nat} {nx : α × κ → Prop} {k : K β ω} : putFK m mk n nx k ↔ m (fun v => mk (fun j => n < sizeLine ∧ nx (v, j)) k.xx) k.xx := Iff.rfl
theorem w_d1 {κ α : Type} {mk : W κ} {mv : W α} {q : List (κ × α) → Prop} {x : XW} : d1W mk mv q x ↔ mk (fun k => mv (fun v => q [(k, v)]) X0) X0 := Iff.rfl
theorem w_star {κ α : Type} [DecidableEq κ] {mm : W (List (κ × α))} {mk : W κ} {mv : W α} {q : List (κ × α) → Prop} {x : XW} : starW mm mk mv q x ↔ mm (fun kvs => kvs.length < sizeLine ∧ mk (fun k => mv (fun v => q (putF kvs k v)) X0) X0) X0 := Iff.rfl
theorem w_dc {τ κ α : Type} [DecidableEq κ] {mi : W (List τ)} {mc : τ → W Bool} {mk : τ → W κ} {mv : τ → W α} {q : List (κ × α) → Prop} {x : XW} : dcW mi mc mk mv q x ↔ mi (fun xs => xs.length < sizeLine ∧ dcK xs (fun x k => mc x k X0) (fun x k => mk x k X0) (fun x k => mv x k X0) [] q) x := Iff.rfl
theorem w_dcy {τ κ α : Type} [DecidableEq κ] {mi : W (List τ)} {mk : τ → W κ} {mv : τ → W α} {q : List (κ × α) → Prop} {x : XW} : dcyW mi mk mv q x ↔ mi (fun xs => xs.length < sizeLine ∧ dcK xs (fun _ k => k true) (fun x k => mk x k X0) (fun x k => mv x k X0) [] q) x := Iff.rfl
theorem w_sc {τ : Type} {mi : W (List τ)} {mf : τ → W Int} {q : Int → Prop} {x : XW} : scW mi mf q x ↔ mi (fun xs => xs.length < 4000 ∧ mapK xs (fun x k => mf x k X0) (fun ns => q (cntI ns []))) x := Iff.rfl
end DL
namespace DL
open PySem PySem.Spec PyProof.Rows L2
/-- all steps of the mirrors in one, for simp -/
def mirA := And.intro @w_pu (And.intro @w_map (And.intro @w_un (And.intro @w_op (And.intro @w_pair (And.intro @w_ch (And.intro @w_and (And.intro @w_or (And.intro @w_orA (And.intro @w_if (And.intro @w_len (And.intro @w_rng1 (And.intro @w_rng2 (And.intro @w_one (And.intro @w_two (And.intro @w_lc (And.intro @w_lcy (And.intro @w_call (And.intro @w_meth (And.intro @w_slc (And.intro @w_p0 (And.intro @w_p1 (And.intro @w_p3 (And.intro @w_p4 (And.intro @w_p5 (And.intro @w_p6 (And.intro @w_it0 (And.intro @w_it1 (And.intro @w_opx (And.intro @w_olen (And.intro @w_nox (And.intro @w_sq (And.intro @w_end (And.intro @w_bk (And.intro @w_ct (And.intro @w_no (And.intro @w_ifk (And.intro @w_set (And.intro @w_drop (And.intro @w_ret (And.intro @w_rt (And.intro @w_for (And.intro @w_app (And.intro @w_ext (And.intro @w_sub (And.intro @w_pop (And.intro @w_aug (And.intro @w_bag (And.intro @w_par2 (And.intro @w_par3 (And.intro @w_raise (And.intro @w_isw (And.intro @w_isn (And.intro @w_isl (And.intro @w_never (And.intro @w_nil (And.intro @w_cons (And.intro @w_cat (And.intro @w_sz (And.intro @w_putK (And.intro @w_lend (And.intro @w_app2 (And.intro @w_putF (And.intro @w_d1 (And.intro @w_star (And.intro @w_dc (And.intro @w_dcy (And.intro @w_sc (And.intro @w_scv (And.intro @w_popIf (And.intro @w_appOV (And.intro @w_js (And.intro @w_js0 (And.intro @w_js1 (And.intro @w_popL (And.intro @w_appPop (And.intro @Bool.false_eq_true (And.intro @Bool.not_true (And.intro @Bool.not_false (And.intro @Bool.not_eq_true' (And.intro @decide_eq_true_eq (And.intro @decide_eq_false_iff_not (And.intro @true_and (@and_true)))))))))))))))))))))))))))))))))))))))))))))))))))))))))))))))))))))))))))))))))))
end DL
namespace DL
open PySem PySem.Spec PyProof.Rows L2
theorem text_len : ∀ (ts : List Str) (k : Nat) (acc : Str), (textFrom k acc ts).length ≤ acc.length + (ts.map (·.length)).sum + 2 * ts.length
  | [], k, acc => by
    show acc.length ≤ _
    omega
  | t :: r, k, acc => by
    have h := text_len r (k + 1) (acc ++ ((if k > 0 then ", " else "" : String) : Str) ++ t)
    have e : ((if k > 0 then ", " else "" : String) : Str).length ≤ 2 := by split <;> decide +kernel
    rw [app_len, app_len] at h
    rw [List.map_cons, List.sum_cons, List.length_cons]
    show (textFrom (k + 1) (acc ++ ((if k > 0 then ", " else "" : String) : Str) ++ t) r).length ≤ _
    omega
theorem all_shown : ∀ xs : List D, PyData.shownAll (D.ps xs) = xs.map fun x => x.p.shown
  | [] => by unfold D.ps PyData.shownAll; rfl
  | x :: xs => by unfold D.ps PyData.shownAll; rw [all_shown xs]; rfl
theorem sum_le {B : Nat} : ∀ (xs : List D), (∀ x ∈ xs, x.p.shown.length ≤ B) → ((xs.map fun x => x.p.shown).map (·.length)).sum ≤ xs.length * B
  | [], _ => Nat.zero_le _
  | x :: xs, h => by
    have h1 := h x (List.mem_cons_self ..)
    have h2 := sum_le xs fun y hy => h y (List.mem_cons_of_mem _ hy)
    rw [List.map_cons, List.map_cons, List.sum_cons, List.length_cons, Nat.succ_mul]
    omega
theorem list_shown {B : Nat} {xs : List D} (h : ∀ x ∈ xs, x.p.shown.length ≤ B) : (PyData.list (D.ps xs)).shown.length ≤ xs.length * B + 2 * xs.length + 3 := by
  unfold PyData.shown listText
  rw [all_shown]
  have h1 := text_len (xs.map fun x => x.p.shown) 0 "["
  have h2 := sum_le xs h
  have e1 : (("[" : String) : Str).length = 1 := by decide +kernel
  have e2 : (("]" : String) : Str).length = 1 := by decide +kernel
  rw [app_len, e2]
  rw [e1, List.length_map] at h1
  omega
theorem tup_shown {B : Nat} {xs : List D} (h : ∀ x ∈ xs, x.p.shown.length ≤ B) : (PyData.tuple (D.ps xs)).shown.length ≤ xs.length * B + 2 * xs.length + 3 := by
  unfold PyData.shown tupleText
  rw [all_shown]
  have h1 := join_len (Str.ofString ", ") (xs.map fun x => x.p.shown)
  rw [TL.join_eq] at h1
  have h2 := sum_le xs h
  have e1 : (("(" : String) : Str).length = 1 := by decide +kernel
  have e3 : ((", " : String) : Str).length = 2 := by decide +kernel
  have e2 : ((if (xs.map fun x => x.p.shown).length == 1 then ",)" else ")" : String) : Str).length ≤ 2 := by split <;> decide +kernel
  rw [app_len, app_len, e1]
  rw [e3, List.length_map] at h1
  omega
theorem GoodW.shown {z : Str} (h : ∀ c ∈ z.cps.toList, c < 16 ^ 8) {n : Nat} (hl : z.length ≤ n) : (D.str z).p.shown.length ≤ 10 * n + 2 := by
  have := PySem.StrLaws.reprText_len z h
  show (reprText z).length ≤ _
  omega
theorem all_showable : ∀ xs : List D, (∀ x ∈ xs, x.p.showable = true) → PyData.showableAll (D.ps xs) = true
  | [], _ => by unfold D.ps PyData.showableAll; rfl
  | x :: xs, h => by
    unfold D.ps PyData.showableAll
    rw [h x (List.mem_cons_self ..), all_showable xs fun y hy => h y (List.mem_cons_of_mem _ hy)]
    rfl
theorem int_shown : ∀ n : Nat, n < 1001 → (PyData.shown (.int (n : Int))).length ≤ 100 := by decide +kernel
/-- data that can be shown: their depth, the length of their text -/
structure Sh (n B : Nat) (d : D) : Prop where
  dat : d.dat n = true
  able : d.p.showable = true
  len : d.p.shown.length ≤ B
theorem Sh.up {n m B C : Nat} {d : D} (h : Sh n B d) (hn : n ≤ m) (hB : B ≤ C) : Sh m C d := ⟨dat_up hn h.dat, h.able, Nat.le_trans h.len hB⟩
theorem sh_non : Sh 0 10 .non := ⟨rfl, rfl, by decide +kernel⟩
theorem sh_bl {b : Bool} : Sh 0 10 (.bl b) := ⟨rfl, rfl, by cases b <;> decide +kernel⟩
theorem log_ok : ∀ n : Nat, n < 1001 → n.log2 < 1920 := by decide +kernel
theorem sh_nat {i : Int} (h0 : 0 ≤ i) (h1 : i ≤ 1000) : Sh 0 100 (.int i) := by
  refine ⟨rfl, ?_, ?_⟩
  · unfold D.p PyData.showable
    exact decide_eq_true (log_ok i.natAbs (by omega))
  · have := int_shown i.toNat (by omega)
    rw [Int.toNat_of_nonneg h0] at this
    exact this
theorem sh_lst {n B : Nat} {xs : List D} (h : ∀ x ∈ xs, Sh n B x) : Sh (n + 1) (xs.length * B + 2 * xs.length + 3) (.lst xs) :=
  ⟨List.all_eq_true.mpr fun x hx => (h x hx).dat, by unfold D.p PyData.showable; exact all_showable xs fun x hx => (h x hx).able, list_shown fun x hx => (h x hx).len⟩
theorem sh_tup {n B : Nat} {xs : List D} (h : ∀ x ∈ xs, Sh n B x) : Sh (n + 1) (xs.length * B + 2 * xs.length + 3) (.tup xs) :=
  ⟨List.all_eq_true.mpr fun x hx => (h x hx).dat, by unfold D.p PyData.showable; exact all_showable xs fun x hx => (h x hx).able, tup_shown fun x hx => (h x hx).len⟩
theorem Sh.shw {n B : Nat} {d : D} (h : Sh n B d) (hn : n ≤ 16) (hB : B ≤ 16000000) : Shw d := ⟨dat_up hn h.dat, h.able, Nat.le_trans h.len (Nat.le_trans hB (by decide))⟩
theorem Sh.shwA {n B : Nat} {d : D} (h : Sh n B d) (hn : n ≤ 16) (hB : B ≤ 16000000) (hc : ∀ xs, d ≠ .cst xs := by intro _ e; cases e) : ShwA d := by
  have z := h.shw hn hB
  cases d with
  | int i =>
    have := h.able
    unfold D.p PyData.showable at this
    have l := z.2.2
    unfold D.p at l
    exact .inl ⟨i, rfl, of_decide_eq_true this, l⟩
  | lst xs => exact .inr (.inl ⟨xs, .inl rfl, z⟩)
  | tup xs => exact .inr (.inl ⟨xs, .inr rfl, z⟩)
  | non => exact .inr (.inr ⟨rfl, z.2.2⟩)
  | bl b => exact .inr (.inr ⟨rfl, z.2.2⟩)
  | str s => exact .inr (.inr ⟨rfl, z.2.2⟩)
  | cst xs => exact absurd rfl (hc xs)
  | _ => have := h.dat; revert this; cases n <;> intro this <;> cases this
theorem if_no {c : Prop} [Decidable c] {a b : Prop} (h : ¬ c) (hb : b) : if c then a else b := by rw [if_neg h]; exact hb
section
variable {α β γ δ κ σ τ : Type}
theorem sq_i {A : M β γ κ} {B : β → M α γ κ} {nx : α → Prop} {k : K γ κ} (h : A (fun a => B a nx k) k) : sqK A B nx k := h
theorem set_v {m : W α} {nx : α → Prop} {k : K β κ} (v : α) (h : ∀ (q : α → Prop) (x : XW), q v → m q x) (hq : nx v) : setK m nx k := h _ _ hq
theorem set_all {m : W α} {nx : α → Prop} {k : K β κ} (P : α → Prop) (h : ∀ (q : α → Prop) (x : XW), (∀ v, P v → q v) → m q x) (hq : ∀ v, P v → nx v) : setK m nx k := h _ _ hq
theorem par2_all {A : W α} {B : W γ} {nx : α × γ → Prop} {k : K β κ} (P : α → Prop) (P2 : γ → Prop) (ha : ∀ (q : α → Prop) (x : XW), (∀ a, P a → q a) → A q x) (hb : ∀ (q : γ → Prop) (x : XW), (∀ b, P2 b → q b) → B q x) (h : ∀ a b, P a → P2 b → nx (a, b)) : par2K A B nx k := ha _ _ fun a pa => hb _ _ fun b pb => h a b pa pb
theorem ifF_i {m : W Bool} {A B : M α β κ} {nx : α → Prop} {k : K β κ} (h : ∀ (q : Bool → Prop) (x : XW), q false → m q x) (hb : B nx k) : ifK m A B nx k := h _ _ (by show (if false = true then _ else _); rw [if_neg Bool.false_ne_true]; exact hb)
theorem end_i {a : α} {nx : α → Prop} {k : K β κ} (h : nx a) : endK a nx k := h
theorem for_all {mi : W (List τ)} {a : σ} {body : τ → σ → M σ β σ} {nx : σ → Prop} {k : K β κ} (P : List τ → Prop) (h : ∀ (q : List τ → Prop) (x : XW), (∀ xs, P xs → q xs) → mi q x) (hf : ∀ xs, P xs → forK xs a body nx k) : forM mi a body nx k := h _ _ hf
theorem app_i {m : W γ} {n : Nat} {nx : γ → Prop} {k : K β κ} (v : γ) (h : ∀ (q : γ → Prop) (x : XW), q v → m q x) (hn : n < 1000000) (hq : nx v) : appK m n nx k := h _ _ ⟨Nat.lt_of_lt_of_le hn (by decide), hq⟩
theorem bag_i {ma : W (List Int × Int × Unit)} {nx : Unit → Prop} {k : K β κ} (a : List Int) (i : Int) (h : ∀ (q : List Int × Int × Unit → Prop) (x : XW), q (a, i, ()) → ma q x) (hl : a.length ≤ 63) (h0 : 0 ≤ i) (h1 : i < 100) (hq : nx ()) : bagK ma nx k := h _ _ ⟨⟨hl, h0, h1⟩, hq⟩
end
end DL
namespace DL
open PySem PySem.Spec PyProof.Rows L2
section
variable {α β : Type}
theorem pig {xs : List α} : ∀ {ys : List α}, xs.Nodup → (∀ x ∈ xs, x ∈ ys) → xs.length ≤ ys.length := by
  induction xs with
  | nil => intro ys _ _; exact Nat.zero_le _
  | cons x xs ih =>
    intro ys nd sub
    rw [List.nodup_cons] at nd
    obtain ⟨a, b, e⟩ := List.append_of_mem (sub x List.mem_cons_self)
    subst e
    have := ih (ys := a ++ b) nd.2 fun y hy => by
      have h1 := sub y (List.mem_cons_of_mem _ hy)
      have h2 : y ≠ x := fun e => nd.1 (by rw [← e]; exact hy)
      rw [List.mem_append, List.mem_cons] at h1
      rw [List.mem_append]
      rcases h1 with h | h | h
      · exact .inl h
      · exact absurd h h2
      · exact .inr h
    simp only [List.length_cons, List.length_append] at this ⊢
    omega
end
abbrev Rw := List (Str × (Int × Str))
abbrev Tab := List Rw
def InS (n : Nat) (s : Int) : Prop := 0 ≤ s ∧ s < n
structure TabOk (ks : List Str) (t : Tab) : Prop where
  nd : ∀ r ∈ t, (r.map (·.1)).Nodup
  ks : ∀ r ∈ t, ∀ p ∈ r, p.1 ∈ ks
  to : ∀ r ∈ t, ∀ p ∈ r, InS t.length p.2.1
theorem InS.get {n : Nat} {s : Int} (h : InS n s) : ∃ i : Nat, s = i ∧ i < n := ⟨s.toNat, by unfold InS at h; omega, by unfold InS at h; omega⟩
theorem TabOk.row {ks : List Str} {t : Tab} (T : TabOk ks t) {r : Rw} (h : r ∈ t) : r.length ≤ ks.length := by
  have := pig (T.nd r h) (ys := ks) fun x hx => by
    obtain ⟨p, hp, e⟩ := List.mem_map.mp hx
    rw [← e]; exact T.ks r h p hp
  rwa [List.length_map] at this
end DL
namespace DL
open PySem PySem.Spec PyProof.Rows L2
def top (i : Nat) : Stmt := PySem.Challenge.pw_cleanmerges_k40_errors_by_hand.main.body.getD i (.Pass ⟨0, 0, 0, 0⟩)
def flG : Nat → List Str
  | 20 => ["index"]
  | 21 => ["index"]
  | 22 => ["kind"]
  | 23 => ["index"]
  | 24 => ["state"]
  | 25 => ["index"]
  | 26 => ["rule"]
  | 27 => ["gap"]
  | 28 => ["index"]
  | 29 => ["index"]
  | 30 => ["index"]
  | 31 => ["line"]
  | 32 => ["index"]
  | 33 => ["one", "other"]
  | 34 => ["kinds"]
  | 35 => ["line"]
  | 36 => ["index"]
  | 37 => ["hand"]
  | 38 => ["limit"]
  | 39 => ["line", "fault"]
  | 40 => ["hands"]
  | _ => []
def kErr : Nat → Bool := knN [20, 21, 22, 23, 24, 25, 26, 27, 28, 29, 30, 31, 32, 33, 34, 35, 36, 37, 38, 39, 40]
def kErr_LookupError : Nat → Bool := knN [36, 37]
def kErr_OverflowError : Nat → Bool := knN [38]
def kErr_RuntimeError : Nat → Bool := knN [39, 40]
def kErr_ValueError : Nat → Bool := knN [20, 21, 22, 23, 24, 25, 26, 27, 28, 29, 30, 31, 32, 33, 34, 35]
set_option genInjectivity false in
structure Tx (P : Program) (K : PySem.W.Frag) (mg : Str → Option Value) where
  w : World
  f__law_pot : Addr
  f__law_draw : Addr
  f__law_thing : Addr
  f__law_made : Addr
  f__law_made_more : Addr
  f__law_under : Addr
  f_law : Addr
  c_BadLine : Addr
  m_BadLine : mg "BadLine" = some (.ref c_BadLine)
  er_BadLine : ∀ (w : World) (base : Heap), ErrR P w K mg base c_BadLine (flG 20)
  c_BadStretch : Addr
  m_BadStretch : mg "BadStretch" = some (.ref c_BadStretch)
  er_BadStretch : ∀ (w : World) (base : Heap), ErrR P w K mg base c_BadStretch (flG 21)
  c_BadKind : Addr
  m_BadKind : mg "BadKind" = some (.ref c_BadKind)
  er_BadKind : ∀ (w : World) (base : Heap), ErrR P w K mg base c_BadKind (flG 22)
  c_BadMove : Addr
  m_BadMove : mg "BadMove" = some (.ref c_BadMove)
  er_BadMove : ∀ (w : World) (base : Heap), ErrR P w K mg base c_BadMove (flG 23)
  c_BadState : Addr
  m_BadState : mg "BadState" = some (.ref c_BadState)
  er_BadState : ∀ (w : World) (base : Heap), ErrR P w K mg base c_BadState (flG 24)
  c_BadWindow : Addr
  m_BadWindow : mg "BadWindow" = some (.ref c_BadWindow)
  er_BadWindow : ∀ (w : World) (base : Heap), ErrR P w K mg base c_BadWindow (flG 25)
  c_BadRule : Addr
  m_BadRule : mg "BadRule" = some (.ref c_BadRule)
  er_BadRule : ∀ (w : World) (base : Heap), ErrR P w K mg base c_BadRule (flG 26)
  c_BadGap : Addr
  m_BadGap : mg "BadGap" = some (.ref c_BadGap)
  er_BadGap : ∀ (w : World) (base : Heap), ErrR P w K mg base c_BadGap (flG 27)
  c_BadColumn : Addr
  m_BadColumn : mg "BadColumn" = some (.ref c_BadColumn)
  er_BadColumn : ∀ (w : World) (base : Heap), ErrR P w K mg base c_BadColumn (flG 28)
  c_BadStep : Addr
  m_BadStep : mg "BadStep" = some (.ref c_BadStep)
  er_BadStep : ∀ (w : World) (base : Heap), ErrR P w K mg base c_BadStep (flG 29)
  c_BadChange : Addr
  m_BadChange : mg "BadChange" = some (.ref c_BadChange)
  er_BadChange : ∀ (w : World) (base : Heap), ErrR P w K mg base c_BadChange (flG 30)
  c_BadText : Addr
  m_BadText : mg "BadText" = some (.ref c_BadText)
  er_BadText : ∀ (w : World) (base : Heap), ErrR P w K mg base c_BadText (flG 31)
  c_Misfit : Addr
  m_Misfit : mg "Misfit" = some (.ref c_Misfit)
  er_Misfit : ∀ (w : World) (base : Heap), ErrR P w K mg base c_Misfit (flG 32)
  c_Clash : Addr
  m_Clash : mg "Clash" = some (.ref c_Clash)
  er_Clash : ∀ (w : World) (base : Heap), ErrR P w K mg base c_Clash (flG 33)
  c_Mismatch : Addr
  m_Mismatch : mg "Mismatch" = some (.ref c_Mismatch)
  er_Mismatch : ∀ (w : World) (base : Heap), ErrR P w K mg base c_Mismatch (flG 34)
  c_Stuck : Addr
  m_Stuck : mg "Stuck" = some (.ref c_Stuck)
  er_Stuck : ∀ (w : World) (base : Heap), ErrR P w K mg base c_Stuck (flG 35)
  c_NoLine : Addr
  m_NoLine : mg "NoLine" = some (.ref c_NoLine)
  er_NoLine : ∀ (w : World) (base : Heap), ErrR P w K mg base c_NoLine (flG 36)
  c_NoHand : Addr
  m_NoHand : mg "NoHand" = some (.ref c_NoHand)
  er_NoHand : ∀ (w : World) (base : Heap), ErrR P w K mg base c_NoHand (flG 37)
  c_TooMany : Addr
  m_TooMany : mg "TooMany" = some (.ref c_TooMany)
  er_TooMany : ∀ (w : World) (base : Heap), ErrR P w K mg base c_TooMany (flG 38)
  c_Broken : Addr
  m_Broken : mg "Broken" = some (.ref c_Broken)
  er_Broken : ∀ (w : World) (base : Heap), ErrR P w K mg base c_Broken (flG 39)
  c_NotGood : Addr
  m_NotGood : mg "NotGood" = some (.ref c_NotGood)
  er_NotGood : ∀ (w : World) (base : Heap), ErrR P w K mg base c_NotGood (flG 40)
  xf_BadChange : XfC K c_BadChange
  xf_BadColumn : XfC K c_BadColumn
  xf_BadGap : XfC K c_BadGap
  xf_BadKind : XfC K c_BadKind
  xf_BadLine : XfC K c_BadLine
  xf_BadMove : XfC K c_BadMove
  xf_BadRule : XfC K c_BadRule
  xf_BadState : XfC K c_BadState
  xf_BadStep : XfC K c_BadStep
  xf_BadStretch : XfC K c_BadStretch
  xf_BadText : XfC K c_BadText
  xf_BadWindow : XfC K c_BadWindow
  xf_Broken : XfC K c_Broken
  xf_Clash : XfC K c_Clash
  xf_Misfit : XfC K c_Misfit
  xf_Mismatch : XfC K c_Mismatch
  xf_NoHand : XfC K c_NoHand
  xf_NoLine : XfC K c_NoLine
  xf_NotGood : XfC K c_NotGood
  xf_Stuck : XfC K c_Stuck
  xf_TooMany : XfC K c_TooMany
  em_BadLine : ErrM K c_BadLine bVE
  em_BadStretch : ErrM K c_BadStretch bVE
  em_BadKind : ErrM K c_BadKind bVE
  em_BadMove : ErrM K c_BadMove bVE
  em_BadState : ErrM K c_BadState bVE
  em_BadWindow : ErrM K c_BadWindow bVE
  em_BadRule : ErrM K c_BadRule bVE
  em_BadGap : ErrM K c_BadGap bVE
  em_BadColumn : ErrM K c_BadColumn bVE
  em_BadStep : ErrM K c_BadStep bVE
  em_BadChange : ErrM K c_BadChange bVE
  em_BadText : ErrM K c_BadText bVE
  em_Misfit : ErrM K c_Misfit bVE
  em_Clash : ErrM K c_Clash bVE
  em_Mismatch : ErrM K c_Mismatch bVE
  em_Stuck : ErrM K c_Stuck bVE
  em_NoLine : ErrM K c_NoLine bLE
  em_NoHand : ErrM K c_NoHand bLE
  em_TooMany : ErrM K c_TooMany bOE
  em_Broken : ErrM K c_Broken bRE
  em_NotGood : ErrM K c_NotGood bRE
  ndc : ([c_BadLine, c_BadStretch, c_BadKind, c_BadMove, c_BadState, c_BadWindow, c_BadRule, c_BadGap, c_BadColumn, c_BadStep, c_BadChange, c_BadText, c_Misfit, c_Clash, c_Mismatch, c_Stuck, c_NoLine, c_NoHand, c_TooMany, c_Broken, c_NotGood] : List Addr).Nodup
  nf_BadChange_index : PySem.W.findIn K (.ref c_BadChange) "index" = some none
  nf_BadColumn_index : PySem.W.findIn K (.ref c_BadColumn) "index" = some none
  nf_BadGap_gap : PySem.W.findIn K (.ref c_BadGap) "gap" = some none
  nf_BadKind_kind : PySem.W.findIn K (.ref c_BadKind) "kind" = some none
  nf_BadLine_index : PySem.W.findIn K (.ref c_BadLine) "index" = some none
  nf_BadMove_index : PySem.W.findIn K (.ref c_BadMove) "index" = some none
  nf_BadRule_rule : PySem.W.findIn K (.ref c_BadRule) "rule" = some none
  nf_BadState_state : PySem.W.findIn K (.ref c_BadState) "state" = some none
  nf_BadStep_index : PySem.W.findIn K (.ref c_BadStep) "index" = some none
  nf_BadStretch_index : PySem.W.findIn K (.ref c_BadStretch) "index" = some none
  nf_BadText_line : PySem.W.findIn K (.ref c_BadText) "line" = some none
  nf_BadWindow_index : PySem.W.findIn K (.ref c_BadWindow) "index" = some none
  nf_Broken_fault : PySem.W.findIn K (.ref c_Broken) "fault" = some none
  nf_Broken_line : PySem.W.findIn K (.ref c_Broken) "line" = some none
  nf_Clash_one : PySem.W.findIn K (.ref c_Clash) "one" = some none
  nf_Clash_other : PySem.W.findIn K (.ref c_Clash) "other" = some none
  nf_Misfit_index : PySem.W.findIn K (.ref c_Misfit) "index" = some none
  nf_Mismatch_kinds : PySem.W.findIn K (.ref c_Mismatch) "kinds" = some none
  nf_NoHand_hand : PySem.W.findIn K (.ref c_NoHand) "hand" = some none
  nf_NoLine_index : PySem.W.findIn K (.ref c_NoLine) "index" = some none
  nf_NotGood_hands : PySem.W.findIn K (.ref c_NotGood) "hands" = some none
  nf_Stuck_line : PySem.W.findIn K (.ref c_Stuck) "line" = some none
  nf_TooMany_limit : PySem.W.findIn K (.ref c_TooMany) "limit" = some none
  p__law_pot : FunP K "_law_pot" "_law_pot" (top 23) f__law_pot
  m__law_pot : mg "_law_pot" = some (.ref f__law_pot)
  k__law_pot : PySem.W.keepIn K (.ref f__law_pot) = true
  p__law_draw : FunP K "_law_draw" "_law_draw" (top 24) f__law_draw
  m__law_draw : mg "_law_draw" = some (.ref f__law_draw)
  k__law_draw : PySem.W.keepIn K (.ref f__law_draw) = true
  p__law_thing : FunP K "_law_thing" "_law_thing" (top 25) f__law_thing
  m__law_thing : mg "_law_thing" = some (.ref f__law_thing)
  k__law_thing : PySem.W.keepIn K (.ref f__law_thing) = true
  p__law_made : FunP K "_law_made" "_law_made" (top 27) f__law_made
  m__law_made : mg "_law_made" = some (.ref f__law_made)
  k__law_made : PySem.W.keepIn K (.ref f__law_made) = true
  p__law_made_more : FunP K "_law_made_more" "_law_made_more" (top 28) f__law_made_more
  m__law_made_more : mg "_law_made_more" = some (.ref f__law_made_more)
  k__law_made_more : PySem.W.keepIn K (.ref f__law_made_more) = true
  p__law_under : FunP K "_law_under" "_law_under" (top 26) f__law_under
  m__law_under : mg "_law_under" = some (.ref f__law_under)
  k__law_under : PySem.W.keepIn K (.ref f__law_under) = true
  p_law : FunP K "law" "law" (top 29) f_law
  m_law : mg "law" = some (.ref f_law)
  k_law : PySem.W.keepIn K (.ref f_law) = true
  z_LookupError : mg "LookupError" = none
  z_OverflowError : mg "OverflowError" = none
  z_RuntimeError : mg "RuntimeError" = none
  z_ValueError : mg "ValueError" = none
  z_abs : mg "abs" = none
  z_enumerate : mg "enumerate" = none
  z_int : mg "int" = none
  z_isinstance : mg "isinstance" = none
  z_len : mg "len" = none
  z_max : mg "max" = none
  z_min : mg "min" = none
  z_range : mg "range" = none
  z_repr : mg "repr" = none
section
variable {P : Program} {Kf : PySem.W.Frag} {mg : Str → Option Value} {base : Heap} {X : Cx} {Wx : WX}
def Tx.A (T : Tx P Kf mg) : Cla := ⟨fun _ => 0, fun n => match n with | 20 => .ref T.c_BadLine | 21 => .ref T.c_BadStretch | 22 => .ref T.c_BadKind | 23 => .ref T.c_BadMove | 24 => .ref T.c_BadState | 25 => .ref T.c_BadWindow | 26 => .ref T.c_BadRule | 27 => .ref T.c_BadGap | 28 => .ref T.c_BadColumn | 29 => .ref T.c_BadStep | 30 => .ref T.c_BadChange | 31 => .ref T.c_BadText | 32 => .ref T.c_Misfit | 33 => .ref T.c_Clash | 34 => .ref T.c_Mismatch | 35 => .ref T.c_Stuck | 36 => .ref T.c_NoLine | 37 => .ref T.c_NoHand | 38 => .ref T.c_TooMany | 39 => .ref T.c_Broken | 40 => .ref T.c_NotGood | _ => .none, flG, none, T.w⟩
theorem Tx.ea (T : Tx P Kf mg) : ErrAll Kf T.A.cv [(20, T.c_BadLine, bVE), (21, T.c_BadStretch, bVE), (22, T.c_BadKind, bVE), (23, T.c_BadMove, bVE), (24, T.c_BadState, bVE), (25, T.c_BadWindow, bVE), (26, T.c_BadRule, bVE), (27, T.c_BadGap, bVE), (28, T.c_BadColumn, bVE), (29, T.c_BadStep, bVE), (30, T.c_BadChange, bVE), (31, T.c_BadText, bVE), (32, T.c_Misfit, bVE), (33, T.c_Clash, bVE), (34, T.c_Mismatch, bVE), (35, T.c_Stuck, bVE), (36, T.c_NoLine, bLE), (37, T.c_NoHand, bLE), (38, T.c_TooMany, bOE), (39, T.c_Broken, bRE), (40, T.c_NotGood, bRE)] := .cons T.em_BadLine rfl (.cons T.em_BadStretch rfl (.cons T.em_BadKind rfl (.cons T.em_BadMove rfl (.cons T.em_BadState rfl (.cons T.em_BadWindow rfl (.cons T.em_BadRule rfl (.cons T.em_BadGap rfl (.cons T.em_BadColumn rfl (.cons T.em_BadStep rfl (.cons T.em_BadChange rfl (.cons T.em_BadText rfl (.cons T.em_Misfit rfl (.cons T.em_Clash rfl (.cons T.em_Mismatch rfl (.cons T.em_Stuck rfl (.cons T.em_NoLine rfl (.cons T.em_NoHand rfl (.cons T.em_TooMany rfl (.cons T.em_Broken rfl (.cons T.em_NotGood rfl (.nil)))))))))))))))))))))
theorem Tx.isO_BadChange (T : Tx P Kf mg) : ErrIs Kf T.A.cv kErr (fun n => decide (n = 30)) (.ref T.c_BadChange) := T.ea.isO T.ndc (by show List.Nodup [20, 21, 22, 23, 24, 25, 26, 27, 28, 29, 30, 31, 32, 33, 34, 35, 36, 37, 38, 39, 40]; decide +kernel) rfl (.tail _ (.tail _ (.tail _ (.tail _ (.tail _ (.tail _ (.tail _ (.tail _ (.tail _ (.tail _ (.head _)))))))))))
theorem Tx.isO_BadColumn (T : Tx P Kf mg) : ErrIs Kf T.A.cv kErr (fun n => decide (n = 28)) (.ref T.c_BadColumn) := T.ea.isO T.ndc (by show List.Nodup [20, 21, 22, 23, 24, 25, 26, 27, 28, 29, 30, 31, 32, 33, 34, 35, 36, 37, 38, 39, 40]; decide +kernel) rfl (.tail _ (.tail _ (.tail _ (.tail _ (.tail _ (.tail _ (.tail _ (.tail _ (.head _)))))))))
theorem Tx.isO_BadGap (T : Tx P Kf mg) : ErrIs Kf T.A.cv kErr (fun n => decide (n = 27)) (.ref T.c_BadGap) := T.ea.isO T.ndc (by show List.Nodup [20, 21, 22, 23, 24, 25, 26, 27, 28, 29, 30, 31, 32, 33, 34, 35, 36, 37, 38, 39, 40]; decide +kernel) rfl (.tail _ (.tail _ (.tail _ (.tail _ (.tail _ (.tail _ (.tail _ (.head _))))))))
theorem Tx.isO_BadKind (T : Tx P Kf mg) : ErrIs Kf T.A.cv kErr (fun n => decide (n = 22)) (.ref T.c_BadKind) := T.ea.isO T.ndc (by show List.Nodup [20, 21, 22, 23, 24, 25, 26, 27, 28, 29, 30, 31, 32, 33, 34, 35, 36, 37, 38, 39, 40]; decide +kernel) rfl (.tail _ (.tail _ (.head _)))
theorem Tx.isO_BadLine (T : Tx P Kf mg) : ErrIs Kf T.A.cv kErr (fun n => decide (n = 20)) (.ref T.c_BadLine) := T.ea.isO T.ndc (by show List.Nodup [20, 21, 22, 23, 24, 25, 26, 27, 28, 29, 30, 31, 32, 33, 34, 35, 36, 37, 38, 39, 40]; decide +kernel) rfl (.head _)
theorem Tx.isO_BadMove (T : Tx P Kf mg) : ErrIs Kf T.A.cv kErr (fun n => decide (n = 23)) (.ref T.c_BadMove) := T.ea.isO T.ndc (by show List.Nodup [20, 21, 22, 23, 24, 25, 26, 27, 28, 29, 30, 31, 32, 33, 34, 35, 36, 37, 38, 39, 40]; decide +kernel) rfl (.tail _ (.tail _ (.tail _ (.head _))))
theorem Tx.isO_BadRule (T : Tx P Kf mg) : ErrIs Kf T.A.cv kErr (fun n => decide (n = 26)) (.ref T.c_BadRule) := T.ea.isO T.ndc (by show List.Nodup [20, 21, 22, 23, 24, 25, 26, 27, 28, 29, 30, 31, 32, 33, 34, 35, 36, 37, 38, 39, 40]; decide +kernel) rfl (.tail _ (.tail _ (.tail _ (.tail _ (.tail _ (.tail _ (.head _)))))))
theorem Tx.isO_BadState (T : Tx P Kf mg) : ErrIs Kf T.A.cv kErr (fun n => decide (n = 24)) (.ref T.c_BadState) := T.ea.isO T.ndc (by show List.Nodup [20, 21, 22, 23, 24, 25, 26, 27, 28, 29, 30, 31, 32, 33, 34, 35, 36, 37, 38, 39, 40]; decide +kernel) rfl (.tail _ (.tail _ (.tail _ (.tail _ (.head _)))))
theorem Tx.isO_BadStep (T : Tx P Kf mg) : ErrIs Kf T.A.cv kErr (fun n => decide (n = 29)) (.ref T.c_BadStep) := T.ea.isO T.ndc (by show List.Nodup [20, 21, 22, 23, 24, 25, 26, 27, 28, 29, 30, 31, 32, 33, 34, 35, 36, 37, 38, 39, 40]; decide +kernel) rfl (.tail _ (.tail _ (.tail _ (.tail _ (.tail _ (.tail _ (.tail _ (.tail _ (.tail _ (.head _))))))))))
theorem Tx.isO_BadStretch (T : Tx P Kf mg) : ErrIs Kf T.A.cv kErr (fun n => decide (n = 21)) (.ref T.c_BadStretch) := T.ea.isO T.ndc (by show List.Nodup [20, 21, 22, 23, 24, 25, 26, 27, 28, 29, 30, 31, 32, 33, 34, 35, 36, 37, 38, 39, 40]; decide +kernel) rfl (.tail _ (.head _))
theorem Tx.isO_BadText (T : Tx P Kf mg) : ErrIs Kf T.A.cv kErr (fun n => decide (n = 31)) (.ref T.c_BadText) := T.ea.isO T.ndc (by show List.Nodup [20, 21, 22, 23, 24, 25, 26, 27, 28, 29, 30, 31, 32, 33, 34, 35, 36, 37, 38, 39, 40]; decide +kernel) rfl (.tail _ (.tail _ (.tail _ (.tail _ (.tail _ (.tail _ (.tail _ (.tail _ (.tail _ (.tail _ (.tail _ (.head _))))))))))))
theorem Tx.isO_BadWindow (T : Tx P Kf mg) : ErrIs Kf T.A.cv kErr (fun n => decide (n = 25)) (.ref T.c_BadWindow) := T.ea.isO T.ndc (by show List.Nodup [20, 21, 22, 23, 24, 25, 26, 27, 28, 29, 30, 31, 32, 33, 34, 35, 36, 37, 38, 39, 40]; decide +kernel) rfl (.tail _ (.tail _ (.tail _ (.tail _ (.tail _ (.head _))))))
theorem Tx.isO_Broken (T : Tx P Kf mg) : ErrIs Kf T.A.cv kErr (fun n => decide (n = 39)) (.ref T.c_Broken) := T.ea.isO T.ndc (by show List.Nodup [20, 21, 22, 23, 24, 25, 26, 27, 28, 29, 30, 31, 32, 33, 34, 35, 36, 37, 38, 39, 40]; decide +kernel) rfl (.tail _ (.tail _ (.tail _ (.tail _ (.tail _ (.tail _ (.tail _ (.tail _ (.tail _ (.tail _ (.tail _ (.tail _ (.tail _ (.tail _ (.tail _ (.tail _ (.tail _ (.tail _ (.tail _ (.head _))))))))))))))))))))
theorem Tx.isO_Clash (T : Tx P Kf mg) : ErrIs Kf T.A.cv kErr (fun n => decide (n = 33)) (.ref T.c_Clash) := T.ea.isO T.ndc (by show List.Nodup [20, 21, 22, 23, 24, 25, 26, 27, 28, 29, 30, 31, 32, 33, 34, 35, 36, 37, 38, 39, 40]; decide +kernel) rfl (.tail _ (.tail _ (.tail _ (.tail _ (.tail _ (.tail _ (.tail _ (.tail _ (.tail _ (.tail _ (.tail _ (.tail _ (.tail _ (.head _))))))))))))))
theorem Tx.isT_LookupError (T : Tx P Kf mg) : ErrIs Kf T.A.cv kErr kErr_LookupError (.type "LookupError") := T.ea.isT (by decide +kernel) rfl
theorem Tx.isO_Misfit (T : Tx P Kf mg) : ErrIs Kf T.A.cv kErr (fun n => decide (n = 32)) (.ref T.c_Misfit) := T.ea.isO T.ndc (by show List.Nodup [20, 21, 22, 23, 24, 25, 26, 27, 28, 29, 30, 31, 32, 33, 34, 35, 36, 37, 38, 39, 40]; decide +kernel) rfl (.tail _ (.tail _ (.tail _ (.tail _ (.tail _ (.tail _ (.tail _ (.tail _ (.tail _ (.tail _ (.tail _ (.tail _ (.head _)))))))))))))
theorem Tx.isO_Mismatch (T : Tx P Kf mg) : ErrIs Kf T.A.cv kErr (fun n => decide (n = 34)) (.ref T.c_Mismatch) := T.ea.isO T.ndc (by show List.Nodup [20, 21, 22, 23, 24, 25, 26, 27, 28, 29, 30, 31, 32, 33, 34, 35, 36, 37, 38, 39, 40]; decide +kernel) rfl (.tail _ (.tail _ (.tail _ (.tail _ (.tail _ (.tail _ (.tail _ (.tail _ (.tail _ (.tail _ (.tail _ (.tail _ (.tail _ (.tail _ (.head _)))))))))))))))
theorem Tx.isO_NoHand (T : Tx P Kf mg) : ErrIs Kf T.A.cv kErr (fun n => decide (n = 37)) (.ref T.c_NoHand) := T.ea.isO T.ndc (by show List.Nodup [20, 21, 22, 23, 24, 25, 26, 27, 28, 29, 30, 31, 32, 33, 34, 35, 36, 37, 38, 39, 40]; decide +kernel) rfl (.tail _ (.tail _ (.tail _ (.tail _ (.tail _ (.tail _ (.tail _ (.tail _ (.tail _ (.tail _ (.tail _ (.tail _ (.tail _ (.tail _ (.tail _ (.tail _ (.tail _ (.head _))))))))))))))))))
theorem Tx.isO_NoLine (T : Tx P Kf mg) : ErrIs Kf T.A.cv kErr (fun n => decide (n = 36)) (.ref T.c_NoLine) := T.ea.isO T.ndc (by show List.Nodup [20, 21, 22, 23, 24, 25, 26, 27, 28, 29, 30, 31, 32, 33, 34, 35, 36, 37, 38, 39, 40]; decide +kernel) rfl (.tail _ (.tail _ (.tail _ (.tail _ (.tail _ (.tail _ (.tail _ (.tail _ (.tail _ (.tail _ (.tail _ (.tail _ (.tail _ (.tail _ (.tail _ (.tail _ (.head _)))))))))))))))))
theorem Tx.isO_NotGood (T : Tx P Kf mg) : ErrIs Kf T.A.cv kErr (fun n => decide (n = 40)) (.ref T.c_NotGood) := T.ea.isO T.ndc (by show List.Nodup [20, 21, 22, 23, 24, 25, 26, 27, 28, 29, 30, 31, 32, 33, 34, 35, 36, 37, 38, 39, 40]; decide +kernel) rfl (.tail _ (.tail _ (.tail _ (.tail _ (.tail _ (.tail _ (.tail _ (.tail _ (.tail _ (.tail _ (.tail _ (.tail _ (.tail _ (.tail _ (.tail _ (.tail _ (.tail _ (.tail _ (.tail _ (.tail _ (.head _)))))))))))))))))))))
theorem Tx.isT_OverflowError (T : Tx P Kf mg) : ErrIs Kf T.A.cv kErr kErr_OverflowError (.type "OverflowError") := T.ea.isT (by decide +kernel) rfl
theorem Tx.isT_RuntimeError (T : Tx P Kf mg) : ErrIs Kf T.A.cv kErr kErr_RuntimeError (.type "RuntimeError") := T.ea.isT (by decide +kernel) rfl
theorem Tx.isO_Stuck (T : Tx P Kf mg) : ErrIs Kf T.A.cv kErr (fun n => decide (n = 35)) (.ref T.c_Stuck) := T.ea.isO T.ndc (by show List.Nodup [20, 21, 22, 23, 24, 25, 26, 27, 28, 29, 30, 31, 32, 33, 34, 35, 36, 37, 38, 39, 40]; decide +kernel) rfl (.tail _ (.tail _ (.tail _ (.tail _ (.tail _ (.tail _ (.tail _ (.tail _ (.tail _ (.tail _ (.tail _ (.tail _ (.tail _ (.tail _ (.tail _ (.head _))))))))))))))))
theorem Tx.isO_TooMany (T : Tx P Kf mg) : ErrIs Kf T.A.cv kErr (fun n => decide (n = 38)) (.ref T.c_TooMany) := T.ea.isO T.ndc (by show List.Nodup [20, 21, 22, 23, 24, 25, 26, 27, 28, 29, 30, 31, 32, 33, 34, 35, 36, 37, 38, 39, 40]; decide +kernel) rfl (.tail _ (.tail _ (.tail _ (.tail _ (.tail _ (.tail _ (.tail _ (.tail _ (.tail _ (.tail _ (.tail _ (.tail _ (.tail _ (.tail _ (.tail _ (.tail _ (.tail _ (.tail _ (.head _)))))))))))))))))))
theorem Tx.isT_ValueError (T : Tx P Kf mg) : ErrIs Kf T.A.cv kErr kErr_ValueError (.type "ValueError") := T.ea.isT (by decide +kernel) rfl
def N__law_pot : List Str := ["_law_script", "_law_k", "_law_cell", "_law_seed", "_law_one"]
theorem sc__law_pot : FnScope N__law_pot ["_law_script", "_law_k"] (defScope (top 23)) := ⟨rfl, rfl, rfl, by decide +kernel, rfl, by decide +kernel, by decide +kernel⟩
def r__law_pot : DTS := sSeq (sAsg (dIf (dOp (rCmp .Lt) (dVar 1) (dCB rLen (dCons (dVar 0) (dNil)))) (dCB rAbs (dCons (dOp rIdx (dVar 0) (dVar 1)) (dNil))) (dCst (.int 0))) (gNm 2)) (sSeq (sAsg (dOp (rBin false .Add) (dCst (.int 1201)) (dOp (rBin false .Mult) (dCst (.int 31)) (dVar 1))) (gNm 3)) (sSeq (sFor (iSeqD (dSlc false (dVar 0) none (some (dCst (.int 63))))) (gOf (.nm 4)) (sSeq (sAsg (dOp (rBin false .Mod) (dCB rInt (dCons (dOp (rBin false .Add) (dOp (rBin false .Add) (dOp (rBin false .Mult) (dVar 3) (dCst (.int 39373))) (dOp (rBin false .Mod) (dCB rInt (dCons (dVar 4) (dNil))) (dCst (.int 2147483629)))) (dCst (.int 11))) (dNil))) (dCst (.int 2147483647))) (gNm 3)) (sNext))) (sSeq (sRet (dLst true (dCons (dIf (dOp (rCmp .GtE) (dVar 2) (dOp (rBin false .Pow) (dCst (.int 10)) (dCst (.int 18)))) (dVar 2) (dCst (.int 0))) (dCons (dVar 3) (dNil))))) (sNext))))
theorem b__law_pot (T : Tx P Kf mg) (h : In P T.w Kf mg base N__law_pot (defScope (top 23)) fAll 0 X Wx) (hp : HPs X) : DStms X T.A Wx (defBody (top 23)) (r__law_pot) :=
  (ds_cons (h.set (i := 2) (by decide +kernel) (de_if (pCmpT h.rm (h.vr 1) (h.bi cd_len (by decide +kernel) T.z_len rfl (pCons (h.vr 0) da_nil))) (h.bi cd_abs (by decide +kernel) T.z_abs rfl (pCons (pIdx (h.vr 0) (h.vr 1)) da_nil)) de_int))
  (ds_cons (h.set (i := 3) (by decide +kernel) (pBin false de_int (pBin false de_int (h.vr 1))))
  (ds_cons (h.loop hp (di_seq (de_slc (m := false) (h.vr 0) do_none (do_some de_int))) (dg_tg (g := .nm 4) (h.vnm (i := 4) (by decide +kernel))) (ds_cons (h.set (i := 3) (by decide +kernel) (pBin false (h.bt cd_int (by decide +kernel) T.z_int rfl (pCons (pBin false (pBin false (pBin false (h.vr 3) de_int) (pBin false (h.bt cd_int (by decide +kernel) T.z_int rfl (pCons (h.vr 4) da_nil)) de_int)) de_int) da_nil)) de_int))
  ds_nil))
  (ds_cons (ds_ret (de_lst (m := true) (pCons (de_if (pCmpT h.rm (h.vr 2) (pBin false de_int de_int)) (h.vr 2) de_int) (pCons (h.vr 3) da_nil))))
  ds_nil))))
theorem dd__law_pot (T : Tx P Kf mg) : FnD P T.w (cc Kf T.A) mg base 1 T.f__law_pot sp_bag :=
  (fnd_mk T.p__law_pot sc__law_pot (fun _ _ _ _ _ _ us hl => match us, hl with | [_, _], _ => rfl) fun X Wx h hp => b__law_pot T h hp).imp (pot_ok (s0 := 1201) (mm := 39373) (by decide) (by decide) (by decide) (by decide))
def N__law_draw : List Str := ["_law_pot_here", "_law_many", "_law_digit"]
theorem sc__law_draw : FnScope N__law_draw ["_law_pot_here", "_law_many"] (defScope (top 24)) := ⟨rfl, rfl, rfl, by decide +kernel, rfl, by decide +kernel, by decide +kernel⟩
def r__law_draw : DTS := sSeq (sIf (dOp (rCmp .Gt) (dOp rIdx (dVar 0) (dCst (.int 0))) (dCst (.int 0))) (sSeq (sAsg (dOp (rBin false .Mod) (dCB rInt (dCons (dOp rIdx (dVar 0) (dCst (.int 0))) (dNil))) (dVar 1)) (gNm 2)) (sSeq (sAsg (dOp (rBin false .FloorDiv) (dOp rIdx (dVar 0) (dCst (.int 0))) (dVar 1)) (gSubD (dVar 0) (dCst (.int 0)))) (sSeq (sRet (dVar 2)) (sNext)))) (sNext)) (sSeq (sAsg (dOp (rBin false .Mod) (dCB rInt (dCons (dOp (rBin false .Add) (dOp (rBin false .Mult) (dOp rIdx (dVar 0) (dCst (.int 1))) (dCst (.int 69621))) (dCst (.int 77))) (dNil))) (dCst (.int 2147483647))) (gSubD (dVar 0) (dCst (.int 1)))) (sSeq (sRet (dOp (rBin false .Mod) (dOp (rBin false .Mod) (dCB rInt (dCons (dOp (rBin false .FloorDiv) (dOp rIdx (dVar 0) (dCst (.int 1))) (dCst (.int 7))) (dNil))) (dCst (.int 1000003))) (dVar 1))) (sNext)))
theorem b__law_draw (T : Tx P Kf mg) (h : In P T.w Kf mg base N__law_draw (defScope (top 24)) fAll 0 X Wx) (hp : HPs X) : DStms X T.A Wx (defBody (top 24)) (r__law_draw) :=
  (ds_cons (ds_if (pCmpT h.rm (pIdx (h.vr 0) de_int) de_int) (ds_cons (h.set (i := 2) (by decide +kernel) (pBin false (h.bt cd_int (by decide +kernel) T.z_int rfl (pCons (pIdx (h.vr 0) de_int) da_nil)) (h.vr 1)))
  (ds_cons (ds_tup (pBin false (pIdx (h.vr 0) de_int) (h.vr 1)) (pSub (h.vr 0) de_int))
  (ds_cons (ds_ret (h.vr 2))
  ds_nil))) ds_nil)
  (ds_cons (ds_tup (pBin false (h.bt cd_int (by decide +kernel) T.z_int rfl (pCons (pBin false (pBin false (pIdx (h.vr 0) de_int) de_int) de_int) da_nil)) de_int) (pSub (h.vr 0) de_int))
  (ds_cons (ds_ret (pBin false (pBin false (h.bt cd_int (by decide +kernel) T.z_int rfl (pCons (pBin false (pIdx (h.vr 0) de_int) de_int) da_nil)) de_int) (h.vr 1)))
  ds_nil)))
theorem dd__law_draw (T : Tx P Kf mg) : FnD P T.w (cc Kf T.A) mg base 1 T.f__law_draw sp_draw :=
  (fnd_mk T.p__law_draw sc__law_draw (fun _ _ _ _ _ _ us hl => match us, hl with | [_, _], _ => rfl) fun X Wx h hp => b__law_draw T h hp).imp (drawP_ok (ma := 69621) (ad := 77) (by decide) (by decide) (by decide))
theorem fd__law_draw (T : Tx P Kf mg) : FnD P T.w (cc Kf T.A) mg base 1 T.f__law_draw (spT (fun (a : Int × Unit) => [.b, .v (D.int a.1)]) D.int drawW) := (dd__law_draw T).imp fun _ _ _ _ => draw_T
def N__law_thing : List Str := ["_law_pot_here", "_law_number", "_law_some"]
theorem sc__law_thing : FnScope N__law_thing ["_law_pot_here"] (defScope (top 25)) := ⟨rfl, rfl, rfl, by decide +kernel, rfl, by decide +kernel, by decide +kernel⟩
def mb__law_thing (a : Unit) : M Empty D Empty :=
(sqK (setK (opW (unW (oneW (opW (callW (pairW (opW (pu (10 : Int)) (pu (9 : Int)) (fun a b q => ((0 ≤ b ∧ b ≤ 1000000 ∧ (a).natAbs < 2 ^ 64)) ∧ q (a ^ (b).toNat))) (pu ())) drawW (fun (d : Int × Unit) => d)) (opW (pu (10 : Int)) (pu (9 : Int)) (fun a b q => ((0 ≤ b ∧ b ≤ 1000000 ∧ (a).natAbs < 2 ^ 64)) ∧ q (a ^ (b).toNat))) (fun a b q => (MulOk a b) ∧ q (a * b)))) (fun a q => q a.1)) (callW (pairW (opW (pu (10 : Int)) (pu (9 : Int)) (fun a b q => ((0 ≤ b ∧ b ≤ 1000000 ∧ (a).natAbs < 2 ^ 64)) ∧ q (a ^ (b).toNat))) (pu ())) drawW (fun (d : Int × Unit) => d)) (fun a b q => q (a + b)))) fun (number_ : Int) =>
(sqK (setK (itW [(mapW (pu (number_ : Int)) D.int), (mapW (unW (pu (number_ : Int)) (fun a q => q (-a))) D.int), (mapW (pu (true : Bool)) D.bl), (mapW (pu (false : Bool)) D.bl), (mapW (pu (() : Unit)) eN), (mapW (pu (("" : Str) : Str)) D.str), (mapW (pu (("item a" : Str) : Str)) D.str), (mapW (pairW (pu (number_ : Int)) (pu (("a" : Str) : Str))) (eP D.int D.str)), (mapW (itW [(mapW (pu (number_ : Int)) some), (mapW (pu (() : Unit)) (fun _ => (none : (Option Int))))] : W (List (Option Int))) (eL (eO D.int))), (mapW (itW [(itW [] : W (List D))] : W (List (List D))) (eT (eT eD))), (mapW (itW [(itW [] : W (List D))] : W (List (List D))) (eL (eL eD))), (mapW (pu (0 : Int)) D.int), (mapW (pu (1 : Int)) D.int)] : W (List D))) fun (some_ : (List D)) =>
(retK (opW (pu (some_ : (List D))) (callW (pairW (pu (13 : Int)) (pu ())) drawW (fun (d : Int × Unit) => d)) (fun xs i q => idxK xs i q)))))
theorem b__law_thing (T : Tx P Kf mg) (h : In P T.w Kf mg base N__law_thing (defScope (top 25)) fAll 1 X Wx) (hp : HPs X) (a : Unit) : DStms X T.A Wx (defBody (top 25)) (rdS (⟨(rvV eD), po0, (fun e => nomatch e), [], []⟩ : Sig D Empty) [some .b, none, none] (fun (e : Empty) => nomatch e) (mb__law_thing a)) :=
  (ts_cons (xs (s_set .nil rfl) (h.set (i := 1) (by decide +kernel) (xe (i_op op_add) (pBin false (xe (i_cb f_int) (h.bt cd_int (by decide +kernel) T.z_int rfl (xa a_1 (pCons (xe (i_op op_mul) (pBin false (xe (i_call (cl := fun (d : Int × Unit) => [.b, .v (D.int d.1)]) (fun d => d) (fun _ => rfl) (fun _ => rfl)) (h.call (fd__law_draw T) (by decide) (by decide +kernel) T.m__law_draw T.k__law_draw (xa (b_consB (sl := fun (a : Int × Unit) => [.v (D.int a.1)]) (i := 0) rfl) (pCons (h.vr 0) (xa (b_consV (e1 := D.int) (sl := fun (a : Unit) => [])) (pCons (xe (i_op op_pow) (pBin false (xe (i_cst (e := D.int) (a := 10)) de_int) (xe (i_cst (e := D.int) (a := 9)) de_int))) (xa b_nil da_nil))))))) (xe (i_op op_pow) (pBin false (xe (i_cst (e := D.int) (a := 10)) de_int) (xe (i_cst (e := D.int) (a := 9)) de_int))))) da_nil)))) (xe (i_call (cl := fun (d : Int × Unit) => [.b, .v (D.int d.1)]) (fun d => d) (fun _ => rfl) (fun _ => rfl)) (h.call (fd__law_draw T) (by decide) (by decide +kernel) T.m__law_draw T.k__law_draw (xa (b_consB (sl := fun (a : Int × Unit) => [.v (D.int a.1)]) (i := 0) rfl) (pCons (h.vr 0) (xa (b_consV (e1 := D.int) (sl := fun (a : Unit) => [])) (pCons (xe (i_op op_pow) (pBin false (xe (i_cst (e := D.int) (a := 10)) de_int) (xe (i_cst (e := D.int) (a := 9)) de_int))) (xa b_nil da_nil))))))))))) fun (number_ : Int) =>
  (ts_cons (xs (s_set .nil rfl) (h.set (i := 2) (by decide +kernel) (xe (i_disp (e := eD)) (de_lst (m := false) (xa (it_cons (it_cons (it_cons (it_cons (it_cons (it_cons (it_cons (it_cons (it_cons (it_cons (it_cons (it_cons (it_cons it_nil))))))))))))) (pCons (xe (i_as (e := D.int) (e' := eD) D.int (fun _ => rfl)) (h.ev D.int number_ 1)) (pCons (xe (i_as (e := D.int) (e' := eD) D.int (fun _ => rfl)) (xe (i_un op_neg) (pNeg (h.ev D.int number_ 1)))) (pCons (xe (i_as (e := D.bl) (e' := eD) D.bl (fun _ => rfl)) (xe (i_cst (e := D.bl) (a := true)) de_bl)) (pCons (xe (i_as (e := D.bl) (e' := eD) D.bl (fun _ => rfl)) (xe (i_cst (e := D.bl) (a := false)) de_bl)) (pCons (xe (i_as (e := eN) (e' := eD) eN (fun _ => rfl)) (xe (i_cst (e := eN) (a := ())) de_non)) (pCons (xe (i_as (e := D.str) (e' := eD) D.str (fun _ => rfl)) (xe (i_cst (e := D.str) (a := ("" : Str))) (pStr (by decide +kernel)))) (pCons (xe (i_as (e := D.str) (e' := eD) D.str (fun _ => rfl)) (xe (i_cst (e := D.str) (a := ("item a" : Str))) (pStr (by decide +kernel)))) (pCons (xe (i_as (e := (eP D.int D.str)) (e' := eD) (eP D.int D.str) (fun _ => rfl)) (xe (i_p2 (e1 := D.int) (e2 := D.str)) (de_tup (pCons (h.ev D.int number_ 1) (pCons (xe (i_cst (e := D.str) (a := ("a" : Str))) (pStr (by decide +kernel))) da_nil))))) (pCons (xe (i_as (e := (eL (eO D.int))) (e' := eD) (eL (eO D.int)) (fun _ => rfl)) (xe (i_disp (e := (eO D.int))) (de_lst (m := false) (xa (it_cons (it_cons it_nil)) (pCons (xe (i_as (e := D.int) (e' := (eO D.int)) some (fun _ => rfl)) (h.ev D.int number_ 1)) (pCons (xe (i_as (e := eN) (e' := (eO D.int)) (fun _ => (none : (Option Int))) (fun _ => rfl)) (xe (i_cst (e := eN) (a := ())) de_non)) da_nil)))))) (pCons (xe (i_as (e := (eT (eT eD))) (e' := eD) (eT (eT eD)) (fun _ => rfl)) (xe (i_dispT (e := (eT eD))) (de_tup (xa (it_cons it_nil) (pCons (xe (i_dispT (e := eD)) (de_tup (xa it_nil da_nil))) da_nil))))) (pCons (xe (i_as (e := (eL (eL eD))) (e' := eD) (eL (eL eD)) (fun _ => rfl)) (xe (i_disp (e := (eL eD))) (de_lst (m := false) (xa (it_cons it_nil) (pCons (xe (i_disp (e := eD)) (de_lst (m := false) (xa it_nil da_nil))) da_nil))))) (pCons (xe (i_as (e := D.int) (e' := eD) D.int (fun _ => rfl)) (xe (i_cst (e := D.int) (a := 0)) de_int)) (pCons (xe (i_as (e := D.int) (e' := eD) D.int (fun _ => rfl)) (xe (i_cst (e := D.int) (a := 1)) de_int)) da_nil)))))))))))))))))) fun (some_ : (List D)) =>
  (ts_last (xs (s_ret .nil (fun _ => rfl) (fun _ => .nil)) (ds_ret (xe (i_op op_idxL) (pIdx (h.ev (eL eD) some_ 2) (xe (i_call (cl := fun (d : Int × Unit) => [.b, .v (D.int d.1)]) (fun d => d) (fun _ => rfl) (fun _ => rfl)) (h.call (fd__law_draw T) (by decide) (by decide +kernel) T.m__law_draw T.k__law_draw (xa (b_consB (sl := fun (a : Int × Unit) => [.v (D.int a.1)]) (i := 0) rfl) (pCons (h.vr 0) (xa (b_consV (e1 := D.int) (sl := fun (a : Unit) => [])) (pCons (xe (i_cst (e := D.int) (a := 13)) de_int) (xa b_nil da_nil))))))))))))))
def m__law_thing (a : Unit) : W D := fun q x => mb__law_thing a (fun r => q (Empty.elim r)) ⟨q, fun _ => False, fun _ => False, x⟩
theorem fd__law_thing (T : Tx P Kf mg) : FnD P T.w (cc Kf T.A) mg base 2 T.f__law_thing (spG (fun (a : Unit) => [.b]) (fun _ => []) po0 (rvV eD) m__law_thing) :=
  fnT (sg := (⟨(rvV eD), po0, (fun e => nomatch e), [], []⟩ : Sig D Empty)) (osf := fun (a : Unit) => [some .b, none, none]) (res := (fun (e : Empty) => nomatch e)) (mb := mb__law_thing) Empty.elim T.p__law_thing sc__law_thing (fun _ _ _ _ _ _ us hl => match us, hl with | [_], _ => rfl) (fun X Wx h hp a => b__law_thing T h hp a) (fun _ => rfl) (fun _ => rfl) (fun _ _ _ h => h) rfl (fun _ => rfl) (fun _ => Nat.le_of_ble_eq_true rfl) (fun r => nomatch r) rfl
def N__law_made : List Str := ["_law_thing_here", "_law_rows", "_law_e", "_law_f", "_law_g", "_law_h", "_law_i", "_law_j", "_law_m", "_law_n", "_law_o", "_law_p"]
theorem sc__law_made : FnScope N__law_made ["_law_thing_here"] (defScope (top 27)) := ⟨rfl, rfl, rfl, by decide +kernel, rfl, by decide +kernel, by decide +kernel⟩
def mb__law_made (a : D × Unit) : M Empty (List (D × D)) Empty :=
(sqK (setK (itW [] : W (List (D × D)))) fun (rows_ : (List (D × D))) =>
(sqK (setK (mapW (oneW (pu (a.1 : D))) (fun a => D.err 20 ((DL.a1 eD) a)))) fun (e_ : D) =>
(sqK (appK (pairW (mapW (pu (e_ : D)) eD) (unW (pu (e_ : D)) (efK 20 ("index" : Str) (flG 20)))) rows_.length) fun (w1 : (D × D)) =>
(sqK (setK (mapW (oneW (pu (a.1 : D))) (fun a => D.err 21 ((DL.a1 eD) a)))) fun (f_ : D) =>
(sqK (appK (pairW (mapW (pu (f_ : D)) eD) (unW (pu (f_ : D)) (efK 21 ("index" : Str) (flG 21)))) (rows_ ++ [w1]).length) fun (w2 : (D × D)) =>
(sqK (setK (mapW (oneW (pu (a.1 : D))) (fun a => D.err 22 ((DL.a1 eD) a)))) fun (g_ : D) =>
(sqK (appK (pairW (mapW (pu (g_ : D)) eD) (unW (pu (g_ : D)) (efK 22 ("kind" : Str) (flG 22)))) ((rows_ ++ [w1]) ++ [w2]).length) fun (w3 : (D × D)) =>
(sqK (setK (mapW (oneW (pu (a.1 : D))) (fun a => D.err 23 ((DL.a1 eD) a)))) fun (h_ : D) =>
(sqK (appK (pairW (mapW (pu (h_ : D)) eD) (unW (pu (h_ : D)) (efK 23 ("index" : Str) (flG 23)))) (((rows_ ++ [w1]) ++ [w2]) ++ [w3]).length) fun (w4 : (D × D)) =>
(sqK (setK (mapW (oneW (pu (a.1 : D))) (fun a => D.err 24 ((DL.a1 eD) a)))) fun (i_ : D) =>
(sqK (appK (pairW (mapW (pu (i_ : D)) eD) (unW (pu (i_ : D)) (efK 24 ("state" : Str) (flG 24)))) ((((rows_ ++ [w1]) ++ [w2]) ++ [w3]) ++ [w4]).length) fun (w5 : (D × D)) =>
(sqK (setK (mapW (oneW (pu (a.1 : D))) (fun a => D.err 25 ((DL.a1 eD) a)))) fun (j_ : D) =>
(sqK (appK (pairW (mapW (pu (j_ : D)) eD) (unW (pu (j_ : D)) (efK 25 ("index" : Str) (flG 25)))) (((((rows_ ++ [w1]) ++ [w2]) ++ [w3]) ++ [w4]) ++ [w5]).length) fun (w6 : (D × D)) =>
(sqK (setK (mapW (oneW (pu (a.1 : D))) (fun a => D.err 26 ((DL.a1 eD) a)))) fun (m_ : D) =>
(sqK (appK (pairW (mapW (pu (m_ : D)) eD) (unW (pu (m_ : D)) (efK 26 ("rule" : Str) (flG 26)))) ((((((rows_ ++ [w1]) ++ [w2]) ++ [w3]) ++ [w4]) ++ [w5]) ++ [w6]).length) fun (w7 : (D × D)) =>
(sqK (setK (mapW (oneW (pu (a.1 : D))) (fun a => D.err 27 ((DL.a1 eD) a)))) fun (n_ : D) =>
(sqK (appK (pairW (mapW (pu (n_ : D)) eD) (unW (pu (n_ : D)) (efK 27 ("gap" : Str) (flG 27)))) (((((((rows_ ++ [w1]) ++ [w2]) ++ [w3]) ++ [w4]) ++ [w5]) ++ [w6]) ++ [w7]).length) fun (w8 : (D × D)) =>
(sqK (setK (mapW (oneW (pu (a.1 : D))) (fun a => D.err 28 ((DL.a1 eD) a)))) fun (o_ : D) =>
(sqK (appK (pairW (mapW (pu (o_ : D)) eD) (unW (pu (o_ : D)) (efK 28 ("index" : Str) (flG 28)))) ((((((((rows_ ++ [w1]) ++ [w2]) ++ [w3]) ++ [w4]) ++ [w5]) ++ [w6]) ++ [w7]) ++ [w8]).length) fun (w9 : (D × D)) =>
(sqK (setK (mapW (oneW (pu (a.1 : D))) (fun a => D.err 29 ((DL.a1 eD) a)))) fun (p_ : D) =>
(sqK (appK (pairW (mapW (pu (p_ : D)) eD) (unW (pu (p_ : D)) (efK 29 ("index" : Str) (flG 29)))) (((((((((rows_ ++ [w1]) ++ [w2]) ++ [w3]) ++ [w4]) ++ [w5]) ++ [w6]) ++ [w7]) ++ [w8]) ++ [w9]).length) fun (w10 : (D × D)) =>
(retK (pu (((((((((((rows_ ++ [w1]) ++ [w2]) ++ [w3]) ++ [w4]) ++ [w5]) ++ [w6]) ++ [w7]) ++ [w8]) ++ [w9]) ++ [w10]) : (List (D × D))))))))))))))))))))))))))
theorem b__law_made (T : Tx P Kf mg) (h : In P T.w Kf mg base N__law_made (defScope (top 27)) fAll 0 X Wx) (hp : HPs X) (a : D × Unit) : DStms X T.A Wx (defBody (top 27)) (rdS (⟨(rvV (eL (eP eD eD))), po0, (fun e => nomatch e), [], []⟩ : Sig (List (D × D)) Empty) [some (.v (eD a.1)), none, none, none, none, none, none, none, none, none, none, none] (fun (e : Empty) => nomatch e) (mb__law_made a)) :=
  (ts_cons (xs (s_new .nil rfl) (xs (asg_mono (n_disp (e := (eP eD eD)))) (h.set (i := 1) (by decide +kernel) (de_lst (m := true) (xa it_nil da_nil))))) fun (rows_ : (List (D × D))) =>
  (t_le [some (.v (eD a.1)), some (.o (eLo (eP eD eD) rows_)), none, none, none, none, none, none, none, none, none, none] (.same (.same (.drop (.drop (.drop (.drop (.drop (.drop (.drop (.drop (.drop (.drop Le.nil)))))))))))) (ts_cons (xs (s_set .nil rfl) (h.set (i := 2) (by decide +kernel) (xe (i_mkE (e1 := (DL.a1 eD)) (fun _ => rfl)) (h.mkE 20 (T.er_BadLine _ _) rfl (by decide +kernel) T.m_BadLine (xa a_1 (pCons (h.ev eD a.1 0) da_nil)))))) fun (e_ : D) =>
  (ts_cons (xs (s_append (e := (eP eD eD)) (xs := rows_) (i := 1) rfl .nil) (pExpr (pAppend (h.vr 1) (pCons (xe (i_p2 (e1 := eD) (e2 := eD)) (de_tup (pCons (xe (i_as (e := eD) (e' := eD) eD (fun _ => rfl)) (h.ev eD e_ 2)) (pCons (xe i_ef (h.ef 20 T.xf_BadLine T.nf_BadLine_index rfl (h.ev eD e_ 2))) da_nil)))) da_nil)))) fun (w1 : (D × D)) =>
  (ts_cons (xs (s_set .nil rfl) (h.set (i := 3) (by decide +kernel) (xe (i_mkE (e1 := (DL.a1 eD)) (fun _ => rfl)) (h.mkE 21 (T.er_BadStretch _ _) rfl (by decide +kernel) T.m_BadStretch (xa a_1 (pCons (h.ev eD a.1 0) da_nil)))))) fun (f_ : D) =>
  (t_le [some (.v (eD a.1)), some (.o (eLo (eP eD eD) (rows_ ++ [w1]))), some (.v (eD e_)), some (.v (eD f_)), none, none, none, none, none, none, none, none] (.same (.same (.same (.same (.drop (.drop (.drop (.drop (.drop (.drop (.drop (.drop Le.nil)))))))))))) (ts_cons (xs (s_append (e := (eP eD eD)) (xs := (rows_ ++ [w1])) (i := 1) rfl .nil) (pExpr (pAppend (h.vr 1) (pCons (xe (i_p2 (e1 := eD) (e2 := eD)) (de_tup (pCons (xe (i_as (e := eD) (e' := eD) eD (fun _ => rfl)) (h.ev eD f_ 3)) (pCons (xe i_ef (h.ef 21 T.xf_BadStretch T.nf_BadStretch_index rfl (h.ev eD f_ 3))) da_nil)))) da_nil)))) fun (w2 : (D × D)) =>
  (ts_cons (xs (s_set .nil rfl) (h.set (i := 4) (by decide +kernel) (xe (i_mkE (e1 := (DL.a1 eD)) (fun _ => rfl)) (h.mkE 22 (T.er_BadKind _ _) rfl (by decide +kernel) T.m_BadKind (xa a_1 (pCons (h.ev eD a.1 0) da_nil)))))) fun (g_ : D) =>
  (ts_cons (xs (s_append (e := (eP eD eD)) (xs := ((rows_ ++ [w1]) ++ [w2])) (i := 1) rfl .nil) (pExpr (pAppend (h.vr 1) (pCons (xe (i_p2 (e1 := eD) (e2 := eD)) (de_tup (pCons (xe (i_as (e := eD) (e' := eD) eD (fun _ => rfl)) (h.ev eD g_ 4)) (pCons (xe i_ef (h.ef 22 T.xf_BadKind T.nf_BadKind_kind rfl (h.ev eD g_ 4))) da_nil)))) da_nil)))) fun (w3 : (D × D)) =>
  (t_le [some (.v (eD a.1)), some (.o (eLo (eP eD eD) (((rows_ ++ [w1]) ++ [w2]) ++ [w3]))), some (.v (eD e_)), some (.v (eD f_)), some (.v (eD g_)), none, none, none, none, none, none, none] (.same (.same (.same (.same (.same (.drop (.drop (.drop (.drop (.drop (.drop (.drop Le.nil)))))))))))) (ts_cons (xs (s_set .nil rfl) (h.set (i := 5) (by decide +kernel) (xe (i_mkE (e1 := (DL.a1 eD)) (fun _ => rfl)) (h.mkE 23 (T.er_BadMove _ _) rfl (by decide +kernel) T.m_BadMove (xa a_1 (pCons (h.ev eD a.1 0) da_nil)))))) fun (h_ : D) =>
  (ts_cons (xs (s_append (e := (eP eD eD)) (xs := (((rows_ ++ [w1]) ++ [w2]) ++ [w3])) (i := 1) rfl .nil) (pExpr (pAppend (h.vr 1) (pCons (xe (i_p2 (e1 := eD) (e2 := eD)) (de_tup (pCons (xe (i_as (e := eD) (e' := eD) eD (fun _ => rfl)) (h.ev eD h_ 5)) (pCons (xe i_ef (h.ef 23 T.xf_BadMove T.nf_BadMove_index rfl (h.ev eD h_ 5))) da_nil)))) da_nil)))) fun (w4 : (D × D)) =>
  (ts_cons (xs (s_set .nil rfl) (h.set (i := 6) (by decide +kernel) (xe (i_mkE (e1 := (DL.a1 eD)) (fun _ => rfl)) (h.mkE 24 (T.er_BadState _ _) rfl (by decide +kernel) T.m_BadState (xa a_1 (pCons (h.ev eD a.1 0) da_nil)))))) fun (i_ : D) =>
  (t_le [some (.v (eD a.1)), some (.o (eLo (eP eD eD) ((((rows_ ++ [w1]) ++ [w2]) ++ [w3]) ++ [w4]))), some (.v (eD e_)), some (.v (eD f_)), some (.v (eD g_)), some (.v (eD h_)), some (.v (eD i_)), none, none, none, none, none] (.same (.same (.same (.same (.same (.same (.same (.drop (.drop (.drop (.drop (.drop Le.nil)))))))))))) (ts_cons (xs (s_append (e := (eP eD eD)) (xs := ((((rows_ ++ [w1]) ++ [w2]) ++ [w3]) ++ [w4])) (i := 1) rfl .nil) (pExpr (pAppend (h.vr 1) (pCons (xe (i_p2 (e1 := eD) (e2 := eD)) (de_tup (pCons (xe (i_as (e := eD) (e' := eD) eD (fun _ => rfl)) (h.ev eD i_ 6)) (pCons (xe i_ef (h.ef 24 T.xf_BadState T.nf_BadState_state rfl (h.ev eD i_ 6))) da_nil)))) da_nil)))) fun (w5 : (D × D)) =>
  (ts_cons (xs (s_set .nil rfl) (h.set (i := 7) (by decide +kernel) (xe (i_mkE (e1 := (DL.a1 eD)) (fun _ => rfl)) (h.mkE 25 (T.er_BadWindow _ _) rfl (by decide +kernel) T.m_BadWindow (xa a_1 (pCons (h.ev eD a.1 0) da_nil)))))) fun (j_ : D) =>
  (ts_cons (xs (s_append (e := (eP eD eD)) (xs := (((((rows_ ++ [w1]) ++ [w2]) ++ [w3]) ++ [w4]) ++ [w5])) (i := 1) rfl .nil) (pExpr (pAppend (h.vr 1) (pCons (xe (i_p2 (e1 := eD) (e2 := eD)) (de_tup (pCons (xe (i_as (e := eD) (e' := eD) eD (fun _ => rfl)) (h.ev eD j_ 7)) (pCons (xe i_ef (h.ef 25 T.xf_BadWindow T.nf_BadWindow_index rfl (h.ev eD j_ 7))) da_nil)))) da_nil)))) fun (w6 : (D × D)) =>
  (t_le [some (.v (eD a.1)), some (.o (eLo (eP eD eD) ((((((rows_ ++ [w1]) ++ [w2]) ++ [w3]) ++ [w4]) ++ [w5]) ++ [w6]))), some (.v (eD e_)), some (.v (eD f_)), some (.v (eD g_)), some (.v (eD h_)), some (.v (eD i_)), some (.v (eD j_)), none, none, none, none] (.same (.same (.same (.same (.same (.same (.same (.same (.drop (.drop (.drop (.drop Le.nil)))))))))))) (ts_cons (xs (s_set .nil rfl) (h.set (i := 8) (by decide +kernel) (xe (i_mkE (e1 := (DL.a1 eD)) (fun _ => rfl)) (h.mkE 26 (T.er_BadRule _ _) rfl (by decide +kernel) T.m_BadRule (xa a_1 (pCons (h.ev eD a.1 0) da_nil)))))) fun (m_ : D) =>
  (ts_cons (xs (s_append (e := (eP eD eD)) (xs := ((((((rows_ ++ [w1]) ++ [w2]) ++ [w3]) ++ [w4]) ++ [w5]) ++ [w6])) (i := 1) rfl .nil) (pExpr (pAppend (h.vr 1) (pCons (xe (i_p2 (e1 := eD) (e2 := eD)) (de_tup (pCons (xe (i_as (e := eD) (e' := eD) eD (fun _ => rfl)) (h.ev eD m_ 8)) (pCons (xe i_ef (h.ef 26 T.xf_BadRule T.nf_BadRule_rule rfl (h.ev eD m_ 8))) da_nil)))) da_nil)))) fun (w7 : (D × D)) =>
  (ts_cons (xs (s_set .nil rfl) (h.set (i := 9) (by decide +kernel) (xe (i_mkE (e1 := (DL.a1 eD)) (fun _ => rfl)) (h.mkE 27 (T.er_BadGap _ _) rfl (by decide +kernel) T.m_BadGap (xa a_1 (pCons (h.ev eD a.1 0) da_nil)))))) fun (n_ : D) =>
  (t_le [some (.v (eD a.1)), some (.o (eLo (eP eD eD) (((((((rows_ ++ [w1]) ++ [w2]) ++ [w3]) ++ [w4]) ++ [w5]) ++ [w6]) ++ [w7]))), some (.v (eD e_)), some (.v (eD f_)), some (.v (eD g_)), some (.v (eD h_)), some (.v (eD i_)), some (.v (eD j_)), some (.v (eD m_)), some (.v (eD n_)), none, none] (.same (.same (.same (.same (.same (.same (.same (.same (.same (.same (.drop (.drop Le.nil)))))))))))) (ts_cons (xs (s_append (e := (eP eD eD)) (xs := (((((((rows_ ++ [w1]) ++ [w2]) ++ [w3]) ++ [w4]) ++ [w5]) ++ [w6]) ++ [w7])) (i := 1) rfl .nil) (pExpr (pAppend (h.vr 1) (pCons (xe (i_p2 (e1 := eD) (e2 := eD)) (de_tup (pCons (xe (i_as (e := eD) (e' := eD) eD (fun _ => rfl)) (h.ev eD n_ 9)) (pCons (xe i_ef (h.ef 27 T.xf_BadGap T.nf_BadGap_gap rfl (h.ev eD n_ 9))) da_nil)))) da_nil)))) fun (w8 : (D × D)) =>
  (ts_cons (xs (s_set .nil rfl) (h.set (i := 10) (by decide +kernel) (xe (i_mkE (e1 := (DL.a1 eD)) (fun _ => rfl)) (h.mkE 28 (T.er_BadColumn _ _) rfl (by decide +kernel) T.m_BadColumn (xa a_1 (pCons (h.ev eD a.1 0) da_nil)))))) fun (o_ : D) =>
  (ts_cons (xs (s_append (e := (eP eD eD)) (xs := ((((((((rows_ ++ [w1]) ++ [w2]) ++ [w3]) ++ [w4]) ++ [w5]) ++ [w6]) ++ [w7]) ++ [w8])) (i := 1) rfl .nil) (pExpr (pAppend (h.vr 1) (pCons (xe (i_p2 (e1 := eD) (e2 := eD)) (de_tup (pCons (xe (i_as (e := eD) (e' := eD) eD (fun _ => rfl)) (h.ev eD o_ 10)) (pCons (xe i_ef (h.ef 28 T.xf_BadColumn T.nf_BadColumn_index rfl (h.ev eD o_ 10))) da_nil)))) da_nil)))) fun (w9 : (D × D)) =>
  (t_le [some (.v (eD a.1)), some (.o (eLo (eP eD eD) (((((((((rows_ ++ [w1]) ++ [w2]) ++ [w3]) ++ [w4]) ++ [w5]) ++ [w6]) ++ [w7]) ++ [w8]) ++ [w9]))), some (.v (eD e_)), some (.v (eD f_)), some (.v (eD g_)), some (.v (eD h_)), some (.v (eD i_)), some (.v (eD j_)), some (.v (eD m_)), some (.v (eD n_)), some (.v (eD o_)), none] (.same (.same (.same (.same (.same (.same (.same (.same (.same (.same (.same (.drop Le.nil)))))))))))) (ts_cons (xs (s_set .nil rfl) (h.set (i := 11) (by decide +kernel) (xe (i_mkE (e1 := (DL.a1 eD)) (fun _ => rfl)) (h.mkE 29 (T.er_BadStep _ _) rfl (by decide +kernel) T.m_BadStep (xa a_1 (pCons (h.ev eD a.1 0) da_nil)))))) fun (p_ : D) =>
  (ts_cons (xs (s_append (e := (eP eD eD)) (xs := (((((((((rows_ ++ [w1]) ++ [w2]) ++ [w3]) ++ [w4]) ++ [w5]) ++ [w6]) ++ [w7]) ++ [w8]) ++ [w9])) (i := 1) rfl .nil) (pExpr (pAppend (h.vr 1) (pCons (xe (i_p2 (e1 := eD) (e2 := eD)) (de_tup (pCons (xe (i_as (e := eD) (e' := eD) eD (fun _ => rfl)) (h.ev eD p_ 11)) (pCons (xe i_ef (h.ef 29 T.xf_BadStep T.nf_BadStep_index rfl (h.ev eD p_ 11))) da_nil)))) da_nil)))) fun (w10 : (D × D)) =>
  (t_frzL (e := (eP eD eD)) (xs := ((((((((((rows_ ++ [w1]) ++ [w2]) ++ [w3]) ++ [w4]) ++ [w5]) ++ [w6]) ++ [w7]) ++ [w8]) ++ [w9]) ++ [w10])) 1 rfl rfl (t_le [some (.v (eD a.1)), some (.v ((eL (eP eD eD)) ((((((((((rows_ ++ [w1]) ++ [w2]) ++ [w3]) ++ [w4]) ++ [w5]) ++ [w6]) ++ [w7]) ++ [w8]) ++ [w9]) ++ [w10]))), some (.v (eD e_)), some (.v (eD f_)), some (.v (eD g_)), some (.v (eD h_)), some (.v (eD i_)), some (.v (eD j_)), some (.v (eD m_)), some (.v (eD n_)), some (.v (eD o_)), some (.v (eD p_))] (.same (.same (.same (.same (.same (.same (.same (.same (.same (.same (.same (.same Le.nil)))))))))))) (ts_last (xs (s_ret .nil (fun _ => rfl) (fun _ => .nil)) (ds_ret (h.ev (eL (eP eD eD)) ((((((((((rows_ ++ [w1]) ++ [w2]) ++ [w3]) ++ [w4]) ++ [w5]) ++ [w6]) ++ [w7]) ++ [w8]) ++ [w9]) ++ [w10]) 1))))))))))))))))))))))))))))))))))
def m__law_made (a : D × Unit) : W (List (D × D)) := fun q x => mb__law_made a (fun r => q (Empty.elim r)) ⟨q, fun _ => False, fun _ => False, x⟩
theorem fd__law_made (T : Tx P Kf mg) : FnD P T.w (cc Kf T.A) mg base 1 T.f__law_made (spG (fun (a : D × Unit) => [.v (eD a.1)]) (fun _ => []) po0 (rvV (eL (eP eD eD))) m__law_made) :=
  fnT (sg := (⟨(rvV (eL (eP eD eD))), po0, (fun e => nomatch e), [], []⟩ : Sig (List (D × D)) Empty)) (osf := fun (a : D × Unit) => [some (.v (eD a.1)), none, none, none, none, none, none, none, none, none, none, none]) (res := (fun (e : Empty) => nomatch e)) (mb := mb__law_made) Empty.elim T.p__law_made sc__law_made (fun _ _ _ _ _ _ us hl => match us, hl with | [_], _ => rfl) (fun X Wx h hp a => b__law_made T h hp a) (fun _ => rfl) (fun _ => rfl) (fun _ _ _ h => h) rfl (fun _ => rfl) (fun _ => Nat.le_of_ble_eq_true rfl) (fun r => nomatch r) rfl
def N__law_made_more : List Str := ["_law_thing_here", "_law_other", "_law_rows", "_law_a", "_law_b", "_law_c", "_law_d", "_law_g", "_law_h", "_law_i", "_law_j", "_law_m", "_law_n", "_law_o"]
theorem sc__law_made_more : FnScope N__law_made_more ["_law_thing_here", "_law_other"] (defScope (top 28)) := ⟨rfl, rfl, rfl, by decide +kernel, rfl, by decide +kernel, by decide +kernel⟩
def mb__law_made_more (a : D × D × Unit) : M Empty (List (D × D)) Empty :=
(sqK (setK (itW [] : W (List (D × D)))) fun (rows_ : (List (D × D))) =>
(sqK (setK (mapW (oneW (pu (a.1 : D))) (fun a => D.err 30 ((DL.a1 eD) a)))) fun (a_ : D) =>
(sqK (appK (pairW (mapW (pu (a_ : D)) eD) (unW (pu (a_ : D)) (efK 30 ("index" : Str) (flG 30)))) rows_.length) fun (w1 : (D × D)) =>
(sqK (setK (mapW (oneW (pu (a.1 : D))) (fun a => D.err 31 ((DL.a1 eD) a)))) fun (b_ : D) =>
(sqK (appK (pairW (mapW (pu (b_ : D)) eD) (unW (pu (b_ : D)) (efK 31 ("line" : Str) (flG 31)))) (rows_ ++ [w1]).length) fun (w2 : (D × D)) =>
(sqK (setK (mapW (oneW (pu (a.1 : D))) (fun a => D.err 32 ((DL.a1 eD) a)))) fun (c_ : D) =>
(sqK (appK (pairW (mapW (pu (c_ : D)) eD) (unW (pu (c_ : D)) (efK 32 ("index" : Str) (flG 32)))) ((rows_ ++ [w1]) ++ [w2]).length) fun (w3 : (D × D)) =>
(sqK (setK (mapW (twoW (pu (a.1 : D)) (pu (a.2.1 : D))) (fun a => D.err 33 ((DL.a2 eD eD) a)))) fun (d_ : D) =>
(sqK (appK (pairW (mapW (pu (d_ : D)) eD) (unW (pu (d_ : D)) (efK 33 ("one" : Str) (flG 33)))) (((rows_ ++ [w1]) ++ [w2]) ++ [w3]).length) fun (w4 : (D × D)) =>
(sqK (setK (mapW (oneW (pu (a.1 : D))) (fun a => D.err 34 ((DL.a1 eD) a)))) fun (g_ : D) =>
(sqK (appK (pairW (mapW (pu (g_ : D)) eD) (unW (pu (g_ : D)) (efK 34 ("kinds" : Str) (flG 34)))) ((((rows_ ++ [w1]) ++ [w2]) ++ [w3]) ++ [w4]).length) fun (w5 : (D × D)) =>
(sqK (setK (mapW (oneW (pu (a.1 : D))) (fun a => D.err 35 ((DL.a1 eD) a)))) fun (h_ : D) =>
(sqK (appK (pairW (mapW (pu (h_ : D)) eD) (unW (pu (h_ : D)) (efK 35 ("line" : Str) (flG 35)))) (((((rows_ ++ [w1]) ++ [w2]) ++ [w3]) ++ [w4]) ++ [w5]).length) fun (w6 : (D × D)) =>
(sqK (setK (mapW (oneW (pu (a.1 : D))) (fun a => D.err 36 ((DL.a1 eD) a)))) fun (i_ : D) =>
(sqK (appK (pairW (mapW (pu (i_ : D)) eD) (unW (pu (i_ : D)) (efK 36 ("index" : Str) (flG 36)))) ((((((rows_ ++ [w1]) ++ [w2]) ++ [w3]) ++ [w4]) ++ [w5]) ++ [w6]).length) fun (w7 : (D × D)) =>
(sqK (setK (mapW (oneW (pu (a.1 : D))) (fun a => D.err 37 ((DL.a1 eD) a)))) fun (j_ : D) =>
(sqK (appK (pairW (mapW (pu (j_ : D)) eD) (unW (pu (j_ : D)) (efK 37 ("hand" : Str) (flG 37)))) (((((((rows_ ++ [w1]) ++ [w2]) ++ [w3]) ++ [w4]) ++ [w5]) ++ [w6]) ++ [w7]).length) fun (w8 : (D × D)) =>
(sqK (setK (mapW (oneW (pu (a.1 : D))) (fun a => D.err 38 ((DL.a1 eD) a)))) fun (m_ : D) =>
(sqK (appK (pairW (mapW (pu (m_ : D)) eD) (unW (pu (m_ : D)) (efK 38 ("limit" : Str) (flG 38)))) ((((((((rows_ ++ [w1]) ++ [w2]) ++ [w3]) ++ [w4]) ++ [w5]) ++ [w6]) ++ [w7]) ++ [w8]).length) fun (w9 : (D × D)) =>
(sqK (setK (mapW (twoW (pu (a.1 : D)) (pu (a.2.1 : D))) (fun a => D.err 39 ((DL.a2 eD eD) a)))) fun (n_ : D) =>
(sqK (appK (pairW (mapW (pu (n_ : D)) eD) (unW (pu (n_ : D)) (efK 39 ("line" : Str) (flG 39)))) (((((((((rows_ ++ [w1]) ++ [w2]) ++ [w3]) ++ [w4]) ++ [w5]) ++ [w6]) ++ [w7]) ++ [w8]) ++ [w9]).length) fun (w10 : (D × D)) =>
(sqK (setK (mapW (oneW (pu (a.1 : D))) (fun a => D.err 40 ((DL.a1 eD) a)))) fun (o_ : D) =>
(sqK (appK (pairW (mapW (pu (o_ : D)) eD) (unW (pu (o_ : D)) (efK 40 ("hands" : Str) (flG 40)))) ((((((((((rows_ ++ [w1]) ++ [w2]) ++ [w3]) ++ [w4]) ++ [w5]) ++ [w6]) ++ [w7]) ++ [w8]) ++ [w9]) ++ [w10]).length) fun (w11 : (D × D)) =>
(retK (opW (pu ((((((((((((rows_ ++ [w1]) ++ [w2]) ++ [w3]) ++ [w4]) ++ [w5]) ++ [w6]) ++ [w7]) ++ [w8]) ++ [w9]) ++ [w10]) ++ [w11]) : (List (D × D)))) (itW [(pairW (unW (pu (d_ : D)) (efK 33 ("other" : Str) (flG 33))) (pu (a.2.1 : D))), (pairW (unW (pu (n_ : D)) (efK 39 ("fault" : Str) (flG 39))) (pu (a.2.1 : D)))] : W (List (D × D))) (fun a b q => (a.length + b.length ≤ sizeLine) ∧ q (a ++ b)))))))))))))))))))))))))))
theorem b__law_made_more (T : Tx P Kf mg) (h : In P T.w Kf mg base N__law_made_more (defScope (top 28)) fAll 0 X Wx) (hp : HPs X) (a : D × D × Unit) : DStms X T.A Wx (defBody (top 28)) (rdS (⟨(rvV (eL (eP eD eD))), po0, (fun e => nomatch e), [], []⟩ : Sig (List (D × D)) Empty) [some (.v (eD a.1)), some (.v (eD a.2.1)), none, none, none, none, none, none, none, none, none, none, none, none] (fun (e : Empty) => nomatch e) (mb__law_made_more a)) :=
  (ts_cons (xs (s_new .nil rfl) (xs (asg_mono (n_disp (e := (eP eD eD)))) (h.set (i := 2) (by decide +kernel) (de_lst (m := true) (xa it_nil da_nil))))) fun (rows_ : (List (D × D))) =>
  (ts_cons (xs (s_set .nil rfl) (h.set (i := 3) (by decide +kernel) (xe (i_mkE (e1 := (DL.a1 eD)) (fun _ => rfl)) (h.mkE 30 (T.er_BadChange _ _) rfl (by decide +kernel) T.m_BadChange (xa a_1 (pCons (h.ev eD a.1 0) da_nil)))))) fun (a_ : D) =>
  (t_le [some (.v (eD a.1)), some (.v (eD a.2.1)), some (.o (eLo (eP eD eD) rows_)), some (.v (eD a_)), none, none, none, none, none, none, none, none, none, none] (.same (.same (.same (.same (.drop (.drop (.drop (.drop (.drop (.drop (.drop (.drop (.drop (.drop Le.nil)))))))))))))) (ts_cons (xs (s_append (e := (eP eD eD)) (xs := rows_) (i := 2) rfl .nil) (pExpr (pAppend (h.vr 2) (pCons (xe (i_p2 (e1 := eD) (e2 := eD)) (de_tup (pCons (xe (i_as (e := eD) (e' := eD) eD (fun _ => rfl)) (h.ev eD a_ 3)) (pCons (xe i_ef (h.ef 30 T.xf_BadChange T.nf_BadChange_index rfl (h.ev eD a_ 3))) da_nil)))) da_nil)))) fun (w1 : (D × D)) =>
  (ts_cons (xs (s_set .nil rfl) (h.set (i := 4) (by decide +kernel) (xe (i_mkE (e1 := (DL.a1 eD)) (fun _ => rfl)) (h.mkE 31 (T.er_BadText _ _) rfl (by decide +kernel) T.m_BadText (xa a_1 (pCons (h.ev eD a.1 0) da_nil)))))) fun (b_ : D) =>
  (ts_cons (xs (s_append (e := (eP eD eD)) (xs := (rows_ ++ [w1])) (i := 2) rfl .nil) (pExpr (pAppend (h.vr 2) (pCons (xe (i_p2 (e1 := eD) (e2 := eD)) (de_tup (pCons (xe (i_as (e := eD) (e' := eD) eD (fun _ => rfl)) (h.ev eD b_ 4)) (pCons (xe i_ef (h.ef 31 T.xf_BadText T.nf_BadText_line rfl (h.ev eD b_ 4))) da_nil)))) da_nil)))) fun (w2 : (D × D)) =>
  (t_le [some (.v (eD a.1)), some (.v (eD a.2.1)), some (.o (eLo (eP eD eD) ((rows_ ++ [w1]) ++ [w2]))), some (.v (eD a_)), some (.v (eD b_)), none, none, none, none, none, none, none, none, none] (.same (.same (.same (.same (.same (.drop (.drop (.drop (.drop (.drop (.drop (.drop (.drop (.drop Le.nil)))))))))))))) (ts_cons (xs (s_set .nil rfl) (h.set (i := 5) (by decide +kernel) (xe (i_mkE (e1 := (DL.a1 eD)) (fun _ => rfl)) (h.mkE 32 (T.er_Misfit _ _) rfl (by decide +kernel) T.m_Misfit (xa a_1 (pCons (h.ev eD a.1 0) da_nil)))))) fun (c_ : D) =>
  (ts_cons (xs (s_append (e := (eP eD eD)) (xs := ((rows_ ++ [w1]) ++ [w2])) (i := 2) rfl .nil) (pExpr (pAppend (h.vr 2) (pCons (xe (i_p2 (e1 := eD) (e2 := eD)) (de_tup (pCons (xe (i_as (e := eD) (e' := eD) eD (fun _ => rfl)) (h.ev eD c_ 5)) (pCons (xe i_ef (h.ef 32 T.xf_Misfit T.nf_Misfit_index rfl (h.ev eD c_ 5))) da_nil)))) da_nil)))) fun (w3 : (D × D)) =>
  (ts_cons (xs (s_set .nil rfl) (h.set (i := 6) (by decide +kernel) (xe (i_mkE (e1 := (DL.a2 eD eD)) (fun _ => rfl)) (h.mkE 33 (T.er_Clash _ _) rfl (by decide +kernel) T.m_Clash (xa a_2 (pCons (h.ev eD a.1 0) (pCons (h.ev eD a.2.1 1) da_nil))))))) fun (d_ : D) =>
  (t_le [some (.v (eD a.1)), some (.v (eD a.2.1)), some (.o (eLo (eP eD eD) (((rows_ ++ [w1]) ++ [w2]) ++ [w3]))), some (.v (eD a_)), some (.v (eD b_)), some (.v (eD c_)), some (.v (eD d_)), none, none, none, none, none, none, none] (.same (.same (.same (.same (.same (.same (.same (.drop (.drop (.drop (.drop (.drop (.drop (.drop Le.nil)))))))))))))) (ts_cons (xs (s_append (e := (eP eD eD)) (xs := (((rows_ ++ [w1]) ++ [w2]) ++ [w3])) (i := 2) rfl .nil) (pExpr (pAppend (h.vr 2) (pCons (xe (i_p2 (e1 := eD) (e2 := eD)) (de_tup (pCons (xe (i_as (e := eD) (e' := eD) eD (fun _ => rfl)) (h.ev eD d_ 6)) (pCons (xe i_ef (h.ef 33 T.xf_Clash T.nf_Clash_one rfl (h.ev eD d_ 6))) da_nil)))) da_nil)))) fun (w4 : (D × D)) =>
  (ts_cons (xs (s_set .nil rfl) (h.set (i := 7) (by decide +kernel) (xe (i_mkE (e1 := (DL.a1 eD)) (fun _ => rfl)) (h.mkE 34 (T.er_Mismatch _ _) rfl (by decide +kernel) T.m_Mismatch (xa a_1 (pCons (h.ev eD a.1 0) da_nil)))))) fun (g_ : D) =>
  (ts_cons (xs (s_append (e := (eP eD eD)) (xs := ((((rows_ ++ [w1]) ++ [w2]) ++ [w3]) ++ [w4])) (i := 2) rfl .nil) (pExpr (pAppend (h.vr 2) (pCons (xe (i_p2 (e1 := eD) (e2 := eD)) (de_tup (pCons (xe (i_as (e := eD) (e' := eD) eD (fun _ => rfl)) (h.ev eD g_ 7)) (pCons (xe i_ef (h.ef 34 T.xf_Mismatch T.nf_Mismatch_kinds rfl (h.ev eD g_ 7))) da_nil)))) da_nil)))) fun (w5 : (D × D)) =>
  (t_le [some (.v (eD a.1)), some (.v (eD a.2.1)), some (.o (eLo (eP eD eD) (((((rows_ ++ [w1]) ++ [w2]) ++ [w3]) ++ [w4]) ++ [w5]))), some (.v (eD a_)), some (.v (eD b_)), some (.v (eD c_)), some (.v (eD d_)), some (.v (eD g_)), none, none, none, none, none, none] (.same (.same (.same (.same (.same (.same (.same (.same (.drop (.drop (.drop (.drop (.drop (.drop Le.nil)))))))))))))) (ts_cons (xs (s_set .nil rfl) (h.set (i := 8) (by decide +kernel) (xe (i_mkE (e1 := (DL.a1 eD)) (fun _ => rfl)) (h.mkE 35 (T.er_Stuck _ _) rfl (by decide +kernel) T.m_Stuck (xa a_1 (pCons (h.ev eD a.1 0) da_nil)))))) fun (h_ : D) =>
  (ts_cons (xs (s_append (e := (eP eD eD)) (xs := (((((rows_ ++ [w1]) ++ [w2]) ++ [w3]) ++ [w4]) ++ [w5])) (i := 2) rfl .nil) (pExpr (pAppend (h.vr 2) (pCons (xe (i_p2 (e1 := eD) (e2 := eD)) (de_tup (pCons (xe (i_as (e := eD) (e' := eD) eD (fun _ => rfl)) (h.ev eD h_ 8)) (pCons (xe i_ef (h.ef 35 T.xf_Stuck T.nf_Stuck_line rfl (h.ev eD h_ 8))) da_nil)))) da_nil)))) fun (w6 : (D × D)) =>
  (ts_cons (xs (s_set .nil rfl) (h.set (i := 9) (by decide +kernel) (xe (i_mkE (e1 := (DL.a1 eD)) (fun _ => rfl)) (h.mkE 36 (T.er_NoLine _ _) rfl (by decide +kernel) T.m_NoLine (xa a_1 (pCons (h.ev eD a.1 0) da_nil)))))) fun (i_ : D) =>
  (t_le [some (.v (eD a.1)), some (.v (eD a.2.1)), some (.o (eLo (eP eD eD) ((((((rows_ ++ [w1]) ++ [w2]) ++ [w3]) ++ [w4]) ++ [w5]) ++ [w6]))), some (.v (eD a_)), some (.v (eD b_)), some (.v (eD c_)), some (.v (eD d_)), some (.v (eD g_)), some (.v (eD h_)), some (.v (eD i_)), none, none, none, none] (.same (.same (.same (.same (.same (.same (.same (.same (.same (.same (.drop (.drop (.drop (.drop Le.nil)))))))))))))) (ts_cons (xs (s_append (e := (eP eD eD)) (xs := ((((((rows_ ++ [w1]) ++ [w2]) ++ [w3]) ++ [w4]) ++ [w5]) ++ [w6])) (i := 2) rfl .nil) (pExpr (pAppend (h.vr 2) (pCons (xe (i_p2 (e1 := eD) (e2 := eD)) (de_tup (pCons (xe (i_as (e := eD) (e' := eD) eD (fun _ => rfl)) (h.ev eD i_ 9)) (pCons (xe i_ef (h.ef 36 T.xf_NoLine T.nf_NoLine_index rfl (h.ev eD i_ 9))) da_nil)))) da_nil)))) fun (w7 : (D × D)) =>
  (ts_cons (xs (s_set .nil rfl) (h.set (i := 10) (by decide +kernel) (xe (i_mkE (e1 := (DL.a1 eD)) (fun _ => rfl)) (h.mkE 37 (T.er_NoHand _ _) rfl (by decide +kernel) T.m_NoHand (xa a_1 (pCons (h.ev eD a.1 0) da_nil)))))) fun (j_ : D) =>
  (ts_cons (xs (s_append (e := (eP eD eD)) (xs := (((((((rows_ ++ [w1]) ++ [w2]) ++ [w3]) ++ [w4]) ++ [w5]) ++ [w6]) ++ [w7])) (i := 2) rfl .nil) (pExpr (pAppend (h.vr 2) (pCons (xe (i_p2 (e1 := eD) (e2 := eD)) (de_tup (pCons (xe (i_as (e := eD) (e' := eD) eD (fun _ => rfl)) (h.ev eD j_ 10)) (pCons (xe i_ef (h.ef 37 T.xf_NoHand T.nf_NoHand_hand rfl (h.ev eD j_ 10))) da_nil)))) da_nil)))) fun (w8 : (D × D)) =>
  (t_le [some (.v (eD a.1)), some (.v (eD a.2.1)), some (.o (eLo (eP eD eD) ((((((((rows_ ++ [w1]) ++ [w2]) ++ [w3]) ++ [w4]) ++ [w5]) ++ [w6]) ++ [w7]) ++ [w8]))), some (.v (eD a_)), some (.v (eD b_)), some (.v (eD c_)), some (.v (eD d_)), some (.v (eD g_)), some (.v (eD h_)), some (.v (eD i_)), some (.v (eD j_)), none, none, none] (.same (.same (.same (.same (.same (.same (.same (.same (.same (.same (.same (.drop (.drop (.drop Le.nil)))))))))))))) (ts_cons (xs (s_set .nil rfl) (h.set (i := 11) (by decide +kernel) (xe (i_mkE (e1 := (DL.a1 eD)) (fun _ => rfl)) (h.mkE 38 (T.er_TooMany _ _) rfl (by decide +kernel) T.m_TooMany (xa a_1 (pCons (h.ev eD a.1 0) da_nil)))))) fun (m_ : D) =>
  (ts_cons (xs (s_append (e := (eP eD eD)) (xs := ((((((((rows_ ++ [w1]) ++ [w2]) ++ [w3]) ++ [w4]) ++ [w5]) ++ [w6]) ++ [w7]) ++ [w8])) (i := 2) rfl .nil) (pExpr (pAppend (h.vr 2) (pCons (xe (i_p2 (e1 := eD) (e2 := eD)) (de_tup (pCons (xe (i_as (e := eD) (e' := eD) eD (fun _ => rfl)) (h.ev eD m_ 11)) (pCons (xe i_ef (h.ef 38 T.xf_TooMany T.nf_TooMany_limit rfl (h.ev eD m_ 11))) da_nil)))) da_nil)))) fun (w9 : (D × D)) =>
  (ts_cons (xs (s_set .nil rfl) (h.set (i := 12) (by decide +kernel) (xe (i_mkE (e1 := (DL.a2 eD eD)) (fun _ => rfl)) (h.mkE 39 (T.er_Broken _ _) rfl (by decide +kernel) T.m_Broken (xa a_2 (pCons (h.ev eD a.1 0) (pCons (h.ev eD a.2.1 1) da_nil))))))) fun (n_ : D) =>
  (t_le [some (.v (eD a.1)), some (.v (eD a.2.1)), some (.o (eLo (eP eD eD) (((((((((rows_ ++ [w1]) ++ [w2]) ++ [w3]) ++ [w4]) ++ [w5]) ++ [w6]) ++ [w7]) ++ [w8]) ++ [w9]))), some (.v (eD a_)), some (.v (eD b_)), some (.v (eD c_)), some (.v (eD d_)), some (.v (eD g_)), some (.v (eD h_)), some (.v (eD i_)), some (.v (eD j_)), some (.v (eD m_)), some (.v (eD n_)), none] (.same (.same (.same (.same (.same (.same (.same (.same (.same (.same (.same (.same (.same (.drop Le.nil)))))))))))))) (ts_cons (xs (s_append (e := (eP eD eD)) (xs := (((((((((rows_ ++ [w1]) ++ [w2]) ++ [w3]) ++ [w4]) ++ [w5]) ++ [w6]) ++ [w7]) ++ [w8]) ++ [w9])) (i := 2) rfl .nil) (pExpr (pAppend (h.vr 2) (pCons (xe (i_p2 (e1 := eD) (e2 := eD)) (de_tup (pCons (xe (i_as (e := eD) (e' := eD) eD (fun _ => rfl)) (h.ev eD n_ 12)) (pCons (xe i_ef (h.ef 39 T.xf_Broken T.nf_Broken_line rfl (h.ev eD n_ 12))) da_nil)))) da_nil)))) fun (w10 : (D × D)) =>
  (ts_cons (xs (s_set .nil rfl) (h.set (i := 13) (by decide +kernel) (xe (i_mkE (e1 := (DL.a1 eD)) (fun _ => rfl)) (h.mkE 40 (T.er_NotGood _ _) rfl (by decide +kernel) T.m_NotGood (xa a_1 (pCons (h.ev eD a.1 0) da_nil)))))) fun (o_ : D) =>
  (ts_cons (xs (s_append (e := (eP eD eD)) (xs := ((((((((((rows_ ++ [w1]) ++ [w2]) ++ [w3]) ++ [w4]) ++ [w5]) ++ [w6]) ++ [w7]) ++ [w8]) ++ [w9]) ++ [w10])) (i := 2) rfl .nil) (pExpr (pAppend (h.vr 2) (pCons (xe (i_p2 (e1 := eD) (e2 := eD)) (de_tup (pCons (xe (i_as (e := eD) (e' := eD) eD (fun _ => rfl)) (h.ev eD o_ 13)) (pCons (xe i_ef (h.ef 40 T.xf_NotGood T.nf_NotGood_hands rfl (h.ev eD o_ 13))) da_nil)))) da_nil)))) fun (w11 : (D × D)) =>
  (t_le [some (.v (eD a.1)), some (.v (eD a.2.1)), some (.o (eLo (eP eD eD) (((((((((((rows_ ++ [w1]) ++ [w2]) ++ [w3]) ++ [w4]) ++ [w5]) ++ [w6]) ++ [w7]) ++ [w8]) ++ [w9]) ++ [w10]) ++ [w11]))), some (.v (eD a_)), some (.v (eD b_)), some (.v (eD c_)), some (.v (eD d_)), some (.v (eD g_)), some (.v (eD h_)), some (.v (eD i_)), some (.v (eD j_)), some (.v (eD m_)), some (.v (eD n_)), some (.v (eD o_))] (.same (.same (.same (.same (.same (.same (.same (.same (.same (.same (.same (.same (.same (.same Le.nil)))))))))))))) (t_frzL (e := (eP eD eD)) (xs := (((((((((((rows_ ++ [w1]) ++ [w2]) ++ [w3]) ++ [w4]) ++ [w5]) ++ [w6]) ++ [w7]) ++ [w8]) ++ [w9]) ++ [w10]) ++ [w11])) 2 rfl rfl (ts_last (xs (s_ret .nil (fun _ => rfl) (fun _ => .nil)) (ds_ret (xe (i_op op_addL) (pBin false (h.ev (eL (eP eD eD)) (((((((((((rows_ ++ [w1]) ++ [w2]) ++ [w3]) ++ [w4]) ++ [w5]) ++ [w6]) ++ [w7]) ++ [w8]) ++ [w9]) ++ [w10]) ++ [w11]) 2) (xe (i_disp (e := (eP eD eD))) (de_lst (m := false) (xa (it_cons (it_cons it_nil)) (pCons (xe (i_p2 (e1 := eD) (e2 := eD)) (de_tup (pCons (xe i_ef (h.ef 33 T.xf_Clash T.nf_Clash_other rfl (h.ev eD d_ 6))) (pCons (h.ev eD a.2.1 1) da_nil)))) (pCons (xe (i_p2 (e1 := eD) (e2 := eD)) (de_tup (pCons (xe i_ef (h.ef 39 T.xf_Broken T.nf_Broken_fault rfl (h.ev eD n_ 12))) (pCons (h.ev eD a.2.1 1) da_nil)))) da_nil))))))))))))))))))))))))))))))))))))))))))
def m__law_made_more (a : D × D × Unit) : W (List (D × D)) := fun q x => mb__law_made_more a (fun r => q (Empty.elim r)) ⟨q, fun _ => False, fun _ => False, x⟩
theorem fd__law_made_more (T : Tx P Kf mg) : FnD P T.w (cc Kf T.A) mg base 1 T.f__law_made_more (spG (fun (a : D × D × Unit) => [.v (eD a.1), .v (eD a.2.1)]) (fun _ => []) po0 (rvV (eL (eP eD eD))) m__law_made_more) :=
  fnT (sg := (⟨(rvV (eL (eP eD eD))), po0, (fun e => nomatch e), [], []⟩ : Sig (List (D × D)) Empty)) (osf := fun (a : D × D × Unit) => [some (.v (eD a.1)), some (.v (eD a.2.1)), none, none, none, none, none, none, none, none, none, none, none, none]) (res := (fun (e : Empty) => nomatch e)) (mb := mb__law_made_more) Empty.elim T.p__law_made_more sc__law_made_more (fun _ _ _ _ _ _ us hl => match us, hl with | [_, _], _ => rfl) (fun X Wx h hp a => b__law_made_more T h hp a) (fun _ => rfl) (fun _ => rfl) (fun _ _ _ h => h) rfl (fun _ => rfl) (fun _ => Nat.le_of_ble_eq_true rfl) (fun r => nomatch r) rfl
def N__law_under : List Str := ["_law_e", "_law_found", "_law_kinds", "_law_k"]
theorem sc__law_under : FnScope N__law_under ["_law_e"] (defScope (top 26)) := ⟨rfl, rfl, rfl, by decide +kernel, rfl, by decide +kernel, by decide +kernel⟩
def mb__law_under (a : D × Unit) : M Empty ((List Int) × (List Bool)) Empty :=
(sqK (setK (itW [(unW (pu (a.1 : D)) (isEK kErr (fun n => decide (n = 20)))), (unW (pu (a.1 : D)) (isEK kErr (fun n => decide (n = 21)))), (unW (pu (a.1 : D)) (isEK kErr (fun n => decide (n = 22)))), (unW (pu (a.1 : D)) (isEK kErr (fun n => decide (n = 23))))] : W (List Bool))) fun (found_ : (List Bool)) =>
(sqK (setK (opW (pu (found_ : (List Bool))) (itW [(unW (pu (a.1 : D)) (isEK kErr (fun n => decide (n = 24)))), (unW (pu (a.1 : D)) (isEK kErr (fun n => decide (n = 25)))), (unW (pu (a.1 : D)) (isEK kErr (fun n => decide (n = 26))))] : W (List Bool)) (fun a b q => (a.length + b.length ≤ sizeLine) ∧ q (a ++ b)))) fun (found_ : (List Bool)) =>
(sqK (setK (opW (pu (found_ : (List Bool))) (itW [(unW (pu (a.1 : D)) (isEK kErr (fun n => decide (n = 27)))), (unW (pu (a.1 : D)) (isEK kErr (fun n => decide (n = 28)))), (unW (pu (a.1 : D)) (isEK kErr (fun n => decide (n = 29))))] : W (List Bool)) (fun a b q => (a.length + b.length ≤ sizeLine) ∧ q (a ++ b)))) fun (found_ : (List Bool)) =>
(sqK (setK (opW (pu (found_ : (List Bool))) (itW [(unW (pu (a.1 : D)) (isEK kErr (fun n => decide (n = 30)))), (unW (pu (a.1 : D)) (isEK kErr (fun n => decide (n = 31)))), (unW (pu (a.1 : D)) (isEK kErr (fun n => decide (n = 32)))), (unW (pu (a.1 : D)) (isEK kErr (fun n => decide (n = 33))))] : W (List Bool)) (fun a b q => (a.length + b.length ≤ sizeLine) ∧ q (a ++ b)))) fun (found_ : (List Bool)) =>
(sqK (setK (opW (pu (found_ : (List Bool))) (itW [(unW (pu (a.1 : D)) (isEK kErr (fun n => decide (n = 34)))), (unW (pu (a.1 : D)) (isEK kErr (fun n => decide (n = 35)))), (unW (pu (a.1 : D)) (isEK kErr (fun n => decide (n = 36)))), (unW (pu (a.1 : D)) (isEK kErr (fun n => decide (n = 37))))] : W (List Bool)) (fun a b q => (a.length + b.length ≤ sizeLine) ∧ q (a ++ b)))) fun (found_ : (List Bool)) =>
(sqK (setK (opW (pu (found_ : (List Bool))) (itW [(unW (pu (a.1 : D)) (isEK kErr (fun n => decide (n = 38)))), (unW (pu (a.1 : D)) (isEK kErr (fun n => decide (n = 39)))), (unW (pu (a.1 : D)) (isEK kErr (fun n => decide (n = 40))))] : W (List Bool)) (fun a b q => (a.length + b.length ≤ sizeLine) ∧ q (a ++ b)))) fun (found_ : (List Bool)) =>
(sqK (setK (itW [(unW (pu (a.1 : D)) (isEK kErr kErr_ValueError)), (unW (pu (a.1 : D)) (isEK kErr kErr_LookupError)), (unW (pu (a.1 : D)) (isEK kErr kErr_OverflowError))] : W (List Bool))) fun (kinds_ : (List Bool)) =>
(retK (pairW (lcW (rng1W (pu (21 : Int))) (fun (y1 : Int) => (opW (pu (found_ : (List Bool))) (pu (y1 : Int)) (fun xs i q => idxK xs i q))) (fun (y1 : Int) => (pu (y1 : Int)))) (opW (pu (kinds_ : (List Bool))) (itW [(unW (pu (a.1 : D)) (isEK kErr kErr_RuntimeError))] : W (List Bool)) (fun a b q => (a.length + b.length ≤ sizeLine) ∧ q (a ++ b))))))))))))
theorem b__law_under (T : Tx P Kf mg) (h : In P T.w Kf mg base N__law_under (defScope (top 26)) fAll 0 X Wx) (hp : HPs X) (a : D × Unit) : DStms X T.A Wx (defBody (top 26)) (rdS (⟨(rvV (eP (eL D.int) (eL D.bl))), po0, (fun e => nomatch e), [], []⟩ : Sig ((List Int) × (List Bool)) Empty) [some (.v (eD a.1)), none, none, none] (fun (e : Empty) => nomatch e) (mb__law_under a)) :=
  (ts_cons (xs (s_set .nil rfl) (h.set (i := 1) (by decide +kernel) (xe (i_disp (e := D.bl)) (de_lst (m := false) (xa (it_cons (it_cons (it_cons (it_cons it_nil)))) (pCons (xe i_isE (h.isE T.isO_BadLine (by decide +kernel) T.z_isinstance (by decide +kernel) T.m_BadLine (h.ev eD a.1 0))) (pCons (xe i_isE (h.isE T.isO_BadStretch (by decide +kernel) T.z_isinstance (by decide +kernel) T.m_BadStretch (h.ev eD a.1 0))) (pCons (xe i_isE (h.isE T.isO_BadKind (by decide +kernel) T.z_isinstance (by decide +kernel) T.m_BadKind (h.ev eD a.1 0))) (pCons (xe i_isE (h.isE T.isO_BadMove (by decide +kernel) T.z_isinstance (by decide +kernel) T.m_BadMove (h.ev eD a.1 0))) da_nil))))))))) fun (found_ : (List Bool)) =>
  (ts_cons (xs (s_set .nil rfl) (h.set (i := 1) (by decide +kernel) (xe (i_op op_addL) (pBin false (h.ev (eL D.bl) found_ 1) (xe (i_disp (e := D.bl)) (de_lst (m := false) (xa (it_cons (it_cons (it_cons it_nil))) (pCons (xe i_isE (h.isE T.isO_BadState (by decide +kernel) T.z_isinstance (by decide +kernel) T.m_BadState (h.ev eD a.1 0))) (pCons (xe i_isE (h.isE T.isO_BadWindow (by decide +kernel) T.z_isinstance (by decide +kernel) T.m_BadWindow (h.ev eD a.1 0))) (pCons (xe i_isE (h.isE T.isO_BadRule (by decide +kernel) T.z_isinstance (by decide +kernel) T.m_BadRule (h.ev eD a.1 0))) da_nil)))))))))) fun (found_ : (List Bool)) =>
  (ts_cons (xs (s_set .nil rfl) (h.set (i := 1) (by decide +kernel) (xe (i_op op_addL) (pBin false (h.ev (eL D.bl) found_ 1) (xe (i_disp (e := D.bl)) (de_lst (m := false) (xa (it_cons (it_cons (it_cons it_nil))) (pCons (xe i_isE (h.isE T.isO_BadGap (by decide +kernel) T.z_isinstance (by decide +kernel) T.m_BadGap (h.ev eD a.1 0))) (pCons (xe i_isE (h.isE T.isO_BadColumn (by decide +kernel) T.z_isinstance (by decide +kernel) T.m_BadColumn (h.ev eD a.1 0))) (pCons (xe i_isE (h.isE T.isO_BadStep (by decide +kernel) T.z_isinstance (by decide +kernel) T.m_BadStep (h.ev eD a.1 0))) da_nil)))))))))) fun (found_ : (List Bool)) =>
  (ts_cons (xs (s_set .nil rfl) (h.set (i := 1) (by decide +kernel) (xe (i_op op_addL) (pBin false (h.ev (eL D.bl) found_ 1) (xe (i_disp (e := D.bl)) (de_lst (m := false) (xa (it_cons (it_cons (it_cons (it_cons it_nil)))) (pCons (xe i_isE (h.isE T.isO_BadChange (by decide +kernel) T.z_isinstance (by decide +kernel) T.m_BadChange (h.ev eD a.1 0))) (pCons (xe i_isE (h.isE T.isO_BadText (by decide +kernel) T.z_isinstance (by decide +kernel) T.m_BadText (h.ev eD a.1 0))) (pCons (xe i_isE (h.isE T.isO_Misfit (by decide +kernel) T.z_isinstance (by decide +kernel) T.m_Misfit (h.ev eD a.1 0))) (pCons (xe i_isE (h.isE T.isO_Clash (by decide +kernel) T.z_isinstance (by decide +kernel) T.m_Clash (h.ev eD a.1 0))) da_nil))))))))))) fun (found_ : (List Bool)) =>
  (ts_cons (xs (s_set .nil rfl) (h.set (i := 1) (by decide +kernel) (xe (i_op op_addL) (pBin false (h.ev (eL D.bl) found_ 1) (xe (i_disp (e := D.bl)) (de_lst (m := false) (xa (it_cons (it_cons (it_cons (it_cons it_nil)))) (pCons (xe i_isE (h.isE T.isO_Mismatch (by decide +kernel) T.z_isinstance (by decide +kernel) T.m_Mismatch (h.ev eD a.1 0))) (pCons (xe i_isE (h.isE T.isO_Stuck (by decide +kernel) T.z_isinstance (by decide +kernel) T.m_Stuck (h.ev eD a.1 0))) (pCons (xe i_isE (h.isE T.isO_NoLine (by decide +kernel) T.z_isinstance (by decide +kernel) T.m_NoLine (h.ev eD a.1 0))) (pCons (xe i_isE (h.isE T.isO_NoHand (by decide +kernel) T.z_isinstance (by decide +kernel) T.m_NoHand (h.ev eD a.1 0))) da_nil))))))))))) fun (found_ : (List Bool)) =>
  (ts_cons (xs (s_set .nil rfl) (h.set (i := 1) (by decide +kernel) (xe (i_op op_addL) (pBin false (h.ev (eL D.bl) found_ 1) (xe (i_disp (e := D.bl)) (de_lst (m := false) (xa (it_cons (it_cons (it_cons it_nil))) (pCons (xe i_isE (h.isE T.isO_TooMany (by decide +kernel) T.z_isinstance (by decide +kernel) T.m_TooMany (h.ev eD a.1 0))) (pCons (xe i_isE (h.isE T.isO_Broken (by decide +kernel) T.z_isinstance (by decide +kernel) T.m_Broken (h.ev eD a.1 0))) (pCons (xe i_isE (h.isE T.isO_NotGood (by decide +kernel) T.z_isinstance (by decide +kernel) T.m_NotGood (h.ev eD a.1 0))) da_nil)))))))))) fun (found_ : (List Bool)) =>
  (ts_cons (xs (s_set .nil rfl) (h.set (i := 2) (by decide +kernel) (xe (i_disp (e := D.bl)) (de_lst (m := false) (xa (it_cons (it_cons (it_cons it_nil))) (pCons (xe i_isE (h.isEb (T := "ValueError") T.isT_ValueError (by decide +kernel) T.z_isinstance (by decide +kernel) T.z_ValueError rfl (h.ev eD a.1 0))) (pCons (xe i_isE (h.isEb (T := "LookupError") T.isT_LookupError (by decide +kernel) T.z_isinstance (by decide +kernel) T.z_LookupError rfl (h.ev eD a.1 0))) (pCons (xe i_isE (h.isEb (T := "OverflowError") T.isT_OverflowError (by decide +kernel) T.z_isinstance (by decide +kernel) T.z_OverflowError rfl (h.ev eD a.1 0))) da_nil)))))))) fun (kinds_ : (List Bool)) =>
  (ts_last (xs (s_ret .nil (fun _ => rfl) (fun _ => .nil)) (ds_ret (xe (i_p2 (e1 := (eL D.int)) (e2 := (eL D.bl))) (de_tup (pCons (xe (i_lc (e := D.int) (e2 := D.int) (g := .nm 3) (vs := [3]) (fun (y1 : Int) => tg_nm)) (h.lc (m := false) (g := .nm 3) [("_law_k", 3)] (xi i_rng1 (h.rng1 (by decide +kernel) T.z_range (xa a_1 (pCons (xe (i_cst (e := D.int) (a := 21)) de_int) da_nil)))) (by decide +kernel) (by decide) (fun _ h => (h.vnm (i := 3) (by decide +kernel))) (fun _ h => ts_one (dtU fun (y1 : Int) => (pVal (xe (i_op op_idxL) (pIdx (h.ev (eL D.bl) found_ 1) (h.ev D.int y1 3)))))) (fun _ h => deU fun (y1 : Int) => (h.ev D.int y1 3)))) (pCons (xe (i_op op_addL) (pBin false (h.ev (eL D.bl) kinds_ 2) (xe (i_disp (e := D.bl)) (de_lst (m := false) (xa (it_cons it_nil) (pCons (xe i_isE (h.isEb (T := "RuntimeError") T.isT_RuntimeError (by decide +kernel) T.z_isinstance (by decide +kernel) T.z_RuntimeError rfl (h.ev eD a.1 0))) da_nil)))))) da_nil))))))))))))))
def m__law_under (a : D × Unit) : W ((List Int) × (List Bool)) := fun q x => mb__law_under a (fun r => q (Empty.elim r)) ⟨q, fun _ => False, fun _ => False, x⟩
theorem fd__law_under (T : Tx P Kf mg) : FnD P T.w (cc Kf T.A) mg base 1 T.f__law_under (spG (fun (a : D × Unit) => [.v (eD a.1)]) (fun _ => []) po0 (rvV (eP (eL D.int) (eL D.bl))) m__law_under) :=
  fnT (sg := (⟨(rvV (eP (eL D.int) (eL D.bl))), po0, (fun e => nomatch e), [], []⟩ : Sig ((List Int) × (List Bool)) Empty)) (osf := fun (a : D × Unit) => [some (.v (eD a.1)), none, none, none]) (res := (fun (e : Empty) => nomatch e)) (mb := mb__law_under) Empty.elim T.p__law_under sc__law_under (fun _ _ _ _ _ _ us hl => match us, hl with | [_], _ => rfl) (fun X Wx h hp a => b__law_under T h hp a) (fun _ => rfl) (fun _ => rfl) (fun _ _ _ h => h) rfl (fun _ => rfl) (fun _ => Nat.le_of_ble_eq_true rfl) (fun r => nomatch r) rfl
def N_law : List Str := ["_law_script", "_law_k", "_law_pot_here", "_law_turn", "_law_rows", "_law_thing_here", "_law_other", "_law_told", "_law_due", "_law_place", "_law_row", "_law_group"]
theorem sc_law : FnScope N_law ["_law_script"] (defScope (top 29)) := ⟨rfl, rfl, rfl, by decide +kernel, rfl, by decide +kernel, by decide +kernel⟩
def mb_law (a : (List Int) × Unit) : M Empty Bool Empty :=
(sqK (forM (rng1W (unW (twoW (pu (1 : Int)) (unW (twoW (pu (3 : Int)) (unW (oneW (pu (a.1 : (List Int)))) (fun a q => q (a.1.length : Int)))) (fun a q => q (if a.2.1 < a.1 then a.2.1 else a.1)))) (fun a q => q (if a.2.1 > a.1 then a.2.1 else a.1)))) () fun (x2 : Int) (a1 : Unit) =>
(sqK (bagK (twoW (pu (a.1 : (List Int))) (pu (x2 : Int)))) fun (_ : Unit) =>
(sqK (forM (rng1W (pu (8 : Int))) () fun (x35 : Int) (a34 : Unit) =>
(sqK (par2K (callW (pu ()) m__law_thing (fun (d : Unit) => d)) (callW (pu ()) m__law_thing (fun (d : Unit) => d))) fun (w50 : D × D) =>
(sqK (setK (opW (callW (pairW (pu (w50.1 : D)) (pu ())) m__law_made (fun (d : D × Unit) => d)) (callW (pairW (pu (w50.1 : D)) (pairW (pu (w50.2 : D)) (pu ()))) m__law_made_more (fun (d : D × D × Unit) => d)) (fun a b q => (a.length + b.length ≤ sizeLine) ∧ q (a ++ b)))) fun (rows_ : (List (D × D))) =>
(sqK (forM (mapW (slcW (pu (rows_ : (List (D × D)))) (some (pu (21 : Int))) (none : Option (W Int)) (fun a l h => cutD a l h)) (fun a => a)) () fun (x52 : (D × D)) (a51 : Unit) =>
(sqK (ifK (opW (unW (oneW (pu (x52.1 : D))) (fun a q => (ShwA (eD a.1)) ∧ q ((eD a.1).p))) (unW (oneW (pu (x52.2 : D))) (fun a q => (ShwA (eD a.1)) ∧ q ((eD a.1).p))) (fun a b q => q ((!decide (PyData.shown a = PyData.shown b))))) (retK (pu (false : Bool))) (endK ())) fun (_ : Unit) =>
(endK ()))) fun (a54 : Unit) =>
(sqK (forM (mapW (slcW (pu (rows_ : (List (D × D)))) (none : Option (W Int)) (some (pu (21 : Int))) (fun a l h => cutD a l h)) (fun a => enumT 0 a)) () fun (x56 : (Int × (D × D))) (a55 : Unit) =>
(sqK (setK (ifW (opW (pu (x56.1 : Int)) (pu (16 : Int)) (fun a b q => q (decide (a < b)))) (pu (0 : Int)) (ifW (opW (pu (x56.1 : Int)) (pu (18 : Int)) (fun a b q => q (decide (a < b)))) (pu (1 : Int)) (ifW (opW (pu (x56.1 : Int)) (pu (19 : Int)) (fun a b q => q (decide (a < b)))) (pu (2 : Int)) (pu (3 : Int)))))) fun (group_ : Int) =>
(sqK (setK (itW [(pu (false : Bool)), (pu (false : Bool)), (pu (false : Bool)), (pu (false : Bool))] : W (List Bool))) fun (due_ : (List Bool)) =>
(sqK (subK (pu (true : Bool)) (pu (group_ : Int)) due_) fun (w60 : Bool × Nat) =>
(sqK (ifK (orW (opW (unW (oneW (mapW (pu (x56.2 : (D × D))) (fun (a : (D × D)) => a.2))) (fun a q => (ShwA (eD a.1)) ∧ q ((eD a.1).p))) (unW (oneW (pu (w50.1 : D))) (fun a q => (ShwA (eD a.1)) ∧ q ((eD a.1).p))) (fun a b q => q ((!decide (PyData.shown a = PyData.shown b))))) (opW (callW (pairW (mapW (pu (x56.2 : (D × D))) (fun (a : (D × D)) => a.1)) (pu ())) m__law_under (fun (d : D × Unit) => d)) (pairW (itW [(pu (x56.1 : Int))] : W (List Int)) (pu ((due_.set w60.2 w60.1) : (List Bool)))) (fun a b q => q ((!decide (a = b)))))) (retK (pu (false : Bool))) (endK ())) fun (_ : Unit) =>
(endK ())))))) fun (a62 : Unit) =>
(endK ())))))) fun (a63 : Unit) =>
(endK ())))) fun (a64 : Unit) =>
(retK (pu (true : Bool))))
theorem b_law (T : Tx P Kf mg) (h : In P T.w Kf mg base N_law (defScope (top 29)) fAll 2 X Wx) (hp : HPs X) (a : (List Int) × Unit) : DStms X T.A Wx (defBody (top 29)) (rdS (⟨(rvV D.bl), po0, (fun e => nomatch e), [], []⟩ : Sig Bool Empty) [some (.v (eC a.1)), none, none, none, none, none, none, none, none, none, none, none] (fun (e : Empty) => nomatch e) (mb_law a)) :=
  (ts_cons (xs (s_for (e := D.int) (rs := fun (a1 : Unit) => [some (.v (eC a.1)), none, none, none, none, none, none, none, none, none, none, none]) (a0 := ()) (g := .nm 1) (.same (.drop (.drop (.drop (.drop (.drop (.drop (.drop (.drop (.drop (.drop (.drop Le.nil)))))))))))) (fun (x2 : Int) (a1 : Unit) => tg_nm) .nil (fun _ => .nil) rfl) (h.loop hp (xi i_rng1 (h.rng1 (by decide +kernel) T.z_range (xa a_1 (pCons (xe (i_cb f_max) (h.bi (cd_max h.calm) (by decide +kernel) T.z_max rfl (xa a_2 (pCons (xe (i_cst (e := D.int) (a := 1)) de_int) (pCons (xe (i_cb f_min) (h.bi (cd_min h.calm) (by decide +kernel) T.z_min rfl (xa a_2 (pCons (xe (i_cst (e := D.int) (a := 3)) de_int) (pCons (xe (i_cb f_lenC) (h.bi cd_len (by decide +kernel) T.z_len rfl (xa a_1 (pCons (h.ev eC a.1 0) da_nil)))) da_nil))))) da_nil))))) da_nil)))) (dg_tg (g := .nm 1) (h.vnm (i := 1) (by decide +kernel))) (dsU2 fun (x2 : Int) (a1 : Unit) =>
  (t_le [some (.v (eC a.1)), some (.v (D.int x2)), none, none, none, none, none, none, none, none, none, none] (.same (.same (.drop (.drop (.drop (.drop (.drop (.drop (.drop (.drop (.drop (.drop Le.nil)))))))))))) (ts_cons (xs (s_bag .nil rfl) (h.set (i := 2) (by decide +kernel) (h.call (dd__law_pot T) (by decide) (by decide +kernel) T.m__law_pot T.k__law_pot (xa a_2 (pCons (h.ev eC a.1 0) (pCons (h.ev D.int x2 1) da_nil)))))) fun (_ : Unit) =>
  (ts_cons (xs (s_for (e := D.int) (rs := fun (a34 : Unit) => [some (.v (eC a.1)), none, some .b, none, none, none, none, none, none, none, none, none]) (a0 := ()) (g := .nm 3) (.same (.drop (.same (.drop (.drop (.drop (.drop (.drop (.drop (.drop (.drop (.drop Le.nil)))))))))))) (fun (x35 : Int) (a34 : Unit) => tg_nm) .nil (fun _ => .nil) rfl) (h.loop hp (xi i_rng1 (h.rng1 (by decide +kernel) T.z_range (xa a_1 (pCons (xe (i_cst (e := D.int) (a := 8)) de_int) da_nil)))) (dg_tg (g := .nm 3) (h.vnm (i := 3) (by decide +kernel))) (dsU2 fun (x35 : Int) (a34 : Unit) =>
  (ts_cons (xs (s_par2 (e1 := (fun (a : D) => Nw.v (eD a))) (e2 := (fun (a : D) => Nw.v (eD a))) .nil rfl rfl) (h.par2 (i := 5) (j := 6) (by decide +kernel) (by decide +kernel) (pCons (xe v_v (xe (i_call (cl := fun (d : Unit) => [.b]) (fun d => d) (fun _ => rfl) (fun _ => rfl)) (h.call (fd__law_thing T) (by decide) (by decide +kernel) T.m__law_thing T.k__law_thing (xa (b_consB (sl := fun (a : Unit) => []) (i := 2) rfl) (pCons (h.vr 2) (xa b_nil da_nil)))))) (pCons (xe v_v (xe (i_call (cl := fun (d : Unit) => [.b]) (fun d => d) (fun _ => rfl) (fun _ => rfl)) (h.call (fd__law_thing T) (by decide) (by decide +kernel) T.m__law_thing T.k__law_thing (xa (b_consB (sl := fun (a : Unit) => []) (i := 2) rfl) (pCons (h.vr 2) (xa b_nil da_nil)))))) da_nil)))) fun (w50 : D × D) =>
  (ts_cons (xs (s_set .nil rfl) (h.set (i := 4) (by decide +kernel) (xe (i_op op_addL) (pBin false (xe (i_call (cl := fun (d : D × Unit) => [.v (eD d.1)]) (fun d => d) (fun _ => rfl) (fun _ => rfl)) (h.call (fd__law_made T) (by decide) (by decide +kernel) T.m__law_made T.k__law_made (xa (b_consV (e1 := eD) (sl := fun (a : Unit) => [])) (pCons (h.ev eD w50.1 5) (xa b_nil da_nil))))) (xe (i_call (cl := fun (d : D × D × Unit) => [.v (eD d.1), .v (eD d.2.1)]) (fun d => d) (fun _ => rfl) (fun _ => rfl)) (h.call (fd__law_made_more T) (by decide) (by decide +kernel) T.m__law_made_more T.k__law_made_more (xa (b_consV (e1 := eD) (sl := fun (a : D × Unit) => [.v (eD a.1)])) (pCons (h.ev eD w50.1 5) (xa (b_consV (e1 := eD) (sl := fun (a : Unit) => [])) (pCons (h.ev eD w50.2 6) (xa b_nil da_nil))))))))))) fun (rows_ : (List (D × D))) =>
  (t_le [some (.v (eC a.1)), none, some .b, some (.v (D.int x35)), some (.v ((eL (eP eD eD)) rows_)), some (.v (eD w50.1)), some (.v (eD w50.2)), none, none, none, none, none] (.same (.drop (.same (.same (.same (.same (.same (.drop (.drop (.drop (.drop (.drop Le.nil)))))))))))) (ts_cons (xs (s_for (e := (eP eD eD)) (rs := fun (a51 : Unit) => [some (.v (eC a.1)), none, some .b, none, some (.v ((eL (eP eD eD)) rows_)), some (.v (eD w50.1)), none, none, none, none, none, none]) (a0 := ()) (g := .tup [.nm 7, .nm 8]) (.same (.drop (.same (.drop (.same (.same (.drop (.drop (.drop (.drop (.drop (.drop Le.nil)))))))))))) (fun (x52 : (D × D)) (a51 : Unit) => (tg_tup (tgs_cons tg_nm (tgs_cons tg_nm tgs_nil)))) .nil (fun _ => .nil) rfl) (h.loop hp (xi (i_seq (e := (eP eD eD)) (f := fun a => a) sq_lst) (di_seq (xe (i_slc (lo := (some _)) (hi := none) sl_L) (de_slc (m := false) (h.ev (eL (eP eD eD)) rows_ 4) (do_some (xe (i_cst (e := D.int) (a := 21)) de_int)) do_none)))) (dg_tg (g := .tup [.nm 7, .nm 8]) (h.vtup (vs_cons (h.vnm (i := 7) (by decide +kernel)) (vs_cons (h.vnm (i := 8) (by decide +kernel)) vs_nil)))) (dsU2 fun (x52 : (D × D)) (a51 : Unit) =>
  (t_le [some (.v (eC a.1)), none, some .b, none, some (.v ((eL (eP eD eD)) rows_)), some (.v (eD w50.1)), none, some (.v (eD x52.1)), some (.v (eD x52.2)), none, none, none] (.same (.drop (.same (.drop (.same (.same (.drop (.same (.same (.drop (.drop (.drop Le.nil)))))))))))) (ts_cons (xs (s_if1 .nil) (ds_if (xt (i_op op_neR) (pCmpT h.rm (xe (i_cb (f_reprA (e1 := eD))) (h.bi (cd_repr h.rm) (by decide +kernel) T.z_repr rfl (xa a_1 (pCons (h.ev eD x52.1 7) da_nil)))) (xe (i_cb (f_reprA (e1 := eD))) (h.bi (cd_repr h.rm) (by decide +kernel) T.z_repr rfl (xa a_1 (pCons (h.ev eD x52.2 8) da_nil)))))) (ts_last (xs (s_ret .nil (fun _ => rfl) (fun _ => .nil)) (ds_ret (xe (i_cst (e := D.bl) (a := false)) de_bl)))) (t_end () .refl))) fun _ =>
  (t_end () (.same (.drop (.same (.drop (.same (.same (.drop (.drop (.drop (.drop (.drop (.drop Le.nil)))))))))))))))))) fun (a54 : Unit) =>
  (ts_cons (xs (s_for (e := (eP D.int (eP eD eD))) (rs := fun (a55 : Unit) => [some (.v (eC a.1)), none, some .b, none, none, some (.v (eD w50.1)), none, none, none, none, none, none]) (a0 := ()) (g := .tup [.nm 9, .nm 10]) (.same (.drop (.same (.drop (.drop (.same (.drop (.drop (.drop (.drop (.drop (.drop Le.nil)))))))))))) (fun (x56 : (Int × (D × D))) (a55 : Unit) => (tg_tup (tgs_cons tg_nm (tgs_cons tg_nm tgs_nil)))) .nil (fun _ => .nil) rfl) (h.loop hp (xi (i_enum (e := (eP eD eD)) (f := fun a => a) (fun a S => ⟨sq_lst a S, trivial⟩)) (h.enum (by decide +kernel) T.z_enumerate (xa a_1 (pCons (xe (i_slc (lo := none) (hi := (some _)) sl_L) (de_slc (m := false) (h.ev (eL (eP eD eD)) rows_ 4) do_none (do_some (xe (i_cst (e := D.int) (a := 21)) de_int)))) da_nil)))) (dg_tg (g := .tup [.nm 9, .nm 10]) (h.vtup (vs_cons (h.vnm (i := 9) (by decide +kernel)) (vs_cons (h.vnm (i := 10) (by decide +kernel)) vs_nil)))) (dsU2 fun (x56 : (Int × (D × D))) (a55 : Unit) =>
  (t_le [some (.v (eC a.1)), none, some .b, none, none, some (.v (eD w50.1)), none, none, none, some (.v (D.int x56.1)), some (.v ((eP eD eD) x56.2)), none] (.same (.drop (.same (.drop (.drop (.same (.drop (.drop (.drop (.same (.same (.drop Le.nil)))))))))))) (ts_cons (xs (s_set .nil rfl) (h.set (i := 11) (by decide +kernel) (xe i_if (de_if (xt (i_op op_lt) (pCmpT h.rm (h.ev D.int x56.1 9) (xe (i_cst (e := D.int) (a := 16)) de_int))) (xe (i_cst (e := D.int) (a := 0)) de_int) (xe i_if (de_if (xt (i_op op_lt) (pCmpT h.rm (h.ev D.int x56.1 9) (xe (i_cst (e := D.int) (a := 18)) de_int))) (xe (i_cst (e := D.int) (a := 1)) de_int) (xe i_if (de_if (xt (i_op op_lt) (pCmpT h.rm (h.ev D.int x56.1 9) (xe (i_cst (e := D.int) (a := 19)) de_int))) (xe (i_cst (e := D.int) (a := 2)) de_int) (xe (i_cst (e := D.int) (a := 3)) de_int))))))))) fun (group_ : Int) =>
  (ts_cons (xs (s_new .nil rfl) (xs (asg_mono (n_disp (e := D.bl))) (h.set (i := 8) (by decide +kernel) (de_lst (m := true) (xa (it_cons (it_cons (it_cons (it_cons it_nil)))) (pCons (xe (i_cst (e := D.bl) (a := false)) de_bl) (pCons (xe (i_cst (e := D.bl) (a := false)) de_bl) (pCons (xe (i_cst (e := D.bl) (a := false)) de_bl) (pCons (xe (i_cst (e := D.bl) (a := false)) de_bl) da_nil))))))))) fun (due_ : (List Bool)) =>
  (ts_cons (xs (s_sub (e := D.bl) (xs := due_) (i := 8) rfl .nil) (ds_tup (xe (i_cst (e := D.bl) (a := true)) de_bl) (pSub (h.vr 8) (h.ev D.int group_ 11)))) fun (w60 : Bool × Nat) =>
  (t_le [some (.v (eC a.1)), none, some .b, none, none, some (.v (eD w50.1)), none, none, some (.o (eLo D.bl (due_.set w60.2 w60.1))), some (.v (D.int x56.1)), some (.v ((eP eD eD) x56.2)), some (.v (D.int group_))] (.same (.drop (.same (.drop (.drop (.same (.drop (.drop (.same (.same (.same (.same Le.nil)))))))))))) (t_frzL (e := D.bl) (xs := (due_.set w60.2 w60.1)) 8 rfl rfl (ts_cons (xs (s_if1 .nil) (ds_if (dt_w (xw i_or (dw_or (xt (i_op op_neR) (pCmpT h.rm (xe (i_cb (f_reprA (e1 := eD))) (h.bi (cd_repr h.rm) (by decide +kernel) T.z_repr rfl (xa a_1 (pCons (xe (i_item (ds := fun (a : (D × D)) => [eD a.1, eD a.2]) (e2 := eD) (f := fun (a : (D × D)) => a.2) 1 (fun _ => rfl)) (pIdx (h.ev (eP eD eD) x56.2 10) (xe (i_cst (e := D.int) (a := ((1 : Nat) : Int))) de_int))) da_nil)))) (xe (i_cb (f_reprA (e1 := eD))) (h.bi (cd_repr h.rm) (by decide +kernel) T.z_repr rfl (xa a_1 (pCons (h.ev eD w50.1 5) da_nil)))))) (dw_or1 (xt (i_op (op_ne (e := (eP (eL D.int) (eL D.bl))))) (pCmpT h.rm (xe (i_call (cl := fun (d : D × Unit) => [.v (eD d.1)]) (fun d => d) (fun _ => rfl) (fun _ => rfl)) (h.call (fd__law_under T) (by decide) (by decide +kernel) T.m__law_under T.k__law_under (xa (b_consV (e1 := eD) (sl := fun (a : Unit) => [])) (pCons (xe (i_item (ds := fun (a : (D × D)) => [eD a.1, eD a.2]) (e2 := eD) (f := fun (a : (D × D)) => a.1) 0 (fun _ => rfl)) (pIdx (h.ev (eP eD eD) x56.2 10) (xe (i_cst (e := D.int) (a := ((0 : Nat) : Int))) de_int))) (xa b_nil da_nil))))) (xe (i_p2 (e1 := (eL D.int)) (e2 := (eL D.bl))) (de_tup (pCons (xe (i_disp (e := D.int)) (de_lst (m := false) (xa (it_cons it_nil) (pCons (h.ev D.int x56.1 9) da_nil)))) (pCons (h.ev (eL D.bl) (due_.set w60.2 w60.1) 8) da_nil)))))))))) (ts_last (xs (s_ret .nil (fun _ => rfl) (fun _ => .nil)) (ds_ret (xe (i_cst (e := D.bl) (a := false)) de_bl)))) (t_end () .refl))) fun _ =>
  (t_end () (.same (.drop (.same (.drop (.drop (.same (.drop (.drop (.drop (.drop (.drop (.drop Le.nil))))))))))))))))))))))) fun (a62 : Unit) =>
  (t_end () (.same (.drop (.same (.drop (.drop (.drop (.drop (.drop (.drop (.drop (.drop (.drop Le.nil))))))))))))))))))))) fun (a63 : Unit) =>
  (t_end () (.same (.drop (.drop (.drop (.drop (.drop (.drop (.drop (.drop (.drop (.drop (.drop Le.nil))))))))))))))))))) fun (a64 : Unit) =>
  (t_le [some (.v (eC a.1)), none, none, none, none, none, none, none, none, none, none, none] (.same (.drop (.drop (.drop (.drop (.drop (.drop (.drop (.drop (.drop (.drop (.drop Le.nil)))))))))))) (ts_last (xs (s_ret .nil (fun _ => rfl) (fun _ => .nil)) (ds_ret (xe (i_cst (e := D.bl) (a := true)) de_bl))))))
def m_law (a : (List Int) × Unit) : W Bool := fun q x => mb_law a (fun r => q (Empty.elim r)) ⟨q, fun _ => False, fun _ => False, x⟩
theorem fd_law (T : Tx P Kf mg) : FnD P T.w (cc Kf T.A) mg base 3 T.f_law (spG (fun (a : (List Int) × Unit) => [.v (eC a.1)]) (fun _ => []) po0 (rvV D.bl) m_law) :=
  fnT (sg := (⟨(rvV D.bl), po0, (fun e => nomatch e), [], []⟩ : Sig Bool Empty)) (osf := fun (a : (List Int) × Unit) => [some (.v (eC a.1)), none, none, none, none, none, none, none, none, none, none, none]) (res := (fun (e : Empty) => nomatch e)) (mb := mb_law) Empty.elim T.p_law sc_law (fun _ _ _ _ _ _ us hl => match us, hl with | [_], _ => rfl) (fun X Wx h hp a => b_law T h hp a) (fun _ => rfl) (fun _ => rfl) (fun _ _ _ h => h) rfl (fun _ => rfl) (fun _ => Nat.le_of_ble_eq_true rfl) (fun r => nomatch r) rfl
end
end DL
namespace DL
open PySem PySem.Spec PyProof.Rows L2
theorem int_len {i : Int} (h : i.natAbs < 10 ^ 20) : (Str.ofString (toString i)).length ≤ 30 := by
  rw [PySem.intText i]
  show ((if i < 0 then [45] else []) ++ ((Nat.toDigits 10 i.natAbs).map Char.toNat) : List Nat).toArray.size ≤ 30
  rw [List.size_toArray, List.length_append, List.length_map]
  have h1 : (Nat.toDigits 10 i.natAbs).length ≤ 20 := (Nat.length_toDigits_le_iff (by decide) (by decide)).mpr h
  have h2 : (if i < 0 then [45] else [] : List Nat).length ≤ 1 := by split <;> simp
  omega
theorem sh_big {i : Int} (h : i.natAbs < 10 ^ 20) : Sh 0 100 (.int i) := by
  refine ⟨rfl, ?_, ?_⟩
  · unfold D.p PyData.showable
    refine decide_eq_true ?_
    by_cases z : i.natAbs = 0
    · rw [z]; decide
    · have := (Nat.log2_lt z (k := 67)).mpr (Nat.lt_of_lt_of_le h (by decide))
      omega
  · unfold D.p PyData.shown
    exact Nat.le_trans (int_len h) (by decide)
/-- the things that are drawn -/
def things (n : Int) : List D := [.int n, .int (-n), .bl true, .bl false, .non, .str "", .str "item a", .tup [.int n, .str "a"], .lst [.int n, .non], .tup [.tup []], .lst [.lst []], .int 0, .int 1]
theorem things_shw {n : Int} (h0 : 0 ≤ n) (h1 : n < 10 ^ 18) : ∀ d ∈ things n, ShwA d := by
  intro d hd
  unfold things at hd
  have hb : n.natAbs < 10 ^ 20 := by omega
  have hb2 : (-n).natAbs < 10 ^ 20 := by omega
  have i1 : Sh 0 100 (.int n) := sh_big hb
  simp only [List.mem_cons, List.not_mem_nil, or_false] at hd
  rcases hd with h | h | h | h | h | h | h | h | h | h | h | h | h <;> subst h
  · exact i1.shwA (by decide) (by decide)
  · exact (sh_big hb2).shwA (by decide) (by decide)
  · exact (sh_bl).shwA (by decide) (by decide)
  · exact (sh_bl).shwA (by decide) (by decide)
  · exact (sh_non).shwA (by decide) (by decide)
  · exact .inr (.inr ⟨rfl, by decide +kernel⟩)
  · exact .inr (.inr ⟨rfl, by decide +kernel⟩)
  · exact (sh_tup (n := 0) (B := 100) (xs := [.int n, .str "a"]) (fun x hx => by
      simp only [List.mem_cons, List.not_mem_nil, or_false] at hx
      rcases hx with h | h <;> subst h
      · exact i1
      · exact ⟨rfl, rfl, by decide +kernel⟩)).shwA (by decide) (Nat.le_of_ble_eq_true rfl)
  · exact (sh_lst (n := 0) (B := 100) (xs := [.int n, .non]) (fun x hx => by
      simp only [List.mem_cons, List.not_mem_nil, or_false] at hx
      rcases hx with h | h <;> subst h
      · exact i1
      · exact sh_non.up (by decide) (by decide))).shwA (by decide) (Nat.le_of_ble_eq_true rfl)
  · exact .inr (.inl ⟨_, .inr rfl, rfl, rfl, by decide +kernel⟩)
  · exact .inr (.inl ⟨_, .inl rfl, rfl, rfl, by decide +kernel⟩)
  · exact (sh_nat (by decide) (by decide)).shwA (by decide) (by decide)
  · exact (sh_nat (by decide) (by decide)).shwA (by decide) (by decide)
theorem thing_spec {q : D → Prop} {x : XW} (h : ∀ d, ShwA d → q d) : m__law_thing () q x := by
  unfold m__law_thing mb__law_thing
  refine sq_i (set_all (fun n : Int => 0 ≤ n ∧ n < 10 ^ 18) (fun q x hq => ?_) fun n hn => ?_)
  · (try simp (config := {implicitDefEqProofs := false}) only [mirA, if_true, if_false, id])
    have hp : (0 : Int) ≤ 9 ∧ (9 : Int) ≤ 1000000 ∧ (10 : Int).natAbs < 2 ^ 64 := by decide
    have e : (10 : Int) ^ (9 : Int).toNat = 1000000000 := by decide
    rw [e]
    refine ⟨hp, draw_ok' (by decide) (by decide) fun r r0 r1 => ⟨hp, mul_ok (by omega) (by decide), hp, draw_ok' (by decide) (by decide) fun s s0 s1 => hq _ ?_⟩⟩
    omega
  refine sq_i (set_v (things n) (fun q x hq => by (try simp (config := {implicitDefEqProofs := false}) only [mirA, if_true, if_false, id]); exact hq) ?_)
  (try simp (config := {implicitDefEqProofs := false}) only [mirA, if_true, if_false, id])
  exact draw_idx (xs := things n) (by show 0 < 13; decide) (by show 13 < 10000; decide) fun d hd => h d (things_shw hn.1 hn.2 d hd)
def rows1 (d : D) : List (D × D) := [(D.err 20 [d], d), (D.err 21 [d], d), (D.err 22 [d], d), (D.err 23 [d], d), (D.err 24 [d], d), (D.err 25 [d], d), (D.err 26 [d], d), (D.err 27 [d], d), (D.err 28 [d], d), (D.err 29 [d], d)]
theorem rows1_spec {d : D} {q : List (D × D) → Prop} {x : XW} (hq : q (rows1 d)) : m__law_made (d, ()) q x := by
  unfold m__law_made mb__law_made
  refine sq_i (set_v [] (fun q x hq => by (try simp (config := {implicitDefEqProofs := false}) only [mirA, if_true, if_false, id]); exact hq) ?_)
  refine sq_i (set_v (D.err 20 [d]) (fun q x hq => by (try simp (config := {implicitDefEqProofs := false}) only [mirA, if_true, if_false, id]); exact hq) ?_)
  refine sq_i (app_i (D.err 20 [d], d) (fun q x hq => by (try simp (config := {implicitDefEqProofs := false}) only [mirA, if_true, if_false, id]); exact ⟨_, d, rfl, rfl, hq⟩) (Nat.le_of_ble_eq_true rfl) ?_)
  refine sq_i (set_v (D.err 21 [d]) (fun q x hq => by (try simp (config := {implicitDefEqProofs := false}) only [mirA, if_true, if_false, id]); exact hq) ?_)
  refine sq_i (app_i (D.err 21 [d], d) (fun q x hq => by (try simp (config := {implicitDefEqProofs := false}) only [mirA, if_true, if_false, id]); exact ⟨_, d, rfl, rfl, hq⟩) (Nat.le_of_ble_eq_true rfl) ?_)
  refine sq_i (set_v (D.err 22 [d]) (fun q x hq => by (try simp (config := {implicitDefEqProofs := false}) only [mirA, if_true, if_false, id]); exact hq) ?_)
  refine sq_i (app_i (D.err 22 [d], d) (fun q x hq => by (try simp (config := {implicitDefEqProofs := false}) only [mirA, if_true, if_false, id]); exact ⟨_, d, rfl, rfl, hq⟩) (Nat.le_of_ble_eq_true rfl) ?_)
  refine sq_i (set_v (D.err 23 [d]) (fun q x hq => by (try simp (config := {implicitDefEqProofs := false}) only [mirA, if_true, if_false, id]); exact hq) ?_)
  refine sq_i (app_i (D.err 23 [d], d) (fun q x hq => by (try simp (config := {implicitDefEqProofs := false}) only [mirA, if_true, if_false, id]); exact ⟨_, d, rfl, rfl, hq⟩) (Nat.le_of_ble_eq_true rfl) ?_)
  refine sq_i (set_v (D.err 24 [d]) (fun q x hq => by (try simp (config := {implicitDefEqProofs := false}) only [mirA, if_true, if_false, id]); exact hq) ?_)
  refine sq_i (app_i (D.err 24 [d], d) (fun q x hq => by (try simp (config := {implicitDefEqProofs := false}) only [mirA, if_true, if_false, id]); exact ⟨_, d, rfl, rfl, hq⟩) (Nat.le_of_ble_eq_true rfl) ?_)
  refine sq_i (set_v (D.err 25 [d]) (fun q x hq => by (try simp (config := {implicitDefEqProofs := false}) only [mirA, if_true, if_false, id]); exact hq) ?_)
  refine sq_i (app_i (D.err 25 [d], d) (fun q x hq => by (try simp (config := {implicitDefEqProofs := false}) only [mirA, if_true, if_false, id]); exact ⟨_, d, rfl, rfl, hq⟩) (Nat.le_of_ble_eq_true rfl) ?_)
  refine sq_i (set_v (D.err 26 [d]) (fun q x hq => by (try simp (config := {implicitDefEqProofs := false}) only [mirA, if_true, if_false, id]); exact hq) ?_)
  refine sq_i (app_i (D.err 26 [d], d) (fun q x hq => by (try simp (config := {implicitDefEqProofs := false}) only [mirA, if_true, if_false, id]); exact ⟨_, d, rfl, rfl, hq⟩) (Nat.le_of_ble_eq_true rfl) ?_)
  refine sq_i (set_v (D.err 27 [d]) (fun q x hq => by (try simp (config := {implicitDefEqProofs := false}) only [mirA, if_true, if_false, id]); exact hq) ?_)
  refine sq_i (app_i (D.err 27 [d], d) (fun q x hq => by (try simp (config := {implicitDefEqProofs := false}) only [mirA, if_true, if_false, id]); exact ⟨_, d, rfl, rfl, hq⟩) (Nat.le_of_ble_eq_true rfl) ?_)
  refine sq_i (set_v (D.err 28 [d]) (fun q x hq => by (try simp (config := {implicitDefEqProofs := false}) only [mirA, if_true, if_false, id]); exact hq) ?_)
  refine sq_i (app_i (D.err 28 [d], d) (fun q x hq => by (try simp (config := {implicitDefEqProofs := false}) only [mirA, if_true, if_false, id]); exact ⟨_, d, rfl, rfl, hq⟩) (Nat.le_of_ble_eq_true rfl) ?_)
  refine sq_i (set_v (D.err 29 [d]) (fun q x hq => by (try simp (config := {implicitDefEqProofs := false}) only [mirA, if_true, if_false, id]); exact hq) ?_)
  refine sq_i (app_i (D.err 29 [d], d) (fun q x hq => by (try simp (config := {implicitDefEqProofs := false}) only [mirA, if_true, if_false, id]); exact ⟨_, d, rfl, rfl, hq⟩) (Nat.le_of_ble_eq_true rfl) ?_)
  (try simp (config := {implicitDefEqProofs := false}) only [mirA, if_true, if_false, id])
  exact hq
def rows2 (d o : D) : List (D × D) := [(D.err 30 [d], d), (D.err 31 [d], d), (D.err 32 [d], d), (D.err 33 [d, o], d), (D.err 34 [d], d), (D.err 35 [d], d), (D.err 36 [d], d), (D.err 37 [d], d), (D.err 38 [d], d), (D.err 39 [d, o], d), (D.err 40 [d], d), (o, o), (o, o)]
theorem rows2_spec {d o : D} {q : List (D × D) → Prop} {x : XW} (hq : q (rows2 d o)) : m__law_made_more (d, o, ()) q x := by
  unfold m__law_made_more mb__law_made_more
  refine sq_i (set_v [] (fun q x hq => by (try simp (config := {implicitDefEqProofs := false}) only [mirA, if_true, if_false, id]); exact hq) ?_)
  refine sq_i (set_v (D.err 30 [d]) (fun q x hq => by (try simp (config := {implicitDefEqProofs := false}) only [mirA, if_true, if_false, id]); exact hq) ?_)
  refine sq_i (app_i (D.err 30 [d], d) (fun q x hq => by (try simp (config := {implicitDefEqProofs := false}) only [mirA, if_true, if_false, id]); exact ⟨_, d, rfl, rfl, hq⟩) (Nat.le_of_ble_eq_true rfl) ?_)
  refine sq_i (set_v (D.err 31 [d]) (fun q x hq => by (try simp (config := {implicitDefEqProofs := false}) only [mirA, if_true, if_false, id]); exact hq) ?_)
  refine sq_i (app_i (D.err 31 [d], d) (fun q x hq => by (try simp (config := {implicitDefEqProofs := false}) only [mirA, if_true, if_false, id]); exact ⟨_, d, rfl, rfl, hq⟩) (Nat.le_of_ble_eq_true rfl) ?_)
  refine sq_i (set_v (D.err 32 [d]) (fun q x hq => by (try simp (config := {implicitDefEqProofs := false}) only [mirA, if_true, if_false, id]); exact hq) ?_)
  refine sq_i (app_i (D.err 32 [d], d) (fun q x hq => by (try simp (config := {implicitDefEqProofs := false}) only [mirA, if_true, if_false, id]); exact ⟨_, d, rfl, rfl, hq⟩) (Nat.le_of_ble_eq_true rfl) ?_)
  refine sq_i (set_v (D.err 33 [d, o]) (fun q x hq => by (try simp (config := {implicitDefEqProofs := false}) only [mirA, if_true, if_false, id]); exact hq) ?_)
  refine sq_i (app_i (D.err 33 [d, o], d) (fun q x hq => by (try simp (config := {implicitDefEqProofs := false}) only [mirA, if_true, if_false, id]); exact ⟨_, d, rfl, rfl, hq⟩) (Nat.le_of_ble_eq_true rfl) ?_)
  refine sq_i (set_v (D.err 34 [d]) (fun q x hq => by (try simp (config := {implicitDefEqProofs := false}) only [mirA, if_true, if_false, id]); exact hq) ?_)
  refine sq_i (app_i (D.err 34 [d], d) (fun q x hq => by (try simp (config := {implicitDefEqProofs := false}) only [mirA, if_true, if_false, id]); exact ⟨_, d, rfl, rfl, hq⟩) (Nat.le_of_ble_eq_true rfl) ?_)
  refine sq_i (set_v (D.err 35 [d]) (fun q x hq => by (try simp (config := {implicitDefEqProofs := false}) only [mirA, if_true, if_false, id]); exact hq) ?_)
  refine sq_i (app_i (D.err 35 [d], d) (fun q x hq => by (try simp (config := {implicitDefEqProofs := false}) only [mirA, if_true, if_false, id]); exact ⟨_, d, rfl, rfl, hq⟩) (Nat.le_of_ble_eq_true rfl) ?_)
  refine sq_i (set_v (D.err 36 [d]) (fun q x hq => by (try simp (config := {implicitDefEqProofs := false}) only [mirA, if_true, if_false, id]); exact hq) ?_)
  refine sq_i (app_i (D.err 36 [d], d) (fun q x hq => by (try simp (config := {implicitDefEqProofs := false}) only [mirA, if_true, if_false, id]); exact ⟨_, d, rfl, rfl, hq⟩) (Nat.le_of_ble_eq_true rfl) ?_)
  refine sq_i (set_v (D.err 37 [d]) (fun q x hq => by (try simp (config := {implicitDefEqProofs := false}) only [mirA, if_true, if_false, id]); exact hq) ?_)
  refine sq_i (app_i (D.err 37 [d], d) (fun q x hq => by (try simp (config := {implicitDefEqProofs := false}) only [mirA, if_true, if_false, id]); exact ⟨_, d, rfl, rfl, hq⟩) (Nat.le_of_ble_eq_true rfl) ?_)
  refine sq_i (set_v (D.err 38 [d]) (fun q x hq => by (try simp (config := {implicitDefEqProofs := false}) only [mirA, if_true, if_false, id]); exact hq) ?_)
  refine sq_i (app_i (D.err 38 [d], d) (fun q x hq => by (try simp (config := {implicitDefEqProofs := false}) only [mirA, if_true, if_false, id]); exact ⟨_, d, rfl, rfl, hq⟩) (Nat.le_of_ble_eq_true rfl) ?_)
  refine sq_i (set_v (D.err 39 [d, o]) (fun q x hq => by (try simp (config := {implicitDefEqProofs := false}) only [mirA, if_true, if_false, id]); exact hq) ?_)
  refine sq_i (app_i (D.err 39 [d, o], d) (fun q x hq => by (try simp (config := {implicitDefEqProofs := false}) only [mirA, if_true, if_false, id]); exact ⟨_, d, rfl, rfl, hq⟩) (Nat.le_of_ble_eq_true rfl) ?_)
  refine sq_i (set_v (D.err 40 [d]) (fun q x hq => by (try simp (config := {implicitDefEqProofs := false}) only [mirA, if_true, if_false, id]); exact hq) ?_)
  refine sq_i (app_i (D.err 40 [d], d) (fun q x hq => by (try simp (config := {implicitDefEqProofs := false}) only [mirA, if_true, if_false, id]); exact ⟨_, d, rfl, rfl, hq⟩) (Nat.le_of_ble_eq_true rfl) ?_)
  (try simp (config := {implicitDefEqProofs := false}) only [mirA, if_true, if_false, id])
  exact ⟨_, o, rfl, rfl, _, o, rfl, rfl, line_sz (Nat.le_of_ble_eq_true rfl), hq⟩
def foundE (n : Nat) : List Bool := [decide (n = 20), decide (n = 21), decide (n = 22), decide (n = 23), decide (n = 24), decide (n = 25), decide (n = 26), decide (n = 27), decide (n = 28), decide (n = 29), decide (n = 30), decide (n = 31), decide (n = 32), decide (n = 33), decide (n = 34), decide (n = 35), decide (n = 36), decide (n = 37), decide (n = 38), decide (n = 39), decide (n = 40)]
def kindsE (n : Nat) : List Bool := [kErr_ValueError n, kErr_LookupError n, kErr_OverflowError n, kErr_RuntimeError n]
theorem found_only : ∀ n ∈ List.range' 20 21, ((rng 0 21).filter (fun y => (foundE n).getD y.toNat false)).map (fun y => y) = [(n : Int) - 20] := by decide +kernel
theorem kinds_due : ∀ n ∈ List.range' 20 21, kindsE n = [false, false, false, false].set (if (n : Int) - 20 < 16 then (0 : Int) else if (n : Int) - 20 < 18 then 1 else if (n : Int) - 20 < 19 then 2 else 3).toNat true := by decide +kernel
theorem known_all : ∀ n ∈ List.range' 20 21, kErr n = true := by decide +kernel
theorem under_spec {n : Nat} {xs : List D} (hn : n ∈ List.range' 20 21) {q : List Int × List Bool → Prop} {x : XW} (hq : q ([(n : Int) - 20], kindsE n)) : m__law_under (.err n xs, ()) q x := by
  have kk := known_all n hn
  have is : ∀ {g : Nat → Bool} {q : Bool → Prop}, q (g n) → isEK kErr g (.err n xs) q := fun h => ⟨_, _, rfl, kk, h⟩
  unfold m__law_under mb__law_under
  refine sq_i (set_v [decide (n = 20), decide (n = 21), decide (n = 22), decide (n = 23)] (fun q x hq => by (try simp (config := {implicitDefEqProofs := false}) only [mirA, if_true, if_false, id]); exact is (is (is (is (hq))))) ?_)
  refine sq_i (set_v [decide (n = 20), decide (n = 21), decide (n = 22), decide (n = 23), decide (n = 24), decide (n = 25), decide (n = 26)] (fun q x hq => by (try simp (config := {implicitDefEqProofs := false}) only [mirA, if_true, if_false, id]); exact is (is (is (⟨line_sz (Nat.le_of_ble_eq_true rfl), hq⟩)))) ?_)
  refine sq_i (set_v [decide (n = 20), decide (n = 21), decide (n = 22), decide (n = 23), decide (n = 24), decide (n = 25), decide (n = 26), decide (n = 27), decide (n = 28), decide (n = 29)] (fun q x hq => by (try simp (config := {implicitDefEqProofs := false}) only [mirA, if_true, if_false, id]); exact is (is (is (⟨line_sz (Nat.le_of_ble_eq_true rfl), hq⟩)))) ?_)
  refine sq_i (set_v [decide (n = 20), decide (n = 21), decide (n = 22), decide (n = 23), decide (n = 24), decide (n = 25), decide (n = 26), decide (n = 27), decide (n = 28), decide (n = 29), decide (n = 30), decide (n = 31), decide (n = 32), decide (n = 33)] (fun q x hq => by (try simp (config := {implicitDefEqProofs := false}) only [mirA, if_true, if_false, id]); exact is (is (is (is (⟨line_sz (Nat.le_of_ble_eq_true rfl), hq⟩))))) ?_)
  refine sq_i (set_v [decide (n = 20), decide (n = 21), decide (n = 22), decide (n = 23), decide (n = 24), decide (n = 25), decide (n = 26), decide (n = 27), decide (n = 28), decide (n = 29), decide (n = 30), decide (n = 31), decide (n = 32), decide (n = 33), decide (n = 34), decide (n = 35), decide (n = 36), decide (n = 37)] (fun q x hq => by (try simp (config := {implicitDefEqProofs := false}) only [mirA, if_true, if_false, id]); exact is (is (is (is (⟨line_sz (Nat.le_of_ble_eq_true rfl), hq⟩))))) ?_)
  refine sq_i (set_v [decide (n = 20), decide (n = 21), decide (n = 22), decide (n = 23), decide (n = 24), decide (n = 25), decide (n = 26), decide (n = 27), decide (n = 28), decide (n = 29), decide (n = 30), decide (n = 31), decide (n = 32), decide (n = 33), decide (n = 34), decide (n = 35), decide (n = 36), decide (n = 37), decide (n = 38), decide (n = 39), decide (n = 40)] (fun q x hq => by (try simp (config := {implicitDefEqProofs := false}) only [mirA, if_true, if_false, id]); exact is (is (is (⟨line_sz (Nat.le_of_ble_eq_true rfl), hq⟩)))) ?_)
  refine sq_i (set_v [kErr_ValueError n, kErr_LookupError n, kErr_OverflowError n] (fun q x hq => by (try simp (config := {implicitDefEqProofs := false}) only [mirA, if_true, if_false, id]); exact is (is (is hq))) ?_)
  (try simp (config := {implicitDefEqProofs := false}) only [mirA, if_true, if_false, id])
  refine ⟨⟨by decide, by decide⟩, line_sz (by rw [rng_len]; decide), ?_⟩
  refine compK_filter (fun y => (foundE n).getD y.toNat false) (fun y => y) (fun y hy q' hq' => ?_) (fun y hy _ q' hq' => hq') ?_
  · obtain ⟨y0, y1⟩ := rng_mem hy
    refine idx_in y0 (by show y < 21; exact y1) fun b hb _ => ?_
    have e : (foundE n).getD y.toNat false = b := by
      rw [List.getD_eq_getElem?_getD]
      show (Option.getD _ _) = b
      rw [show (foundE n)[y.toNat]? = some b from hb]
      rfl
    rw [e] at hq'
    exact hq'
  · refine is ⟨line_sz (Nat.le_of_ble_eq_true rfl), ?_⟩
    have e := found_only n hn
    rw [show (21 : Int).toNat = 21 from rfl]
    rw [e]
    exact hq
end DL
namespace DL
open PySem PySem.Spec PyProof.Rows L2
theorem enum_rows (d o : D) : enumT 0 (cutD (rows1 d ++ rows2 d o) none (some 21)) = [(0, (D.err 20 [d], d)), (1, (D.err 21 [d], d)), (2, (D.err 22 [d], d)), (3, (D.err 23 [d], d)), (4, (D.err 24 [d], d)), (5, (D.err 25 [d], d)), (6, (D.err 26 [d], d)), (7, (D.err 27 [d], d)), (8, (D.err 28 [d], d)), (9, (D.err 29 [d], d)), (10, (D.err 30 [d], d)), (11, (D.err 31 [d], d)), (12, (D.err 32 [d], d)), (13, (D.err 33 [d, o], d)), (14, (D.err 34 [d], d)), (15, (D.err 35 [d], d)), (16, (D.err 36 [d], d)), (17, (D.err 37 [d], d)), (18, (D.err 38 [d], d)), (19, (D.err 39 [d, o], d)), (20, (D.err 40 [d], d))] := rfl
theorem tail_rows (d o : D) : cutD (rows1 d ++ rows2 d o) (some 21) none = [(o, o), (o, o)] := rfl
theorem row_at {d o : D} {p : Int × (D × D)} (h : p ∈ enumT 0 (cutD (rows1 d ++ rows2 d o) none (some 21))) : ∃ (n : Nat) (xs : List D), n ∈ List.range' 20 21 ∧ p = ((n : Int) - 20, (D.err n xs, d)) := by
  rw [enum_rows] at h
  simp only [List.mem_cons, List.not_mem_nil, or_false] at h
  rcases h with h | h | h | h | h | h | h | h | h | h | h | h | h | h | h | h | h | h | h | h | h
  · exact ⟨20, _, by decide, h⟩
  · exact ⟨21, _, by decide, h⟩
  · exact ⟨22, _, by decide, h⟩
  · exact ⟨23, _, by decide, h⟩
  · exact ⟨24, _, by decide, h⟩
  · exact ⟨25, _, by decide, h⟩
  · exact ⟨26, _, by decide, h⟩
  · exact ⟨27, _, by decide, h⟩
  · exact ⟨28, _, by decide, h⟩
  · exact ⟨29, _, by decide, h⟩
  · exact ⟨30, _, by decide, h⟩
  · exact ⟨31, _, by decide, h⟩
  · exact ⟨32, _, by decide, h⟩
  · exact ⟨33, _, by decide, h⟩
  · exact ⟨34, _, by decide, h⟩
  · exact ⟨35, _, by decide, h⟩
  · exact ⟨36, _, by decide, h⟩
  · exact ⟨37, _, by decide, h⟩
  · exact ⟨38, _, by decide, h⟩
  · exact ⟨39, _, by decide, h⟩
  · exact ⟨40, _, by decide, h⟩
theorem law_true (zs : List Int) (hz : zs.length ≤ 63) : m_law (zs, ()) (fun r => r = true) X0 := by
  unfold m_law mb_law
  refine sq_i (for_all (fun xs => ∀ y ∈ xs, 0 ≤ y ∧ y < 3) (fun q x hq => ?_) fun xs hxs => ?_)
  · (try simp (config := {implicitDefEqProofs := false}) only [mirA, if_true, if_false, id])
    refine ⟨⟨by split <;> split <;> omega, by split <;> split <;> omega⟩, hq _ fun y hy => ?_⟩
    have hy := rng_mem hy
    revert hy
    split <;> split <;> omega
  refine forK_keep (fun _ => True) trivial (fun y hy _ nx' _ k => ?_) fun _ _ => ?_
  · obtain ⟨y0, y1⟩ := hxs y hy
    refine sq_i (bag_i zs y (fun q x hq => hq) hz y0 (by omega) ?_)
    refine sq_i (for_all (fun _ => True) (fun q x hq => by (try simp (config := {implicitDefEqProofs := false}) only [mirA, if_true, if_false, id]); exact ⟨⟨by decide, by decide⟩, hq _ trivial⟩) fun ts _ => ?_)
    refine forK_keep (fun _ => True) trivial (fun t _ _ nx2 _ k2 => ?_) fun _ _ => end_i (k _ trivial)
    refine sq_i (par2_all ShwA ShwA (fun q x hq => thing_spec hq) (fun q x hq => thing_spec hq) fun d o hd ho => ?_)
    refine sq_i (set_v (rows1 d ++ rows2 d o) (fun q x hq => ?_) ?_)
    · (try simp (config := {implicitDefEqProofs := false}) only [mirA, if_true, if_false, id])
      exact rows1_spec (rows2_spec ⟨line_sz (Nat.le_of_ble_eq_true rfl), hq⟩)
    refine sq_i (for_all (fun xs => ∀ p ∈ xs, p = (o, o)) (fun q x hq => ?_) fun xs2 h2 => ?_)
    · (try simp (config := {implicitDefEqProofs := false}) only [mirA, if_true, if_false, id])
      refine hq _ fun p hp => ?_
      rw [tail_rows] at hp
      simp only [List.mem_cons, List.not_mem_nil, or_false] at hp
      rcases hp with h | h <;> exact h
    refine forK_keep (fun _ => True) trivial (fun p hp _ nx3 _ k3 => ?_) fun _ _ => ?_
    · have e := h2 p hp
      subst e
      refine sq_i (ifF_i (fun q x hq => ?_) (end_i (end_i (k3 _ trivial))))
      (try simp (config := {implicitDefEqProofs := false}) only [mirA, if_true, if_false, id])
      exact ⟨ho, ho, hq⟩
    refine sq_i (for_all (fun xs => ∀ p ∈ xs, ∃ (n : Nat) (zs : List D), n ∈ List.range' 20 21 ∧ p = ((n : Int) - 20, (D.err n zs, d))) (fun q x hq => ?_) fun xs3 h3 => ?_)
    · (try simp (config := {implicitDefEqProofs := false}) only [mirA, if_true, if_false, id])
      exact hq _ fun p hp => row_at hp
    refine forK_keep (fun _ => True) trivial (fun p hp _ nx3 _ k3 => ?_) fun _ _ => end_i (k2 _ trivial)
    obtain ⟨n, ys, hn, e⟩ := h3 p hp
    subst e
    refine sq_i (set_v (if (n : Int) - 20 < 16 then (0 : Int) else if (n : Int) - 20 < 18 then 1 else if (n : Int) - 20 < 19 then 2 else 3) (fun q x hq => ?_) ?_)
    · (try simp (config := {implicitDefEqProofs := false}) only [mirA, if_true, if_false, id])
      by_cases c1 : (n : Int) - 20 < 16
      · rw [if_pos c1] at hq ⊢; exact hq
      · rw [if_neg c1] at hq ⊢
        by_cases c2 : (n : Int) - 20 < 18
        · rw [if_pos c2] at hq ⊢; exact hq
        · rw [if_neg c2] at hq ⊢
          by_cases c3 : (n : Int) - 20 < 19
          · rw [if_pos c3] at hq ⊢; exact hq
          · rw [if_neg c3] at hq ⊢; exact hq
    refine sq_i (set_v [false, false, false, false] (fun q x hq => by (try simp (config := {implicitDefEqProofs := false}) only [mirA, if_true, if_false, id]); exact hq) ?_)
    refine sq_i ?_
    (try simp (config := {implicitDefEqProofs := false}) only [mirA, if_true, if_false, id])
    have g0 : (0 : Int) ≤ (if (n : Int) - 20 < 16 then (0 : Int) else if (n : Int) - 20 < 18 then 1 else if (n : Int) - 20 < 19 then 2 else 3) ∧ (if (n : Int) - 20 < 16 then (0 : Int) else if (n : Int) - 20 < 18 then 1 else if (n : Int) - 20 < 19 then 2 else 3) < 4 := by
      split
      · decide
      · split
        · decide
        · split <;> decide
    refine ⟨_, by unfold ixN; rw [if_pos g0.1]; exact if_pos g0.2, hd, hd, if_no (fun z => z trivial) (under_spec hn (if_no (fun z => z ?_) (k3 _ trivial)))⟩
    rw [kinds_due n hn]
  · (try simp (config := {implicitDefEqProofs := false}) only [mirA, if_true, if_false, id])
end DL
namespace DL
open PySem PySem.Spec PyProof.Rows L2
theorem all_mk {l : PySem.W.OpenLaw} {w : World} {K : PySem.W.Frag} {h : Heap} {mg : Str → Option Value} {fa : Addr} (X : K.In h) (G : h.Ns mainGlobals mg) (hfa : mg "law" = some (.ref fa))
    {f__law_pot f__law_draw f__law_thing f__law_made f__law_made_more f__law_under f_law c_BadLine fI_BadLine cc_BadLine cda_BadLine c_BadStretch fI_BadStretch cc_BadStretch cda_BadStretch c_BadKind fI_BadKind cc_BadKind cda_BadKind c_BadMove fI_BadMove cc_BadMove cda_BadMove c_BadState fI_BadState cc_BadState cda_BadState c_BadWindow fI_BadWindow cc_BadWindow cda_BadWindow c_BadRule fI_BadRule cc_BadRule cda_BadRule c_BadGap fI_BadGap cc_BadGap cda_BadGap c_BadColumn fI_BadColumn cc_BadColumn cda_BadColumn c_BadStep fI_BadStep cc_BadStep cda_BadStep c_BadChange fI_BadChange cc_BadChange cda_BadChange c_BadText fI_BadText cc_BadText cda_BadText c_Misfit fI_Misfit cc_Misfit cda_Misfit c_Clash fI_Clash cc_Clash cda_Clash c_Mismatch fI_Mismatch cc_Mismatch cda_Mismatch c_Stuck fI_Stuck cc_Stuck cda_Stuck c_NoLine fI_NoLine cc_NoLine cda_NoLine c_NoHand fI_NoHand cc_NoHand cda_NoHand c_TooMany fI_TooMany cc_TooMany cda_TooMany c_Broken fI_Broken cc_Broken cda_Broken c_NotGood fI_NotGood cc_NotGood cda_NotGood : Addr} {od0 od1 od2 od3 od4 od5 od6 an0 an1 an2 an3 an4 an5 an6 : Option Addr} {sl0 sl1 sl2 sl3 sl4 sl5 sl6 : Array (Option Value)} {oc0 kV0 dc0 pm0 cd0 ct0 oc1 kV1 dc1 pm1 cd1 ct1 oc2 kV2 dc2 pm2 cd2 ct2 oc3 kV3 dc3 pm3 cd3 ct3 oc4 kV4 dc4 pm4 cd4 ct4 oc5 kV5 dc5 pm5 cd5 ct5 oc6 kV6 dc6 pm6 cd6 ct6 oce_BadLine kVe_BadLine dce_BadLine pme_BadLine cte_BadLine cle_BadLine ccle_BadLine oce_BadStretch kVe_BadStretch dce_BadStretch pme_BadStretch cte_BadStretch cle_BadStretch ccle_BadStretch oce_BadKind kVe_BadKind dce_BadKind pme_BadKind cte_BadKind cle_BadKind ccle_BadKind oce_BadMove kVe_BadMove dce_BadMove pme_BadMove cte_BadMove cle_BadMove ccle_BadMove oce_BadState kVe_BadState dce_BadState pme_BadState cte_BadState cle_BadState ccle_BadState oce_BadWindow kVe_BadWindow dce_BadWindow pme_BadWindow cte_BadWindow cle_BadWindow ccle_BadWindow oce_BadRule kVe_BadRule dce_BadRule pme_BadRule cte_BadRule cle_BadRule ccle_BadRule oce_BadGap kVe_BadGap dce_BadGap pme_BadGap cte_BadGap cle_BadGap ccle_BadGap oce_BadColumn kVe_BadColumn dce_BadColumn pme_BadColumn cte_BadColumn cle_BadColumn ccle_BadColumn oce_BadStep kVe_BadStep dce_BadStep pme_BadStep cte_BadStep cle_BadStep ccle_BadStep oce_BadChange kVe_BadChange dce_BadChange pme_BadChange cte_BadChange cle_BadChange ccle_BadChange oce_BadText kVe_BadText dce_BadText pme_BadText cte_BadText cle_BadText ccle_BadText oce_Misfit kVe_Misfit dce_Misfit pme_Misfit cte_Misfit cle_Misfit ccle_Misfit oce_Clash kVe_Clash dce_Clash pme_Clash cte_Clash cle_Clash ccle_Clash oce_Mismatch kVe_Mismatch dce_Mismatch pme_Mismatch cte_Mismatch cle_Mismatch ccle_Mismatch oce_Stuck kVe_Stuck dce_Stuck pme_Stuck cte_Stuck cle_Stuck ccle_Stuck oce_NoLine kVe_NoLine dce_NoLine pme_NoLine cte_NoLine cle_NoLine ccle_NoLine oce_NoHand kVe_NoHand dce_NoHand pme_NoHand cte_NoHand cle_NoHand ccle_NoHand oce_TooMany kVe_TooMany dce_TooMany pme_TooMany cte_TooMany cle_TooMany ccle_TooMany oce_Broken kVe_Broken dce_Broken pme_Broken cte_Broken cle_Broken ccle_Broken oce_NotGood kVe_NotGood dce_NotGood pme_NotGood cte_NotGood cle_NotGood ccle_NotGood : Value} {filee : Str} {ode_BadLine ane_BadLine clde_BadLine cdde_BadLine ddC_BadLine : Option Addr} {sle_BadLine csle_BadLine ccse_BadLine slC_BadLine : Array (Option Value)} {vse_BadLine : Array Value} {tfe_BadLine : Tok} {cdC_BadLine : ClassData} {k0_BadLine k1_BadLine k2_BadLine k3_BadLine k5_BadLine : Option Value} {ode_BadStretch ane_BadStretch clde_BadStretch cdde_BadStretch ddC_BadStretch : Option Addr} {sle_BadStretch csle_BadStretch ccse_BadStretch slC_BadStretch : Array (Option Value)} {vse_BadStretch : Array Value} {tfe_BadStretch : Tok} {cdC_BadStretch : ClassData} {k0_BadStretch k1_BadStretch k2_BadStretch k3_BadStretch k5_BadStretch : Option Value} {ode_BadKind ane_BadKind clde_BadKind cdde_BadKind ddC_BadKind : Option Addr} {sle_BadKind csle_BadKind ccse_BadKind slC_BadKind : Array (Option Value)} {vse_BadKind : Array Value} {tfe_BadKind : Tok} {cdC_BadKind : ClassData} {k0_BadKind k1_BadKind k2_BadKind k3_BadKind k5_BadKind : Option Value} {ode_BadMove ane_BadMove clde_BadMove cdde_BadMove ddC_BadMove : Option Addr} {sle_BadMove csle_BadMove ccse_BadMove slC_BadMove : Array (Option Value)} {vse_BadMove : Array Value} {tfe_BadMove : Tok} {cdC_BadMove : ClassData} {k0_BadMove k1_BadMove k2_BadMove k3_BadMove k5_BadMove : Option Value} {ode_BadState ane_BadState clde_BadState cdde_BadState ddC_BadState : Option Addr} {sle_BadState csle_BadState ccse_BadState slC_BadState : Array (Option Value)} {vse_BadState : Array Value} {tfe_BadState : Tok} {cdC_BadState : ClassData} {k0_BadState k1_BadState k2_BadState k3_BadState k5_BadState : Option Value} {ode_BadWindow ane_BadWindow clde_BadWindow cdde_BadWindow ddC_BadWindow : Option Addr} {sle_BadWindow csle_BadWindow ccse_BadWindow slC_BadWindow : Array (Option Value)} {vse_BadWindow : Array Value} {tfe_BadWindow : Tok} {cdC_BadWindow : ClassData} {k0_BadWindow k1_BadWindow k2_BadWindow k3_BadWindow k5_BadWindow : Option Value} {ode_BadRule ane_BadRule clde_BadRule cdde_BadRule ddC_BadRule : Option Addr} {sle_BadRule csle_BadRule ccse_BadRule slC_BadRule : Array (Option Value)} {vse_BadRule : Array Value} {tfe_BadRule : Tok} {cdC_BadRule : ClassData} {k0_BadRule k1_BadRule k2_BadRule k3_BadRule k5_BadRule : Option Value} {ode_BadGap ane_BadGap clde_BadGap cdde_BadGap ddC_BadGap : Option Addr} {sle_BadGap csle_BadGap ccse_BadGap slC_BadGap : Array (Option Value)} {vse_BadGap : Array Value} {tfe_BadGap : Tok} {cdC_BadGap : ClassData} {k0_BadGap k1_BadGap k2_BadGap k3_BadGap k5_BadGap : Option Value} {ode_BadColumn ane_BadColumn clde_BadColumn cdde_BadColumn ddC_BadColumn : Option Addr} {sle_BadColumn csle_BadColumn ccse_BadColumn slC_BadColumn : Array (Option Value)} {vse_BadColumn : Array Value} {tfe_BadColumn : Tok} {cdC_BadColumn : ClassData} {k0_BadColumn k1_BadColumn k2_BadColumn k3_BadColumn k5_BadColumn : Option Value} {ode_BadStep ane_BadStep clde_BadStep cdde_BadStep ddC_BadStep : Option Addr} {sle_BadStep csle_BadStep ccse_BadStep slC_BadStep : Array (Option Value)} {vse_BadStep : Array Value} {tfe_BadStep : Tok} {cdC_BadStep : ClassData} {k0_BadStep k1_BadStep k2_BadStep k3_BadStep k5_BadStep : Option Value} {ode_BadChange ane_BadChange clde_BadChange cdde_BadChange ddC_BadChange : Option Addr} {sle_BadChange csle_BadChange ccse_BadChange slC_BadChange : Array (Option Value)} {vse_BadChange : Array Value} {tfe_BadChange : Tok} {cdC_BadChange : ClassData} {k0_BadChange k1_BadChange k2_BadChange k3_BadChange k5_BadChange : Option Value} {ode_BadText ane_BadText clde_BadText cdde_BadText ddC_BadText : Option Addr} {sle_BadText csle_BadText ccse_BadText slC_BadText : Array (Option Value)} {vse_BadText : Array Value} {tfe_BadText : Tok} {cdC_BadText : ClassData} {k0_BadText k1_BadText k2_BadText k3_BadText k5_BadText : Option Value} {ode_Misfit ane_Misfit clde_Misfit cdde_Misfit ddC_Misfit : Option Addr} {sle_Misfit csle_Misfit ccse_Misfit slC_Misfit : Array (Option Value)} {vse_Misfit : Array Value} {tfe_Misfit : Tok} {cdC_Misfit : ClassData} {k0_Misfit k1_Misfit k2_Misfit k3_Misfit k5_Misfit : Option Value} {ode_Clash ane_Clash clde_Clash cdde_Clash ddC_Clash : Option Addr} {sle_Clash csle_Clash ccse_Clash slC_Clash : Array (Option Value)} {vse_Clash : Array Value} {tfe_Clash : Tok} {cdC_Clash : ClassData} {k0_Clash k1_Clash k2_Clash k3_Clash k5_Clash : Option Value} {ode_Mismatch ane_Mismatch clde_Mismatch cdde_Mismatch ddC_Mismatch : Option Addr} {sle_Mismatch csle_Mismatch ccse_Mismatch slC_Mismatch : Array (Option Value)} {vse_Mismatch : Array Value} {tfe_Mismatch : Tok} {cdC_Mismatch : ClassData} {k0_Mismatch k1_Mismatch k2_Mismatch k3_Mismatch k5_Mismatch : Option Value} {ode_Stuck ane_Stuck clde_Stuck cdde_Stuck ddC_Stuck : Option Addr} {sle_Stuck csle_Stuck ccse_Stuck slC_Stuck : Array (Option Value)} {vse_Stuck : Array Value} {tfe_Stuck : Tok} {cdC_Stuck : ClassData} {k0_Stuck k1_Stuck k2_Stuck k3_Stuck k5_Stuck : Option Value} {ode_NoLine ane_NoLine clde_NoLine cdde_NoLine ddC_NoLine : Option Addr} {sle_NoLine csle_NoLine ccse_NoLine slC_NoLine : Array (Option Value)} {vse_NoLine : Array Value} {tfe_NoLine : Tok} {cdC_NoLine : ClassData} {k0_NoLine k1_NoLine k2_NoLine k3_NoLine k5_NoLine : Option Value} {ode_NoHand ane_NoHand clde_NoHand cdde_NoHand ddC_NoHand : Option Addr} {sle_NoHand csle_NoHand ccse_NoHand slC_NoHand : Array (Option Value)} {vse_NoHand : Array Value} {tfe_NoHand : Tok} {cdC_NoHand : ClassData} {k0_NoHand k1_NoHand k2_NoHand k3_NoHand k5_NoHand : Option Value} {ode_TooMany ane_TooMany clde_TooMany cdde_TooMany ddC_TooMany : Option Addr} {sle_TooMany csle_TooMany ccse_TooMany slC_TooMany : Array (Option Value)} {vse_TooMany : Array Value} {tfe_TooMany : Tok} {cdC_TooMany : ClassData} {k0_TooMany k1_TooMany k2_TooMany k3_TooMany k5_TooMany : Option Value} {ode_Broken ane_Broken clde_Broken cdde_Broken ddC_Broken : Option Addr} {sle_Broken csle_Broken ccse_Broken slC_Broken : Array (Option Value)} {vse_Broken : Array Value} {tfe_Broken : Tok} {cdC_Broken : ClassData} {k0_Broken k1_Broken k2_Broken k3_Broken k5_Broken : Option Value} {ode_NotGood ane_NotGood clde_NotGood cdde_NotGood ddC_NotGood : Option Addr} {sle_NotGood csle_NotGood ccse_NotGood slC_NotGood : Array (Option Value)} {vse_NotGood : Array Value} {tfe_NotGood : Tok} {cdC_NotGood : ClassData} {k0_NotGood k1_NotGood k2_NotGood k3_NotGood k5_NotGood : Option Value}
    (m_BadLine : PySem.W.nsIn K mainGlobals "BadLine" = some (some (.ref c_BadLine)))
    (m_BadStretch : PySem.W.nsIn K mainGlobals "BadStretch" = some (some (.ref c_BadStretch)))
    (m_BadKind : PySem.W.nsIn K mainGlobals "BadKind" = some (some (.ref c_BadKind)))
    (m_BadMove : PySem.W.nsIn K mainGlobals "BadMove" = some (some (.ref c_BadMove)))
    (m_BadState : PySem.W.nsIn K mainGlobals "BadState" = some (some (.ref c_BadState)))
    (m_BadWindow : PySem.W.nsIn K mainGlobals "BadWindow" = some (some (.ref c_BadWindow)))
    (m_BadRule : PySem.W.nsIn K mainGlobals "BadRule" = some (some (.ref c_BadRule)))
    (m_BadGap : PySem.W.nsIn K mainGlobals "BadGap" = some (some (.ref c_BadGap)))
    (m_BadColumn : PySem.W.nsIn K mainGlobals "BadColumn" = some (some (.ref c_BadColumn)))
    (m_BadStep : PySem.W.nsIn K mainGlobals "BadStep" = some (some (.ref c_BadStep)))
    (m_BadChange : PySem.W.nsIn K mainGlobals "BadChange" = some (some (.ref c_BadChange)))
    (m_BadText : PySem.W.nsIn K mainGlobals "BadText" = some (some (.ref c_BadText)))
    (m_Misfit : PySem.W.nsIn K mainGlobals "Misfit" = some (some (.ref c_Misfit)))
    (m_Clash : PySem.W.nsIn K mainGlobals "Clash" = some (some (.ref c_Clash)))
    (m_Mismatch : PySem.W.nsIn K mainGlobals "Mismatch" = some (some (.ref c_Mismatch)))
    (m_Stuck : PySem.W.nsIn K mainGlobals "Stuck" = some (some (.ref c_Stuck)))
    (m_NoLine : PySem.W.nsIn K mainGlobals "NoLine" = some (some (.ref c_NoLine)))
    (m_NoHand : PySem.W.nsIn K mainGlobals "NoHand" = some (some (.ref c_NoHand)))
    (m_TooMany : PySem.W.nsIn K mainGlobals "TooMany" = some (some (.ref c_TooMany)))
    (m_Broken : PySem.W.nsIn K mainGlobals "Broken" = some (some (.ref c_Broken)))
    (m_NotGood : PySem.W.nsIn K mainGlobals "NotGood" = some (some (.ref c_NotGood)))
    (a0 : PySem.W.nsIn K mainGlobals "_law_pot" = some (some (.ref f__law_pot)))
    (l0 : K.lookup f__law_pot = some ⟨oc0, od0, .func (PySem.W.fnOf "_law_pot" "_law_pot" (defArgs (top 23)) (defBody (top 23)) (defScope (top 23)) .none kV0 dc0 pm0 an0 cd0 ct0), sl0⟩)
    (e0 : PySem.W.codeIn K cd0 "_law_pot" = true)
    (k0 : PySem.W.keepIn K (.ref f__law_pot) = true)
    (a1 : PySem.W.nsIn K mainGlobals "_law_draw" = some (some (.ref f__law_draw)))
    (l1 : K.lookup f__law_draw = some ⟨oc1, od1, .func (PySem.W.fnOf "_law_draw" "_law_draw" (defArgs (top 24)) (defBody (top 24)) (defScope (top 24)) .none kV1 dc1 pm1 an1 cd1 ct1), sl1⟩)
    (e1 : PySem.W.codeIn K cd1 "_law_draw" = true)
    (k1 : PySem.W.keepIn K (.ref f__law_draw) = true)
    (a2 : PySem.W.nsIn K mainGlobals "_law_thing" = some (some (.ref f__law_thing)))
    (l2 : K.lookup f__law_thing = some ⟨oc2, od2, .func (PySem.W.fnOf "_law_thing" "_law_thing" (defArgs (top 25)) (defBody (top 25)) (defScope (top 25)) .none kV2 dc2 pm2 an2 cd2 ct2), sl2⟩)
    (e2 : PySem.W.codeIn K cd2 "_law_thing" = true)
    (k2 : PySem.W.keepIn K (.ref f__law_thing) = true)
    (a3 : PySem.W.nsIn K mainGlobals "_law_made" = some (some (.ref f__law_made)))
    (l3 : K.lookup f__law_made = some ⟨oc3, od3, .func (PySem.W.fnOf "_law_made" "_law_made" (defArgs (top 27)) (defBody (top 27)) (defScope (top 27)) .none kV3 dc3 pm3 an3 cd3 ct3), sl3⟩)
    (e3 : PySem.W.codeIn K cd3 "_law_made" = true)
    (k3 : PySem.W.keepIn K (.ref f__law_made) = true)
    (a4 : PySem.W.nsIn K mainGlobals "_law_made_more" = some (some (.ref f__law_made_more)))
    (l4 : K.lookup f__law_made_more = some ⟨oc4, od4, .func (PySem.W.fnOf "_law_made_more" "_law_made_more" (defArgs (top 28)) (defBody (top 28)) (defScope (top 28)) .none kV4 dc4 pm4 an4 cd4 ct4), sl4⟩)
    (e4 : PySem.W.codeIn K cd4 "_law_made_more" = true)
    (k4 : PySem.W.keepIn K (.ref f__law_made_more) = true)
    (a5 : PySem.W.nsIn K mainGlobals "_law_under" = some (some (.ref f__law_under)))
    (l5 : K.lookup f__law_under = some ⟨oc5, od5, .func (PySem.W.fnOf "_law_under" "_law_under" (defArgs (top 26)) (defBody (top 26)) (defScope (top 26)) .none kV5 dc5 pm5 an5 cd5 ct5), sl5⟩)
    (e5 : PySem.W.codeIn K cd5 "_law_under" = true)
    (k5 : PySem.W.keepIn K (.ref f__law_under) = true)
    (a6 : PySem.W.nsIn K mainGlobals "law" = some (some (.ref f_law)))
    (l6 : K.lookup f_law = some ⟨oc6, od6, .func (PySem.W.fnOf "law" "law" (defArgs (top 29)) (defBody (top 29)) (defScope (top 29)) .none kV6 dc6 pm6 an6 cd6 ct6), sl6⟩)
    (e6 : PySem.W.codeIn K cd6 "law" = true)
    (k6 : PySem.W.keepIn K (.ref f_law) = true)
    (z_LookupError : PySem.W.nsIn K mainGlobals "LookupError" = some none)
    (z_OverflowError : PySem.W.nsIn K mainGlobals "OverflowError" = some none)
    (z_RuntimeError : PySem.W.nsIn K mainGlobals "RuntimeError" = some none)
    (z_ValueError : PySem.W.nsIn K mainGlobals "ValueError" = some none)
    (z_abs : PySem.W.nsIn K mainGlobals "abs" = some none)
    (z_enumerate : PySem.W.nsIn K mainGlobals "enumerate" = some none)
    (z_int : PySem.W.nsIn K mainGlobals "int" = some none)
    (z_isinstance : PySem.W.nsIn K mainGlobals "isinstance" = some none)
    (z_len : PySem.W.nsIn K mainGlobals "len" = some none)
    (z_max : PySem.W.nsIn K mainGlobals "max" = some none)
    (z_min : PySem.W.nsIn K mainGlobals "min" = some none)
    (z_range : PySem.W.nsIn K mainGlobals "range" = some none)
    (z_repr : PySem.W.nsIn K mainGlobals "repr" = some none)
    (lkC_BadLine : K.lookup c_BadLine = some ⟨.type "type", ddC_BadLine, .cls cdC_BadLine, slC_BadLine⟩)
    (mroC_BadLine : cdC_BadLine.mro = .ref c_BadLine :: bVE)
    (hs_BadLine : slC_BadLine.toList = [k0_BadLine, k1_BadLine, k2_BadLine, k3_BadLine, some (.builtin "ValueError.__new__"), k5_BadLine])
    (hdl_BadLine : cdC_BadLine.hasDel = false)
    (hd_BadLine : PySem.W.hasDictIn K c_BadLine = true)
    (sa_BadLine : PySem.W.findIn K (.ref c_BadLine) "__setattr__" = some (some (.builtin "object.__setattr__")))
    (sB_BadLine : PySem.W.subIn K (.ref c_BadLine) (.type "ValueError") = some true)
    (mro_BadLine : PySem.W.mroIn K c_BadLine (.ref c_BadLine) = some true)
    (iC_BadLine : PySem.W.findIn K (.ref c_BadLine) "__init__" = some (some (.ref fI_BadLine)))
    (tI_BadLine : PySem.W.typeIn K (.ref fI_BadLine) = some (.type "function"))
    (lk_BadLine : K.lookup fI_BadLine = some ⟨oce_BadLine, ode_BadLine, .func (PySem.W.ksFn "__init__" "BadLine.__init__" (defArgs (inClass (top 1) 0)) (defBody (inClass (top 1) 0)) (defScope (inClass (top 1) 0)) .none kVe_BadLine dce_BadLine pme_BadLine ane_BadLine (.ref cda_BadLine) cte_BadLine cc_BadLine), sle_BadLine⟩)
    (cell_BadLine : K.lookup cc_BadLine = some ⟨cle_BadLine, clde_BadLine, .cell (some (.ref c_BadLine)), csle_BadLine⟩)
    (code_BadLine : K.lookup cda_BadLine = some ⟨ccle_BadLine, cdde_BadLine, .fields vse_BadLine, ccse_BadLine⟩)
    (hcd_BadLine : PySem.W.codeIn K (.ref cda_BadLine) "BadLine.__init__" = true)
    (hvs_BadLine : vse_BadLine[2]? = some (.str filee tfe_BadLine))
    (exC_BadLine : PySem.W.subIn K (.ref c_BadLine) (.type "BaseException") = some true)
    (tyC_BadLine : PySem.W.typeIn K (.ref c_BadLine) = some (.type "type"))
    (kC_BadLine : PySem.W.keepIn K (.ref c_BadLine) = true)
    (tk_index_BadLine : PySem.W.takerIn K c_BadLine "index" = some none)
    (lkC_BadStretch : K.lookup c_BadStretch = some ⟨.type "type", ddC_BadStretch, .cls cdC_BadStretch, slC_BadStretch⟩)
    (mroC_BadStretch : cdC_BadStretch.mro = .ref c_BadStretch :: bVE)
    (hs_BadStretch : slC_BadStretch.toList = [k0_BadStretch, k1_BadStretch, k2_BadStretch, k3_BadStretch, some (.builtin "ValueError.__new__"), k5_BadStretch])
    (hdl_BadStretch : cdC_BadStretch.hasDel = false)
    (hd_BadStretch : PySem.W.hasDictIn K c_BadStretch = true)
    (sa_BadStretch : PySem.W.findIn K (.ref c_BadStretch) "__setattr__" = some (some (.builtin "object.__setattr__")))
    (sB_BadStretch : PySem.W.subIn K (.ref c_BadStretch) (.type "ValueError") = some true)
    (mro_BadStretch : PySem.W.mroIn K c_BadStretch (.ref c_BadStretch) = some true)
    (iC_BadStretch : PySem.W.findIn K (.ref c_BadStretch) "__init__" = some (some (.ref fI_BadStretch)))
    (tI_BadStretch : PySem.W.typeIn K (.ref fI_BadStretch) = some (.type "function"))
    (lk_BadStretch : K.lookup fI_BadStretch = some ⟨oce_BadStretch, ode_BadStretch, .func (PySem.W.ksFn "__init__" "BadStretch.__init__" (defArgs (inClass (top 2) 0)) (defBody (inClass (top 2) 0)) (defScope (inClass (top 2) 0)) .none kVe_BadStretch dce_BadStretch pme_BadStretch ane_BadStretch (.ref cda_BadStretch) cte_BadStretch cc_BadStretch), sle_BadStretch⟩)
    (cell_BadStretch : K.lookup cc_BadStretch = some ⟨cle_BadStretch, clde_BadStretch, .cell (some (.ref c_BadStretch)), csle_BadStretch⟩)
    (code_BadStretch : K.lookup cda_BadStretch = some ⟨ccle_BadStretch, cdde_BadStretch, .fields vse_BadStretch, ccse_BadStretch⟩)
    (hcd_BadStretch : PySem.W.codeIn K (.ref cda_BadStretch) "BadStretch.__init__" = true)
    (hvs_BadStretch : vse_BadStretch[2]? = some (.str filee tfe_BadStretch))
    (exC_BadStretch : PySem.W.subIn K (.ref c_BadStretch) (.type "BaseException") = some true)
    (tyC_BadStretch : PySem.W.typeIn K (.ref c_BadStretch) = some (.type "type"))
    (kC_BadStretch : PySem.W.keepIn K (.ref c_BadStretch) = true)
    (tk_index_BadStretch : PySem.W.takerIn K c_BadStretch "index" = some none)
    (lkC_BadKind : K.lookup c_BadKind = some ⟨.type "type", ddC_BadKind, .cls cdC_BadKind, slC_BadKind⟩)
    (mroC_BadKind : cdC_BadKind.mro = .ref c_BadKind :: bVE)
    (hs_BadKind : slC_BadKind.toList = [k0_BadKind, k1_BadKind, k2_BadKind, k3_BadKind, some (.builtin "ValueError.__new__"), k5_BadKind])
    (hdl_BadKind : cdC_BadKind.hasDel = false)
    (hd_BadKind : PySem.W.hasDictIn K c_BadKind = true)
    (sa_BadKind : PySem.W.findIn K (.ref c_BadKind) "__setattr__" = some (some (.builtin "object.__setattr__")))
    (sB_BadKind : PySem.W.subIn K (.ref c_BadKind) (.type "ValueError") = some true)
    (mro_BadKind : PySem.W.mroIn K c_BadKind (.ref c_BadKind) = some true)
    (iC_BadKind : PySem.W.findIn K (.ref c_BadKind) "__init__" = some (some (.ref fI_BadKind)))
    (tI_BadKind : PySem.W.typeIn K (.ref fI_BadKind) = some (.type "function"))
    (lk_BadKind : K.lookup fI_BadKind = some ⟨oce_BadKind, ode_BadKind, .func (PySem.W.ksFn "__init__" "BadKind.__init__" (defArgs (inClass (top 3) 0)) (defBody (inClass (top 3) 0)) (defScope (inClass (top 3) 0)) .none kVe_BadKind dce_BadKind pme_BadKind ane_BadKind (.ref cda_BadKind) cte_BadKind cc_BadKind), sle_BadKind⟩)
    (cell_BadKind : K.lookup cc_BadKind = some ⟨cle_BadKind, clde_BadKind, .cell (some (.ref c_BadKind)), csle_BadKind⟩)
    (code_BadKind : K.lookup cda_BadKind = some ⟨ccle_BadKind, cdde_BadKind, .fields vse_BadKind, ccse_BadKind⟩)
    (hcd_BadKind : PySem.W.codeIn K (.ref cda_BadKind) "BadKind.__init__" = true)
    (hvs_BadKind : vse_BadKind[2]? = some (.str filee tfe_BadKind))
    (exC_BadKind : PySem.W.subIn K (.ref c_BadKind) (.type "BaseException") = some true)
    (tyC_BadKind : PySem.W.typeIn K (.ref c_BadKind) = some (.type "type"))
    (kC_BadKind : PySem.W.keepIn K (.ref c_BadKind) = true)
    (tk_kind_BadKind : PySem.W.takerIn K c_BadKind "kind" = some none)
    (lkC_BadMove : K.lookup c_BadMove = some ⟨.type "type", ddC_BadMove, .cls cdC_BadMove, slC_BadMove⟩)
    (mroC_BadMove : cdC_BadMove.mro = .ref c_BadMove :: bVE)
    (hs_BadMove : slC_BadMove.toList = [k0_BadMove, k1_BadMove, k2_BadMove, k3_BadMove, some (.builtin "ValueError.__new__"), k5_BadMove])
    (hdl_BadMove : cdC_BadMove.hasDel = false)
    (hd_BadMove : PySem.W.hasDictIn K c_BadMove = true)
    (sa_BadMove : PySem.W.findIn K (.ref c_BadMove) "__setattr__" = some (some (.builtin "object.__setattr__")))
    (sB_BadMove : PySem.W.subIn K (.ref c_BadMove) (.type "ValueError") = some true)
    (mro_BadMove : PySem.W.mroIn K c_BadMove (.ref c_BadMove) = some true)
    (iC_BadMove : PySem.W.findIn K (.ref c_BadMove) "__init__" = some (some (.ref fI_BadMove)))
    (tI_BadMove : PySem.W.typeIn K (.ref fI_BadMove) = some (.type "function"))
    (lk_BadMove : K.lookup fI_BadMove = some ⟨oce_BadMove, ode_BadMove, .func (PySem.W.ksFn "__init__" "BadMove.__init__" (defArgs (inClass (top 4) 0)) (defBody (inClass (top 4) 0)) (defScope (inClass (top 4) 0)) .none kVe_BadMove dce_BadMove pme_BadMove ane_BadMove (.ref cda_BadMove) cte_BadMove cc_BadMove), sle_BadMove⟩)
    (cell_BadMove : K.lookup cc_BadMove = some ⟨cle_BadMove, clde_BadMove, .cell (some (.ref c_BadMove)), csle_BadMove⟩)
    (code_BadMove : K.lookup cda_BadMove = some ⟨ccle_BadMove, cdde_BadMove, .fields vse_BadMove, ccse_BadMove⟩)
    (hcd_BadMove : PySem.W.codeIn K (.ref cda_BadMove) "BadMove.__init__" = true)
    (hvs_BadMove : vse_BadMove[2]? = some (.str filee tfe_BadMove))
    (exC_BadMove : PySem.W.subIn K (.ref c_BadMove) (.type "BaseException") = some true)
    (tyC_BadMove : PySem.W.typeIn K (.ref c_BadMove) = some (.type "type"))
    (kC_BadMove : PySem.W.keepIn K (.ref c_BadMove) = true)
    (tk_index_BadMove : PySem.W.takerIn K c_BadMove "index" = some none)
    (lkC_BadState : K.lookup c_BadState = some ⟨.type "type", ddC_BadState, .cls cdC_BadState, slC_BadState⟩)
    (mroC_BadState : cdC_BadState.mro = .ref c_BadState :: bVE)
    (hs_BadState : slC_BadState.toList = [k0_BadState, k1_BadState, k2_BadState, k3_BadState, some (.builtin "ValueError.__new__"), k5_BadState])
    (hdl_BadState : cdC_BadState.hasDel = false)
    (hd_BadState : PySem.W.hasDictIn K c_BadState = true)
    (sa_BadState : PySem.W.findIn K (.ref c_BadState) "__setattr__" = some (some (.builtin "object.__setattr__")))
    (sB_BadState : PySem.W.subIn K (.ref c_BadState) (.type "ValueError") = some true)
    (mro_BadState : PySem.W.mroIn K c_BadState (.ref c_BadState) = some true)
    (iC_BadState : PySem.W.findIn K (.ref c_BadState) "__init__" = some (some (.ref fI_BadState)))
    (tI_BadState : PySem.W.typeIn K (.ref fI_BadState) = some (.type "function"))
    (lk_BadState : K.lookup fI_BadState = some ⟨oce_BadState, ode_BadState, .func (PySem.W.ksFn "__init__" "BadState.__init__" (defArgs (inClass (top 5) 0)) (defBody (inClass (top 5) 0)) (defScope (inClass (top 5) 0)) .none kVe_BadState dce_BadState pme_BadState ane_BadState (.ref cda_BadState) cte_BadState cc_BadState), sle_BadState⟩)
    (cell_BadState : K.lookup cc_BadState = some ⟨cle_BadState, clde_BadState, .cell (some (.ref c_BadState)), csle_BadState⟩)
    (code_BadState : K.lookup cda_BadState = some ⟨ccle_BadState, cdde_BadState, .fields vse_BadState, ccse_BadState⟩)
    (hcd_BadState : PySem.W.codeIn K (.ref cda_BadState) "BadState.__init__" = true)
    (hvs_BadState : vse_BadState[2]? = some (.str filee tfe_BadState))
    (exC_BadState : PySem.W.subIn K (.ref c_BadState) (.type "BaseException") = some true)
    (tyC_BadState : PySem.W.typeIn K (.ref c_BadState) = some (.type "type"))
    (kC_BadState : PySem.W.keepIn K (.ref c_BadState) = true)
    (tk_state_BadState : PySem.W.takerIn K c_BadState "state" = some none)
    (lkC_BadWindow : K.lookup c_BadWindow = some ⟨.type "type", ddC_BadWindow, .cls cdC_BadWindow, slC_BadWindow⟩)
    (mroC_BadWindow : cdC_BadWindow.mro = .ref c_BadWindow :: bVE)
    (hs_BadWindow : slC_BadWindow.toList = [k0_BadWindow, k1_BadWindow, k2_BadWindow, k3_BadWindow, some (.builtin "ValueError.__new__"), k5_BadWindow])
    (hdl_BadWindow : cdC_BadWindow.hasDel = false)
    (hd_BadWindow : PySem.W.hasDictIn K c_BadWindow = true)
    (sa_BadWindow : PySem.W.findIn K (.ref c_BadWindow) "__setattr__" = some (some (.builtin "object.__setattr__")))
    (sB_BadWindow : PySem.W.subIn K (.ref c_BadWindow) (.type "ValueError") = some true)
    (mro_BadWindow : PySem.W.mroIn K c_BadWindow (.ref c_BadWindow) = some true)
    (iC_BadWindow : PySem.W.findIn K (.ref c_BadWindow) "__init__" = some (some (.ref fI_BadWindow)))
    (tI_BadWindow : PySem.W.typeIn K (.ref fI_BadWindow) = some (.type "function"))
    (lk_BadWindow : K.lookup fI_BadWindow = some ⟨oce_BadWindow, ode_BadWindow, .func (PySem.W.ksFn "__init__" "BadWindow.__init__" (defArgs (inClass (top 6) 0)) (defBody (inClass (top 6) 0)) (defScope (inClass (top 6) 0)) .none kVe_BadWindow dce_BadWindow pme_BadWindow ane_BadWindow (.ref cda_BadWindow) cte_BadWindow cc_BadWindow), sle_BadWindow⟩)
    (cell_BadWindow : K.lookup cc_BadWindow = some ⟨cle_BadWindow, clde_BadWindow, .cell (some (.ref c_BadWindow)), csle_BadWindow⟩)
    (code_BadWindow : K.lookup cda_BadWindow = some ⟨ccle_BadWindow, cdde_BadWindow, .fields vse_BadWindow, ccse_BadWindow⟩)
    (hcd_BadWindow : PySem.W.codeIn K (.ref cda_BadWindow) "BadWindow.__init__" = true)
    (hvs_BadWindow : vse_BadWindow[2]? = some (.str filee tfe_BadWindow))
    (exC_BadWindow : PySem.W.subIn K (.ref c_BadWindow) (.type "BaseException") = some true)
    (tyC_BadWindow : PySem.W.typeIn K (.ref c_BadWindow) = some (.type "type"))
    (kC_BadWindow : PySem.W.keepIn K (.ref c_BadWindow) = true)
    (tk_index_BadWindow : PySem.W.takerIn K c_BadWindow "index" = some none)
    (lkC_BadRule : K.lookup c_BadRule = some ⟨.type "type", ddC_BadRule, .cls cdC_BadRule, slC_BadRule⟩)
    (mroC_BadRule : cdC_BadRule.mro = .ref c_BadRule :: bVE)
    (hs_BadRule : slC_BadRule.toList = [k0_BadRule, k1_BadRule, k2_BadRule, k3_BadRule, some (.builtin "ValueError.__new__"), k5_BadRule])
    (hdl_BadRule : cdC_BadRule.hasDel = false)
    (hd_BadRule : PySem.W.hasDictIn K c_BadRule = true)
    (sa_BadRule : PySem.W.findIn K (.ref c_BadRule) "__setattr__" = some (some (.builtin "object.__setattr__")))
    (sB_BadRule : PySem.W.subIn K (.ref c_BadRule) (.type "ValueError") = some true)
    (mro_BadRule : PySem.W.mroIn K c_BadRule (.ref c_BadRule) = some true)
    (iC_BadRule : PySem.W.findIn K (.ref c_BadRule) "__init__" = some (some (.ref fI_BadRule)))
    (tI_BadRule : PySem.W.typeIn K (.ref fI_BadRule) = some (.type "function"))
    (lk_BadRule : K.lookup fI_BadRule = some ⟨oce_BadRule, ode_BadRule, .func (PySem.W.ksFn "__init__" "BadRule.__init__" (defArgs (inClass (top 7) 0)) (defBody (inClass (top 7) 0)) (defScope (inClass (top 7) 0)) .none kVe_BadRule dce_BadRule pme_BadRule ane_BadRule (.ref cda_BadRule) cte_BadRule cc_BadRule), sle_BadRule⟩)
    (cell_BadRule : K.lookup cc_BadRule = some ⟨cle_BadRule, clde_BadRule, .cell (some (.ref c_BadRule)), csle_BadRule⟩)
    (code_BadRule : K.lookup cda_BadRule = some ⟨ccle_BadRule, cdde_BadRule, .fields vse_BadRule, ccse_BadRule⟩)
    (hcd_BadRule : PySem.W.codeIn K (.ref cda_BadRule) "BadRule.__init__" = true)
    (hvs_BadRule : vse_BadRule[2]? = some (.str filee tfe_BadRule))
    (exC_BadRule : PySem.W.subIn K (.ref c_BadRule) (.type "BaseException") = some true)
    (tyC_BadRule : PySem.W.typeIn K (.ref c_BadRule) = some (.type "type"))
    (kC_BadRule : PySem.W.keepIn K (.ref c_BadRule) = true)
    (tk_rule_BadRule : PySem.W.takerIn K c_BadRule "rule" = some none)
    (lkC_BadGap : K.lookup c_BadGap = some ⟨.type "type", ddC_BadGap, .cls cdC_BadGap, slC_BadGap⟩)
    (mroC_BadGap : cdC_BadGap.mro = .ref c_BadGap :: bVE)
    (hs_BadGap : slC_BadGap.toList = [k0_BadGap, k1_BadGap, k2_BadGap, k3_BadGap, some (.builtin "ValueError.__new__"), k5_BadGap])
    (hdl_BadGap : cdC_BadGap.hasDel = false)
    (hd_BadGap : PySem.W.hasDictIn K c_BadGap = true)
    (sa_BadGap : PySem.W.findIn K (.ref c_BadGap) "__setattr__" = some (some (.builtin "object.__setattr__")))
    (sB_BadGap : PySem.W.subIn K (.ref c_BadGap) (.type "ValueError") = some true)
    (mro_BadGap : PySem.W.mroIn K c_BadGap (.ref c_BadGap) = some true)
    (iC_BadGap : PySem.W.findIn K (.ref c_BadGap) "__init__" = some (some (.ref fI_BadGap)))
    (tI_BadGap : PySem.W.typeIn K (.ref fI_BadGap) = some (.type "function"))
    (lk_BadGap : K.lookup fI_BadGap = some ⟨oce_BadGap, ode_BadGap, .func (PySem.W.ksFn "__init__" "BadGap.__init__" (defArgs (inClass (top 8) 0)) (defBody (inClass (top 8) 0)) (defScope (inClass (top 8) 0)) .none kVe_BadGap dce_BadGap pme_BadGap ane_BadGap (.ref cda_BadGap) cte_BadGap cc_BadGap), sle_BadGap⟩)
    (cell_BadGap : K.lookup cc_BadGap = some ⟨cle_BadGap, clde_BadGap, .cell (some (.ref c_BadGap)), csle_BadGap⟩)
    (code_BadGap : K.lookup cda_BadGap = some ⟨ccle_BadGap, cdde_BadGap, .fields vse_BadGap, ccse_BadGap⟩)
    (hcd_BadGap : PySem.W.codeIn K (.ref cda_BadGap) "BadGap.__init__" = true)
    (hvs_BadGap : vse_BadGap[2]? = some (.str filee tfe_BadGap))
    (exC_BadGap : PySem.W.subIn K (.ref c_BadGap) (.type "BaseException") = some true)
    (tyC_BadGap : PySem.W.typeIn K (.ref c_BadGap) = some (.type "type"))
    (kC_BadGap : PySem.W.keepIn K (.ref c_BadGap) = true)
    (tk_gap_BadGap : PySem.W.takerIn K c_BadGap "gap" = some none)
    (lkC_BadColumn : K.lookup c_BadColumn = some ⟨.type "type", ddC_BadColumn, .cls cdC_BadColumn, slC_BadColumn⟩)
    (mroC_BadColumn : cdC_BadColumn.mro = .ref c_BadColumn :: bVE)
    (hs_BadColumn : slC_BadColumn.toList = [k0_BadColumn, k1_BadColumn, k2_BadColumn, k3_BadColumn, some (.builtin "ValueError.__new__"), k5_BadColumn])
    (hdl_BadColumn : cdC_BadColumn.hasDel = false)
    (hd_BadColumn : PySem.W.hasDictIn K c_BadColumn = true)
    (sa_BadColumn : PySem.W.findIn K (.ref c_BadColumn) "__setattr__" = some (some (.builtin "object.__setattr__")))
    (sB_BadColumn : PySem.W.subIn K (.ref c_BadColumn) (.type "ValueError") = some true)
    (mro_BadColumn : PySem.W.mroIn K c_BadColumn (.ref c_BadColumn) = some true)
    (iC_BadColumn : PySem.W.findIn K (.ref c_BadColumn) "__init__" = some (some (.ref fI_BadColumn)))
    (tI_BadColumn : PySem.W.typeIn K (.ref fI_BadColumn) = some (.type "function"))
    (lk_BadColumn : K.lookup fI_BadColumn = some ⟨oce_BadColumn, ode_BadColumn, .func (PySem.W.ksFn "__init__" "BadColumn.__init__" (defArgs (inClass (top 9) 0)) (defBody (inClass (top 9) 0)) (defScope (inClass (top 9) 0)) .none kVe_BadColumn dce_BadColumn pme_BadColumn ane_BadColumn (.ref cda_BadColumn) cte_BadColumn cc_BadColumn), sle_BadColumn⟩)
    (cell_BadColumn : K.lookup cc_BadColumn = some ⟨cle_BadColumn, clde_BadColumn, .cell (some (.ref c_BadColumn)), csle_BadColumn⟩)
    (code_BadColumn : K.lookup cda_BadColumn = some ⟨ccle_BadColumn, cdde_BadColumn, .fields vse_BadColumn, ccse_BadColumn⟩)
    (hcd_BadColumn : PySem.W.codeIn K (.ref cda_BadColumn) "BadColumn.__init__" = true)
    (hvs_BadColumn : vse_BadColumn[2]? = some (.str filee tfe_BadColumn))
    (exC_BadColumn : PySem.W.subIn K (.ref c_BadColumn) (.type "BaseException") = some true)
    (tyC_BadColumn : PySem.W.typeIn K (.ref c_BadColumn) = some (.type "type"))
    (kC_BadColumn : PySem.W.keepIn K (.ref c_BadColumn) = true)
    (tk_index_BadColumn : PySem.W.takerIn K c_BadColumn "index" = some none)
    (lkC_BadStep : K.lookup c_BadStep = some ⟨.type "type", ddC_BadStep, .cls cdC_BadStep, slC_BadStep⟩)
    (mroC_BadStep : cdC_BadStep.mro = .ref c_BadStep :: bVE)
    (hs_BadStep : slC_BadStep.toList = [k0_BadStep, k1_BadStep, k2_BadStep, k3_BadStep, some (.builtin "ValueError.__new__"), k5_BadStep])
    (hdl_BadStep : cdC_BadStep.hasDel = false)
    (hd_BadStep : PySem.W.hasDictIn K c_BadStep = true)
    (sa_BadStep : PySem.W.findIn K (.ref c_BadStep) "__setattr__" = some (some (.builtin "object.__setattr__")))
    (sB_BadStep : PySem.W.subIn K (.ref c_BadStep) (.type "ValueError") = some true)
    (mro_BadStep : PySem.W.mroIn K c_BadStep (.ref c_BadStep) = some true)
    (iC_BadStep : PySem.W.findIn K (.ref c_BadStep) "__init__" = some (some (.ref fI_BadStep)))
    (tI_BadStep : PySem.W.typeIn K (.ref fI_BadStep) = some (.type "function"))
    (lk_BadStep : K.lookup fI_BadStep = some ⟨oce_BadStep, ode_BadStep, .func (PySem.W.ksFn "__init__" "BadStep.__init__" (defArgs (inClass (top 10) 0)) (defBody (inClass (top 10) 0)) (defScope (inClass (top 10) 0)) .none kVe_BadStep dce_BadStep pme_BadStep ane_BadStep (.ref cda_BadStep) cte_BadStep cc_BadStep), sle_BadStep⟩)
    (cell_BadStep : K.lookup cc_BadStep = some ⟨cle_BadStep, clde_BadStep, .cell (some (.ref c_BadStep)), csle_BadStep⟩)
    (code_BadStep : K.lookup cda_BadStep = some ⟨ccle_BadStep, cdde_BadStep, .fields vse_BadStep, ccse_BadStep⟩)
    (hcd_BadStep : PySem.W.codeIn K (.ref cda_BadStep) "BadStep.__init__" = true)
    (hvs_BadStep : vse_BadStep[2]? = some (.str filee tfe_BadStep))
    (exC_BadStep : PySem.W.subIn K (.ref c_BadStep) (.type "BaseException") = some true)
    (tyC_BadStep : PySem.W.typeIn K (.ref c_BadStep) = some (.type "type"))
    (kC_BadStep : PySem.W.keepIn K (.ref c_BadStep) = true)
    (tk_index_BadStep : PySem.W.takerIn K c_BadStep "index" = some none)
    (lkC_BadChange : K.lookup c_BadChange = some ⟨.type "type", ddC_BadChange, .cls cdC_BadChange, slC_BadChange⟩)
    (mroC_BadChange : cdC_BadChange.mro = .ref c_BadChange :: bVE)
    (hs_BadChange : slC_BadChange.toList = [k0_BadChange, k1_BadChange, k2_BadChange, k3_BadChange, some (.builtin "ValueError.__new__"), k5_BadChange])
    (hdl_BadChange : cdC_BadChange.hasDel = false)
    (hd_BadChange : PySem.W.hasDictIn K c_BadChange = true)
    (sa_BadChange : PySem.W.findIn K (.ref c_BadChange) "__setattr__" = some (some (.builtin "object.__setattr__")))
    (sB_BadChange : PySem.W.subIn K (.ref c_BadChange) (.type "ValueError") = some true)
    (mro_BadChange : PySem.W.mroIn K c_BadChange (.ref c_BadChange) = some true)
    (iC_BadChange : PySem.W.findIn K (.ref c_BadChange) "__init__" = some (some (.ref fI_BadChange)))
    (tI_BadChange : PySem.W.typeIn K (.ref fI_BadChange) = some (.type "function"))
    (lk_BadChange : K.lookup fI_BadChange = some ⟨oce_BadChange, ode_BadChange, .func (PySem.W.ksFn "__init__" "BadChange.__init__" (defArgs (inClass (top 11) 0)) (defBody (inClass (top 11) 0)) (defScope (inClass (top 11) 0)) .none kVe_BadChange dce_BadChange pme_BadChange ane_BadChange (.ref cda_BadChange) cte_BadChange cc_BadChange), sle_BadChange⟩)
    (cell_BadChange : K.lookup cc_BadChange = some ⟨cle_BadChange, clde_BadChange, .cell (some (.ref c_BadChange)), csle_BadChange⟩)
    (code_BadChange : K.lookup cda_BadChange = some ⟨ccle_BadChange, cdde_BadChange, .fields vse_BadChange, ccse_BadChange⟩)
    (hcd_BadChange : PySem.W.codeIn K (.ref cda_BadChange) "BadChange.__init__" = true)
    (hvs_BadChange : vse_BadChange[2]? = some (.str filee tfe_BadChange))
    (exC_BadChange : PySem.W.subIn K (.ref c_BadChange) (.type "BaseException") = some true)
    (tyC_BadChange : PySem.W.typeIn K (.ref c_BadChange) = some (.type "type"))
    (kC_BadChange : PySem.W.keepIn K (.ref c_BadChange) = true)
    (tk_index_BadChange : PySem.W.takerIn K c_BadChange "index" = some none)
    (lkC_BadText : K.lookup c_BadText = some ⟨.type "type", ddC_BadText, .cls cdC_BadText, slC_BadText⟩)
    (mroC_BadText : cdC_BadText.mro = .ref c_BadText :: bVE)
    (hs_BadText : slC_BadText.toList = [k0_BadText, k1_BadText, k2_BadText, k3_BadText, some (.builtin "ValueError.__new__"), k5_BadText])
    (hdl_BadText : cdC_BadText.hasDel = false)
    (hd_BadText : PySem.W.hasDictIn K c_BadText = true)
    (sa_BadText : PySem.W.findIn K (.ref c_BadText) "__setattr__" = some (some (.builtin "object.__setattr__")))
    (sB_BadText : PySem.W.subIn K (.ref c_BadText) (.type "ValueError") = some true)
    (mro_BadText : PySem.W.mroIn K c_BadText (.ref c_BadText) = some true)
    (iC_BadText : PySem.W.findIn K (.ref c_BadText) "__init__" = some (some (.ref fI_BadText)))
    (tI_BadText : PySem.W.typeIn K (.ref fI_BadText) = some (.type "function"))
    (lk_BadText : K.lookup fI_BadText = some ⟨oce_BadText, ode_BadText, .func (PySem.W.ksFn "__init__" "BadText.__init__" (defArgs (inClass (top 12) 0)) (defBody (inClass (top 12) 0)) (defScope (inClass (top 12) 0)) .none kVe_BadText dce_BadText pme_BadText ane_BadText (.ref cda_BadText) cte_BadText cc_BadText), sle_BadText⟩)
    (cell_BadText : K.lookup cc_BadText = some ⟨cle_BadText, clde_BadText, .cell (some (.ref c_BadText)), csle_BadText⟩)
    (code_BadText : K.lookup cda_BadText = some ⟨ccle_BadText, cdde_BadText, .fields vse_BadText, ccse_BadText⟩)
    (hcd_BadText : PySem.W.codeIn K (.ref cda_BadText) "BadText.__init__" = true)
    (hvs_BadText : vse_BadText[2]? = some (.str filee tfe_BadText))
    (exC_BadText : PySem.W.subIn K (.ref c_BadText) (.type "BaseException") = some true)
    (tyC_BadText : PySem.W.typeIn K (.ref c_BadText) = some (.type "type"))
    (kC_BadText : PySem.W.keepIn K (.ref c_BadText) = true)
    (tk_line_BadText : PySem.W.takerIn K c_BadText "line" = some none)
    (lkC_Misfit : K.lookup c_Misfit = some ⟨.type "type", ddC_Misfit, .cls cdC_Misfit, slC_Misfit⟩)
    (mroC_Misfit : cdC_Misfit.mro = .ref c_Misfit :: bVE)
    (hs_Misfit : slC_Misfit.toList = [k0_Misfit, k1_Misfit, k2_Misfit, k3_Misfit, some (.builtin "ValueError.__new__"), k5_Misfit])
    (hdl_Misfit : cdC_Misfit.hasDel = false)
    (hd_Misfit : PySem.W.hasDictIn K c_Misfit = true)
    (sa_Misfit : PySem.W.findIn K (.ref c_Misfit) "__setattr__" = some (some (.builtin "object.__setattr__")))
    (sB_Misfit : PySem.W.subIn K (.ref c_Misfit) (.type "ValueError") = some true)
    (mro_Misfit : PySem.W.mroIn K c_Misfit (.ref c_Misfit) = some true)
    (iC_Misfit : PySem.W.findIn K (.ref c_Misfit) "__init__" = some (some (.ref fI_Misfit)))
    (tI_Misfit : PySem.W.typeIn K (.ref fI_Misfit) = some (.type "function"))
    (lk_Misfit : K.lookup fI_Misfit = some ⟨oce_Misfit, ode_Misfit, .func (PySem.W.ksFn "__init__" "Misfit.__init__" (defArgs (inClass (top 13) 0)) (defBody (inClass (top 13) 0)) (defScope (inClass (top 13) 0)) .none kVe_Misfit dce_Misfit pme_Misfit ane_Misfit (.ref cda_Misfit) cte_Misfit cc_Misfit), sle_Misfit⟩)
    (cell_Misfit : K.lookup cc_Misfit = some ⟨cle_Misfit, clde_Misfit, .cell (some (.ref c_Misfit)), csle_Misfit⟩)
    (code_Misfit : K.lookup cda_Misfit = some ⟨ccle_Misfit, cdde_Misfit, .fields vse_Misfit, ccse_Misfit⟩)
    (hcd_Misfit : PySem.W.codeIn K (.ref cda_Misfit) "Misfit.__init__" = true)
    (hvs_Misfit : vse_Misfit[2]? = some (.str filee tfe_Misfit))
    (exC_Misfit : PySem.W.subIn K (.ref c_Misfit) (.type "BaseException") = some true)
    (tyC_Misfit : PySem.W.typeIn K (.ref c_Misfit) = some (.type "type"))
    (kC_Misfit : PySem.W.keepIn K (.ref c_Misfit) = true)
    (tk_index_Misfit : PySem.W.takerIn K c_Misfit "index" = some none)
    (lkC_Clash : K.lookup c_Clash = some ⟨.type "type", ddC_Clash, .cls cdC_Clash, slC_Clash⟩)
    (mroC_Clash : cdC_Clash.mro = .ref c_Clash :: bVE)
    (hs_Clash : slC_Clash.toList = [k0_Clash, k1_Clash, k2_Clash, k3_Clash, some (.builtin "ValueError.__new__"), k5_Clash])
    (hdl_Clash : cdC_Clash.hasDel = false)
    (hd_Clash : PySem.W.hasDictIn K c_Clash = true)
    (sa_Clash : PySem.W.findIn K (.ref c_Clash) "__setattr__" = some (some (.builtin "object.__setattr__")))
    (sB_Clash : PySem.W.subIn K (.ref c_Clash) (.type "ValueError") = some true)
    (mro_Clash : PySem.W.mroIn K c_Clash (.ref c_Clash) = some true)
    (iC_Clash : PySem.W.findIn K (.ref c_Clash) "__init__" = some (some (.ref fI_Clash)))
    (tI_Clash : PySem.W.typeIn K (.ref fI_Clash) = some (.type "function"))
    (lk_Clash : K.lookup fI_Clash = some ⟨oce_Clash, ode_Clash, .func (PySem.W.ksFn "__init__" "Clash.__init__" (defArgs (inClass (top 14) 0)) (defBody (inClass (top 14) 0)) (defScope (inClass (top 14) 0)) .none kVe_Clash dce_Clash pme_Clash ane_Clash (.ref cda_Clash) cte_Clash cc_Clash), sle_Clash⟩)
    (cell_Clash : K.lookup cc_Clash = some ⟨cle_Clash, clde_Clash, .cell (some (.ref c_Clash)), csle_Clash⟩)
    (code_Clash : K.lookup cda_Clash = some ⟨ccle_Clash, cdde_Clash, .fields vse_Clash, ccse_Clash⟩)
    (hcd_Clash : PySem.W.codeIn K (.ref cda_Clash) "Clash.__init__" = true)
    (hvs_Clash : vse_Clash[2]? = some (.str filee tfe_Clash))
    (exC_Clash : PySem.W.subIn K (.ref c_Clash) (.type "BaseException") = some true)
    (tyC_Clash : PySem.W.typeIn K (.ref c_Clash) = some (.type "type"))
    (kC_Clash : PySem.W.keepIn K (.ref c_Clash) = true)
    (tk_one_Clash : PySem.W.takerIn K c_Clash "one" = some none)
    (tk_other_Clash : PySem.W.takerIn K c_Clash "other" = some none)
    (lkC_Mismatch : K.lookup c_Mismatch = some ⟨.type "type", ddC_Mismatch, .cls cdC_Mismatch, slC_Mismatch⟩)
    (mroC_Mismatch : cdC_Mismatch.mro = .ref c_Mismatch :: bVE)
    (hs_Mismatch : slC_Mismatch.toList = [k0_Mismatch, k1_Mismatch, k2_Mismatch, k3_Mismatch, some (.builtin "ValueError.__new__"), k5_Mismatch])
    (hdl_Mismatch : cdC_Mismatch.hasDel = false)
    (hd_Mismatch : PySem.W.hasDictIn K c_Mismatch = true)
    (sa_Mismatch : PySem.W.findIn K (.ref c_Mismatch) "__setattr__" = some (some (.builtin "object.__setattr__")))
    (sB_Mismatch : PySem.W.subIn K (.ref c_Mismatch) (.type "ValueError") = some true)
    (mro_Mismatch : PySem.W.mroIn K c_Mismatch (.ref c_Mismatch) = some true)
    (iC_Mismatch : PySem.W.findIn K (.ref c_Mismatch) "__init__" = some (some (.ref fI_Mismatch)))
    (tI_Mismatch : PySem.W.typeIn K (.ref fI_Mismatch) = some (.type "function"))
    (lk_Mismatch : K.lookup fI_Mismatch = some ⟨oce_Mismatch, ode_Mismatch, .func (PySem.W.ksFn "__init__" "Mismatch.__init__" (defArgs (inClass (top 15) 0)) (defBody (inClass (top 15) 0)) (defScope (inClass (top 15) 0)) .none kVe_Mismatch dce_Mismatch pme_Mismatch ane_Mismatch (.ref cda_Mismatch) cte_Mismatch cc_Mismatch), sle_Mismatch⟩)
    (cell_Mismatch : K.lookup cc_Mismatch = some ⟨cle_Mismatch, clde_Mismatch, .cell (some (.ref c_Mismatch)), csle_Mismatch⟩)
    (code_Mismatch : K.lookup cda_Mismatch = some ⟨ccle_Mismatch, cdde_Mismatch, .fields vse_Mismatch, ccse_Mismatch⟩)
    (hcd_Mismatch : PySem.W.codeIn K (.ref cda_Mismatch) "Mismatch.__init__" = true)
    (hvs_Mismatch : vse_Mismatch[2]? = some (.str filee tfe_Mismatch))
    (exC_Mismatch : PySem.W.subIn K (.ref c_Mismatch) (.type "BaseException") = some true)
    (tyC_Mismatch : PySem.W.typeIn K (.ref c_Mismatch) = some (.type "type"))
    (kC_Mismatch : PySem.W.keepIn K (.ref c_Mismatch) = true)
    (tk_kinds_Mismatch : PySem.W.takerIn K c_Mismatch "kinds" = some none)
    (lkC_Stuck : K.lookup c_Stuck = some ⟨.type "type", ddC_Stuck, .cls cdC_Stuck, slC_Stuck⟩)
    (mroC_Stuck : cdC_Stuck.mro = .ref c_Stuck :: bVE)
    (hs_Stuck : slC_Stuck.toList = [k0_Stuck, k1_Stuck, k2_Stuck, k3_Stuck, some (.builtin "ValueError.__new__"), k5_Stuck])
    (hdl_Stuck : cdC_Stuck.hasDel = false)
    (hd_Stuck : PySem.W.hasDictIn K c_Stuck = true)
    (sa_Stuck : PySem.W.findIn K (.ref c_Stuck) "__setattr__" = some (some (.builtin "object.__setattr__")))
    (sB_Stuck : PySem.W.subIn K (.ref c_Stuck) (.type "ValueError") = some true)
    (mro_Stuck : PySem.W.mroIn K c_Stuck (.ref c_Stuck) = some true)
    (iC_Stuck : PySem.W.findIn K (.ref c_Stuck) "__init__" = some (some (.ref fI_Stuck)))
    (tI_Stuck : PySem.W.typeIn K (.ref fI_Stuck) = some (.type "function"))
    (lk_Stuck : K.lookup fI_Stuck = some ⟨oce_Stuck, ode_Stuck, .func (PySem.W.ksFn "__init__" "Stuck.__init__" (defArgs (inClass (top 16) 0)) (defBody (inClass (top 16) 0)) (defScope (inClass (top 16) 0)) .none kVe_Stuck dce_Stuck pme_Stuck ane_Stuck (.ref cda_Stuck) cte_Stuck cc_Stuck), sle_Stuck⟩)
    (cell_Stuck : K.lookup cc_Stuck = some ⟨cle_Stuck, clde_Stuck, .cell (some (.ref c_Stuck)), csle_Stuck⟩)
    (code_Stuck : K.lookup cda_Stuck = some ⟨ccle_Stuck, cdde_Stuck, .fields vse_Stuck, ccse_Stuck⟩)
    (hcd_Stuck : PySem.W.codeIn K (.ref cda_Stuck) "Stuck.__init__" = true)
    (hvs_Stuck : vse_Stuck[2]? = some (.str filee tfe_Stuck))
    (exC_Stuck : PySem.W.subIn K (.ref c_Stuck) (.type "BaseException") = some true)
    (tyC_Stuck : PySem.W.typeIn K (.ref c_Stuck) = some (.type "type"))
    (kC_Stuck : PySem.W.keepIn K (.ref c_Stuck) = true)
    (tk_line_Stuck : PySem.W.takerIn K c_Stuck "line" = some none)
    (lkC_NoLine : K.lookup c_NoLine = some ⟨.type "type", ddC_NoLine, .cls cdC_NoLine, slC_NoLine⟩)
    (mroC_NoLine : cdC_NoLine.mro = .ref c_NoLine :: bLE)
    (hs_NoLine : slC_NoLine.toList = [k0_NoLine, k1_NoLine, k2_NoLine, k3_NoLine, some (.builtin "LookupError.__new__"), k5_NoLine])
    (hdl_NoLine : cdC_NoLine.hasDel = false)
    (hd_NoLine : PySem.W.hasDictIn K c_NoLine = true)
    (sa_NoLine : PySem.W.findIn K (.ref c_NoLine) "__setattr__" = some (some (.builtin "object.__setattr__")))
    (sB_NoLine : PySem.W.subIn K (.ref c_NoLine) (.type "LookupError") = some true)
    (mro_NoLine : PySem.W.mroIn K c_NoLine (.ref c_NoLine) = some true)
    (iC_NoLine : PySem.W.findIn K (.ref c_NoLine) "__init__" = some (some (.ref fI_NoLine)))
    (tI_NoLine : PySem.W.typeIn K (.ref fI_NoLine) = some (.type "function"))
    (lk_NoLine : K.lookup fI_NoLine = some ⟨oce_NoLine, ode_NoLine, .func (PySem.W.ksFn "__init__" "NoLine.__init__" (defArgs (inClass (top 17) 0)) (defBody (inClass (top 17) 0)) (defScope (inClass (top 17) 0)) .none kVe_NoLine dce_NoLine pme_NoLine ane_NoLine (.ref cda_NoLine) cte_NoLine cc_NoLine), sle_NoLine⟩)
    (cell_NoLine : K.lookup cc_NoLine = some ⟨cle_NoLine, clde_NoLine, .cell (some (.ref c_NoLine)), csle_NoLine⟩)
    (code_NoLine : K.lookup cda_NoLine = some ⟨ccle_NoLine, cdde_NoLine, .fields vse_NoLine, ccse_NoLine⟩)
    (hcd_NoLine : PySem.W.codeIn K (.ref cda_NoLine) "NoLine.__init__" = true)
    (hvs_NoLine : vse_NoLine[2]? = some (.str filee tfe_NoLine))
    (exC_NoLine : PySem.W.subIn K (.ref c_NoLine) (.type "BaseException") = some true)
    (tyC_NoLine : PySem.W.typeIn K (.ref c_NoLine) = some (.type "type"))
    (kC_NoLine : PySem.W.keepIn K (.ref c_NoLine) = true)
    (tk_index_NoLine : PySem.W.takerIn K c_NoLine "index" = some none)
    (lkC_NoHand : K.lookup c_NoHand = some ⟨.type "type", ddC_NoHand, .cls cdC_NoHand, slC_NoHand⟩)
    (mroC_NoHand : cdC_NoHand.mro = .ref c_NoHand :: bLE)
    (hs_NoHand : slC_NoHand.toList = [k0_NoHand, k1_NoHand, k2_NoHand, k3_NoHand, some (.builtin "LookupError.__new__"), k5_NoHand])
    (hdl_NoHand : cdC_NoHand.hasDel = false)
    (hd_NoHand : PySem.W.hasDictIn K c_NoHand = true)
    (sa_NoHand : PySem.W.findIn K (.ref c_NoHand) "__setattr__" = some (some (.builtin "object.__setattr__")))
    (sB_NoHand : PySem.W.subIn K (.ref c_NoHand) (.type "LookupError") = some true)
    (mro_NoHand : PySem.W.mroIn K c_NoHand (.ref c_NoHand) = some true)
    (iC_NoHand : PySem.W.findIn K (.ref c_NoHand) "__init__" = some (some (.ref fI_NoHand)))
    (tI_NoHand : PySem.W.typeIn K (.ref fI_NoHand) = some (.type "function"))
    (lk_NoHand : K.lookup fI_NoHand = some ⟨oce_NoHand, ode_NoHand, .func (PySem.W.ksFn "__init__" "NoHand.__init__" (defArgs (inClass (top 18) 0)) (defBody (inClass (top 18) 0)) (defScope (inClass (top 18) 0)) .none kVe_NoHand dce_NoHand pme_NoHand ane_NoHand (.ref cda_NoHand) cte_NoHand cc_NoHand), sle_NoHand⟩)
    (cell_NoHand : K.lookup cc_NoHand = some ⟨cle_NoHand, clde_NoHand, .cell (some (.ref c_NoHand)), csle_NoHand⟩)
    (code_NoHand : K.lookup cda_NoHand = some ⟨ccle_NoHand, cdde_NoHand, .fields vse_NoHand, ccse_NoHand⟩)
    (hcd_NoHand : PySem.W.codeIn K (.ref cda_NoHand) "NoHand.__init__" = true)
    (hvs_NoHand : vse_NoHand[2]? = some (.str filee tfe_NoHand))
    (exC_NoHand : PySem.W.subIn K (.ref c_NoHand) (.type "BaseException") = some true)
    (tyC_NoHand : PySem.W.typeIn K (.ref c_NoHand) = some (.type "type"))
    (kC_NoHand : PySem.W.keepIn K (.ref c_NoHand) = true)
    (tk_hand_NoHand : PySem.W.takerIn K c_NoHand "hand" = some none)
    (lkC_TooMany : K.lookup c_TooMany = some ⟨.type "type", ddC_TooMany, .cls cdC_TooMany, slC_TooMany⟩)
    (mroC_TooMany : cdC_TooMany.mro = .ref c_TooMany :: bOE)
    (hs_TooMany : slC_TooMany.toList = [k0_TooMany, k1_TooMany, k2_TooMany, k3_TooMany, some (.builtin "OverflowError.__new__"), k5_TooMany])
    (hdl_TooMany : cdC_TooMany.hasDel = false)
    (hd_TooMany : PySem.W.hasDictIn K c_TooMany = true)
    (sa_TooMany : PySem.W.findIn K (.ref c_TooMany) "__setattr__" = some (some (.builtin "object.__setattr__")))
    (sB_TooMany : PySem.W.subIn K (.ref c_TooMany) (.type "OverflowError") = some true)
    (mro_TooMany : PySem.W.mroIn K c_TooMany (.ref c_TooMany) = some true)
    (iC_TooMany : PySem.W.findIn K (.ref c_TooMany) "__init__" = some (some (.ref fI_TooMany)))
    (tI_TooMany : PySem.W.typeIn K (.ref fI_TooMany) = some (.type "function"))
    (lk_TooMany : K.lookup fI_TooMany = some ⟨oce_TooMany, ode_TooMany, .func (PySem.W.ksFn "__init__" "TooMany.__init__" (defArgs (inClass (top 19) 0)) (defBody (inClass (top 19) 0)) (defScope (inClass (top 19) 0)) .none kVe_TooMany dce_TooMany pme_TooMany ane_TooMany (.ref cda_TooMany) cte_TooMany cc_TooMany), sle_TooMany⟩)
    (cell_TooMany : K.lookup cc_TooMany = some ⟨cle_TooMany, clde_TooMany, .cell (some (.ref c_TooMany)), csle_TooMany⟩)
    (code_TooMany : K.lookup cda_TooMany = some ⟨ccle_TooMany, cdde_TooMany, .fields vse_TooMany, ccse_TooMany⟩)
    (hcd_TooMany : PySem.W.codeIn K (.ref cda_TooMany) "TooMany.__init__" = true)
    (hvs_TooMany : vse_TooMany[2]? = some (.str filee tfe_TooMany))
    (exC_TooMany : PySem.W.subIn K (.ref c_TooMany) (.type "BaseException") = some true)
    (tyC_TooMany : PySem.W.typeIn K (.ref c_TooMany) = some (.type "type"))
    (kC_TooMany : PySem.W.keepIn K (.ref c_TooMany) = true)
    (tk_limit_TooMany : PySem.W.takerIn K c_TooMany "limit" = some none)
    (lkC_Broken : K.lookup c_Broken = some ⟨.type "type", ddC_Broken, .cls cdC_Broken, slC_Broken⟩)
    (mroC_Broken : cdC_Broken.mro = .ref c_Broken :: bRE)
    (hs_Broken : slC_Broken.toList = [k0_Broken, k1_Broken, k2_Broken, k3_Broken, some (.builtin "RuntimeError.__new__"), k5_Broken])
    (hdl_Broken : cdC_Broken.hasDel = false)
    (hd_Broken : PySem.W.hasDictIn K c_Broken = true)
    (sa_Broken : PySem.W.findIn K (.ref c_Broken) "__setattr__" = some (some (.builtin "object.__setattr__")))
    (sB_Broken : PySem.W.subIn K (.ref c_Broken) (.type "RuntimeError") = some true)
    (mro_Broken : PySem.W.mroIn K c_Broken (.ref c_Broken) = some true)
    (iC_Broken : PySem.W.findIn K (.ref c_Broken) "__init__" = some (some (.ref fI_Broken)))
    (tI_Broken : PySem.W.typeIn K (.ref fI_Broken) = some (.type "function"))
    (lk_Broken : K.lookup fI_Broken = some ⟨oce_Broken, ode_Broken, .func (PySem.W.ksFn "__init__" "Broken.__init__" (defArgs (inClass (top 20) 0)) (defBody (inClass (top 20) 0)) (defScope (inClass (top 20) 0)) .none kVe_Broken dce_Broken pme_Broken ane_Broken (.ref cda_Broken) cte_Broken cc_Broken), sle_Broken⟩)
    (cell_Broken : K.lookup cc_Broken = some ⟨cle_Broken, clde_Broken, .cell (some (.ref c_Broken)), csle_Broken⟩)
    (code_Broken : K.lookup cda_Broken = some ⟨ccle_Broken, cdde_Broken, .fields vse_Broken, ccse_Broken⟩)
    (hcd_Broken : PySem.W.codeIn K (.ref cda_Broken) "Broken.__init__" = true)
    (hvs_Broken : vse_Broken[2]? = some (.str filee tfe_Broken))
    (exC_Broken : PySem.W.subIn K (.ref c_Broken) (.type "BaseException") = some true)
    (tyC_Broken : PySem.W.typeIn K (.ref c_Broken) = some (.type "type"))
    (kC_Broken : PySem.W.keepIn K (.ref c_Broken) = true)
    (tk_line_Broken : PySem.W.takerIn K c_Broken "line" = some none)
    (tk_fault_Broken : PySem.W.takerIn K c_Broken "fault" = some none)
    (lkC_NotGood : K.lookup c_NotGood = some ⟨.type "type", ddC_NotGood, .cls cdC_NotGood, slC_NotGood⟩)
    (mroC_NotGood : cdC_NotGood.mro = .ref c_NotGood :: bRE)
    (hs_NotGood : slC_NotGood.toList = [k0_NotGood, k1_NotGood, k2_NotGood, k3_NotGood, some (.builtin "RuntimeError.__new__"), k5_NotGood])
    (hdl_NotGood : cdC_NotGood.hasDel = false)
    (hd_NotGood : PySem.W.hasDictIn K c_NotGood = true)
    (sa_NotGood : PySem.W.findIn K (.ref c_NotGood) "__setattr__" = some (some (.builtin "object.__setattr__")))
    (sB_NotGood : PySem.W.subIn K (.ref c_NotGood) (.type "RuntimeError") = some true)
    (mro_NotGood : PySem.W.mroIn K c_NotGood (.ref c_NotGood) = some true)
    (iC_NotGood : PySem.W.findIn K (.ref c_NotGood) "__init__" = some (some (.ref fI_NotGood)))
    (tI_NotGood : PySem.W.typeIn K (.ref fI_NotGood) = some (.type "function"))
    (lk_NotGood : K.lookup fI_NotGood = some ⟨oce_NotGood, ode_NotGood, .func (PySem.W.ksFn "__init__" "NotGood.__init__" (defArgs (inClass (top 21) 0)) (defBody (inClass (top 21) 0)) (defScope (inClass (top 21) 0)) .none kVe_NotGood dce_NotGood pme_NotGood ane_NotGood (.ref cda_NotGood) cte_NotGood cc_NotGood), sle_NotGood⟩)
    (cell_NotGood : K.lookup cc_NotGood = some ⟨cle_NotGood, clde_NotGood, .cell (some (.ref c_NotGood)), csle_NotGood⟩)
    (code_NotGood : K.lookup cda_NotGood = some ⟨ccle_NotGood, cdde_NotGood, .fields vse_NotGood, ccse_NotGood⟩)
    (hcd_NotGood : PySem.W.codeIn K (.ref cda_NotGood) "NotGood.__init__" = true)
    (hvs_NotGood : vse_NotGood[2]? = some (.str filee tfe_NotGood))
    (exC_NotGood : PySem.W.subIn K (.ref c_NotGood) (.type "BaseException") = some true)
    (tyC_NotGood : PySem.W.typeIn K (.ref c_NotGood) = some (.type "type"))
    (kC_NotGood : PySem.W.keepIn K (.ref c_NotGood) = true)
    (tk_hands_NotGood : PySem.W.takerIn K c_NotGood "hands" = some none)
    (xga_BadLine : PySem.W.findIn K (.ref c_BadLine) "__getattribute__" = some (some (.builtin "BaseException.__getattribute__")))
    (xgg_BadLine : PySem.W.findIn K (.ref c_BadLine) "__getattr__" = some none)
    (xga_BadStretch : PySem.W.findIn K (.ref c_BadStretch) "__getattribute__" = some (some (.builtin "BaseException.__getattribute__")))
    (xgg_BadStretch : PySem.W.findIn K (.ref c_BadStretch) "__getattr__" = some none)
    (xga_BadKind : PySem.W.findIn K (.ref c_BadKind) "__getattribute__" = some (some (.builtin "BaseException.__getattribute__")))
    (xgg_BadKind : PySem.W.findIn K (.ref c_BadKind) "__getattr__" = some none)
    (xga_BadMove : PySem.W.findIn K (.ref c_BadMove) "__getattribute__" = some (some (.builtin "BaseException.__getattribute__")))
    (xgg_BadMove : PySem.W.findIn K (.ref c_BadMove) "__getattr__" = some none)
    (xga_BadState : PySem.W.findIn K (.ref c_BadState) "__getattribute__" = some (some (.builtin "BaseException.__getattribute__")))
    (xgg_BadState : PySem.W.findIn K (.ref c_BadState) "__getattr__" = some none)
    (xga_BadWindow : PySem.W.findIn K (.ref c_BadWindow) "__getattribute__" = some (some (.builtin "BaseException.__getattribute__")))
    (xgg_BadWindow : PySem.W.findIn K (.ref c_BadWindow) "__getattr__" = some none)
    (xga_BadRule : PySem.W.findIn K (.ref c_BadRule) "__getattribute__" = some (some (.builtin "BaseException.__getattribute__")))
    (xgg_BadRule : PySem.W.findIn K (.ref c_BadRule) "__getattr__" = some none)
    (xga_BadGap : PySem.W.findIn K (.ref c_BadGap) "__getattribute__" = some (some (.builtin "BaseException.__getattribute__")))
    (xgg_BadGap : PySem.W.findIn K (.ref c_BadGap) "__getattr__" = some none)
    (xga_BadColumn : PySem.W.findIn K (.ref c_BadColumn) "__getattribute__" = some (some (.builtin "BaseException.__getattribute__")))
    (xgg_BadColumn : PySem.W.findIn K (.ref c_BadColumn) "__getattr__" = some none)
    (xga_BadStep : PySem.W.findIn K (.ref c_BadStep) "__getattribute__" = some (some (.builtin "BaseException.__getattribute__")))
    (xgg_BadStep : PySem.W.findIn K (.ref c_BadStep) "__getattr__" = some none)
    (xga_BadChange : PySem.W.findIn K (.ref c_BadChange) "__getattribute__" = some (some (.builtin "BaseException.__getattribute__")))
    (xgg_BadChange : PySem.W.findIn K (.ref c_BadChange) "__getattr__" = some none)
    (xga_BadText : PySem.W.findIn K (.ref c_BadText) "__getattribute__" = some (some (.builtin "BaseException.__getattribute__")))
    (xgg_BadText : PySem.W.findIn K (.ref c_BadText) "__getattr__" = some none)
    (xga_Misfit : PySem.W.findIn K (.ref c_Misfit) "__getattribute__" = some (some (.builtin "BaseException.__getattribute__")))
    (xgg_Misfit : PySem.W.findIn K (.ref c_Misfit) "__getattr__" = some none)
    (xga_Clash : PySem.W.findIn K (.ref c_Clash) "__getattribute__" = some (some (.builtin "BaseException.__getattribute__")))
    (xgg_Clash : PySem.W.findIn K (.ref c_Clash) "__getattr__" = some none)
    (xga_Mismatch : PySem.W.findIn K (.ref c_Mismatch) "__getattribute__" = some (some (.builtin "BaseException.__getattribute__")))
    (xgg_Mismatch : PySem.W.findIn K (.ref c_Mismatch) "__getattr__" = some none)
    (xga_Stuck : PySem.W.findIn K (.ref c_Stuck) "__getattribute__" = some (some (.builtin "BaseException.__getattribute__")))
    (xgg_Stuck : PySem.W.findIn K (.ref c_Stuck) "__getattr__" = some none)
    (xga_NoLine : PySem.W.findIn K (.ref c_NoLine) "__getattribute__" = some (some (.builtin "BaseException.__getattribute__")))
    (xgg_NoLine : PySem.W.findIn K (.ref c_NoLine) "__getattr__" = some none)
    (xga_NoHand : PySem.W.findIn K (.ref c_NoHand) "__getattribute__" = some (some (.builtin "BaseException.__getattribute__")))
    (xgg_NoHand : PySem.W.findIn K (.ref c_NoHand) "__getattr__" = some none)
    (xga_TooMany : PySem.W.findIn K (.ref c_TooMany) "__getattribute__" = some (some (.builtin "BaseException.__getattribute__")))
    (xgg_TooMany : PySem.W.findIn K (.ref c_TooMany) "__getattr__" = some none)
    (xga_Broken : PySem.W.findIn K (.ref c_Broken) "__getattribute__" = some (some (.builtin "BaseException.__getattribute__")))
    (xgg_Broken : PySem.W.findIn K (.ref c_Broken) "__getattr__" = some none)
    (xga_NotGood : PySem.W.findIn K (.ref c_NotGood) "__getattribute__" = some (some (.builtin "BaseException.__getattribute__")))
    (xgg_NotGood : PySem.W.findIn K (.ref c_NotGood) "__getattr__" = some none)
    (xha_BadLine : PySem.W.findIn K (.ref c_BadLine) "__class__" = some (some (.builtin "object.__class__")))
    (xmo_BadLine : PySem.W.mroIn K c_BadLine (.type "object") = some true)
    (xha_BadStretch : PySem.W.findIn K (.ref c_BadStretch) "__class__" = some (some (.builtin "object.__class__")))
    (xmo_BadStretch : PySem.W.mroIn K c_BadStretch (.type "object") = some true)
    (xha_BadKind : PySem.W.findIn K (.ref c_BadKind) "__class__" = some (some (.builtin "object.__class__")))
    (xmo_BadKind : PySem.W.mroIn K c_BadKind (.type "object") = some true)
    (xha_BadMove : PySem.W.findIn K (.ref c_BadMove) "__class__" = some (some (.builtin "object.__class__")))
    (xmo_BadMove : PySem.W.mroIn K c_BadMove (.type "object") = some true)
    (xha_BadState : PySem.W.findIn K (.ref c_BadState) "__class__" = some (some (.builtin "object.__class__")))
    (xmo_BadState : PySem.W.mroIn K c_BadState (.type "object") = some true)
    (xha_BadWindow : PySem.W.findIn K (.ref c_BadWindow) "__class__" = some (some (.builtin "object.__class__")))
    (xmo_BadWindow : PySem.W.mroIn K c_BadWindow (.type "object") = some true)
    (xha_BadRule : PySem.W.findIn K (.ref c_BadRule) "__class__" = some (some (.builtin "object.__class__")))
    (xmo_BadRule : PySem.W.mroIn K c_BadRule (.type "object") = some true)
    (xha_BadGap : PySem.W.findIn K (.ref c_BadGap) "__class__" = some (some (.builtin "object.__class__")))
    (xmo_BadGap : PySem.W.mroIn K c_BadGap (.type "object") = some true)
    (xha_BadColumn : PySem.W.findIn K (.ref c_BadColumn) "__class__" = some (some (.builtin "object.__class__")))
    (xmo_BadColumn : PySem.W.mroIn K c_BadColumn (.type "object") = some true)
    (xha_BadStep : PySem.W.findIn K (.ref c_BadStep) "__class__" = some (some (.builtin "object.__class__")))
    (xmo_BadStep : PySem.W.mroIn K c_BadStep (.type "object") = some true)
    (xha_BadChange : PySem.W.findIn K (.ref c_BadChange) "__class__" = some (some (.builtin "object.__class__")))
    (xmo_BadChange : PySem.W.mroIn K c_BadChange (.type "object") = some true)
    (xha_BadText : PySem.W.findIn K (.ref c_BadText) "__class__" = some (some (.builtin "object.__class__")))
    (xmo_BadText : PySem.W.mroIn K c_BadText (.type "object") = some true)
    (xha_Misfit : PySem.W.findIn K (.ref c_Misfit) "__class__" = some (some (.builtin "object.__class__")))
    (xmo_Misfit : PySem.W.mroIn K c_Misfit (.type "object") = some true)
    (xha_Clash : PySem.W.findIn K (.ref c_Clash) "__class__" = some (some (.builtin "object.__class__")))
    (xmo_Clash : PySem.W.mroIn K c_Clash (.type "object") = some true)
    (xha_Mismatch : PySem.W.findIn K (.ref c_Mismatch) "__class__" = some (some (.builtin "object.__class__")))
    (xmo_Mismatch : PySem.W.mroIn K c_Mismatch (.type "object") = some true)
    (xha_Stuck : PySem.W.findIn K (.ref c_Stuck) "__class__" = some (some (.builtin "object.__class__")))
    (xmo_Stuck : PySem.W.mroIn K c_Stuck (.type "object") = some true)
    (xha_NoLine : PySem.W.findIn K (.ref c_NoLine) "__class__" = some (some (.builtin "object.__class__")))
    (xmo_NoLine : PySem.W.mroIn K c_NoLine (.type "object") = some true)
    (xha_NoHand : PySem.W.findIn K (.ref c_NoHand) "__class__" = some (some (.builtin "object.__class__")))
    (xmo_NoHand : PySem.W.mroIn K c_NoHand (.type "object") = some true)
    (xha_TooMany : PySem.W.findIn K (.ref c_TooMany) "__class__" = some (some (.builtin "object.__class__")))
    (xmo_TooMany : PySem.W.mroIn K c_TooMany (.type "object") = some true)
    (xha_Broken : PySem.W.findIn K (.ref c_Broken) "__class__" = some (some (.builtin "object.__class__")))
    (xmo_Broken : PySem.W.mroIn K c_Broken (.type "object") = some true)
    (xha_NotGood : PySem.W.findIn K (.ref c_NotGood) "__class__" = some (some (.builtin "object.__class__")))
    (xmo_NotGood : PySem.W.mroIn K c_NotGood (.type "object") = some true)
    (ndc : decide (List.Nodup ([c_BadLine, c_BadStretch, c_BadKind, c_BadMove, c_BadState, c_BadWindow, c_BadRule, c_BadGap, c_BadColumn, c_BadStep, c_BadChange, c_BadText, c_Misfit, c_Clash, c_Mismatch, c_Stuck, c_NoLine, c_NoHand, c_TooMany, c_Broken, c_NotGood] : List Addr)) = true)
    (nf_BadChange_index : PySem.W.findIn K (.ref c_BadChange) "index" = some none)
    (nf_BadColumn_index : PySem.W.findIn K (.ref c_BadColumn) "index" = some none)
    (nf_BadGap_gap : PySem.W.findIn K (.ref c_BadGap) "gap" = some none)
    (nf_BadKind_kind : PySem.W.findIn K (.ref c_BadKind) "kind" = some none)
    (nf_BadLine_index : PySem.W.findIn K (.ref c_BadLine) "index" = some none)
    (nf_BadMove_index : PySem.W.findIn K (.ref c_BadMove) "index" = some none)
    (nf_BadRule_rule : PySem.W.findIn K (.ref c_BadRule) "rule" = some none)
    (nf_BadState_state : PySem.W.findIn K (.ref c_BadState) "state" = some none)
    (nf_BadStep_index : PySem.W.findIn K (.ref c_BadStep) "index" = some none)
    (nf_BadStretch_index : PySem.W.findIn K (.ref c_BadStretch) "index" = some none)
    (nf_BadText_line : PySem.W.findIn K (.ref c_BadText) "line" = some none)
    (nf_BadWindow_index : PySem.W.findIn K (.ref c_BadWindow) "index" = some none)
    (nf_Broken_fault : PySem.W.findIn K (.ref c_Broken) "fault" = some none)
    (nf_Broken_line : PySem.W.findIn K (.ref c_Broken) "line" = some none)
    (nf_Clash_one : PySem.W.findIn K (.ref c_Clash) "one" = some none)
    (nf_Clash_other : PySem.W.findIn K (.ref c_Clash) "other" = some none)
    (nf_Misfit_index : PySem.W.findIn K (.ref c_Misfit) "index" = some none)
    (nf_Mismatch_kinds : PySem.W.findIn K (.ref c_Mismatch) "kinds" = some none)
    (nf_NoHand_hand : PySem.W.findIn K (.ref c_NoHand) "hand" = some none)
    (nf_NoLine_index : PySem.W.findIn K (.ref c_NoLine) "index" = some none)
    (nf_NotGood_hands : PySem.W.findIn K (.ref c_NotGood) "hands" = some none)
    (nf_Stuck_line : PySem.W.findIn K (.ref c_Stuck) "line" = some none)
    (nf_TooMany_limit : PySem.W.findIn K (.ref c_TooMany) "limit" = some none)
    (z_super : PySem.W.nsIn K mainGlobals "super" = some none)
    (opqe : PySem.W.nsIn K cStatics "thirdparty.any" = some none)
    (hfilee : ((l.prog.main.file : Str) == filee) = true)
    (htope : (l.prog.main.scope.names.lookup ("super" : Str)).isSome = false)
    (hgs : PySem.W.specialIn K (.builtin "object.__class__") "__get__" = some (some (.builtin "getset_descriptor.__get__")))
    (htk : PySem.W.takesIn K (.builtin "object.__class__") = some true)
    : ∃ A : Cla, A.gh = none ∧ ∀ base : Heap, K.In base → base.Ns mainGlobals mg → FnD l.prog w (cc K A) mg base 3 fa (spT (fun (a : List Int × Unit) => [.v (eC a.1)]) D.bl m_law) := by
  have e := hfa.symm.trans (PySem.W.mg_of X G a6)
  cases e
  let T : Tx l.prog K mg := {
    w := w
    f__law_pot := f__law_pot
    p__law_pot := ⟨_, _, _, _, _, _, _, _, _, l0, e0⟩
    m__law_pot := PySem.W.mg_of X G a0
    k__law_pot := k0
    f__law_draw := f__law_draw
    p__law_draw := ⟨_, _, _, _, _, _, _, _, _, l1, e1⟩
    m__law_draw := PySem.W.mg_of X G a1
    k__law_draw := k1
    f__law_thing := f__law_thing
    p__law_thing := ⟨_, _, _, _, _, _, _, _, _, l2, e2⟩
    m__law_thing := PySem.W.mg_of X G a2
    k__law_thing := k2
    f__law_made := f__law_made
    p__law_made := ⟨_, _, _, _, _, _, _, _, _, l3, e3⟩
    m__law_made := PySem.W.mg_of X G a3
    k__law_made := k3
    f__law_made_more := f__law_made_more
    p__law_made_more := ⟨_, _, _, _, _, _, _, _, _, l4, e4⟩
    m__law_made_more := PySem.W.mg_of X G a4
    k__law_made_more := k4
    f__law_under := f__law_under
    p__law_under := ⟨_, _, _, _, _, _, _, _, _, l5, e5⟩
    m__law_under := PySem.W.mg_of X G a5
    k__law_under := k5
    f_law := fa
    p_law := ⟨_, _, _, _, _, _, _, _, _, l6, e6⟩
    m_law := PySem.W.mg_of X G a6
    k_law := k6
    z_LookupError := PySem.W.mg_none_of X G z_LookupError
    z_OverflowError := PySem.W.mg_none_of X G z_OverflowError
    z_RuntimeError := PySem.W.mg_none_of X G z_RuntimeError
    z_ValueError := PySem.W.mg_none_of X G z_ValueError
    z_abs := PySem.W.mg_none_of X G z_abs
    z_enumerate := PySem.W.mg_none_of X G z_enumerate
    z_int := PySem.W.mg_none_of X G z_int
    z_isinstance := PySem.W.mg_none_of X G z_isinstance
    z_len := PySem.W.mg_none_of X G z_len
    z_max := PySem.W.mg_none_of X G z_max
    z_min := PySem.W.mg_none_of X G z_min
    z_range := PySem.W.mg_none_of X G z_range
    z_repr := PySem.W.mg_none_of X G z_repr
    c_BadLine := c_BadLine
    m_BadLine := PySem.W.mg_of X G m_BadLine
    er_BadLine := fun w base => errR1 (errH_of (P := l.prog) (st := inClass (top 1) 0) X G err_value rfl (along_one fb_VE) lkC_BadLine mroC_BadLine hs_BadLine hdl_BadLine hd_BadLine sa_BadLine sB_BadLine mro_BadLine opqe iC_BadLine tI_BadLine lk_BadLine cell_BadLine code_BadLine hvs_BadLine hcd_BadLine exC_BadLine tyC_BadLine kC_BadLine z_super hfilee htope) rfl rfl rfl (by decide +kernel) (fun _ _ _ _ _ _ _ => rfl) tk_index_BadLine (fun _ => rfl) (fun _ => rfl)
    c_BadStretch := c_BadStretch
    m_BadStretch := PySem.W.mg_of X G m_BadStretch
    er_BadStretch := fun w base => errR1 (errH_of (P := l.prog) (st := inClass (top 2) 0) X G err_value rfl (along_one fb_VE) lkC_BadStretch mroC_BadStretch hs_BadStretch hdl_BadStretch hd_BadStretch sa_BadStretch sB_BadStretch mro_BadStretch opqe iC_BadStretch tI_BadStretch lk_BadStretch cell_BadStretch code_BadStretch hvs_BadStretch hcd_BadStretch exC_BadStretch tyC_BadStretch kC_BadStretch z_super hfilee htope) rfl rfl rfl (by decide +kernel) (fun _ _ _ _ _ _ _ => rfl) tk_index_BadStretch (fun _ => rfl) (fun _ => rfl)
    c_BadKind := c_BadKind
    m_BadKind := PySem.W.mg_of X G m_BadKind
    er_BadKind := fun w base => errR1 (errH_of (P := l.prog) (st := inClass (top 3) 0) X G err_value rfl (along_one fb_VE) lkC_BadKind mroC_BadKind hs_BadKind hdl_BadKind hd_BadKind sa_BadKind sB_BadKind mro_BadKind opqe iC_BadKind tI_BadKind lk_BadKind cell_BadKind code_BadKind hvs_BadKind hcd_BadKind exC_BadKind tyC_BadKind kC_BadKind z_super hfilee htope) rfl rfl rfl (by decide +kernel) (fun _ _ _ _ _ _ _ => rfl) tk_kind_BadKind (fun _ => rfl) (fun _ => rfl)
    c_BadMove := c_BadMove
    m_BadMove := PySem.W.mg_of X G m_BadMove
    er_BadMove := fun w base => errR1 (errH_of (P := l.prog) (st := inClass (top 4) 0) X G err_value rfl (along_one fb_VE) lkC_BadMove mroC_BadMove hs_BadMove hdl_BadMove hd_BadMove sa_BadMove sB_BadMove mro_BadMove opqe iC_BadMove tI_BadMove lk_BadMove cell_BadMove code_BadMove hvs_BadMove hcd_BadMove exC_BadMove tyC_BadMove kC_BadMove z_super hfilee htope) rfl rfl rfl (by decide +kernel) (fun _ _ _ _ _ _ _ => rfl) tk_index_BadMove (fun _ => rfl) (fun _ => rfl)
    c_BadState := c_BadState
    m_BadState := PySem.W.mg_of X G m_BadState
    er_BadState := fun w base => errR1 (errH_of (P := l.prog) (st := inClass (top 5) 0) X G err_value rfl (along_one fb_VE) lkC_BadState mroC_BadState hs_BadState hdl_BadState hd_BadState sa_BadState sB_BadState mro_BadState opqe iC_BadState tI_BadState lk_BadState cell_BadState code_BadState hvs_BadState hcd_BadState exC_BadState tyC_BadState kC_BadState z_super hfilee htope) rfl rfl rfl (by decide +kernel) (fun _ _ _ _ _ _ _ => rfl) tk_state_BadState (fun _ => rfl) (fun _ => rfl)
    c_BadWindow := c_BadWindow
    m_BadWindow := PySem.W.mg_of X G m_BadWindow
    er_BadWindow := fun w base => errR1 (errH_of (P := l.prog) (st := inClass (top 6) 0) X G err_value rfl (along_one fb_VE) lkC_BadWindow mroC_BadWindow hs_BadWindow hdl_BadWindow hd_BadWindow sa_BadWindow sB_BadWindow mro_BadWindow opqe iC_BadWindow tI_BadWindow lk_BadWindow cell_BadWindow code_BadWindow hvs_BadWindow hcd_BadWindow exC_BadWindow tyC_BadWindow kC_BadWindow z_super hfilee htope) rfl rfl rfl (by decide +kernel) (fun _ _ _ _ _ _ _ => rfl) tk_index_BadWindow (fun _ => rfl) (fun _ => rfl)
    c_BadRule := c_BadRule
    m_BadRule := PySem.W.mg_of X G m_BadRule
    er_BadRule := fun w base => errR1 (errH_of (P := l.prog) (st := inClass (top 7) 0) X G err_value rfl (along_one fb_VE) lkC_BadRule mroC_BadRule hs_BadRule hdl_BadRule hd_BadRule sa_BadRule sB_BadRule mro_BadRule opqe iC_BadRule tI_BadRule lk_BadRule cell_BadRule code_BadRule hvs_BadRule hcd_BadRule exC_BadRule tyC_BadRule kC_BadRule z_super hfilee htope) rfl rfl rfl (by decide +kernel) (fun _ _ _ _ _ _ _ => rfl) tk_rule_BadRule (fun _ => rfl) (fun _ => rfl)
    c_BadGap := c_BadGap
    m_BadGap := PySem.W.mg_of X G m_BadGap
    er_BadGap := fun w base => errR1 (errH_of (P := l.prog) (st := inClass (top 8) 0) X G err_value rfl (along_one fb_VE) lkC_BadGap mroC_BadGap hs_BadGap hdl_BadGap hd_BadGap sa_BadGap sB_BadGap mro_BadGap opqe iC_BadGap tI_BadGap lk_BadGap cell_BadGap code_BadGap hvs_BadGap hcd_BadGap exC_BadGap tyC_BadGap kC_BadGap z_super hfilee htope) rfl rfl rfl (by decide +kernel) (fun _ _ _ _ _ _ _ => rfl) tk_gap_BadGap (fun _ => rfl) (fun _ => rfl)
    c_BadColumn := c_BadColumn
    m_BadColumn := PySem.W.mg_of X G m_BadColumn
    er_BadColumn := fun w base => errR1 (errH_of (P := l.prog) (st := inClass (top 9) 0) X G err_value rfl (along_one fb_VE) lkC_BadColumn mroC_BadColumn hs_BadColumn hdl_BadColumn hd_BadColumn sa_BadColumn sB_BadColumn mro_BadColumn opqe iC_BadColumn tI_BadColumn lk_BadColumn cell_BadColumn code_BadColumn hvs_BadColumn hcd_BadColumn exC_BadColumn tyC_BadColumn kC_BadColumn z_super hfilee htope) rfl rfl rfl (by decide +kernel) (fun _ _ _ _ _ _ _ => rfl) tk_index_BadColumn (fun _ => rfl) (fun _ => rfl)
    c_BadStep := c_BadStep
    m_BadStep := PySem.W.mg_of X G m_BadStep
    er_BadStep := fun w base => errR1 (errH_of (P := l.prog) (st := inClass (top 10) 0) X G err_value rfl (along_one fb_VE) lkC_BadStep mroC_BadStep hs_BadStep hdl_BadStep hd_BadStep sa_BadStep sB_BadStep mro_BadStep opqe iC_BadStep tI_BadStep lk_BadStep cell_BadStep code_BadStep hvs_BadStep hcd_BadStep exC_BadStep tyC_BadStep kC_BadStep z_super hfilee htope) rfl rfl rfl (by decide +kernel) (fun _ _ _ _ _ _ _ => rfl) tk_index_BadStep (fun _ => rfl) (fun _ => rfl)
    c_BadChange := c_BadChange
    m_BadChange := PySem.W.mg_of X G m_BadChange
    er_BadChange := fun w base => errR1 (errH_of (P := l.prog) (st := inClass (top 11) 0) X G err_value rfl (along_one fb_VE) lkC_BadChange mroC_BadChange hs_BadChange hdl_BadChange hd_BadChange sa_BadChange sB_BadChange mro_BadChange opqe iC_BadChange tI_BadChange lk_BadChange cell_BadChange code_BadChange hvs_BadChange hcd_BadChange exC_BadChange tyC_BadChange kC_BadChange z_super hfilee htope) rfl rfl rfl (by decide +kernel) (fun _ _ _ _ _ _ _ => rfl) tk_index_BadChange (fun _ => rfl) (fun _ => rfl)
    c_BadText := c_BadText
    m_BadText := PySem.W.mg_of X G m_BadText
    er_BadText := fun w base => errR1 (errH_of (P := l.prog) (st := inClass (top 12) 0) X G err_value rfl (along_one fb_VE) lkC_BadText mroC_BadText hs_BadText hdl_BadText hd_BadText sa_BadText sB_BadText mro_BadText opqe iC_BadText tI_BadText lk_BadText cell_BadText code_BadText hvs_BadText hcd_BadText exC_BadText tyC_BadText kC_BadText z_super hfilee htope) rfl rfl rfl (by decide +kernel) (fun _ _ _ _ _ _ _ => rfl) tk_line_BadText (fun _ => rfl) (fun _ => rfl)
    c_Misfit := c_Misfit
    m_Misfit := PySem.W.mg_of X G m_Misfit
    er_Misfit := fun w base => errR1 (errH_of (P := l.prog) (st := inClass (top 13) 0) X G err_value rfl (along_one fb_VE) lkC_Misfit mroC_Misfit hs_Misfit hdl_Misfit hd_Misfit sa_Misfit sB_Misfit mro_Misfit opqe iC_Misfit tI_Misfit lk_Misfit cell_Misfit code_Misfit hvs_Misfit hcd_Misfit exC_Misfit tyC_Misfit kC_Misfit z_super hfilee htope) rfl rfl rfl (by decide +kernel) (fun _ _ _ _ _ _ _ => rfl) tk_index_Misfit (fun _ => rfl) (fun _ => rfl)
    c_Clash := c_Clash
    m_Clash := PySem.W.mg_of X G m_Clash
    er_Clash := fun w base => errR2 (errH_of (P := l.prog) (st := inClass (top 14) 0) X G err_value rfl (along_one fb_VE) lkC_Clash mroC_Clash hs_Clash hdl_Clash hd_Clash sa_Clash sB_Clash mro_Clash opqe iC_Clash tI_Clash lk_Clash cell_Clash code_Clash hvs_Clash hcd_Clash exC_Clash tyC_Clash kC_Clash z_super hfilee htope) rfl rfl rfl (by decide +kernel) (fun _ _ _ _ _ _ _ _ => rfl) tk_one_Clash tk_other_Clash (by decide) (fun _ => rfl) (fun _ => rfl) (fun _ => rfl)
    c_Mismatch := c_Mismatch
    m_Mismatch := PySem.W.mg_of X G m_Mismatch
    er_Mismatch := fun w base => errR1 (errH_of (P := l.prog) (st := inClass (top 15) 0) X G err_value rfl (along_one fb_VE) lkC_Mismatch mroC_Mismatch hs_Mismatch hdl_Mismatch hd_Mismatch sa_Mismatch sB_Mismatch mro_Mismatch opqe iC_Mismatch tI_Mismatch lk_Mismatch cell_Mismatch code_Mismatch hvs_Mismatch hcd_Mismatch exC_Mismatch tyC_Mismatch kC_Mismatch z_super hfilee htope) rfl rfl rfl (by decide +kernel) (fun _ _ _ _ _ _ _ => rfl) tk_kinds_Mismatch (fun _ => rfl) (fun _ => rfl)
    c_Stuck := c_Stuck
    m_Stuck := PySem.W.mg_of X G m_Stuck
    er_Stuck := fun w base => errR1 (errH_of (P := l.prog) (st := inClass (top 16) 0) X G err_value rfl (along_one fb_VE) lkC_Stuck mroC_Stuck hs_Stuck hdl_Stuck hd_Stuck sa_Stuck sB_Stuck mro_Stuck opqe iC_Stuck tI_Stuck lk_Stuck cell_Stuck code_Stuck hvs_Stuck hcd_Stuck exC_Stuck tyC_Stuck kC_Stuck z_super hfilee htope) rfl rfl rfl (by decide +kernel) (fun _ _ _ _ _ _ _ => rfl) tk_line_Stuck (fun _ => rfl) (fun _ => rfl)
    c_NoLine := c_NoLine
    m_NoLine := PySem.W.mg_of X G m_NoLine
    er_NoLine := fun w base => errR1 (errH_of (P := l.prog) (st := inClass (top 17) 0) X G err_lookup rfl (along_one fb_LE) lkC_NoLine mroC_NoLine hs_NoLine hdl_NoLine hd_NoLine sa_NoLine sB_NoLine mro_NoLine opqe iC_NoLine tI_NoLine lk_NoLine cell_NoLine code_NoLine hvs_NoLine hcd_NoLine exC_NoLine tyC_NoLine kC_NoLine z_super hfilee htope) rfl rfl rfl (by decide +kernel) (fun _ _ _ _ _ _ _ => rfl) tk_index_NoLine (fun _ => rfl) (fun _ => rfl)
    c_NoHand := c_NoHand
    m_NoHand := PySem.W.mg_of X G m_NoHand
    er_NoHand := fun w base => errR1 (errH_of (P := l.prog) (st := inClass (top 18) 0) X G err_lookup rfl (along_one fb_LE) lkC_NoHand mroC_NoHand hs_NoHand hdl_NoHand hd_NoHand sa_NoHand sB_NoHand mro_NoHand opqe iC_NoHand tI_NoHand lk_NoHand cell_NoHand code_NoHand hvs_NoHand hcd_NoHand exC_NoHand tyC_NoHand kC_NoHand z_super hfilee htope) rfl rfl rfl (by decide +kernel) (fun _ _ _ _ _ _ _ => rfl) tk_hand_NoHand (fun _ => rfl) (fun _ => rfl)
    c_TooMany := c_TooMany
    m_TooMany := PySem.W.mg_of X G m_TooMany
    er_TooMany := fun w base => errR1 (errH_of (P := l.prog) (st := inClass (top 19) 0) X G err_overflow rfl (along_one fb_OE) lkC_TooMany mroC_TooMany hs_TooMany hdl_TooMany hd_TooMany sa_TooMany sB_TooMany mro_TooMany opqe iC_TooMany tI_TooMany lk_TooMany cell_TooMany code_TooMany hvs_TooMany hcd_TooMany exC_TooMany tyC_TooMany kC_TooMany z_super hfilee htope) rfl rfl rfl (by decide +kernel) (fun _ _ _ _ _ _ _ => rfl) tk_limit_TooMany (fun _ => rfl) (fun _ => rfl)
    c_Broken := c_Broken
    m_Broken := PySem.W.mg_of X G m_Broken
    er_Broken := fun w base => errR2 (errH_of (P := l.prog) (st := inClass (top 20) 0) X G err_runtime rfl (along_one fb_RE) lkC_Broken mroC_Broken hs_Broken hdl_Broken hd_Broken sa_Broken sB_Broken mro_Broken opqe iC_Broken tI_Broken lk_Broken cell_Broken code_Broken hvs_Broken hcd_Broken exC_Broken tyC_Broken kC_Broken z_super hfilee htope) rfl rfl rfl (by decide +kernel) (fun _ _ _ _ _ _ _ _ => rfl) tk_line_Broken tk_fault_Broken (by decide) (fun _ => rfl) (fun _ => rfl) (fun _ => rfl)
    c_NotGood := c_NotGood
    m_NotGood := PySem.W.mg_of X G m_NotGood
    er_NotGood := fun w base => errR1 (errH_of (P := l.prog) (st := inClass (top 21) 0) X G err_runtime rfl (along_one fb_RE) lkC_NotGood mroC_NotGood hs_NotGood hdl_NotGood hd_NotGood sa_NotGood sB_NotGood mro_NotGood opqe iC_NotGood tI_NotGood lk_NotGood cell_NotGood code_NotGood hvs_NotGood hcd_NotGood exC_NotGood tyC_NotGood kC_NotGood z_super hfilee htope) rfl rfl rfl (by decide +kernel) (fun _ _ _ _ _ _ _ => rfl) tk_hands_NotGood (fun _ => rfl) (fun _ => rfl)
    xf_BadChange := ⟨xga_BadChange, xgg_BadChange, exC_BadChange, hd_BadChange⟩
    xf_BadColumn := ⟨xga_BadColumn, xgg_BadColumn, exC_BadColumn, hd_BadColumn⟩
    xf_BadGap := ⟨xga_BadGap, xgg_BadGap, exC_BadGap, hd_BadGap⟩
    xf_BadKind := ⟨xga_BadKind, xgg_BadKind, exC_BadKind, hd_BadKind⟩
    xf_BadLine := ⟨xga_BadLine, xgg_BadLine, exC_BadLine, hd_BadLine⟩
    xf_BadMove := ⟨xga_BadMove, xgg_BadMove, exC_BadMove, hd_BadMove⟩
    xf_BadRule := ⟨xga_BadRule, xgg_BadRule, exC_BadRule, hd_BadRule⟩
    xf_BadState := ⟨xga_BadState, xgg_BadState, exC_BadState, hd_BadState⟩
    xf_BadStep := ⟨xga_BadStep, xgg_BadStep, exC_BadStep, hd_BadStep⟩
    xf_BadStretch := ⟨xga_BadStretch, xgg_BadStretch, exC_BadStretch, hd_BadStretch⟩
    xf_BadText := ⟨xga_BadText, xgg_BadText, exC_BadText, hd_BadText⟩
    xf_BadWindow := ⟨xga_BadWindow, xgg_BadWindow, exC_BadWindow, hd_BadWindow⟩
    xf_Broken := ⟨xga_Broken, xgg_Broken, exC_Broken, hd_Broken⟩
    xf_Clash := ⟨xga_Clash, xgg_Clash, exC_Clash, hd_Clash⟩
    xf_Misfit := ⟨xga_Misfit, xgg_Misfit, exC_Misfit, hd_Misfit⟩
    xf_Mismatch := ⟨xga_Mismatch, xgg_Mismatch, exC_Mismatch, hd_Mismatch⟩
    xf_NoHand := ⟨xga_NoHand, xgg_NoHand, exC_NoHand, hd_NoHand⟩
    xf_NoLine := ⟨xga_NoLine, xgg_NoLine, exC_NoLine, hd_NoLine⟩
    xf_NotGood := ⟨xga_NotGood, xgg_NotGood, exC_NotGood, hd_NotGood⟩
    xf_Stuck := ⟨xga_Stuck, xgg_Stuck, exC_Stuck, hd_Stuck⟩
    xf_TooMany := ⟨xga_TooMany, xgg_TooMany, exC_TooMany, hd_TooMany⟩
    em_BadLine := ⟨⟨xga_BadLine, xgg_BadLine, exC_BadLine, hd_BadLine, xha_BadLine, hgs, htk, xmo_BadLine⟩, ⟨_, _, _, _, lkC_BadLine, mroC_BadLine⟩, tyC_BadLine⟩
    em_BadStretch := ⟨⟨xga_BadStretch, xgg_BadStretch, exC_BadStretch, hd_BadStretch, xha_BadStretch, hgs, htk, xmo_BadStretch⟩, ⟨_, _, _, _, lkC_BadStretch, mroC_BadStretch⟩, tyC_BadStretch⟩
    em_BadKind := ⟨⟨xga_BadKind, xgg_BadKind, exC_BadKind, hd_BadKind, xha_BadKind, hgs, htk, xmo_BadKind⟩, ⟨_, _, _, _, lkC_BadKind, mroC_BadKind⟩, tyC_BadKind⟩
    em_BadMove := ⟨⟨xga_BadMove, xgg_BadMove, exC_BadMove, hd_BadMove, xha_BadMove, hgs, htk, xmo_BadMove⟩, ⟨_, _, _, _, lkC_BadMove, mroC_BadMove⟩, tyC_BadMove⟩
    em_BadState := ⟨⟨xga_BadState, xgg_BadState, exC_BadState, hd_BadState, xha_BadState, hgs, htk, xmo_BadState⟩, ⟨_, _, _, _, lkC_BadState, mroC_BadState⟩, tyC_BadState⟩
    em_BadWindow := ⟨⟨xga_BadWindow, xgg_BadWindow, exC_BadWindow, hd_BadWindow, xha_BadWindow, hgs, htk, xmo_BadWindow⟩, ⟨_, _, _, _, lkC_BadWindow, mroC_BadWindow⟩, tyC_BadWindow⟩
    em_BadRule := ⟨⟨xga_BadRule, xgg_BadRule, exC_BadRule, hd_BadRule, xha_BadRule, hgs, htk, xmo_BadRule⟩, ⟨_, _, _, _, lkC_BadRule, mroC_BadRule⟩, tyC_BadRule⟩
    em_BadGap := ⟨⟨xga_BadGap, xgg_BadGap, exC_BadGap, hd_BadGap, xha_BadGap, hgs, htk, xmo_BadGap⟩, ⟨_, _, _, _, lkC_BadGap, mroC_BadGap⟩, tyC_BadGap⟩
    em_BadColumn := ⟨⟨xga_BadColumn, xgg_BadColumn, exC_BadColumn, hd_BadColumn, xha_BadColumn, hgs, htk, xmo_BadColumn⟩, ⟨_, _, _, _, lkC_BadColumn, mroC_BadColumn⟩, tyC_BadColumn⟩
    em_BadStep := ⟨⟨xga_BadStep, xgg_BadStep, exC_BadStep, hd_BadStep, xha_BadStep, hgs, htk, xmo_BadStep⟩, ⟨_, _, _, _, lkC_BadStep, mroC_BadStep⟩, tyC_BadStep⟩
    em_BadChange := ⟨⟨xga_BadChange, xgg_BadChange, exC_BadChange, hd_BadChange, xha_BadChange, hgs, htk, xmo_BadChange⟩, ⟨_, _, _, _, lkC_BadChange, mroC_BadChange⟩, tyC_BadChange⟩
    em_BadText := ⟨⟨xga_BadText, xgg_BadText, exC_BadText, hd_BadText, xha_BadText, hgs, htk, xmo_BadText⟩, ⟨_, _, _, _, lkC_BadText, mroC_BadText⟩, tyC_BadText⟩
    em_Misfit := ⟨⟨xga_Misfit, xgg_Misfit, exC_Misfit, hd_Misfit, xha_Misfit, hgs, htk, xmo_Misfit⟩, ⟨_, _, _, _, lkC_Misfit, mroC_Misfit⟩, tyC_Misfit⟩
    em_Clash := ⟨⟨xga_Clash, xgg_Clash, exC_Clash, hd_Clash, xha_Clash, hgs, htk, xmo_Clash⟩, ⟨_, _, _, _, lkC_Clash, mroC_Clash⟩, tyC_Clash⟩
    em_Mismatch := ⟨⟨xga_Mismatch, xgg_Mismatch, exC_Mismatch, hd_Mismatch, xha_Mismatch, hgs, htk, xmo_Mismatch⟩, ⟨_, _, _, _, lkC_Mismatch, mroC_Mismatch⟩, tyC_Mismatch⟩
    em_Stuck := ⟨⟨xga_Stuck, xgg_Stuck, exC_Stuck, hd_Stuck, xha_Stuck, hgs, htk, xmo_Stuck⟩, ⟨_, _, _, _, lkC_Stuck, mroC_Stuck⟩, tyC_Stuck⟩
    em_NoLine := ⟨⟨xga_NoLine, xgg_NoLine, exC_NoLine, hd_NoLine, xha_NoLine, hgs, htk, xmo_NoLine⟩, ⟨_, _, _, _, lkC_NoLine, mroC_NoLine⟩, tyC_NoLine⟩
    em_NoHand := ⟨⟨xga_NoHand, xgg_NoHand, exC_NoHand, hd_NoHand, xha_NoHand, hgs, htk, xmo_NoHand⟩, ⟨_, _, _, _, lkC_NoHand, mroC_NoHand⟩, tyC_NoHand⟩
    em_TooMany := ⟨⟨xga_TooMany, xgg_TooMany, exC_TooMany, hd_TooMany, xha_TooMany, hgs, htk, xmo_TooMany⟩, ⟨_, _, _, _, lkC_TooMany, mroC_TooMany⟩, tyC_TooMany⟩
    em_Broken := ⟨⟨xga_Broken, xgg_Broken, exC_Broken, hd_Broken, xha_Broken, hgs, htk, xmo_Broken⟩, ⟨_, _, _, _, lkC_Broken, mroC_Broken⟩, tyC_Broken⟩
    em_NotGood := ⟨⟨xga_NotGood, xgg_NotGood, exC_NotGood, hd_NotGood, xha_NotGood, hgs, htk, xmo_NotGood⟩, ⟨_, _, _, _, lkC_NotGood, mroC_NotGood⟩, tyC_NotGood⟩
    ndc := of_decide_eq_true ndc
    nf_BadChange_index := nf_BadChange_index
    nf_BadColumn_index := nf_BadColumn_index
    nf_BadGap_gap := nf_BadGap_gap
    nf_BadKind_kind := nf_BadKind_kind
    nf_BadLine_index := nf_BadLine_index
    nf_BadMove_index := nf_BadMove_index
    nf_BadRule_rule := nf_BadRule_rule
    nf_BadState_state := nf_BadState_state
    nf_BadStep_index := nf_BadStep_index
    nf_BadStretch_index := nf_BadStretch_index
    nf_BadText_line := nf_BadText_line
    nf_BadWindow_index := nf_BadWindow_index
    nf_Broken_fault := nf_Broken_fault
    nf_Broken_line := nf_Broken_line
    nf_Clash_one := nf_Clash_one
    nf_Clash_other := nf_Clash_other
    nf_Misfit_index := nf_Misfit_index
    nf_Mismatch_kinds := nf_Mismatch_kinds
    nf_NoHand_hand := nf_NoHand_hand
    nf_NoLine_index := nf_NoLine_index
    nf_NotGood_hands := nf_NotGood_hands
    nf_Stuck_line := nf_Stuck_line
    nf_TooMany_limit := nf_TooMany_limit
  }
  exact ⟨T.A, rfl, fun base _ _ => fd_law T⟩
end DL
open PySem PySem.W PyProof.Rows in
set_option maxRecDepth 100000 in
set_option maxHeartbeats 0 in
theorem PySem.Challenge.cw_cleanmerges_k40_errors_by_hand_holds : PySem.Challenge.rw_cleanmerges_k40_errors_by_hand.Holds := by
  w_on; (refine holds_law PySem.Challenge.cw_cleanmerges_k40_errors_by_hand_said fun said => ?_); k_head; (case hw => w_witness2)
  k_fill
  refine DL.walkD (l := PySem.Challenge.rw_cleanmerges_k40_errors_by_hand) (n := 63) (k := 3) (DL.spT (fun (a : List Int × Unit) => [.v (DL.eC a.1)]) DL.D.bl DL.m_law) rfl (by decide) rfl ⟨rfl, by decide, by decide⟩ (fun w h Y => PySem.W.kIn_of Y) (DL.asks_T (sp := DL.sp_bag) DL.law_true) ?F
  case F =>
    intro w mg fa h KX G hmg
    refine' DL.all_mk KX G hmg ?m_BadLine ?m_BadStretch ?m_BadKind ?m_BadMove ?m_BadState ?m_BadWindow ?m_BadRule ?m_BadGap ?m_BadColumn ?m_BadStep ?m_BadChange ?m_BadText ?m_Misfit ?m_Clash ?m_Mismatch ?m_Stuck ?m_NoLine ?m_NoHand ?m_TooMany ?m_Broken ?m_NotGood ?a0 ?l0 ?e0 ?k0 ?a1 ?l1 ?e1 ?k1 ?a2 ?l2 ?e2 ?k2 ?a3 ?l3 ?e3 ?k3 ?a4 ?l4 ?e4 ?k4 ?a5 ?l5 ?e5 ?k5 ?a6 ?l6 ?e6 ?k6 ?z_LookupError ?z_OverflowError ?z_RuntimeError ?z_ValueError ?z_abs ?z_enumerate ?z_int ?z_isinstance ?z_len ?z_max ?z_min ?z_range ?z_repr ?lkC_BadLine ?mroC_BadLine ?hs_BadLine ?hdl_BadLine ?hd_BadLine ?sa_BadLine ?sB_BadLine ?mro_BadLine ?iC_BadLine ?tI_BadLine ?lk_BadLine ?cell_BadLine ?code_BadLine ?hcd_BadLine ?hvs_BadLine ?exC_BadLine ?tyC_BadLine ?kC_BadLine ?tk_index_BadLine ?lkC_BadStretch ?mroC_BadStretch ?hs_BadStretch ?hdl_BadStretch ?hd_BadStretch ?sa_BadStretch ?sB_BadStretch ?mro_BadStretch ?iC_BadStretch ?tI_BadStretch ?lk_BadStretch ?cell_BadStretch ?code_BadStretch ?hcd_BadStretch ?hvs_BadStretch ?exC_BadStretch ?tyC_BadStretch ?kC_BadStretch ?tk_index_BadStretch ?lkC_BadKind ?mroC_BadKind ?hs_BadKind ?hdl_BadKind ?hd_BadKind ?sa_BadKind ?sB_BadKind ?mro_BadKind ?iC_BadKind ?tI_BadKind ?lk_BadKind ?cell_BadKind ?code_BadKind ?hcd_BadKind ?hvs_BadKind ?exC_BadKind ?tyC_BadKind ?kC_BadKind ?tk_kind_BadKind ?lkC_BadMove ?mroC_BadMove ?hs_BadMove ?hdl_BadMove ?hd_BadMove ?sa_BadMove ?sB_BadMove ?mro_BadMove ?iC_BadMove ?tI_BadMove ?lk_BadMove ?cell_BadMove ?code_BadMove ?hcd_BadMove ?hvs_BadMove ?exC_BadMove ?tyC_BadMove ?kC_BadMove ?tk_index_BadMove ?lkC_BadState ?mroC_BadState ?hs_BadState ?hdl_BadState ?hd_BadState ?sa_BadState ?sB_BadState ?mro_BadState ?iC_BadState ?tI_BadState ?lk_BadState ?cell_BadState ?code_BadState ?hcd_BadState ?hvs_BadState ?exC_BadState ?tyC_BadState ?kC_BadState ?tk_state_BadState ?lkC_BadWindow ?mroC_BadWindow ?hs_BadWindow ?hdl_BadWindow ?hd_BadWindow ?sa_BadWindow ?sB_BadWindow ?mro_BadWindow ?iC_BadWindow ?tI_BadWindow ?lk_BadWindow ?cell_BadWindow ?code_BadWindow ?hcd_BadWindow ?hvs_BadWindow ?exC_BadWindow ?tyC_BadWindow ?kC_BadWindow ?tk_index_BadWindow ?lkC_BadRule ?mroC_BadRule ?hs_BadRule ?hdl_BadRule ?hd_BadRule ?sa_BadRule ?sB_BadRule ?mro_BadRule ?iC_BadRule ?tI_BadRule ?lk_BadRule ?cell_BadRule ?code_BadRule ?hcd_BadRule ?hvs_BadRule ?exC_BadRule ?tyC_BadRule ?kC_BadRule ?tk_rule_BadRule ?lkC_BadGap ?mroC_BadGap ?hs_BadGap ?hdl_BadGap ?hd_BadGap ?sa_BadGap ?sB_BadGap ?mro_BadGap ?iC_BadGap ?tI_BadGap ?lk_BadGap ?cell_BadGap ?code_BadGap ?hcd_BadGap ?hvs_BadGap ?exC_BadGap ?tyC_BadGap ?kC_BadGap ?tk_gap_BadGap ?lkC_BadColumn ?mroC_BadColumn ?hs_BadColumn ?hdl_BadColumn ?hd_BadColumn ?sa_BadColumn ?sB_BadColumn ?mro_BadColumn ?iC_BadColumn ?tI_BadColumn ?lk_BadColumn ?cell_BadColumn ?code_BadColumn ?hcd_BadColumn ?hvs_BadColumn ?exC_BadColumn ?tyC_BadColumn ?kC_BadColumn ?tk_index_BadColumn ?lkC_BadStep ?mroC_BadStep ?hs_BadStep ?hdl_BadStep ?hd_BadStep ?sa_BadStep ?sB_BadStep ?mro_BadStep ?iC_BadStep ?tI_BadStep ?lk_BadStep ?cell_BadStep ?code_BadStep ?hcd_BadStep ?hvs_BadStep ?exC_BadStep ?tyC_BadStep ?kC_BadStep ?tk_index_BadStep ?lkC_BadChange ?mroC_BadChange ?hs_BadChange ?hdl_BadChange ?hd_BadChange ?sa_BadChange ?sB_BadChange ?mro_BadChange ?iC_BadChange ?tI_BadChange ?lk_BadChange ?cell_BadChange ?code_BadChange ?hcd_BadChange ?hvs_BadChange ?exC_BadChange ?tyC_BadChange ?kC_BadChange ?tk_index_BadChange ?lkC_BadText ?mroC_BadText ?hs_BadText ?hdl_BadText ?hd_BadText ?sa_BadText ?sB_BadText ?mro_BadText ?iC_BadText ?tI_BadText ?lk_BadText ?cell_BadText ?code_BadText ?hcd_BadText ?hvs_BadText ?exC_BadText ?tyC_BadText ?kC_BadText ?tk_line_BadText ?lkC_Misfit ?mroC_Misfit ?hs_Misfit ?hdl_Misfit ?hd_Misfit ?sa_Misfit ?sB_Misfit ?mro_Misfit ?iC_Misfit ?tI_Misfit ?lk_Misfit ?cell_Misfit ?code_Misfit ?hcd_Misfit ?hvs_Misfit ?exC_Misfit ?tyC_Misfit ?kC_Misfit ?tk_index_Misfit ?lkC_Clash ?mroC_Clash ?hs_Clash ?hdl_Clash ?hd_Clash ?sa_Clash ?sB_Clash ?mro_Clash ?iC_Clash ?tI_Clash ?lk_Clash ?cell_Clash ?code_Clash ?hcd_Clash ?hvs_Clash ?exC_Clash ?tyC_Clash ?kC_Clash ?tk_one_Clash ?tk_other_Clash ?lkC_Mismatch ?mroC_Mismatch ?hs_Mismatch ?hdl_Mismatch ?hd_Mismatch ?sa_Mismatch ?sB_Mismatch ?mro_Mismatch ?iC_Mismatch ?tI_Mismatch ?lk_Mismatch ?cell_Mismatch ?code_Mismatch ?hcd_Mismatch ?hvs_Mismatch ?exC_Mismatch ?tyC_Mismatch ?kC_Mismatch ?tk_kinds_Mismatch ?lkC_Stuck ?mroC_Stuck ?hs_Stuck ?hdl_Stuck ?hd_Stuck ?sa_Stuck ?sB_Stuck ?mro_Stuck ?iC_Stuck ?tI_Stuck ?lk_Stuck ?cell_Stuck ?code_Stuck ?hcd_Stuck ?hvs_Stuck ?exC_Stuck ?tyC_Stuck ?kC_Stuck ?tk_line_Stuck ?lkC_NoLine ?mroC_NoLine ?hs_NoLine ?hdl_NoLine ?hd_NoLine ?sa_NoLine ?sB_NoLine ?mro_NoLine ?iC_NoLine ?tI_NoLine ?lk_NoLine ?cell_NoLine ?code_NoLine ?hcd_NoLine ?hvs_NoLine ?exC_NoLine ?tyC_NoLine ?kC_NoLine ?tk_index_NoLine ?lkC_NoHand ?mroC_NoHand ?hs_NoHand ?hdl_NoHand ?hd_NoHand ?sa_NoHand ?sB_NoHand ?mro_NoHand ?iC_NoHand ?tI_NoHand ?lk_NoHand ?cell_NoHand ?code_NoHand ?hcd_NoHand ?hvs_NoHand ?exC_NoHand ?tyC_NoHand ?kC_NoHand ?tk_hand_NoHand ?lkC_TooMany ?mroC_TooMany ?hs_TooMany ?hdl_TooMany ?hd_TooMany ?sa_TooMany ?sB_TooMany ?mro_TooMany ?iC_TooMany ?tI_TooMany ?lk_TooMany ?cell_TooMany ?code_TooMany ?hcd_TooMany ?hvs_TooMany ?exC_TooMany ?tyC_TooMany ?kC_TooMany ?tk_limit_TooMany ?lkC_Broken ?mroC_Broken ?hs_Broken ?hdl_Broken ?hd_Broken ?sa_Broken ?sB_Broken ?mro_Broken ?iC_Broken ?tI_Broken ?lk_Broken ?cell_Broken ?code_Broken ?hcd_Broken ?hvs_Broken ?exC_Broken ?tyC_Broken ?kC_Broken ?tk_line_Broken ?tk_fault_Broken ?lkC_NotGood ?mroC_NotGood ?hs_NotGood ?hdl_NotGood ?hd_NotGood ?sa_NotGood ?sB_NotGood ?mro_NotGood ?iC_NotGood ?tI_NotGood ?lk_NotGood ?cell_NotGood ?code_NotGood ?hcd_NotGood ?hvs_NotGood ?exC_NotGood ?tyC_NotGood ?kC_NotGood ?tk_hands_NotGood ?xga_BadLine ?xgg_BadLine ?xga_BadStretch ?xgg_BadStretch ?xga_BadKind ?xgg_BadKind ?xga_BadMove ?xgg_BadMove ?xga_BadState ?xgg_BadState ?xga_BadWindow ?xgg_BadWindow ?xga_BadRule ?xgg_BadRule ?xga_BadGap ?xgg_BadGap ?xga_BadColumn ?xgg_BadColumn ?xga_BadStep ?xgg_BadStep ?xga_BadChange ?xgg_BadChange ?xga_BadText ?xgg_BadText ?xga_Misfit ?xgg_Misfit ?xga_Clash ?xgg_Clash ?xga_Mismatch ?xgg_Mismatch ?xga_Stuck ?xgg_Stuck ?xga_NoLine ?xgg_NoLine ?xga_NoHand ?xgg_NoHand ?xga_TooMany ?xgg_TooMany ?xga_Broken ?xgg_Broken ?xga_NotGood ?xgg_NotGood ?xha_BadLine ?xmo_BadLine ?xha_BadStretch ?xmo_BadStretch ?xha_BadKind ?xmo_BadKind ?xha_BadMove ?xmo_BadMove ?xha_BadState ?xmo_BadState ?xha_BadWindow ?xmo_BadWindow ?xha_BadRule ?xmo_BadRule ?xha_BadGap ?xmo_BadGap ?xha_BadColumn ?xmo_BadColumn ?xha_BadStep ?xmo_BadStep ?xha_BadChange ?xmo_BadChange ?xha_BadText ?xmo_BadText ?xha_Misfit ?xmo_Misfit ?xha_Clash ?xmo_Clash ?xha_Mismatch ?xmo_Mismatch ?xha_Stuck ?xmo_Stuck ?xha_NoLine ?xmo_NoLine ?xha_NoHand ?xmo_NoHand ?xha_TooMany ?xmo_TooMany ?xha_Broken ?xmo_Broken ?xha_NotGood ?xmo_NotGood ?ndc ?nf_BadChange_index ?nf_BadColumn_index ?nf_BadGap_gap ?nf_BadKind_kind ?nf_BadLine_index ?nf_BadMove_index ?nf_BadRule_rule ?nf_BadState_state ?nf_BadStep_index ?nf_BadStretch_index ?nf_BadText_line ?nf_BadWindow_index ?nf_Broken_fault ?nf_Broken_line ?nf_Clash_one ?nf_Clash_other ?nf_Misfit_index ?nf_Mismatch_kinds ?nf_NoHand_hand ?nf_NoLine_index ?nf_NotGood_hands ?nf_Stuck_line ?nf_TooMany_limit ?z_super ?opqe ?hfilee ?htope ?hgs ?htk
    (case m_BadLine => k_is)
    (case m_BadStretch => k_is)
    (case m_BadKind => k_is)
    (case m_BadMove => k_is)
    (case m_BadState => k_is)
    (case m_BadWindow => k_is)
    (case m_BadRule => k_is)
    (case m_BadGap => k_is)
    (case m_BadColumn => k_is)
    (case m_BadStep => k_is)
    (case m_BadChange => k_is)
    (case m_BadText => k_is)
    (case m_Misfit => k_is)
    (case m_Clash => k_is)
    (case m_Mismatch => k_is)
    (case m_Stuck => k_is)
    (case m_NoLine => k_is)
    (case m_NoHand => k_is)
    (case m_TooMany => k_is)
    (case m_Broken => k_is)
    (case m_NotGood => k_is)
    (case a0 => k_is)
    (case l0 => k_is)
    (case e0 => k_is)
    (case k0 => k_is)
    (case a1 => k_is)
    (case l1 => k_is)
    (case e1 => k_is)
    (case k1 => k_is)
    (case a2 => k_is)
    (case l2 => k_is)
    (case e2 => k_is)
    (case k2 => k_is)
    (case a3 => k_is)
    (case l3 => k_is)
    (case e3 => k_is)
    (case k3 => k_is)
    (case a4 => k_is)
    (case l4 => k_is)
    (case e4 => k_is)
    (case k4 => k_is)
    (case a5 => k_is)
    (case l5 => k_is)
    (case e5 => k_is)
    (case k5 => k_is)
    (case a6 => k_is)
    (case l6 => k_is)
    (case e6 => k_is)
    (case k6 => k_is)
    (case z_LookupError => k_is)
    (case z_OverflowError => k_is)
    (case z_RuntimeError => k_is)
    (case z_ValueError => k_is)
    (case z_abs => k_is)
    (case z_enumerate => k_is)
    (case z_int => k_is)
    (case z_isinstance => k_is)
    (case z_len => k_is)
    (case z_max => k_is)
    (case z_min => k_is)
    (case z_range => k_is)
    (case z_repr => k_is)
    (case lkC_BadLine => k_is)
    (case mroC_BadLine => rfl)
    (case hs_BadLine => rfl)
    (case hdl_BadLine => rfl)
    (case hd_BadLine => k_is)
    (case sa_BadLine => k_is)
    (case sB_BadLine => k_is)
    (case mro_BadLine => k_is)
    (case iC_BadLine => k_is)
    (case tI_BadLine => k_is)
    (case lk_BadLine => k_is)
    (case cell_BadLine => k_is)
    (case code_BadLine => k_is)
    (case hcd_BadLine => k_is)
    (case hvs_BadLine => rfl)
    (case exC_BadLine => k_is)
    (case tyC_BadLine => k_is)
    (case kC_BadLine => k_is)
    (case tk_index_BadLine => k_is)
    (case lkC_BadStretch => k_is)
    (case mroC_BadStretch => rfl)
    (case hs_BadStretch => rfl)
    (case hdl_BadStretch => rfl)
    (case hd_BadStretch => k_is)
    (case sa_BadStretch => k_is)
    (case sB_BadStretch => k_is)
    (case mro_BadStretch => k_is)
    (case iC_BadStretch => k_is)
    (case tI_BadStretch => k_is)
    (case lk_BadStretch => k_is)
    (case cell_BadStretch => k_is)
    (case code_BadStretch => k_is)
    (case hcd_BadStretch => k_is)
    (case hvs_BadStretch => rfl)
    (case exC_BadStretch => k_is)
    (case tyC_BadStretch => k_is)
    (case kC_BadStretch => k_is)
    (case tk_index_BadStretch => k_is)
    (case lkC_BadKind => k_is)
    (case mroC_BadKind => rfl)
    (case hs_BadKind => rfl)
    (case hdl_BadKind => rfl)
    (case hd_BadKind => k_is)
    (case sa_BadKind => k_is)
    (case sB_BadKind => k_is)
    (case mro_BadKind => k_is)
    (case iC_BadKind => k_is)
    (case tI_BadKind => k_is)
    (case lk_BadKind => k_is)
    (case cell_BadKind => k_is)
    (case code_BadKind => k_is)
    (case hcd_BadKind => k_is)
    (case hvs_BadKind => rfl)
    (case exC_BadKind => k_is)
    (case tyC_BadKind => k_is)
    (case kC_BadKind => k_is)
    (case tk_kind_BadKind => k_is)
    (case lkC_BadMove => k_is)
    (case mroC_BadMove => rfl)
    (case hs_BadMove => rfl)
    (case hdl_BadMove => rfl)
    (case hd_BadMove => k_is)
    (case sa_BadMove => k_is)
    (case sB_BadMove => k_is)
    (case mro_BadMove => k_is)
    (case iC_BadMove => k_is)
    (case tI_BadMove => k_is)
    (case lk_BadMove => k_is)
    (case cell_BadMove => k_is)
    (case code_BadMove => k_is)
    (case hcd_BadMove => k_is)
    (case hvs_BadMove => rfl)
    (case exC_BadMove => k_is)
    (case tyC_BadMove => k_is)
    (case kC_BadMove => k_is)
    (case tk_index_BadMove => k_is)
    (case lkC_BadState => k_is)
    (case mroC_BadState => rfl)
    (case hs_BadState => rfl)
    (case hdl_BadState => rfl)
    (case hd_BadState => k_is)
    (case sa_BadState => k_is)
    (case sB_BadState => k_is)
    (case mro_BadState => k_is)
    (case iC_BadState => k_is)
    (case tI_BadState => k_is)
    (case lk_BadState => k_is)
    (case cell_BadState => k_is)
    (case code_BadState => k_is)
    (case hcd_BadState => k_is)
    (case hvs_BadState => rfl)
    (case exC_BadState => k_is)
    (case tyC_BadState => k_is)
    (case kC_BadState => k_is)
    (case tk_state_BadState => k_is)
    (case lkC_BadWindow => k_is)
    (case mroC_BadWindow => rfl)
    (case hs_BadWindow => rfl)
    (case hdl_BadWindow => rfl)
    (case hd_BadWindow => k_is)
    (case sa_BadWindow => k_is)
    (case sB_BadWindow => k_is)
    (case mro_BadWindow => k_is)
    (case iC_BadWindow => k_is)
    (case tI_BadWindow => k_is)
    (case lk_BadWindow => k_is)
    (case cell_BadWindow => k_is)
    (case code_BadWindow => k_is)
    (case hcd_BadWindow => k_is)
    (case hvs_BadWindow => rfl)
    (case exC_BadWindow => k_is)
    (case tyC_BadWindow => k_is)
    (case kC_BadWindow => k_is)
    (case tk_index_BadWindow => k_is)
    (case lkC_BadRule => k_is)
    (case mroC_BadRule => rfl)
    (case hs_BadRule => rfl)
    (case hdl_BadRule => rfl)
    (case hd_BadRule => k_is)
    (case sa_BadRule => k_is)
    (case sB_BadRule => k_is)
    (case mro_BadRule => k_is)
    (case iC_BadRule => k_is)
    (case tI_BadRule => k_is)
    (case lk_BadRule => k_is)
    (case cell_BadRule => k_is)
    (case code_BadRule => k_is)
    (case hcd_BadRule => k_is)
    (case hvs_BadRule => rfl)
    (case exC_BadRule => k_is)
    (case tyC_BadRule => k_is)
    (case kC_BadRule => k_is)
    (case tk_rule_BadRule => k_is)
    (case lkC_BadGap => k_is)
    (case mroC_BadGap => rfl)
    (case hs_BadGap => rfl)
    (case hdl_BadGap => rfl)
    (case hd_BadGap => k_is)
    (case sa_BadGap => k_is)
    (case sB_BadGap => k_is)
    (case mro_BadGap => k_is)
    (case iC_BadGap => k_is)
    (case tI_BadGap => k_is)
    (case lk_BadGap => k_is)
    (case cell_BadGap => k_is)
    (case code_BadGap => k_is)
    (case hcd_BadGap => k_is)
    (case hvs_BadGap => rfl)
    (case exC_BadGap => k_is)
    (case tyC_BadGap => k_is)
    (case kC_BadGap => k_is)
    (case tk_gap_BadGap => k_is)
    (case lkC_BadColumn => k_is)
    (case mroC_BadColumn => rfl)
    (case hs_BadColumn => rfl)
    (case hdl_BadColumn => rfl)
    (case hd_BadColumn => k_is)
    (case sa_BadColumn => k_is)
    (case sB_BadColumn => k_is)
    (case mro_BadColumn => k_is)
    (case iC_BadColumn => k_is)
    (case tI_BadColumn => k_is)
    (case lk_BadColumn => k_is)
    (case cell_BadColumn => k_is)
    (case code_BadColumn => k_is)
    (case hcd_BadColumn => k_is)
    (case hvs_BadColumn => rfl)
    (case exC_BadColumn => k_is)
    (case tyC_BadColumn => k_is)
    (case kC_BadColumn => k_is)
    (case tk_index_BadColumn => k_is)
    (case lkC_BadStep => k_is)
    (case mroC_BadStep => rfl)
    (case hs_BadStep => rfl)
    (case hdl_BadStep => rfl)
    (case hd_BadStep => k_is)
    (case sa_BadStep => k_is)
    (case sB_BadStep => k_is)
    (case mro_BadStep => k_is)
    (case iC_BadStep => k_is)
    (case tI_BadStep => k_is)
    (case lk_BadStep => k_is)
    (case cell_BadStep => k_is)
    (case code_BadStep => k_is)
    (case hcd_BadStep => k_is)
    (case hvs_BadStep => rfl)
    (case exC_BadStep => k_is)
    (case tyC_BadStep => k_is)
    (case kC_BadStep => k_is)
    (case tk_index_BadStep => k_is)
    (case lkC_BadChange => k_is)
    (case mroC_BadChange => rfl)
    (case hs_BadChange => rfl)
    (case hdl_BadChange => rfl)
    (case hd_BadChange => k_is)
    (case sa_BadChange => k_is)
    (case sB_BadChange => k_is)
    (case mro_BadChange => k_is)
    (case iC_BadChange => k_is)
    (case tI_BadChange => k_is)
    (case lk_BadChange => k_is)
    (case cell_BadChange => k_is)
    (case code_BadChange => k_is)
    (case hcd_BadChange => k_is)
    (case hvs_BadChange => rfl)
    (case exC_BadChange => k_is)
    (case tyC_BadChange => k_is)
    (case kC_BadChange => k_is)
    (case tk_index_BadChange => k_is)
    (case lkC_BadText => k_is)
    (case mroC_BadText => rfl)
    (case hs_BadText => rfl)
    (case hdl_BadText => rfl)
    (case hd_BadText => k_is)
    (case sa_BadText => k_is)
    (case sB_BadText => k_is)
    (case mro_BadText => k_is)
    (case iC_BadText => k_is)
    (case tI_BadText => k_is)
    (case lk_BadText => k_is)
    (case cell_BadText => k_is)
    (case code_BadText => k_is)
    (case hcd_BadText => k_is)
    (case hvs_BadText => rfl)
    (case exC_BadText => k_is)
    (case tyC_BadText => k_is)
    (case kC_BadText => k_is)
    (case tk_line_BadText => k_is)
    (case lkC_Misfit => k_is)
    (case mroC_Misfit => rfl)
    (case hs_Misfit => rfl)
    (case hdl_Misfit => rfl)
    (case hd_Misfit => k_is)
    (case sa_Misfit => k_is)
    (case sB_Misfit => k_is)
    (case mro_Misfit => k_is)
    (case iC_Misfit => k_is)
    (case tI_Misfit => k_is)
    (case lk_Misfit => k_is)
    (case cell_Misfit => k_is)
    (case code_Misfit => k_is)
    (case hcd_Misfit => k_is)
    (case hvs_Misfit => rfl)
    (case exC_Misfit => k_is)
    (case tyC_Misfit => k_is)
    (case kC_Misfit => k_is)
    (case tk_index_Misfit => k_is)
    (case lkC_Clash => k_is)
    (case mroC_Clash => rfl)
    (case hs_Clash => rfl)
    (case hdl_Clash => rfl)
    (case hd_Clash => k_is)
    (case sa_Clash => k_is)
    (case sB_Clash => k_is)
    (case mro_Clash => k_is)
    (case iC_Clash => k_is)
    (case tI_Clash => k_is)
    (case lk_Clash => k_is)
    (case cell_Clash => k_is)
    (case code_Clash => k_is)
    (case hcd_Clash => k_is)
    (case hvs_Clash => rfl)
    (case exC_Clash => k_is)
    (case tyC_Clash => k_is)
    (case kC_Clash => k_is)
    (case tk_one_Clash => k_is)
    (case tk_other_Clash => k_is)
    (case lkC_Mismatch => k_is)
    (case mroC_Mismatch => rfl)
    (case hs_Mismatch => rfl)
    (case hdl_Mismatch => rfl)
    (case hd_Mismatch => k_is)
    (case sa_Mismatch => k_is)
    (case sB_Mismatch => k_is)
    (case mro_Mismatch => k_is)
    (case iC_Mismatch => k_is)
    (case tI_Mismatch => k_is)
    (case lk_Mismatch => k_is)
    (case cell_Mismatch => k_is)
    (case code_Mismatch => k_is)
    (case hcd_Mismatch => k_is)
    (case hvs_Mismatch => rfl)
    (case exC_Mismatch => k_is)
    (case tyC_Mismatch => k_is)
    (case kC_Mismatch => k_is)
    (case tk_kinds_Mismatch => k_is)
    (case lkC_Stuck => k_is)
    (case mroC_Stuck => rfl)
    (case hs_Stuck => rfl)
    (case hdl_Stuck => rfl)
    (case hd_Stuck => k_is)
    (case sa_Stuck => k_is)
    (case sB_Stuck => k_is)
    (case mro_Stuck => k_is)
    (case iC_Stuck => k_is)
    (case tI_Stuck => k_is)
    (case lk_Stuck => k_is)
    (case cell_Stuck => k_is)
    (case code_Stuck => k_is)
    (case hcd_Stuck => k_is)
    (case hvs_Stuck => rfl)
    (case exC_Stuck => k_is)
    (case tyC_Stuck => k_is)
    (case kC_Stuck => k_is)
    (case tk_line_Stuck => k_is)
    (case lkC_NoLine => k_is)
    (case mroC_NoLine => rfl)
    (case hs_NoLine => rfl)
    (case hdl_NoLine => rfl)
    (case hd_NoLine => k_is)
    (case sa_NoLine => k_is)
    (case sB_NoLine => k_is)
    (case mro_NoLine => k_is)
    (case iC_NoLine => k_is)
    (case tI_NoLine => k_is)
    (case lk_NoLine => k_is)
    (case cell_NoLine => k_is)
    (case code_NoLine => k_is)
    (case hcd_NoLine => k_is)
    (case hvs_NoLine => rfl)
    (case exC_NoLine => k_is)
    (case tyC_NoLine => k_is)
    (case kC_NoLine => k_is)
    (case tk_index_NoLine => k_is)
    (case lkC_NoHand => k_is)
    (case mroC_NoHand => rfl)
    (case hs_NoHand => rfl)
    (case hdl_NoHand => rfl)
    (case hd_NoHand => k_is)
    (case sa_NoHand => k_is)
    (case sB_NoHand => k_is)
    (case mro_NoHand => k_is)
    (case iC_NoHand => k_is)
    (case tI_NoHand => k_is)
    (case lk_NoHand => k_is)
    (case cell_NoHand => k_is)
    (case code_NoHand => k_is)
    (case hcd_NoHand => k_is)
    (case hvs_NoHand => rfl)
    (case exC_NoHand => k_is)
    (case tyC_NoHand => k_is)
    (case kC_NoHand => k_is)
    (case tk_hand_NoHand => k_is)
    (case lkC_TooMany => k_is)
    (case mroC_TooMany => rfl)
    (case hs_TooMany => rfl)
    (case hdl_TooMany => rfl)
    (case hd_TooMany => k_is)
    (case sa_TooMany => k_is)
    (case sB_TooMany => k_is)
    (case mro_TooMany => k_is)
    (case iC_TooMany => k_is)
    (case tI_TooMany => k_is)
    (case lk_TooMany => k_is)
    (case cell_TooMany => k_is)
    (case code_TooMany => k_is)
    (case hcd_TooMany => k_is)
    (case hvs_TooMany => rfl)
    (case exC_TooMany => k_is)
    (case tyC_TooMany => k_is)
    (case kC_TooMany => k_is)
    (case tk_limit_TooMany => k_is)
    (case lkC_Broken => k_is)
    (case mroC_Broken => rfl)
    (case hs_Broken => rfl)
    (case hdl_Broken => rfl)
    (case hd_Broken => k_is)
    (case sa_Broken => k_is)
    (case sB_Broken => k_is)
    (case mro_Broken => k_is)
    (case iC_Broken => k_is)
    (case tI_Broken => k_is)
    (case lk_Broken => k_is)
    (case cell_Broken => k_is)
    (case code_Broken => k_is)
    (case hcd_Broken => k_is)
    (case hvs_Broken => rfl)
    (case exC_Broken => k_is)
    (case tyC_Broken => k_is)
    (case kC_Broken => k_is)
    (case tk_line_Broken => k_is)
    (case tk_fault_Broken => k_is)
    (case lkC_NotGood => k_is)
    (case mroC_NotGood => rfl)
    (case hs_NotGood => rfl)
    (case hdl_NotGood => rfl)
    (case hd_NotGood => k_is)
    (case sa_NotGood => k_is)
    (case sB_NotGood => k_is)
    (case mro_NotGood => k_is)
    (case iC_NotGood => k_is)
    (case tI_NotGood => k_is)
    (case lk_NotGood => k_is)
    (case cell_NotGood => k_is)
    (case code_NotGood => k_is)
    (case hcd_NotGood => k_is)
    (case hvs_NotGood => rfl)
    (case exC_NotGood => k_is)
    (case tyC_NotGood => k_is)
    (case kC_NotGood => k_is)
    (case tk_hands_NotGood => k_is)
    (case xga_BadLine => k_is)
    (case xgg_BadLine => k_is)
    (case xga_BadStretch => k_is)
    (case xgg_BadStretch => k_is)
    (case xga_BadKind => k_is)
    (case xgg_BadKind => k_is)
    (case xga_BadMove => k_is)
    (case xgg_BadMove => k_is)
    (case xga_BadState => k_is)
    (case xgg_BadState => k_is)
    (case xga_BadWindow => k_is)
    (case xgg_BadWindow => k_is)
    (case xga_BadRule => k_is)
    (case xgg_BadRule => k_is)
    (case xga_BadGap => k_is)
    (case xgg_BadGap => k_is)
    (case xga_BadColumn => k_is)
    (case xgg_BadColumn => k_is)
    (case xga_BadStep => k_is)
    (case xgg_BadStep => k_is)
    (case xga_BadChange => k_is)
    (case xgg_BadChange => k_is)
    (case xga_BadText => k_is)
    (case xgg_BadText => k_is)
    (case xga_Misfit => k_is)
    (case xgg_Misfit => k_is)
    (case xga_Clash => k_is)
    (case xgg_Clash => k_is)
    (case xga_Mismatch => k_is)
    (case xgg_Mismatch => k_is)
    (case xga_Stuck => k_is)
    (case xgg_Stuck => k_is)
    (case xga_NoLine => k_is)
    (case xgg_NoLine => k_is)
    (case xga_NoHand => k_is)
    (case xgg_NoHand => k_is)
    (case xga_TooMany => k_is)
    (case xgg_TooMany => k_is)
    (case xga_Broken => k_is)
    (case xgg_Broken => k_is)
    (case xga_NotGood => k_is)
    (case xgg_NotGood => k_is)
    (case xha_BadLine => k_is)
    (case xmo_BadLine => k_is)
    (case xha_BadStretch => k_is)
    (case xmo_BadStretch => k_is)
    (case xha_BadKind => k_is)
    (case xmo_BadKind => k_is)
    (case xha_BadMove => k_is)
    (case xmo_BadMove => k_is)
    (case xha_BadState => k_is)
    (case xmo_BadState => k_is)
    (case xha_BadWindow => k_is)
    (case xmo_BadWindow => k_is)
    (case xha_BadRule => k_is)
    (case xmo_BadRule => k_is)
    (case xha_BadGap => k_is)
    (case xmo_BadGap => k_is)
    (case xha_BadColumn => k_is)
    (case xmo_BadColumn => k_is)
    (case xha_BadStep => k_is)
    (case xmo_BadStep => k_is)
    (case xha_BadChange => k_is)
    (case xmo_BadChange => k_is)
    (case xha_BadText => k_is)
    (case xmo_BadText => k_is)
    (case xha_Misfit => k_is)
    (case xmo_Misfit => k_is)
    (case xha_Clash => k_is)
    (case xmo_Clash => k_is)
    (case xha_Mismatch => k_is)
    (case xmo_Mismatch => k_is)
    (case xha_Stuck => k_is)
    (case xmo_Stuck => k_is)
    (case xha_NoLine => k_is)
    (case xmo_NoLine => k_is)
    (case xha_NoHand => k_is)
    (case xmo_NoHand => k_is)
    (case xha_TooMany => k_is)
    (case xmo_TooMany => k_is)
    (case xha_Broken => k_is)
    (case xmo_Broken => k_is)
    (case xha_NotGood => k_is)
    (case xmo_NotGood => k_is)
    (case ndc => rfl)
    (case nf_BadChange_index => k_is)
    (case nf_BadColumn_index => k_is)
    (case nf_BadGap_gap => k_is)
    (case nf_BadKind_kind => k_is)
    (case nf_BadLine_index => k_is)
    (case nf_BadMove_index => k_is)
    (case nf_BadRule_rule => k_is)
    (case nf_BadState_state => k_is)
    (case nf_BadStep_index => k_is)
    (case nf_BadStretch_index => k_is)
    (case nf_BadText_line => k_is)
    (case nf_BadWindow_index => k_is)
    (case nf_Broken_fault => k_is)
    (case nf_Broken_line => k_is)
    (case nf_Clash_one => k_is)
    (case nf_Clash_other => k_is)
    (case nf_Misfit_index => k_is)
    (case nf_Mismatch_kinds => k_is)
    (case nf_NoHand_hand => k_is)
    (case nf_NoLine_index => k_is)
    (case nf_NotGood_hands => k_is)
    (case nf_Stuck_line => k_is)
    (case nf_TooMany_limit => k_is)
    (case z_super => k_is)
    (case opqe => k_is)
    (case hfilee => rfl)
    (case htope => rfl)
    (case hgs => k_is)
    (case htk => k_is)
#print axioms PySem.Challenge.cw_cleanmerges_k40_errors_by_hand_holds
