import PyProof.Rows.All
import HandS.ForMost
import HandS.ForExc
import HandS.Flow
import HandS.IsInst
import HandS.Wide
import HandS.StrMore
import HandS.Star
import HandS.Style
import HandS.Conv
import HandS.TupAny
import HandS.Deep
import PyProof.ReprRoads
import KE.GoesEnum
import HandS.RaiseMore
import HandS.Zip
import HandS.SlotsOwn
import HandS.More
import HandS.ClsMeth
import KE.KOpsOwn
import PyProof.CollectStr
import PyProof.ListRange
import PyProof.InstEq
import KE.KExcSuper
import KE.KSuper
import HandS.ExcInit
import HandS.ExcSuper
import HandS.ExcOwn
import HandS.ExcField
import HandS.ExcIs
import HandS.Property
import PySem.Challenge.RW_cleanmerges_k05_files_in_order
import Wide.All
import OpenK.AllK
import Wide.FinOn
set_option Elab.async false
set_option linter.all false
set_option maxRecDepth 100000
set_option maxHeartbeats 4000000
namespace DL
open PySem PySem.Spec PyProof.Rows L2

/-- the types that a value may have -/
inductive Ty where
  | non | bl | int | str | tup | lst | dct | own (C : Nat)
  deriving DecidableEq
inductive D where
  | non | bl (b : Bool) | int (i : Int) | str (x : Str) | ref (a : Addr) | ty (t : Ty) | rp (p : PyData)
  | tup (xs : List D) | lst (xs : List D) | cst (xs : List D) | ins (C : Nat) (xs : List D)
instance : Inhabited D := ⟨.non⟩
/-- the written part; the classes' places; the errors' classes -/
structure Cfg where
  K : PySem.W.Frag
  cA : Nat → Addr
  cv : Nat → Value
  fl : Nat → List Str
  gh : Option (Addr × Nat × List D) := none
def Ty.name : Ty → String
  | .non => "NoneType" | .bl => "bool" | .int => "int" | .str => "str" | .tup => "tuple" | .lst => "list" | .dct => "dict" | .own _ => "object"
/-- a class as a value -/
def Ty.v (cA : Nat → Addr) : Ty → V
  | .own C => .ref (cA C)
  | t => .ty t.name

/-- a text of a bounded size -/
def SOk (x : Str) : Prop := x.length ≤ sizeLine ∧ x.cps.all (· < 0x110000) = true
/-- what stands at a place that may change -/
inductive MO where
  | lst (xs : List D) | ins (C : Nat) (xs : List D)
abbrev Sto := Addr → Option MO
abbrev Lk := Addr → Prop
def Sto.set (S : Sto) (a : Addr) (o : MO) : Sto := fun b => if b = a then some o else S b
def Sto.del (S : Sto) (a : Addr) : Sto := fun b => if b = a then none else S b
theorem Sto.set_same {S : Sto} {a : Addr} {o : MO} : S.set a o a = some o := if_pos rfl
theorem Sto.set_ne {S : Sto} {a b : Addr} {o : MO} (h : b ≠ a) : S.set a o b = S b := if_neg h
theorem Sto.set_set {S : Sto} {a : Addr} {o o' : MO} : (S.set a o).set a o' = S.set a o' := by
  funext b; unfold Sto.set; by_cases h : b = a <;> simp [h]

section
variable (c : Cfg) (L : Lk) (H : Hp) (S : Sto)
/-- not tracked: an object of the written part -/
abbrev hp0 : Hp := fun _ => none
/-- tracked, frozen, not locked -/
def Fz (p : Addr) : Prop := S p = none ∧ ¬ L p
def FT (p : Addr) (vs : List V) : Prop := (Rd H p (.tup vs) ∧ Fz L S p) ∨ SqT c.K hp0 p vs
def FL (p : Addr) (vs : List V) : Prop := (Rd H p (.lst vs) ∧ Fz L S p) ∨ SqL c.K hp0 p vs
mutual
def Rep : D → V → Prop
  | .non, v => v = .non
  | .bl b, v => v = .bl b
  | .int i, v => v = .int i
  | .str x, v => v = .str x ∧ SOk x
  | .ref a, v => v = .ref a
  | .rp p, v => v = .str p.shown ∧ p.shown.length ≤ sizeLine
  | .ty t, v => v = t.v c.cA
  | .tup ds, v => ∃ p vs, v = .ref p ∧ FT c L H S p vs ∧ Reps ds vs
  | .lst ds, v => ∃ p vs, v = .ref p ∧ H p = some (.lst vs) ∧ Fz L S p ∧ Reps ds vs
  | .cst ds, v => ∃ p vs, v = .ref p ∧ FL c L H S p vs ∧ Reps ds vs
  | .ins C ds, v => ∃ p dx vs, v = .ref p ∧ H p = some (.ins (c.cA C) dx ((c.fl C).zip vs)) ∧ Fz L S p ∧ Reps ds vs
def Reps : List D → List V → Prop
  | [], vs => vs = []
  | d :: ds, vs => ∃ v ws, vs = v :: ws ∧ Rep d v ∧ Reps ds ws
end
def MR (p : Addr) : MO → Prop
  | .lst ds => ∃ vs, H p = some (.lst vs) ∧ Reps c L H S ds vs
  | .ins C ds => ∃ dx vs, H p = some (.ins (c.cA C) dx ((c.fl C).zip vs)) ∧ Reps c L H S ds vs
/-- the store is held -/
structure StoR : Prop where
  at_ : ∀ p o, S p = some o → MR c L H S p o ∧ ¬ L p
  lk : ∀ p, L p → H p ≠ none
  /-- the dict of the error that is handled -/
  gh : ∀ p n ds, c.gh = some (p, n, ds) → ∃ vs, H p = some (.xd ((c.fl n).zip vs)) ∧ Fz L S p ∧ Reps c L H S ds vs
end
/-- what is frozen or locked stays -/
def Ext (H : Hp) (S : Sto) (H' : Hp) (S' : Sto) : Prop := ∀ p o, H p = some o → S p = none → H' p = some o ∧ S' p = none
section
variable {c : Cfg} {L : Lk} {H H1 H2 : Hp} {S S1 S2 : Sto}
theorem Ext.refl : Ext H S H S := fun _ _ h s => ⟨h, s⟩
theorem Ext.trans (a : Ext H S H1 S1) (b : Ext H1 S1 H2 S2) : Ext H S H2 S2 := fun p o h s => by
  obtain ⟨h1, s1⟩ := a p o h s
  exact b p o h1 s1
theorem FT.ext {p : Addr} {vs : List V} (e : Ext H S H1 S1) : FT c L H S p vs → FT c L H1 S1 p vs
  | .inr h => .inr h
  | .inl ⟨.inl h, s, l⟩ => by
    obtain ⟨h1, s1⟩ := e _ _ h s
    exact .inl ⟨.inl h1, s1, l⟩
  | .inl ⟨.inr ⟨o, h⟩, s, l⟩ => by
    obtain ⟨h1, s1⟩ := e _ _ h s
    exact .inl ⟨.inr ⟨o, h1⟩, s1, l⟩
theorem FL.ext {p : Addr} {vs : List V} (e : Ext H S H1 S1) : FL c L H S p vs → FL c L H1 S1 p vs
  | .inr h => .inr h
  | .inl ⟨.inl h, s, l⟩ => by
    obtain ⟨h1, s1⟩ := e _ _ h s
    exact .inl ⟨.inl h1, s1, l⟩
  | .inl ⟨.inr ⟨o, h⟩, s, l⟩ => by
    obtain ⟨h1, s1⟩ := e _ _ h s
    exact .inl ⟨.inr ⟨o, h1⟩, s1, l⟩
mutual
theorem Rep.ext (e : Ext H S H1 S1) : ∀ (d : D) (v : V), Rep c L H S d v → Rep c L H1 S1 d v
  | .non, v, h => by unfold Rep at h ⊢; exact h
  | .bl b, v, h => by unfold Rep at h ⊢; exact h
  | .int i, v, h => by unfold Rep at h ⊢; exact h
  | .str x, v, h => by unfold Rep at h ⊢; exact h
  | .ref a, v, h => by unfold Rep at h ⊢; exact h
  | .rp p, v, h => by unfold Rep at h ⊢; exact h
  | .ty n, v, h => by unfold Rep at h ⊢; exact h
  | .tup ds, v, h => by
    unfold Rep at h ⊢
    obtain ⟨p, vs, ev, f, r⟩ := h
    exact ⟨p, vs, ev, f.ext e, Reps.ext e ds vs r⟩
  | .lst ds, v, h => by
    unfold Rep at h ⊢
    obtain ⟨p, vs, ev, f, ⟨s, l⟩, r⟩ := h
    obtain ⟨h1, s1⟩ := e _ _ f s
    exact ⟨p, vs, ev, h1, ⟨s1, l⟩, Reps.ext e ds vs r⟩
  | .cst ds, v, h => by
    unfold Rep at h ⊢
    obtain ⟨p, vs, ev, f, r⟩ := h
    exact ⟨p, vs, ev, f.ext e, Reps.ext e ds vs r⟩
  | .ins C ds, v, h => by
    unfold Rep at h ⊢
    obtain ⟨p, dx, vs, ev, f, ⟨s, l⟩, r⟩ := h
    obtain ⟨h1, s1⟩ := e _ _ f s
    exact ⟨p, dx, vs, ev, h1, ⟨s1, l⟩, Reps.ext e ds vs r⟩
theorem Reps.ext (e : Ext H S H1 S1) : ∀ (ds : List D) (vs : List V), Reps c L H S ds vs → Reps c L H1 S1 ds vs
  | [], vs, h => by unfold Reps at h ⊢; exact h
  | d :: ds, vs, h => by
    unfold Reps at h ⊢
    obtain ⟨v, ws, ev, r, rs⟩ := h
    exact ⟨v, ws, ev, Rep.ext e d v r, Reps.ext e ds ws rs⟩
end
/-- the locked set may shrink -/
theorem FT.unlock {L' : Lk} (l : ∀ p, L' p → L p) {p : Addr} {vs : List V} : FT c L H S p vs → FT c L' H S p vs
  | .inr h => .inr h
  | .inl ⟨h, s, n⟩ => .inl ⟨h, s, fun z => n (l _ z)⟩
theorem FL.unlock {L' : Lk} (l : ∀ p, L' p → L p) {p : Addr} {vs : List V} : FL c L H S p vs → FL c L' H S p vs
  | .inr h => .inr h
  | .inl ⟨h, s, n⟩ => .inl ⟨h, s, fun z => n (l _ z)⟩
mutual
theorem Rep.unlock {L' : Lk} (l : ∀ p, L' p → L p) : ∀ (d : D) (v : V), Rep c L H S d v → Rep c L' H S d v
  | .non, v, h => by unfold Rep at h ⊢; exact h
  | .bl b, v, h => by unfold Rep at h ⊢; exact h
  | .int i, v, h => by unfold Rep at h ⊢; exact h
  | .str x, v, h => by unfold Rep at h ⊢; exact h
  | .ref a, v, h => by unfold Rep at h ⊢; exact h
  | .rp p, v, h => by unfold Rep at h ⊢; exact h
  | .ty n, v, h => by unfold Rep at h ⊢; exact h
  | .tup ds, v, h => by
    unfold Rep at h ⊢
    obtain ⟨p, vs, ev, f, r⟩ := h
    exact ⟨p, vs, ev, f.unlock l, Reps.unlock l ds vs r⟩
  | .lst ds, v, h => by
    unfold Rep at h ⊢
    obtain ⟨p, vs, ev, f, ⟨s, n⟩, r⟩ := h
    exact ⟨p, vs, ev, f, ⟨s, fun z => n (l _ z)⟩, Reps.unlock l ds vs r⟩
  | .cst ds, v, h => by
    unfold Rep at h ⊢
    obtain ⟨p, vs, ev, f, r⟩ := h
    exact ⟨p, vs, ev, f.unlock l, Reps.unlock l ds vs r⟩
  | .ins C ds, v, h => by
    unfold Rep at h ⊢
    obtain ⟨p, dx, vs, ev, f, ⟨s, n⟩, r⟩ := h
    exact ⟨p, dx, vs, ev, f, ⟨s, fun z => n (l _ z)⟩, Reps.unlock l ds vs r⟩
theorem Reps.unlock {L' : Lk} (l : ∀ p, L' p → L p) : ∀ (ds : List D) (vs : List V), Reps c L H S ds vs → Reps c L' H S ds vs
  | [], vs, h => by unfold Reps at h ⊢; exact h
  | d :: ds, vs, h => by
    unfold Reps at h ⊢
    obtain ⟨v, ws, ev, r, rs⟩ := h
    exact ⟨v, ws, ev, Rep.unlock l d v r, Reps.unlock l ds ws rs⟩
end
/-- places that are not tracked are locked -/
abbrev Lk.add (L : Lk) (q : Addr) : Lk := fun p => L p ∨ p = q
theorem FT.lock {L' : Lk} (n : ∀ p, L' p → L p ∨ H p = none) {p : Addr} {vs : List V} : FT c L H S p vs → FT c L' H S p vs
  | .inr h => .inr h
  | .inl ⟨h, s, l⟩ => .inl ⟨h, s, fun z => (n p z).elim l fun e => by
    rcases h with h | ⟨o, h⟩ <;> (rw [e] at h; cases h)⟩
theorem FL.lock {L' : Lk} (n : ∀ p, L' p → L p ∨ H p = none) {p : Addr} {vs : List V} : FL c L H S p vs → FL c L' H S p vs
  | .inr h => .inr h
  | .inl ⟨h, s, l⟩ => .inl ⟨h, s, fun z => (n p z).elim l fun e => by
    rcases h with h | ⟨o, h⟩ <;> (rw [e] at h; cases h)⟩
mutual
theorem Rep.lock {L' : Lk} (n : ∀ p, L' p → L p ∨ H p = none) : ∀ (d : D) (v : V), Rep c L H S d v → Rep c L' H S d v
  | .non, v, h => by unfold Rep at h ⊢; exact h
  | .bl b, v, h => by unfold Rep at h ⊢; exact h
  | .int i, v, h => by unfold Rep at h ⊢; exact h
  | .str x, v, h => by unfold Rep at h ⊢; exact h
  | .ref a, v, h => by unfold Rep at h ⊢; exact h
  | .rp p, v, h => by unfold Rep at h ⊢; exact h
  | .ty m, v, h => by unfold Rep at h ⊢; exact h
  | .tup ds, v, h => by
    unfold Rep at h ⊢
    obtain ⟨p, vs, ev, f, r⟩ := h
    exact ⟨p, vs, ev, f.lock n, Reps.lock n ds vs r⟩
  | .lst ds, v, h => by
    unfold Rep at h ⊢
    obtain ⟨p, vs, ev, f, ⟨s, l⟩, r⟩ := h
    exact ⟨p, vs, ev, f, ⟨s, fun z => (n p z).elim l fun e => by rw [e] at f; cases f⟩, Reps.lock n ds vs r⟩
  | .cst ds, v, h => by
    unfold Rep at h ⊢
    obtain ⟨p, vs, ev, f, r⟩ := h
    exact ⟨p, vs, ev, f.lock n, Reps.lock n ds vs r⟩
  | .ins C ds, v, h => by
    unfold Rep at h ⊢
    obtain ⟨p, dx, vs, ev, f, ⟨s, l⟩, r⟩ := h
    exact ⟨p, dx, vs, ev, f, ⟨s, fun z => (n p z).elim l fun e => by rw [e] at f; cases f⟩, Reps.lock n ds vs r⟩
theorem Reps.lock {L' : Lk} (n : ∀ p, L' p → L p ∨ H p = none) : ∀ (ds : List D) (vs : List V), Reps c L H S ds vs → Reps c L' H S ds vs
  | [], vs, h => by unfold Reps at h ⊢; exact h
  | d :: ds, vs, h => by
    unfold Reps at h ⊢
    obtain ⟨v, ws, ev, r, rs⟩ := h
    exact ⟨v, ws, ev, Rep.lock n d v r, Reps.lock n ds ws rs⟩
end
/-- what is locked may change: heap and store differ at q alone -/
theorem FT.aside {L' : Lk} {q : Addr} (l : L q) (l' : ∀ p, L' p → L p) (hk : ∀ p, p ≠ q → H1 p = H p) (sk : ∀ p, p ≠ q → S1 p = S p) {p : Addr} {vs : List V} : FT c L H S p vs → FT c L' H1 S1 p vs
  | .inr h => .inr h
  | .inl ⟨h, s, n⟩ => by
    have ne : p ≠ q := fun e => n (e ▸ l)
    exact .inl ⟨by unfold Rd at h ⊢; rw [hk p ne]; exact h, by rw [sk p ne]; exact s, fun z => n (l' _ z)⟩
theorem FL.aside {L' : Lk} {q : Addr} (l : L q) (l' : ∀ p, L' p → L p) (hk : ∀ p, p ≠ q → H1 p = H p) (sk : ∀ p, p ≠ q → S1 p = S p) {p : Addr} {vs : List V} : FL c L H S p vs → FL c L' H1 S1 p vs
  | .inr h => .inr h
  | .inl ⟨h, s, n⟩ => by
    have ne : p ≠ q := fun e => n (e ▸ l)
    exact .inl ⟨by unfold Rd at h ⊢; rw [hk p ne]; exact h, by rw [sk p ne]; exact s, fun z => n (l' _ z)⟩
mutual
theorem Rep.aside {L' : Lk} {q : Addr} (l : L q) (l' : ∀ p, L' p → L p) (hk : ∀ p, p ≠ q → H1 p = H p) (sk : ∀ p, p ≠ q → S1 p = S p) : ∀ (d : D) (v : V), Rep c L H S d v → Rep c L' H1 S1 d v
  | .non, v, h => by unfold Rep at h ⊢; exact h
  | .bl b, v, h => by unfold Rep at h ⊢; exact h
  | .int i, v, h => by unfold Rep at h ⊢; exact h
  | .str x, v, h => by unfold Rep at h ⊢; exact h
  | .ref a, v, h => by unfold Rep at h ⊢; exact h
  | .rp p, v, h => by unfold Rep at h ⊢; exact h
  | .ty m, v, h => by unfold Rep at h ⊢; exact h
  | .tup ds, v, h => by
    unfold Rep at h ⊢
    obtain ⟨p, vs, ev, f, r⟩ := h
    exact ⟨p, vs, ev, f.aside l l' hk sk, Reps.aside l l' hk sk ds vs r⟩
  | .lst ds, v, h => by
    unfold Rep at h ⊢
    obtain ⟨p, vs, ev, f, ⟨s, n⟩, r⟩ := h
    have ne : p ≠ q := fun e => n (e ▸ l)
    exact ⟨p, vs, ev, by rw [hk p ne]; exact f, ⟨by rw [sk p ne]; exact s, fun z => n (l' _ z)⟩, Reps.aside l l' hk sk ds vs r⟩
  | .cst ds, v, h => by
    unfold Rep at h ⊢
    obtain ⟨p, vs, ev, f, r⟩ := h
    exact ⟨p, vs, ev, f.aside l l' hk sk, Reps.aside l l' hk sk ds vs r⟩
  | .ins C ds, v, h => by
    unfold Rep at h ⊢
    obtain ⟨p, dx, vs, ev, f, ⟨s, n⟩, r⟩ := h
    have ne : p ≠ q := fun e => n (e ▸ l)
    exact ⟨p, dx, vs, ev, by rw [hk p ne]; exact f, ⟨by rw [sk p ne]; exact s, fun z => n (l' _ z)⟩, Reps.aside l l' hk sk ds vs r⟩
theorem Reps.aside {L' : Lk} {q : Addr} (l : L q) (l' : ∀ p, L' p → L p) (hk : ∀ p, p ≠ q → H1 p = H p) (sk : ∀ p, p ≠ q → S1 p = S p) : ∀ (ds : List D) (vs : List V), Reps c L H S ds vs → Reps c L' H1 S1 ds vs
  | [], vs, h => by unfold Reps at h ⊢; exact h
  | d :: ds, vs, h => by
    unfold Reps at h ⊢
    obtain ⟨v, ws, ev, r, rs⟩ := h
    exact ⟨v, ws, ev, Rep.aside l l' hk sk d v r, Reps.aside l l' hk sk ds ws rs⟩
end
theorem Reps.length : ∀ {ds : List D} {vs : List V}, Reps c L H S ds vs → vs.length = ds.length
  | [], vs, h => by unfold Reps at h; subst h; rfl
  | d :: ds, vs, h => by
    unfold Reps at h
    obtain ⟨v, ws, ev, r, rs⟩ := h
    subst ev
    simp [Reps.length rs]
theorem Reps.nil : Reps c L H S [] [] := by unfold Reps; rfl
theorem Reps.cons {d : D} {v : V} {ds : List D} {vs : List V} (r : Rep c L H S d v) (rs : Reps c L H S ds vs) : Reps c L H S (d :: ds) (v :: vs) := by unfold Reps; exact ⟨v, vs, rfl, r, rs⟩
theorem Reps.of_cons {d : D} {ds : List D} {vs : List V} (h : Reps c L H S (d :: ds) vs) : ∃ v ws, vs = v :: ws ∧ Rep c L H S d v ∧ Reps c L H S ds ws := by unfold Reps at h; exact h
theorem Reps.of_nil {vs : List V} (h : Reps c L H S [] vs) : vs = [] := by unfold Reps at h; exact h
theorem Reps.append : ∀ {ds es : List D} {vs ws : List V}, Reps c L H S ds vs → Reps c L H S es ws → Reps c L H S (ds ++ es) (vs ++ ws)
  | [], es, vs, ws, h, k => by rw [h.of_nil]; exact k
  | d :: ds, es, vs, ws, h, k => by
    obtain ⟨v, us, ev, r, rs⟩ := h.of_cons
    subst ev
    exact Reps.cons r (Reps.append rs k)
theorem Reps.get : ∀ {ds : List D} {vs : List V} {i : Nat} {d : D}, Reps c L H S ds vs → ds[i]? = some d → ∃ v, vs[i]? = some v ∧ Rep c L H S d v
  | [], _, _, _, h, e => by simp at e
  | d :: ds, vs, 0, x, h, e => by
    obtain ⟨v, ws, ev, r, rs⟩ := h.of_cons
    simp at e
    subst ev e
    exact ⟨v, rfl, r⟩
  | d :: ds, vs, i + 1, x, h, e => by
    obtain ⟨v, ws, ev, r, rs⟩ := h.of_cons
    subst ev
    obtain ⟨u, h1, h2⟩ := Reps.get (i := i) (d := x) rs (by simpa using e)
    exact ⟨u, by simpa using h1, h2⟩
theorem Reps.getV : ∀ {ds : List D} {vs : List V} {i : Nat} {v : V}, Reps c L H S ds vs → vs[i]? = some v → ∃ d, ds[i]? = some d ∧ Rep c L H S d v
  | [], _, _, _, h, e => by rw [h.of_nil] at e; simp at e
  | d :: ds, vs, 0, x, h, e => by
    obtain ⟨v, ws, ev, r, rs⟩ := h.of_cons
    subst ev
    simp at e
    subst e
    exact ⟨d, rfl, r⟩
  | d :: ds, vs, i + 1, x, h, e => by
    obtain ⟨v, ws, ev, r, rs⟩ := h.of_cons
    subst ev
    obtain ⟨u, h1, h2⟩ := Reps.getV (i := i) (v := x) rs (by simpa using e)
    exact ⟨u, by simpa using h1, h2⟩
theorem Reps.set {d : D} {v : V} (r : Rep c L H S d v) : ∀ {ds : List D} {vs : List V} (i : Nat), Reps c L H S ds vs → Reps c L H S (ds.set i d) (vs.set i v)
  | [], vs, i, h => by rw [h.of_nil]; exact .nil
  | e :: ds, vs, 0, h => by
    obtain ⟨u, ws, ev, q, rs⟩ := h.of_cons
    subst ev
    exact .cons r rs
  | e :: ds, vs, i + 1, h => by
    obtain ⟨u, ws, ev, q, rs⟩ := h.of_cons
    subst ev
    exact .cons q (Reps.set r i rs)
theorem Reps.take : ∀ {ds : List D} {vs : List V} (n : Nat), Reps c L H S ds vs → Reps c L H S (ds.take n) (vs.take n)
  | ds, vs, 0, h => by simp; exact .nil
  | [], vs, n + 1, h => by rw [h.of_nil]; exact .nil
  | d :: ds, vs, n + 1, h => by
    obtain ⟨v, ws, ev, r, rs⟩ := h.of_cons
    subst ev
    exact .cons r (Reps.take n rs)
theorem Reps.drop : ∀ {ds : List D} {vs : List V} (n : Nat), Reps c L H S ds vs → Reps c L H S (ds.drop n) (vs.drop n)
  | ds, vs, 0, h => by simpa using h
  | [], vs, n + 1, h => by rw [h.of_nil]; simp; exact .nil
  | d :: ds, vs, n + 1, h => by
    obtain ⟨v, ws, ev, r, rs⟩ := h.of_cons
    subst ev
    simpa using Reps.drop n rs
theorem Reps.int : ∀ (ns : List Int), Reps c L H S (ns.map D.int) (ns.map V.int)
  | [] => .nil
  | n :: ns => .cons (by unfold Rep; rfl) (Reps.int ns)

/-- the store under growth -/
theorem StoR.keep (R : StoR c L H S) (e : Ext H S H1 S) (k : ∀ p o, S p = some o → H1 p = H p) : StoR c L H1 S where
  at_ := fun p o h => by
    obtain ⟨m, l⟩ := R.at_ p o h
    refine ⟨?_, l⟩
    cases o with
    | lst ds =>
      obtain ⟨vs, hp, r⟩ := m
      exact ⟨vs, (k p _ h).trans hp, r.ext e⟩
    | ins C ds =>
      obtain ⟨dx, vs, hp, r⟩ := m
      exact ⟨dx, vs, (k p _ h).trans hp, r.ext e⟩
  lk := fun p l => by
    have n := R.lk p l
    cases q : H p with
    | none => exact absurd q n
    | some o =>
      cases s : S p with
      | none => rw [(e p o q s).1]; simp
      | some u => rw [k p u s, q]; simp
  gh := fun p n ds g => by
    obtain ⟨vs, h, ⟨s, l⟩, r⟩ := R.gh p n ds g
    exact ⟨vs, (e p _ h s).1, ⟨s, l⟩, r.ext e⟩
theorem StoR.free (R : StoR c L H S) {p : Addr} (n : H p = none) : S p = none ∧ ¬ L p := by
  refine ⟨?_, fun l => R.lk p l n⟩
  cases s : S p with
  | none => rfl
  | some o =>
    obtain ⟨m, _⟩ := R.at_ p o s
    cases o with
    | lst ds => obtain ⟨vs, hp, _⟩ := m; rw [n] at hp; cases hp
    | ins C ds => obtain ⟨dx, vs, hp, _⟩ := m; rw [n] at hp; cases hp
theorem Ext.upd {p : Addr} {o : HO} (n : H p = none) : Ext H S (upd H p o) S := fun q u h s => ⟨by rw [upd_ne (ne_of_none h n)]; exact h, s⟩
/-- a new frozen object -/
theorem StoR.upd {p : Addr} {o : HO} (R : StoR c L H S) (n : H p = none) : StoR c L (L2.upd H p o) S :=
  R.keep (Ext.upd n) fun q u s => upd_ne fun e => by subst e; rw [(R.free n).1] at s; cases s
/-- a new object that may change -/
theorem StoR.new {p : Addr} {o : HO} {m : MO} (R : StoR c L H S) (n : H p = none) (h : MR c L (L2.upd H p o) (S.set p m) p m) : StoR c L (L2.upd H p o) (S.set p m) where
  at_ := fun q u s => by
    by_cases e : q = p
    · subst e
      rw [Sto.set_same] at s
      cases s
      exact ⟨h, (R.free n).2⟩
    · rw [Sto.set_ne e] at s
      obtain ⟨m1, l⟩ := R.at_ q u s
      refine ⟨?_, l⟩
      have x : Ext H S (L2.upd H p o) (S.set p m) := fun b w hb sb => by
        have nb : b ≠ p := ne_of_none hb n
        exact ⟨by rw [upd_ne nb]; exact hb, by rw [Sto.set_ne nb]; exact sb⟩
      cases u with
      | lst ds =>
        obtain ⟨vs, hp, r⟩ := m1
        exact ⟨vs, by rw [upd_ne e]; exact hp, r.ext x⟩
      | ins C ds =>
        obtain ⟨dx, vs, hp, r⟩ := m1
        exact ⟨dx, vs, by rw [upd_ne e]; exact hp, r.ext x⟩
  lk := fun q l => by
    by_cases e : q = p
    · subst e; rw [upd_same]; simp
    · rw [upd_ne e]; exact R.lk q l
  gh := fun q k ds g => by
    obtain ⟨vs, h1, ⟨s, l⟩, r⟩ := R.gh q k ds g
    have x : Ext H S (L2.upd H p o) (S.set p m) := fun b w hb sb => by
      have nb : b ≠ p := ne_of_none hb n
      exact ⟨by rw [upd_ne nb]; exact hb, by rw [Sto.set_ne nb]; exact sb⟩
    obtain ⟨h2, s2⟩ := x q _ h1 s
    exact ⟨vs, h2, ⟨s2, l⟩, r.ext x⟩
theorem Ext.new {p : Addr} {o : HO} {m : MO} (n : H p = none) : Ext H S (L2.upd H p o) (S.set p m) := fun b w hb sb => by
  have nb : b ≠ p := ne_of_none hb n
  exact ⟨by rw [upd_ne nb]; exact hb, by rw [Sto.set_ne nb]; exact sb⟩
theorem Ext.write {p : Addr} {o : HO} {m m' : MO} (s : S p = some m') : Ext H S (L2.upd H p o) (S.set p m) := fun b w hb sb => by
  have nb : b ≠ p := fun e => by subst e; rw [s] at sb; cases sb
  exact ⟨by rw [upd_ne nb]; exact hb, by rw [Sto.set_ne nb]; exact sb⟩
/-- a change in place -/
theorem StoR.write {p : Addr} {o : HO} {m m' : MO} (R : StoR c L H S) (s : S p = some m') (h : MR c L (L2.upd H p o) (S.set p m) p m) : StoR c L (L2.upd H p o) (S.set p m) where
  at_ := fun q u t => by
    by_cases e : q = p
    · subst e
      rw [Sto.set_same] at t
      cases t
      exact ⟨h, (R.at_ _ _ s).2⟩
    · rw [Sto.set_ne e] at t
      obtain ⟨m1, l⟩ := R.at_ q u t
      refine ⟨?_, l⟩
      have x : Ext H S (L2.upd H p o) (S.set p m) := Ext.write s
      cases u with
      | lst ds =>
        obtain ⟨vs, hp, r⟩ := m1
        exact ⟨vs, by rw [upd_ne e]; exact hp, r.ext x⟩
      | ins C ds =>
        obtain ⟨dx, vs, hp, r⟩ := m1
        exact ⟨dx, vs, by rw [upd_ne e]; exact hp, r.ext x⟩
  lk := fun q l => by
    by_cases e : q = p
    · subst e; rw [upd_same]; simp
    · rw [upd_ne e]; exact R.lk q l
  gh := fun q k ds g => by
    obtain ⟨vs, h1, ⟨s1, l⟩, r⟩ := R.gh q k ds g
    have x : Ext H S (L2.upd H p o) (S.set p m) := Ext.write s
    obtain ⟨h2, s2⟩ := x q _ h1 s1
    exact ⟨vs, h2, ⟨s2, l⟩, r.ext x⟩
/-- the locked set: smaller; what is not tracked is added -/
theorem StoR.unlock {L' : Lk} (l : ∀ p, L' p → L p) (R : StoR c L H S) : StoR c L' H S where
  at_ := fun p o h => by
    obtain ⟨m, n⟩ := R.at_ p o h
    refine ⟨?_, fun z => n (l _ z)⟩
    cases o with
    | lst ds =>
      obtain ⟨vs, hp, r⟩ := m
      exact ⟨vs, hp, r.unlock l⟩
    | ins C ds =>
      obtain ⟨dx, vs, hp, r⟩ := m
      exact ⟨dx, vs, hp, r.unlock l⟩
  lk := fun p z => R.lk p (l _ z)
  gh := fun q k ds g => by
    obtain ⟨vs, h1, ⟨s1, n⟩, r⟩ := R.gh q k ds g
    exact ⟨vs, h1, ⟨s1, fun z => n (l _ z)⟩, r.unlock l⟩
/-- a new object, locked -/
theorem StoR.lockNew {q : Addr} {o : HO} (n : H q = none) (R : StoR c L H S) : StoR c (L.add q) (L2.upd H q o) S where
  at_ := fun p m h => by
    obtain ⟨mr, nl⟩ := R.at_ p m h
    have ne : p ≠ q := fun e => by subst e; rw [(R.free n).1] at h; cases h
    have hl : ∀ p, (L.add q) p → L p ∨ H p = none := fun p z => z.elim .inl fun e => .inr (by rw [e]; exact n)
    have x : Ext H S (L2.upd H q o) S := Ext.upd n
    refine ⟨?_, fun z => z.elim nl ne⟩
    cases m with
    | lst ds =>
      obtain ⟨vs, hp, r⟩ := mr
      exact ⟨vs, by rw [upd_ne ne]; exact hp, (r.lock hl).ext x⟩
    | ins C ds =>
      obtain ⟨dx, vs, hp, r⟩ := mr
      exact ⟨dx, vs, by rw [upd_ne ne]; exact hp, (r.lock hl).ext x⟩
  lk := fun p z => by
    by_cases e : p = q
    · subst e; rw [upd_same]; simp
    · rw [upd_ne e]; exact R.lk p (z.resolve_right e)
  gh := fun b k ds g => by
    obtain ⟨vs, h1, ⟨s1, l⟩, r⟩ := R.gh b k ds g
    have hl : ∀ p, (L.add q) p → L p ∨ H p = none := fun p z => z.elim .inl fun e => .inr (by rw [e]; exact n)
    have x : Ext H S (L2.upd H q o) S := Ext.upd n
    have ne : b ≠ q := ne_of_none h1 n
    exact ⟨vs, by rw [upd_ne ne]; exact h1, ⟨s1, fun z => z.elim l ne⟩, (r.lock hl).ext x⟩
/-- the locked object is written -/
theorem StoR.lockWrite {q : Addr} {o : HO} (l : L q) (R : StoR c L H S) : StoR c L (L2.upd H q o) S where
  at_ := fun p m h => by
    obtain ⟨mr, nl⟩ := R.at_ p m h
    have ne : p ≠ q := fun e => nl (e ▸ l)
    refine ⟨?_, nl⟩
    cases m with
    | lst ds =>
      obtain ⟨vs, hp, r⟩ := mr
      exact ⟨vs, by rw [upd_ne ne]; exact hp, r.aside l (fun _ z => z) (fun p e => upd_ne e) fun _ _ => rfl⟩
    | ins C ds =>
      obtain ⟨dx, vs, hp, r⟩ := mr
      exact ⟨dx, vs, by rw [upd_ne ne]; exact hp, r.aside l (fun _ z => z) (fun p e => upd_ne e) fun _ _ => rfl⟩
  lk := fun p z => by
    by_cases e : p = q
    · subst e; rw [upd_same]; simp
    · rw [upd_ne e]; exact R.lk p z
  gh := fun b k ds g => by
    obtain ⟨vs, h1, ⟨s1, n⟩, r⟩ := R.gh b k ds g
    have ne : b ≠ q := fun e => n (e ▸ l)
    exact ⟨vs, by rw [upd_ne ne]; exact h1, ⟨s1, n⟩, r.aside l (fun _ z => z) (fun p e => upd_ne e) fun _ _ => rfl⟩
/-- the locked object is let go, as one that may change -/
theorem StoR.lockThaw {q : Addr} {m : MO} (nl : ¬ L q) (R : StoR c (L.add q) H S) (h : MR c L H (S.set q m) q m) : StoR c L H (S.set q m) where
  at_ := fun p o t => by
    by_cases e : p = q
    · subst e
      rw [Sto.set_same] at t
      cases t
      exact ⟨h, nl⟩
    · rw [Sto.set_ne e] at t
      obtain ⟨mr, n⟩ := R.at_ p o t
      refine ⟨?_, fun z => n (.inl z)⟩
      cases o with
      | lst ds =>
        obtain ⟨vs, hp, r⟩ := mr
        exact ⟨vs, hp, r.aside (q := q) (.inr rfl) (fun _ z => .inl z) (fun _ _ => rfl) fun p e => Sto.set_ne e⟩
      | ins C ds =>
        obtain ⟨dx, vs, hp, r⟩ := mr
        exact ⟨dx, vs, hp, r.aside (q := q) (.inr rfl) (fun _ z => .inl z) (fun _ _ => rfl) fun p e => Sto.set_ne e⟩
  lk := fun p z => R.lk p (.inl z)
  gh := fun b k ds g => by
    obtain ⟨vs, h1, ⟨s1, n⟩, r⟩ := R.gh b k ds g
    have ne : b ≠ q := fun e => n (.inr e)
    exact ⟨vs, h1, ⟨by rw [Sto.set_ne ne]; exact s1, fun z => n (.inl z)⟩, r.aside (q := q) (.inr rfl) (fun _ z => .inl z) (fun _ _ => rfl) fun p e => Sto.set_ne e⟩
end
end DL

namespace DL
open PySem PySem.Spec PyProof.Rows L2

abbrev DSt := List (Option D)
abbrev DQ := D → Sto → Prop
/-- an exception: its class, its fields -/
abbrev DX := Nat → List D → Sto → Prop
abbrev DT := DSt → Sto → DQ → DX → Prop
abbrev DTA := DSt → Sto → (List D → Sto → Prop) → DX → Prop
abbrev DTT := DSt → Sto → (Bool → Sto → Prop) → DX → Prop
abbrev DR1 := D → Sto → DQ → DX → Prop
abbrev DR2 := D → D → Sto → DQ → DX → Prop
abbrev DRA := List D → Sto → DQ → DX → Prop
abbrev DX0 : DX := fun _ _ _ => False

section
variable (c : Cfg) (L : Lk) (H : Hp) (S : Sto)
structure EnvR (ρ : DSt) (σ : L2.St) : Prop where
  len : ρ.length = σ.length
  at_ : ∀ (i : Nat) (d : D), ρ[i]? = some (some d) → ∃ v, σ[i]? = some (some v) ∧ Rep c L H S d v
def XRep (n : Nat) (a : Option Addr) (ds : List D) : Prop := (a = none ∧ ds = []) ∨ ∃ p vs, a = some p ∧ H p = some (.xd ((c.fl n).zip vs)) ∧ Fz L S p ∧ Reps c L H S ds vs
/-- what is wanted of a value, of a list of values, of a truth, of an exception -/
def KQ (Q : VK) (Qd : DQ) : Prop := ∀ v H' d S', Ext H S H' S' → StoR c L H' S' → Rep c L H' S' d v → Qd d S' → Q v H'
def KA (Q : List V → Hp → Prop) (Qd : List D → Sto → Prop) : Prop := ∀ vs H' ds S', Ext H S H' S' → StoR c L H' S' → Reps c L H' S' ds vs → Qd ds S' → Q vs H'
def KT (Q : Bool → Hp → Prop) (Qd : Bool → Sto → Prop) : Prop := ∀ b H' S', Ext H S H' S' → StoR c L H' S' → Qd b S' → Q b H'
def KX (E : XK) (Ed : DX) : Prop := ∀ n a H' ds S', Ext H S H' S' → StoR c L H' S' → XRep c L H' S' n a ds → Ed n ds S' → E (c.cv n) a H'
end
section
variable {c : Cfg} {L : Lk} {H H1 H2 : Hp} {S S1 S2 : Sto} {ρ : DSt} {σ : L2.St}
theorem EnvR.ext (e : Ext H S H1 S1) (s : EnvR c L H S ρ σ) : EnvR c L H1 S1 ρ σ := ⟨s.len, fun i d h => by
  obtain ⟨v, a, r⟩ := s.at_ i d h
  exact ⟨v, a, r.ext e⟩⟩
theorem EnvR.set {i : Nat} {d : D} {v : V} (s : EnvR c L H S ρ σ) (r : Rep c L H S d v) : EnvR c L H S (ρ.set i (some d)) (σ.set i (some v)) := ⟨by simp [s.len], fun j x h => by
  by_cases e : i = j
  · subst e
    have hl : i < ρ.length := by
      have := (List.getElem?_eq_some_iff.mp h).1
      simpa using this
    rw [List.getElem?_set_self hl] at h
    cases h
    exact ⟨v, List.getElem?_set_self (by rw [← s.len]; exact hl), r⟩
  · rw [List.getElem?_set_ne e] at h ⊢
    exact s.at_ j x h⟩
theorem EnvR.lock {L' : Lk} (n : ∀ p, L' p → L p ∨ H p = none) (s : EnvR c L H S ρ σ) : EnvR c L' H S ρ σ := ⟨s.len, fun i d h => by
  obtain ⟨v, a, r⟩ := s.at_ i d h
  exact ⟨v, a, r.lock n⟩⟩
theorem KQ.ext {Q : VK} {Qd : DQ} (e : Ext H S H1 S1) (k : KQ c L H S Q Qd) : KQ c L H1 S1 Q Qd := fun v H' d S' x => k v H' d S' (e.trans x)
theorem KA.ext {Q : List V → Hp → Prop} {Qd : List D → Sto → Prop} (e : Ext H S H1 S1) (k : KA c L H S Q Qd) : KA c L H1 S1 Q Qd := fun v H' d S' x => k v H' d S' (e.trans x)
theorem KT.ext {Q : Bool → Hp → Prop} {Qd : Bool → Sto → Prop} (e : Ext H S H1 S1) (k : KT c L H S Q Qd) : KT c L H1 S1 Q Qd := fun v H' S' x => k v H' S' (e.trans x)
theorem KX.ext {E : XK} {Ed : DX} (e : Ext H S H1 S1) (k : KX c L H S E Ed) : KX c L H1 S1 E Ed := fun n a H' ds S' x => k n a H' ds S' (e.trans x)
theorem KX.none : KX c L H S E0 DX0 := fun _ _ _ _ _ _ _ _ h => h
theorem KX.zero {E : XK} : KX c L H S E DX0 := fun _ _ _ _ _ _ _ _ h => h.elim
end

/-- the classes' places; the errors' classes -/
structure Cla where
  cA : Nat → Addr
  cv : Nat → Value
  fl : Nat → List Str
  gh : Option (Addr × Nat × List D) := none
abbrev cX (X : Cx) (A : Cla) : Cfg := ⟨X.K, A.cA, A.cv, A.fl, A.gh⟩
/-- the readings over data -/
def liftE (c : Cfg) (W : WX) (t : DT) : TE := fun σ H Q => ∃ ρ S L Qd Ed, EnvR c L H S ρ σ ∧ StoR c L H S ∧ t ρ S Qd Ed ∧ KQ c L H S Q Qd ∧ KX c L H S (fun k a H' => W k a σ H') Ed
def liftA (c : Cfg) (W : WX) (t : DTA) : TA := fun σ H Q => ∃ ρ S L Qd Ed, EnvR c L H S ρ σ ∧ StoR c L H S ∧ t ρ S Qd Ed ∧ KA c L H S Q Qd ∧ KX c L H S (fun k a H' => W k a σ H') Ed
def liftT (c : Cfg) (W : WX) (t : DTT) : TT := fun σ H Q => ∃ ρ S L Qd Ed, EnvR c L H S ρ σ ∧ StoR c L H S ∧ t ρ S Qd Ed ∧ KT c L H S Q Qd ∧ KX c L H S (fun k a H' => W k a σ H') Ed
/-- operators, calls, by values -/
def liftR1 (c : Cfg) (R : DR1) : V → Hp → VK → Prop := fun x H Q => ∃ S L dx Qd, StoR c L H S ∧ Rep c L H S dx x ∧ R dx S Qd DX0 ∧ KQ c L H S Q Qd
def liftR2 (c : Cfg) (R : DR2) : R2 := fun x y H Q => ∃ S L dx dy Qd, StoR c L H S ∧ Rep c L H S dx x ∧ Rep c L H S dy y ∧ R dx dy S Qd DX0 ∧ KQ c L H S Q Qd
def liftRA (c : Cfg) (R : DRA) : List V → Hp → VK → Prop := fun xs H Q => ∃ S L ds Qd, StoR c L H S ∧ Reps c L H S ds xs ∧ R ds S Qd DX0 ∧ KQ c L H S Q Qd

section
variable {X : Cx} {A : Cla} {W : WX} {e a b e3 : Expr} {es : List Expr} {pos : Pos}
theorem PE.mono {t t' : TE} (h : PE X e t) (m : ∀ σ H Q, t' σ H Q → t σ H Q) : PE X e t' := ⟨fun pins s σ H Q I q => h.run pins s σ H Q I (m σ H Q q)⟩
theorem PT.mono {t t' : TT} (h : PT X e t) (m : ∀ σ H Q, t' σ H Q → t σ H Q) : PT X e t' := ⟨fun pins s σ H Q I q => h.run pins s σ H Q I (m σ H Q q)⟩
theorem PW.mono {t t' : TT} (h : PW X e t) (m : ∀ σ H Q, t' σ H Q → t σ H Q) : PW X e t' := ⟨fun wh pins s σ H Q I q => h.run wh pins s σ H Q I (m σ H Q q)⟩
theorem PA.mono {t t' : TA} (h : PA X es t) (m : ∀ σ H Q, t' σ H Q → t σ H Q) : PA X es t' := ⟨fun p pins s σ H Q I q => h.run p pins s σ H Q I (m σ H Q q)⟩
theorem PS.mono {st : Stmt} {t t' : TS} (h : PS X st t) (m : ∀ D σ H, t' D σ H → t D σ H) : PS X st t' := ⟨fun pins s σ H D I q => h.run pins s σ H D I (m D σ H q)⟩
theorem PSs.mono {st : List Stmt} {t t' : TS} (h : PSs X st t) (m : ∀ D σ H, t' D σ H → t D σ H) : PSs X st t' := ⟨fun pins s σ H D I q => h.run pins s σ H D I (m D σ H q)⟩

/-- an expression has the reading t over data, whatever is wished of exceptions -/
abbrev DE (X : Cx) (A : Cla) (W : WX) (e : Expr) (t : DT) : Prop := PE X e (liftE (cX X A) W t)
abbrev DA (X : Cx) (A : Cla) (W : WX) (es : List Expr) (t : DTA) : Prop := PA X es (liftA (cX X A) W t)
abbrev DTst (X : Cx) (A : Cla) (W : WX) (e : Expr) (t : DTT) : Prop := PT X e (liftT (cX X A) W t)
abbrev DWst (X : Cx) (A : Cla) (W : WX) (e : Expr) (t : DTT) : Prop := PW X e (liftT (cX X A) W t)
abbrev OpD (X : Cx) (A : Cla) (f : Value → Value → Sem Value) (R : DR2) : Prop := OpR X f (liftR2 (cX X A) R)
abbrev CallD (X : Cx) (A : Cla) (f : Value) (R : DRA) : Prop := CallR X f (liftRA (cX X A) R)

/-! ### names, constants -/
def dVar (i : Nat) : DT := fun ρ S Q _ => ∃ d, ρ[i]? = some (some d) ∧ Q d S
def dCst (d : D) : DT := fun _ S Q _ => Q d S
theorem de_var {i : Nat} {x : Str} (hN : X.N[i]? = some x) (hv : Vis X.env.scope x) (hd : (x == ("__debug__" : Str)) = false) (hcd : (x == ("__classdict__" : Str)) = false) : DE X A W (.Name x pos) (dVar i) :=
  PE.mono (pe_var hN hv hd hcd) fun σ H Q ⟨ρ, S, L, Qd, Ed, sl, so, ⟨d, hd, h⟩, kq, _⟩ => by
    obtain ⟨v, e, r⟩ := sl.at_ i d hd
    exact ⟨v, e, kq v H d S .refl so r h⟩
theorem de_int {i : Int} {j : Nat} : DE X A W (.Constant (.int i) j pos) (dCst (.int i)) :=
  PE.mono pe_int fun σ H Q ⟨ρ, S, L, Qd, Ed, sl, so, h, kq, _⟩ => kq _ H _ S .refl so (by unfold Rep; rfl) h
theorem de_bl {i : Bool} {j : Nat} : DE X A W (.Constant (.bool i) j pos) (dCst (.bl i)) :=
  PE.mono pe_bl fun σ H Q ⟨ρ, S, L, Qd, Ed, sl, so, h, kq, _⟩ => kq _ H _ S .refl so (by unfold Rep; rfl) h
theorem de_non {j : Nat} : DE X A W (.Constant .none j pos) (dCst .non) :=
  PE.mono pe_non fun σ H Q ⟨ρ, S, L, Qd, Ed, sl, so, h, kq, _⟩ => kq _ H _ S .refl so (by unfold Rep; rfl) h
theorem de_str {x : Str} {j : Nat} (hx : SOk x) : DE X A W (.Constant (.str x) j pos) (dCst (.str x)) :=
  PE.mono pe_str fun σ H Q ⟨ρ, S, L, Qd, Ed, sl, so, h, kq, _⟩ => kq _ H _ S .refl so (by unfold Rep; exact ⟨rfl, hx⟩) h
/-- a constant of the module or a builtin's own name: a value that says nothing of the heap -/
def Still (d : D) (v : V) : Prop := ∀ c L H S, Rep c L H S d v
theorem de_tC {v : V} {d : D} (h : PE X e (tC v)) (st : Still d v) : DE X A W e (dCst d) :=
  PE.mono h fun σ H Q ⟨ρ, S, L, Qd, Ed, sl, so, h, kq, _⟩ => kq _ H _ S .refl so (st _ _ _ _) h

/-! ### argument lists, displays -/
def dNil : DTA := fun _ S Q _ => Q [] S
def dCons (t : DT) (u : DTA) : DTA := fun ρ S Q E => t ρ S (fun x S1 => u ρ S1 (fun xs S2 => Q (x :: xs) S2) E) E
theorem da_nil : DA X A W [] dNil := PA.mono pa_nil fun σ H Q ⟨ρ, S, L, Qd, Ed, sl, so, h, ka, _⟩ => ka [] H [] S .refl so .nil h
theorem da_cons {t : DT} {u : DTA} (h1 : DE X A W e t) (h2 : DA X A W es u) (hs : starEach (e :: es) X.env = (false, eval e X.env) :: starEach es X.env) : DA X A W (e :: es) (dCons t u) :=
  PA.mono (pa_cons h1 h2 hs) fun σ H Q ⟨ρ, S, L, Qd, Ed, sl, so, h, ka, kx⟩ =>
    ⟨ρ, S, L, _, Ed, sl, so, h, fun v H1 d S1 e1 so1 r1 q1 =>
      ⟨ρ, S1, L, _, Ed, sl.ext e1, so1, q1, fun vs H2 ds S2 e2 so2 r2 q2 => ka (v :: vs) H2 (d :: ds) S2 (e1.trans e2) so2 (.cons (r1.ext e2) r2) q2, kx.ext e1⟩, kx⟩
/-- a new list: frozen, or one that may change -/
def mkL (m : Bool) (ds : List D) (S : Sto) (Q : DQ) : Prop := if m = true then ∀ p, S p = none → Q (.ref p) (S.set p (.lst ds)) else Q (.lst ds) S
theorem mkL_ok {c : Cfg} {L : Lk} {H : Hp} {S : Sto} {m : Bool} {ds : List D} {vs : List V} {Q : VK} {Qd : DQ} (h : mkL m ds S Qd) (kq : KQ c L H S Q Qd) (so : StoR c L H S) (r : Reps c L H S ds vs) :
    ∀ p, H p = none → Q (.ref p) (upd H p (.lst vs)) := fun p hp => by
  have fr := so.free hp
  cases m with
  | true =>
    have h' := h
    unfold mkL at h'
    rw [if_pos rfl] at h'
    have x : Ext H S (upd H p (.lst vs)) (S.set p (.lst ds)) := Ext.new hp
    exact kq _ _ _ _ x (so.new hp ⟨vs, upd_same, r.ext x⟩) (by unfold Rep; rfl) (h' p fr.1)
  | false =>
    have h' : Qd (.lst ds) S := h
    have x : Ext H S (upd H p (.lst vs)) S := Ext.upd hp
    exact kq _ _ _ _ x (so.upd hp) (by unfold Rep; exact ⟨p, vs, rfl, upd_same, ⟨fr.1, fr.2⟩, r.ext x⟩) h'
theorem mkT_ok {c : Cfg} {L : Lk} {H : Hp} {S : Sto} {ds : List D} {vs : List V} {Q : VK} {Qd : DQ} (h : Qd (.tup ds) S) (kq : KQ c L H S Q Qd) (so : StoR c L H S) (r : Reps c L H S ds vs) :
    ∀ p, H p = none → Q (.ref p) (upd H p (.tup vs)) := fun p hp => by
  have fr := so.free hp
  have x : Ext H S (upd H p (.tup vs)) S := Ext.upd hp
  exact kq _ _ _ _ x (so.upd hp) (by unfold Rep; exact ⟨p, vs, rfl, .inl ⟨.inl upd_same, fr.1, fr.2⟩, r.ext x⟩) h
def dLst (m : Bool) (t : DTA) : DT := fun ρ S Q E => t ρ S (fun ds S1 => ds.length ≤ sizeLine ∧ mkL m ds S1 Q) E
def dTup (t : DTA) : DT := fun ρ S Q E => t ρ S (fun ds S1 => ds.length ≤ sizeLine ∧ Q (.tup ds) S1) E
theorem de_lst {m : Bool} {t : DTA} (h : DA X A W es t) : DE X A W (.List es pos) (dLst m t) :=
  PE.mono (pe_lst h) fun σ H Q ⟨ρ, S, L, Qd, Ed, sl, so, h, kq, kx⟩ =>
    ⟨ρ, S, L, _, Ed, sl, so, h, fun vs H1 ds S1 e1 so1 r1 ⟨z, q1⟩ => ⟨by rw [r1.length]; exact z, mkL_ok q1 (kq.ext e1) so1 r1⟩, kx⟩
theorem de_tup {k : Nat} {t : DTA} (h : DA X A W es t) : DE X A W (.Tuple es k pos) (dTup t) :=
  PE.mono (pe_tup h) fun σ H Q ⟨ρ, S, L, Qd, Ed, sl, so, h, kq, kx⟩ =>
    ⟨ρ, S, L, _, Ed, sl, so, h, fun vs H1 ds S1 e1 so1 r1 ⟨z, q1⟩ => ⟨by rw [r1.length]; exact z, mkT_ok q1 (kq.ext e1) so1 r1⟩, kx⟩

/-! ### operators -/
def dOp (R : DR2) (t u : DT) : DT := fun ρ S Q E => t ρ S (fun x S1 => u ρ S1 (fun y S2 => R x y S2 Q DX0) E) E
theorem tOp_lift {t u : DT} {R : DR2} {σ : L2.St} {H : Hp} {Q : VK} (h : liftE (cX X A) W (dOp R t u) σ H Q) : tOp (liftR2 (cX X A) R) (liftE (cX X A) W t) (liftE (cX X A) W u) σ H Q := by
  obtain ⟨ρ, S, L, Qd, Ed, sl, so, h, kq, kx⟩ := h
  exact ⟨ρ, S, L, _, Ed, sl, so, h, fun v H1 d S1 e1 so1 r1 q1 => ⟨ρ, S1, L, _, Ed, sl.ext e1, so1, q1, fun w H2 d2 S2 e2 so2 r2 q2 =>
    ⟨S2, L, d, d2, Qd, so2, r1.ext e2, r2, q2, kq.ext (e1.trans e2)⟩, kx.ext e1⟩, kx⟩
theorem de_op {op : Operator} {t u : DT} {R : DR2} (o : OpD X A (binaryOp op) R) (ha : DE X A W a t) (hb : DE X A W b u) : DE X A W (.BinOp a op b pos) (dOp R t u) := PE.mono (pe_op o ha hb) fun _ _ _ => tOp_lift
theorem de_cmp {op : CmpOp} {t u : DT} {R : DR2} (o : OpD X A (compareOp op) R) (ha : DE X A W a t) (hb : DE X A W b u) (hm : behindInMarks op b = false) : DE X A W (.Compare a [op] [b] pos) (dOp R t u) := PE.mono (pe_cmpR o ha hb hm) fun _ _ _ => tOp_lift
def dUn (R : DR1) (t : DT) : DT := fun ρ S Q E => t ρ S (fun x S1 => R x S1 Q DX0) E
theorem de_un {op : UnaryOp} {t : DT} {R : DR1} (o : UnR X (unaryOp op) (liftR1 (cX X A) R)) (ha : DE X A W a t) : DE X A W (.UnaryOp op a pos) (dUn R t) := by
  refine PE.mono (t := tUn (liftR1 (cX X A) R) (liftE (cX X A) W t)) ?_ fun σ H Q ⟨ρ, S, L, Qd, Ed, sl, so, h, kq, kx⟩ =>
    ⟨ρ, S, L, _, Ed, sl, so, h, fun v H1 d S1 e1 so1 r1 q1 => ⟨S1, L, d, Qd, so1, r1, q1, kq.ext e1⟩, kx⟩
  exact pe_un o ha
/-- a chain of two comparisons -/
def dChain (R R' : DR2) (t u w : DT) : DT := fun ρ S Q E => t ρ S (fun x S1 => u ρ S1 (fun y S2 => R x y S2 (fun z S3 => ∃ k, z = .bl k ∧ (if k = true then w ρ S3 (fun v S4 => R' y v S4 Q DX0) E else Q (.bl false) S3)) DX0) E) E
theorem tChain_lift {t u w : DT} {R R' : DR2} {σ : L2.St} {H : Hp} {Q : VK} (h : liftE (cX X A) W (dChain R R' t u w) σ H Q) : tChain (liftR2 (cX X A) R) (liftR2 (cX X A) R') (liftE (cX X A) W t) (liftE (cX X A) W u) (liftE (cX X A) W w) σ H Q := by
  obtain ⟨ρ, S, L, Qd, Ed, sl, so, h, kq, kx⟩ := h
  refine ⟨ρ, S, L, _, Ed, sl, so, h, fun v H1 d S1 e1 so1 r1 q1 => ⟨ρ, S1, L, _, Ed, sl.ext e1, so1, q1, fun v2 H2 d2 S2 e2 so2 r2 q2 =>
    ⟨S2, L, d, d2, _, so2, r1.ext e2, r2, q2, fun z H3 d3 S3 e3 so3 r3 q3 => ?_⟩, kx.ext e1⟩, kx⟩
  obtain ⟨k, ez, q3⟩ := q3
  subst ez
  have ez : z = V.bl k := by unfold Rep at r3; exact r3
  refine ⟨k, ez, ?_⟩
  cases k with
  | true =>
    rw [if_pos rfl] at q3 ⊢
    have x3 := (e1.trans e2).trans e3
    exact ⟨ρ, S3, L, _, Ed, sl.ext x3, so3, q3, fun v4 H4 d4 S4 e4 so4 r4 q4 => ⟨S4, L, d2, d4, Qd, so4, (r2.ext e3).ext e4, r4, q4, kq.ext (x3.trans e4)⟩, kx.ext x3⟩
  | false =>
    rw [if_neg Bool.false_ne_true] at q3 ⊢
    exact kq _ _ _ _ ((e1.trans e2).trans e3) so3 (by unfold Rep; rfl) q3
end
end DL

namespace DL
open PySem PySem.Spec PyProof.Rows L2

/-! ### truth -/
def truth (S : Sto) : D → Option Bool
  | .non => some false
  | .bl b => some b
  | .int i => some (i != 0)
  | .str x => some ((x.length : Int) != 0)
  | .tup xs => some (!xs.isEmpty)
  | .lst xs => some (!xs.isEmpty)
  | .cst xs => some (!xs.isEmpty)
  | .ref p => match S p with
    | some (.lst xs) => some (!xs.isEmpty)
    | _ => none
  | _ => none
section
variable {c : Cfg} {L : Lk} {H H1 H2 : Hp} {S S1 S2 : Sto}
theorem FT.sq {p : Addr} {vs : List V} : FT c L H S p vs → SqT c.K H p vs
  | .inl h => .inl h.1
  | .inr (.inl (.inl h)) => by cases h
  | .inr (.inl (.inr ⟨o, h⟩)) => by cases h
  | .inr (.inr h) => .inr h
theorem FL.sq {p : Addr} {vs : List V} : FL c L H S p vs → SqL c.K H p vs
  | .inl h => .inl h.1
  | .inr (.inl (.inl h)) => by cases h
  | .inr (.inl (.inr ⟨o, h⟩)) => by cases h
  | .inr (.inr h) => .inr h
theorem Reps.isEmpty {ds : List D} {vs : List V} (r : Reps c L H S ds vs) : vs.isEmpty = ds.isEmpty := by
  cases ds with
  | nil => rw [r.of_nil]; rfl
  | cons d ds =>
    obtain ⟨v, ws, ev, _, _⟩ := r.of_cons
    subst ev
    rfl
theorem truth_ok {d : D} {v : V} {k : Bool} (so : StoR c L H S) (r : Rep c L H S d v) (h : truth S d = some k) : TruV c.K v H k := by
  cases d with
  | non => unfold Rep at r; subst r; cases h; rfl
  | bl b => unfold Rep at r; subst r; cases h; rfl
  | int i => unfold Rep at r; subst r; cases h; rfl
  | str x => unfold Rep at r; obtain ⟨r, z⟩ := r; subst r; cases h; exact ⟨z.1, rfl⟩
  | ty n => cases h
  | rp p => cases h
  | ins C ds => cases h
  | tup ds =>
    unfold Rep at r
    obtain ⟨p, vs, ev, f, rs⟩ := r
    subst ev
    cases h
    exact .inr (.inl ⟨vs, f.sq, by rw [rs.isEmpty]⟩)
  | lst ds =>
    unfold Rep at r
    obtain ⟨p, vs, ev, f, _, rs⟩ := r
    subst ev
    cases h
    exact .inl ⟨vs, SqL.of f, by rw [rs.isEmpty]⟩
  | cst ds =>
    unfold Rep at r
    obtain ⟨p, vs, ev, f, rs⟩ := r
    subst ev
    cases h
    exact .inl ⟨vs, f.sq, by rw [rs.isEmpty]⟩
  | ref p =>
    unfold Rep at r
    subst r
    have h : (match S p with | some (.lst xs) => some (!xs.isEmpty) | _ => none) = some k := h
    cases s : S p with
    | none => rw [s] at h; cases h
    | some o =>
      rw [s] at h
      cases o with
      | ins C ds => cases h
      | lst ds =>
        cases h
        obtain ⟨⟨vs, hp, rs⟩, _⟩ := so.at_ p _ s
        exact .inl ⟨vs, SqL.of hp, by rw [rs.isEmpty]⟩
end

section
variable {X : Cx} {A : Cla} {W : WX} {e a b e3 : Expr} {es rest : List Expr} {pos : Pos} {t u w : DT}
/-- an expression as a test -/
def dTst (t : DT) : DTT := fun ρ S Q E => t ρ S (fun x S1 => ∃ k, truth S1 x = some k ∧ Q k S1) E
theorem dt_val (h : DE X A W e t) (he : ∀ whole, isTrue e X.env whole = (do let v ← whole; standAt e.pos; holding [v] (truthy v))) : DTst X A W e (dTst t) :=
  PT.mono (pt_truth h he) fun σ H Q ⟨ρ, S, L, Qd, Ed, sl, so, h, kq, kx⟩ =>
    ⟨ρ, S, L, _, Ed, sl, so, h, fun v H1 d S1 e1 so1 r1 ⟨k, tk, q1⟩ => ⟨k, truth_ok so1 r1 tk, kq k H1 S1 e1 so1 q1⟩, kx⟩
/-- a comparison as a test: whatever it gives, by its truth -/
theorem pt_cmpT {op : CmpOp} {r : R2} {ta tb : TE} (ho : OpR X (compareOp op) r) (ha : PE X a ta) (hb : PE X b tb) (hm : behindInMarks op b = false) :
    PT X (.Compare a [op] [b] pos) (fun σ H Q => tOp r ta tb σ H fun x H' => ∃ k, TruV X.K x H' k ∧ Q k H') := by
  refine ⟨fun pins s σ H Q I h => ?_⟩
  exact wpAny_isTrue_Compare1 (thn (ha.run pins s σ H _ I h) fun v s1 ⟨x, H1, I1, r1, q1⟩ => thn (hb.run pins s1 σ H1 _ I1 q1) fun u s2 ⟨y, H2, I2, r2, q2⟩ =>
    thn (ho pins s2 σ H2 x y v u _ I2 r1 r2 q2) fun c s3 ⟨z, H3, I3, r3, k, e, q3⟩ => tru_ok pins s3 σ H3 z c Q I3 r3 ⟨k, e, q3⟩) hm
theorem dt_cmp {op : CmpOp} {R : DR2} (o : OpD X A (compareOp op) R) (ha : DE X A W a t) (hb : DE X A W b u) (hm : behindInMarks op b = false) : DTst X A W (.Compare a [op] [b] pos) (dTst (dOp R t u)) :=
  PT.mono (pt_cmpT o ha hb hm) fun σ H Q ⟨ρ, S, L, Qd, Ed, sl, so, h, kq, kx⟩ =>
    tOp_lift ⟨ρ, S, L, _, Ed, sl, so, h, fun v H1 d S1 e1 so1 r1 ⟨k, tk, q1⟩ => ⟨k, truth_ok so1 r1 tk, kq k H1 S1 e1 so1 q1⟩, kx⟩
theorem de_chain {op op' : CmpOp} {R R' : DR2} (o : OpD X A (compareOp op) R) (o' : OpD X A (compareOp op') R') (ha : DE X A W a t) (hb : DE X A W b u) (hc : DE X A W e3 w) (hm : lastMarks [op, op'] [b, e3] = false) :
    DE X A W (.Compare a [op, op'] [b, e3] pos) (dChain R R' t u w) := PE.mono (pe_chain o o' ha hb hc hm) fun _ _ _ => tChain_lift
/-- a chain as a test gives a truth -/
def dBl (t : DT) : DT := fun ρ S Q E => t ρ S (fun x S1 => ∃ k, x = .bl k ∧ Q x S1) E
theorem dt_chain {op op' : CmpOp} {R R' : DR2} (o : OpD X A (compareOp op) R) (o' : OpD X A (compareOp op') R') (ha : DE X A W a t) (hb : DE X A W b u) (hc : DE X A W e3 w) (hm : lastMarks [op, op'] [b, e3] = false) :
    DTst X A W (.Compare a [op, op'] [b, e3] pos) (dTst (dBl (dChain R R' t u w))) :=
  PT.mono (pt_chain o o' ha hb hc hm) fun σ H Q ⟨ρ, S, L, Qd, Ed, sl, so, h, kq, kx⟩ =>
    tChain_lift ⟨ρ, S, L, _, Ed, sl, so, h, fun v H1 d S1 e1 so1 r1 ⟨k, ed, k', tk, q1⟩ => by
      subst ed
      cases tk
      unfold Rep at r1
      exact ⟨k, r1, kq k H1 S1 e1 so1 q1⟩, kx⟩

/-! ### and, or, not -/
def dAnd (t u : DT) : DT := fun ρ S Q E => t ρ S (fun x S1 => ∃ k, truth S1 x = some k ∧ if k = true then u ρ S1 Q E else Q x S1) E
def dOr (t u : DT) : DT := fun ρ S Q E => t ρ S (fun x S1 => ∃ k, truth S1 x = some k ∧ if k = true then Q x S1 else u ρ S1 Q E) E
def dNot (t : DT) : DT := fun ρ S Q E => t ρ S (fun x S1 => ∃ k, truth S1 x = some k ∧ Q (.bl (!k)) S1) E
def dIf (c t u : DT) : DT := fun ρ S Q E => c ρ S (fun x S1 => ∃ k, truth S1 x = some k ∧ if k = true then t ρ S1 Q E else u ρ S1 Q E) E
theorem de_and (ha : DE X A W a t) (hb : DE X A W (.BoolOp .And (b :: rest) pos) u) : DE X A W (.BoolOp .And (a :: b :: rest) pos) (dAnd t u) :=
  PE.mono (pe_andT ha hb) fun σ H Q ⟨ρ, S, L, Qd, Ed, sl, so, h, kq, kx⟩ =>
    ⟨ρ, S, L, _, Ed, sl, so, h, fun v H1 d S1 e1 so1 r1 ⟨k, tk, q1⟩ => ⟨k, truth_ok so1 r1 tk, by
      cases k with
      | true => exact ⟨ρ, S1, L, Qd, Ed, sl.ext e1, so1, q1, kq.ext e1, kx.ext e1⟩
      | false => exact kq v H1 d S1 e1 so1 r1 q1⟩, kx⟩
theorem de_or (ha : DE X A W a t) (hb : DE X A W (.BoolOp .Or (b :: rest) pos) u) : DE X A W (.BoolOp .Or (a :: b :: rest) pos) (dOr t u) :=
  PE.mono (pe_orT ha hb) fun σ H Q ⟨ρ, S, L, Qd, Ed, sl, so, h, kq, kx⟩ =>
    ⟨ρ, S, L, _, Ed, sl, so, h, fun v H1 d S1 e1 so1 r1 ⟨k, tk, q1⟩ => ⟨k, truth_ok so1 r1 tk, by
      cases k with
      | true => exact kq v H1 d S1 e1 so1 r1 q1
      | false => exact ⟨ρ, S1, L, Qd, Ed, sl.ext e1, so1, q1, kq.ext e1, kx.ext e1⟩⟩, kx⟩
theorem de_one {op : BoolOp} (h : DE X A W a t) : DE X A W (.BoolOp op [a] pos) t := pe_one h
theorem de_not (ha : DE X A W a t) : DE X A W (.UnaryOp .Not a pos) (dNot t) :=
  PE.mono (pe_notT ha) fun σ H Q ⟨ρ, S, L, Qd, Ed, sl, so, h, kq, kx⟩ =>
    ⟨ρ, S, L, _, Ed, sl, so, h, fun v H1 d S1 e1 so1 r1 ⟨k, tk, q1⟩ => ⟨k, truth_ok so1 r1 tk, kq _ H1 _ S1 e1 so1 (by unfold Rep; rfl) q1⟩, kx⟩
theorem dt_not (ha : DTst X A W a (dTst t)) : DTst X A W (.UnaryOp .Not a pos) (dTst (dNot t)) :=
  PT.mono (pt_not ha) fun σ H Q ⟨ρ, S, L, Qd, Ed, sl, so, h, kq, kx⟩ =>
    ⟨ρ, S, L, fun k S1 => Qd (!k) S1, Ed, sl, so, by
      have h : t ρ S (fun x S1 => ∃ k, truth S1 x = some k ∧ ∃ k', some (!k) = some k' ∧ Qd k' S1) Ed := h
      have e : (fun (x : D) (S1 : Sto) => ∃ k, truth S1 x = some k ∧ ∃ k', some (!k) = some k' ∧ Qd k' S1) = (fun x S1 => ∃ k, truth S1 x = some k ∧ Qd (!k) S1) := by
        funext x S1
        apply propext
        constructor
        · rintro ⟨k, h1, k', h2, h3⟩
          cases h2
          exact ⟨k, h1, h3⟩
        · rintro ⟨k, h1, h3⟩
          exact ⟨k, h1, _, rfl, h3⟩
      rw [e] at h
      exact h, fun k H1 S1 e1 so1 q1 => kq _ H1 S1 e1 so1 q1, kx⟩
/-- and, or as tests -/
theorem dTst_and : dTst (dAnd t u) = fun ρ S Q E => t ρ S (fun x S1 => ∃ k, truth S1 x = some k ∧ if k = true then dTst u ρ S1 Q E else Q false S1) E := by
  funext ρ S Q E
  show t ρ S _ E = t ρ S _ E
  congr 1
  funext x S1
  apply propext
  constructor
  · rintro ⟨k, h1, h2⟩
    refine ⟨k, h1, ?_⟩
    cases k with
    | true => exact h2
    | false =>
      obtain ⟨k', e, q⟩ := h2
      rw [h1] at e
      cases e
      exact q
  · rintro ⟨k, h1, h2⟩
    refine ⟨k, h1, ?_⟩
    cases k with
    | true => exact h2
    | false => exact ⟨false, h1, h2⟩
theorem dTst_or : dTst (dOr t u) = fun ρ S Q E => t ρ S (fun x S1 => ∃ k, truth S1 x = some k ∧ if k = true then Q true S1 else dTst u ρ S1 Q E) E := by
  funext ρ S Q E
  show t ρ S _ E = t ρ S _ E
  congr 1
  funext x S1
  apply propext
  constructor
  · rintro ⟨k, h1, h2⟩
    refine ⟨k, h1, ?_⟩
    cases k with
    | false => exact h2
    | true =>
      obtain ⟨k', e, q⟩ := h2
      rw [h1] at e
      cases e
      exact q
  · rintro ⟨k, h1, h2⟩
    refine ⟨k, h1, ?_⟩
    cases k with
    | false => exact h2
    | true => exact ⟨true, h1, h2⟩
theorem dw_and (ha : DTst X A W a (dTst t)) (hb : DWst X A W (.BoolOp .And (b :: rest) pos) (dTst u)) : DWst X A W (.BoolOp .And (a :: b :: rest) pos) (dTst (dAnd t u)) :=
  PW.mono (pw_and ha hb) fun σ H Q ⟨ρ, S, L, Qd, Ed, sl, so, h, kq, kx⟩ => by
    rw [dTst_and] at h
    refine ⟨ρ, S, L, fun k S1 => if k = true then dTst u ρ S1 Qd Ed else Qd false S1, Ed, sl, so, h, fun k H1 S1 e1 so1 q1 => ?_, kx⟩
    cases k with
    | true => exact ⟨ρ, S1, L, Qd, Ed, sl.ext e1, so1, q1, kq.ext e1, kx.ext e1⟩
    | false => exact kq false H1 S1 e1 so1 q1
theorem dw_or (ha : DTst X A W a (dTst t)) (hb : DWst X A W (.BoolOp .Or (b :: rest) pos) (dTst u)) : DWst X A W (.BoolOp .Or (a :: b :: rest) pos) (dTst (dOr t u)) :=
  PW.mono (pw_or ha hb) fun σ H Q ⟨ρ, S, L, Qd, Ed, sl, so, h, kq, kx⟩ => by
    rw [dTst_or] at h
    refine ⟨ρ, S, L, fun k S1 => if k = true then Qd true S1 else dTst u ρ S1 Qd Ed, Ed, sl, so, h, fun k H1 S1 e1 so1 q1 => ?_, kx⟩
    cases k with
    | false => exact ⟨ρ, S1, L, Qd, Ed, sl.ext e1, so1, q1, kq.ext e1, kx.ext e1⟩
    | true => exact kq true H1 S1 e1 so1 q1
theorem dw_and1 (ha : DTst X A W a (dTst t)) : DWst X A W (.BoolOp .And [a] pos) (dTst t) := pw_and1 ha
theorem dw_or1 (ha : DTst X A W a (dTst t)) : DWst X A W (.BoolOp .Or [a] pos) (dTst t) := pw_or1 ha
theorem dt_w (h : DWst X A W e (dTst t)) : DTst X A W e (dTst t) := PW.pt h
theorem de_if {b2 : Expr} {tc : DT} (hc : DTst X A W e3 (dTst tc)) (ha : DE X A W a t) (hb : DE X A W b2 u) : DE X A W (.IfExp e3 a b2 pos) (dIf tc t u) :=
  PE.mono (pe_ifExp hc ha hb) fun σ H Q ⟨ρ, S, L, Qd, Ed, sl, so, h, kq, kx⟩ =>
    ⟨ρ, S, L, fun k S1 => if k = true then t ρ S1 Qd Ed else u ρ S1 Qd Ed, Ed, sl, so, h, fun k H1 S1 e1 so1 q1 => by
      cases k with
      | true => exact ⟨ρ, S1, L, Qd, Ed, sl.ext e1, so1, q1, kq.ext e1, kx.ext e1⟩
      | false => exact ⟨ρ, S1, L, Qd, Ed, sl.ext e1, so1, q1, kq.ext e1, kx.ext e1⟩, kx⟩
end
end DL

namespace DL
open PySem PySem.Spec PyProof.Rows L2

abbrev DP := DSt → Sto → Prop
/-- what is wanted behind a statement, over data -/
structure DEnds where
  nx : DP
  rt : DQ
  bk : DP := fun _ _ => False
  ct : DP := fun _ _ => False
  xx : DSt → DX := fun _ => DX0
abbrev DTS := DEnds → DSt → Sto → Prop
abbrev DTG := D → DSt → Sto → DP → DX → Prop
abbrev DTGs := List D → DSt → Sto → DP → DX → Prop
section
variable (c : Cfg) (L : Lk) (H : Hp) (S : Sto)
def KP (Q : L2.St → Hp → Prop) (Qd : DP) : Prop := ∀ σ' H' ρ' S', Ext H S H' S' → StoR c L H' S' → EnvR c L H' S' ρ' σ' → Qd ρ' S' → Q σ' H'
def KXs (W : WX) (E : DSt → DX) : Prop := ∀ n a σ' H' ρ' ds S', Ext H S H' S' → StoR c L H' S' → EnvR c L H' S' ρ' σ' → XRep c L H' S' n a ds → E ρ' n ds S' → W (c.cv n) a σ' H'
structure KS (W : WX) (D : Ends) (DD : DEnds) : Prop where
  nx : KP c L H S D.nx DD.nx
  rt : KQ c L H S D.rt DD.rt
  bk : KP c L H S D.bk DD.bk
  ct : KP c L H S D.ct DD.ct
  xx : KXs c L H S W DD.xx
end
section
variable {c : Cfg} {L : Lk} {H H1 H2 : Hp} {S S1 S2 : Sto} {ρ : DSt} {σ : L2.St}
theorem KP.ext {Q : L2.St → Hp → Prop} {Qd : DP} (e : Ext H S H1 S1) (k : KP c L H S Q Qd) : KP c L H1 S1 Q Qd := fun v H' d S' x => k v H' d S' (e.trans x)
theorem KXs.ext {W : WX} {E : DSt → DX} (e : Ext H S H1 S1) (k : KXs c L H S W E) : KXs c L H1 S1 W E := fun n a σ' H' ρ' ds S' x => k n a σ' H' ρ' ds S' (e.trans x)
theorem KS.ext {W : WX} {D : Ends} {DD : DEnds} (e : Ext H S H1 S1) (k : KS c L H S W D DD) : KS c L H1 S1 W D DD := ⟨k.nx.ext e, k.rt.ext e, k.bk.ext e, k.ct.ext e, k.xx.ext e⟩
/-- at the slots as they stand -/
theorem KXs.at_ {W : WX} {E : DSt → DX} (k : KXs c L H S W E) (sl : EnvR c L H S ρ σ) : KX c L H S (fun n a H' => W n a σ H') (E ρ) := fun n a H' ds S' x so r e => k n a σ H' ρ ds S' x so (sl.ext x) r e
end
def liftS (c : Cfg) (W : WX) (t : DTS) : TS := fun D σ H => ∃ ρ S L DD, EnvR c L H S ρ σ ∧ StoR c L H S ∧ t DD ρ S ∧ KS c L H S W D DD
def liftG (c : Cfg) (W : WX) (g : DTG) : TG := fun v σ H Q => ∃ ρ S L d Qd Ed, EnvR c L H S ρ σ ∧ StoR c L H S ∧ Rep c L H S d v ∧ g d ρ S Qd Ed ∧ KP c L H S Q Qd ∧ KX c L H S (fun n a H' => W n a σ H') Ed
def liftGs (c : Cfg) (W : WX) (g : DTGs) : TGs := fun vs σ H Q => ∃ ρ S L ds Qd Ed, EnvR c L H S ρ σ ∧ StoR c L H S ∧ Reps c L H S ds vs ∧ g ds ρ S Qd Ed ∧ KP c L H S Q Qd ∧ KX c L H S (fun n a H' => W n a σ H') Ed

section
variable {X : Cx} {A : Cla} {W : WX} {e a b e3 : Expr} {es : List Expr} {st : Stmt} {rest sts body orelse : List Stmt} {pos : Pos} {t u w : DTS} {te : DT}
abbrev DStm (X : Cx) (A : Cla) (W : WX) (st : Stmt) (t : DTS) : Prop := PS X st (liftS (cX X A) W t)
abbrev DStms (X : Cx) (A : Cla) (W : WX) (sts : List Stmt) (t : DTS) : Prop := PSs X sts (liftS (cX X A) W t)
abbrev DTgt (X : Cx) (A : Cla) (W : WX) (e : Expr) (g : DTG) : Prop := PG X e (liftG (cX X A) W g)
abbrev DTgts (X : Cx) (A : Cla) (W : WX) (es : List Expr) (g : DTGs) : Prop := PGs X es (liftGs (cX X A) W g)
theorem PG.mono {t t' : TG} (h : PG X e t) (m : ∀ v σ H Q, t' v σ H Q → t v σ H Q) : PG X e t' := ⟨fun pins s σ H v u Q I r q => h.run pins s σ H v u Q I r (m v σ H Q q)⟩
theorem PGs.mono {t t' : TGs} (h : PGs X es t) (m : ∀ v σ H Q, t' v σ H Q → t v σ H Q) : PGs X es t' := ⟨fun pins s σ H v u Q I r q => h.run pins s σ H v u Q I r (m v σ H Q q)⟩

/-! ### blocks -/
def sNext : DTS := fun D ρ S => D.nx ρ S
def sSeq (t u : DTS) : DTS := fun D ρ S => t { D with nx := u D } ρ S
theorem ds_nil : DStms X A W [] sNext := PSs.mono pss_nil fun D σ H ⟨ρ, S, L, DD, sl, so, h, k⟩ => k.nx σ H ρ S .refl so sl h
theorem ds_cons (h1 : DStm X A W st t) (h2 : DStms X A W rest u) : DStms X A W (st :: rest) (sSeq t u) :=
  PSs.mono (pss_cons h1 h2) fun D σ H ⟨ρ, S, L, DD, sl, so, h, k⟩ =>
    ⟨ρ, S, L, { DD with nx := u DD }, sl, so, h, ⟨fun σ' H' ρ' S' x so' sl' q => ⟨ρ', S', L, DD, sl', so', q, k.ext x⟩, k.rt, k.bk, k.ct, k.xx⟩⟩
def sPass : DTS := sNext
theorem ds_pass : DStm X A W (.Pass pos) sNext := PS.mono ps_pass fun D σ H ⟨ρ, S, L, DD, sl, so, h, k⟩ => k.nx σ H ρ S .refl so sl h
def sBreak : DTS := fun D ρ S => D.bk ρ S
def sCont : DTS := fun D ρ S => D.ct ρ S
theorem ds_break : DStm X A W (.Break pos) sBreak := PS.mono ps_break fun D σ H ⟨ρ, S, L, DD, sl, so, h, k⟩ => k.bk σ H ρ S .refl so sl h
theorem ds_continue : DStm X A W (.Continue pos) sCont := PS.mono ps_continue fun D σ H ⟨ρ, S, L, DD, sl, so, h, k⟩ => k.ct σ H ρ S .refl so sl h
theorem ds_doc {x : Str} {j : Nat} {p : Pos} : DStm X A W (.Expr (.Constant (.str x) j p) pos) sNext := PS.mono ps_doc fun D σ H ⟨ρ, S, L, DD, sl, so, h, k⟩ => k.nx σ H ρ S .refl so sl h
def sDrop (t : DT) : DTS := fun D ρ S => t ρ S (fun _ S1 => D.nx ρ S1) (D.xx ρ)
def sRet (t : DT) : DTS := fun D ρ S => t ρ S D.rt (D.xx ρ)
theorem ds_expr (he : DE X A W e te) (hs : swapsWith e none pos.line X.env = pure false) : DStm X A W (.Expr e pos) (sDrop te) :=
  PS.mono (ps_expr he hs) fun D σ H ⟨ρ, S, L, DD, sl, so, h, k⟩ =>
    ⟨ρ, S, L, _, _, sl, so, h, fun v H1 d S1 e1 so1 r1 q1 => k.nx σ H1 ρ S1 e1 so1 (sl.ext e1) q1, k.xx.at_ sl⟩
theorem ds_ret (he : DE X A W e te) : DStm X A W (.Return (some e) pos) (sRet te) :=
  PS.mono (ps_ret he) fun D σ H ⟨ρ, S, L, DD, sl, so, h, k⟩ => ⟨ρ, S, L, _, _, sl, so, h, k.rt, k.xx.at_ sl⟩
def sRetN : DTS := fun D _ S => D.rt .non S
theorem ds_retN : DStm X A W (.Return none pos) sRetN := PS.mono ps_retN fun D σ H ⟨ρ, S, L, DD, sl, so, h, k⟩ => k.rt _ H _ S .refl so (by unfold Rep; rfl) h
def sIf (tc : DT) (t u : DTS) : DTS := fun D ρ S => tc ρ S (fun x S1 => ∃ k, truth S1 x = some k ∧ if k = true then t D ρ S1 else u D ρ S1) (D.xx ρ)
theorem ds_if {tc : DT} {p q : List Stmt} (hc : DTst X A W e (dTst tc)) (ha : DStms X A W p t) (hb : DStms X A W q u) : DStm X A W (.If e p q pos) (sIf tc t u) :=
  PS.mono (ps_if hc ha hb) fun D σ H ⟨ρ, S, L, DD, sl, so, h, k⟩ =>
    ⟨ρ, S, L, fun k S1 => if k = true then t DD ρ S1 else u DD ρ S1, _, sl, so, h, fun b H1 S1 e1 so1 q1 => by
      cases b with
      | true => exact ⟨ρ, S1, L, DD, sl.ext e1, so1, q1, k.ext e1⟩
      | false => exact ⟨ρ, S1, L, DD, sl.ext e1, so1, q1, k.ext e1⟩, k.xx.at_ sl⟩
def sNever : DTS := fun _ _ _ => False
theorem ds_never : DStm X A W st sNever := PS.mono ps_never fun D σ H ⟨_, _, _, _, _, _, h, _⟩ => h

/-! ### targets -/
def gNm (i : Nat) : DTG := fun d ρ S Q _ => Q (ρ.set i (some d)) S
theorem dg_name {i : Nat} {x : Str} (hN : X.N.Nodup) (hi : X.N[i]? = some x) (hx : Loc X.env.scope x) (hf : X.fn x = true ∨ X.env.scope.names.lookup x = some .local) : DTgt X A W (.Name x pos) (gNm i) :=
  PG.mono (pg_name hN hi hx hf) fun v σ H Q ⟨ρ, S, L, d, Qd, Ed, sl, so, r, h, kp, _⟩ => kp _ H _ S .refl so (sl.set r) h
def gsNil : DTGs := fun ds ρ S Q _ => ds = [] ∧ Q ρ S
def gsCons (g : DTG) (gs : DTGs) : DTGs := fun ds ρ S Q E => ∃ d r, ds = d :: r ∧ g d ρ S (fun ρ1 S1 => gs r ρ1 S1 Q E) E
/-- targets that cannot raise -/
theorem dgs_nil : DTgts X A W [] gsNil := PGs.mono pgs_nil fun vs σ H Q ⟨ρ, S, L, ds, Qd, Ed, sl, so, r, ⟨e, h⟩, kp, _⟩ => by
  subst e
  exact ⟨r.of_nil, kp σ H ρ S .refl so sl h⟩
def gPlain (g : DTG) : Prop := ∀ d ρ S Q E, g d ρ S Q E → g d ρ S Q DX0
def gsPlain (g : DTGs) : Prop := ∀ d ρ S Q E, g d ρ S Q E → g d ρ S Q DX0
theorem dgs_cons {g : DTG} {gs : DTGs} (h1 : DTgt X A W e g) (h2 : DTgts X A W es gs) (p1 : gPlain g) (p2 : gsPlain gs) (hs : (assignEach (e :: es) X.env).map (·.2) = assign e X.env :: (assignEach es X.env).map (·.2)) : DTgts X A W (e :: es) (gsCons g gs) :=
  PGs.mono (pgs_cons h1 h2 hs) fun vs σ H Q ⟨ρ, S, L, ds, Qd, Ed, sl, so, r, h, kp, kx⟩ => by
    obtain ⟨d, ds', ed, h⟩ := h
    subst ed
    obtain ⟨v, ws, ev, r1, rs⟩ := r.of_cons
    exact ⟨v, ws, ev, ρ, S, L, d, _, DX0, sl, so, r1, p1 _ _ _ _ _ h, fun σ' H' ρ' S' x so' sl' q => ⟨ρ', S', L, ds', _, DX0, sl', so', rs.ext x, p2 _ _ _ _ _ q, kp.ext x, KX.zero⟩, KX.zero⟩
def gTupl (n : Nat) (gs : DTGs) : DTG := fun d ρ S Q E => ∃ ds, d = .tup ds ∧ ds.length = n ∧ gs ds ρ S Q E
theorem dg_tup {k n : Nat} {gs : DTGs} (hc : X.calm = true) (h : DTgts X A W es gs) (hn : (assignEach es X.env).length = n) (hst : (assignEach es X.env).findIdx? (·.1) = none) : DTgt X A W (.Tuple es k pos) (gTupl n gs) :=
  PG.mono (pg_tup hc h hn hst) fun v σ H Q ⟨ρ, S, L, d, Qd, Ed, sl, so, r, ⟨ds, ed, hl, h⟩, kp, kx⟩ => by
    subst ed
    unfold Rep at r
    obtain ⟨p, vs, ev, f, rs⟩ := r
    exact ⟨p, vs, ev, f.sq, by rw [rs.length]; exact hl, ρ, S, L, ds, Qd, Ed, sl, so, rs, h, kp, kx⟩
theorem gNm_plain {i : Nat} : gPlain (gNm i) := fun _ _ _ _ _ h => h
theorem gsNil_plain : gsPlain gsNil := fun _ _ _ _ _ h => h
theorem gsCons_plain {g : DTG} {gs : DTGs} (h2 : ∀ d ρ S Q E, g d ρ S Q E ↔ g d ρ S Q DX0) (h3 : ∀ d ρ S Q E, gs d ρ S Q E ↔ gs d ρ S Q DX0) : ∀ d ρ S Q E, gsCons g gs d ρ S Q E ↔ gsCons g gs d ρ S Q DX0 := fun d ρ S Q E => by
  unfold gsCons
  have e : (fun ρ1 S1 => ∀ r, gs r ρ1 S1 Q E ↔ gs r ρ1 S1 Q DX0) = fun _ _ => True := by
    funext ρ1 S1
    exact eq_true fun r => h3 _ _ _ _ _
  constructor
  · rintro ⟨x, r, ed, h⟩
    refine ⟨x, r, ed, ?_⟩
    have := (h2 _ _ _ _ _).mp h
    have e2 : (fun ρ1 S1 => gs r ρ1 S1 Q E) = fun ρ1 S1 => gs r ρ1 S1 Q DX0 := by
      funext ρ1 S1
      exact propext (h3 _ _ _ _ _)
    rw [e2] at this
    exact this
  · rintro ⟨x, r, ed, h⟩
    refine ⟨x, r, ed, ?_⟩
    have := (h2 _ _ _ _ E).mpr h
    have e2 : (fun ρ1 S1 => gs r ρ1 S1 Q DX0) = fun ρ1 S1 => gs r ρ1 S1 Q E := by
      funext ρ1 S1
      exact propext (h3 _ _ _ _ _).symm
    rw [e2] at this
    exact this

/-! ### assignments -/
def sAsg (t : DT) (g : DTG) : DTS := fun D ρ S => t ρ S (fun x S1 => g x ρ S1 D.nx (D.xx ρ)) (D.xx ρ)
theorem ds_asg {tg : Expr} {g : DTG} (he : DE X A W e te) (hg : DTgt X A W tg g) (hs : swapsWithSole [tg] e pos.line X.env = pure false) (hw : swappedStores [tg] e X.env = pure none) (h1 : (assignEach [tg] X.env).map (·.2) = [assign tg X.env]) :
    DStm X A W (.Assign [tg] e pos) (sAsg te g) :=
  PS.mono (ps_asg he hg hs hw h1) fun D σ H ⟨ρ, S, L, DD, sl, so, h, k⟩ =>
    ⟨ρ, S, L, _, _, sl, so, h, fun v H1 d S1 e1 so1 r1 q1 => ⟨ρ, S1, L, d, DD.nx, _, sl.ext e1, so1, r1, q1, k.nx.ext e1, (k.xx.at_ sl).ext e1⟩, k.xx.at_ sl⟩
theorem ds_set {i : Nat} {x : Str} {p : Pos} (hN : X.N.Nodup) (hi : X.N[i]? = some x) (hx : Loc X.env.scope x) (he : DE X A W e te) (hs : swapsWith e (some (.Name x p)) pos.line X.env = pure false) (hf : X.fn x = true ∨ X.env.scope.names.lookup x = some .local) :
    DStm X A W (.Assign [.Name x p] e pos) (sAsg te (gNm i)) :=
  PS.mono (ps_set hN hi hx he hs hf) fun D σ H ⟨ρ, S, L, DD, sl, so, h, k⟩ =>
    ⟨ρ, S, L, _, _, sl, so, h, fun v H1 d S1 e1 so1 r1 q1 => k.nx _ H1 _ S1 e1 so1 ((sl.ext e1).set r1) q1, k.xx.at_ sl⟩
/-- name op= e -/
def sAug (i : Nat) (R : DR2) (t : DT) : DTS := fun D ρ S => ∃ x, ρ[i]? = some (some x) ∧ t ρ S (fun y S1 => R x y S1 (fun z S2 => D.nx (ρ.set i (some z)) S2) DX0) (D.xx ρ)
theorem ds_aug {i : Nat} {x : Str} {op : Operator} {R : DR2} {p : Pos} (hN : X.N.Nodup) (hi : X.N[i]? = some x) (hx : Loc X.env.scope x) (he : DE X A W e te) (ho : PIp X op (liftR2 (cX X A) R)) (hf : X.fn x = true ∨ X.env.scope.names.lookup x = some .local) :
    DStm X A W (.AugAssign (.Name x p) op e pos) (sAug i R te) :=
  PS.mono (ps_aug hN hi hx he ho hf) fun D σ H ⟨ρ, S, L, DD, sl, so, ⟨d, hd, h⟩, k⟩ => by
    obtain ⟨v, ev, r⟩ := sl.at_ i d hd
    exact ⟨v, ev, ρ, S, L, _, _, sl, so, h, fun w H1 y S1 e1 so1 r1 q1 => ⟨S1, L, d, y, _, so1, r.ext e1, r1, q1, fun z H2 d2 S2 e2 so2 r2 q2 => k.nx _ H2 _ S2 (e1.trans e2) so2 ((sl.ext (e1.trans e2)).set r2) q2⟩, k.xx.at_ sl⟩
end
end DL

namespace DL
open PySem PySem.Spec PyProof.Rows L2

/-! ### what is walked -/
/-- the iterator J walks the data ds, as long as G holds of the store -/
def ItD (c : Cfg) (L : Lk) (G : Sto → Prop) (H : Hp) (S : Sto) (J : It) (ds : List D) : Prop :=
  ∀ (L' : Lk) H' S', (∀ p, L' p → L p ∨ H p = none) → Ext H S H' S' → StoR c L' H' S' → G S' →
    (∀ (i : Nat) (d : D), ds[i]? = some d → J.go i H' ∧ ∀ x H'', J.yld i H' x H'' → Ext H' S' H'' S' ∧ StoR c L' H'' S' ∧ Rep c L' H'' S' d x) ∧ (∀ i, ds.length ≤ i → J.stop i H')
abbrev DTI := DSt → Sto → (List D → (Sto → Prop) → Sto → Prop) → DX → Prop
def KI (c : Cfg) (L : Lk) (H : Hp) (S : Sto) (R : It → Hp → Prop) (Rd : List D → (Sto → Prop) → Sto → Prop) : Prop := ∀ J H' ds G S', Ext H S H' S' → StoR c L H' S' → ItD c L G H' S' J ds → Rd ds G S' → R J H'
def liftI (c : Cfg) (W : WX) (t : DTI) : TI := fun σ H R => ∃ ρ S L Rd Ed, EnvR c L H S ρ σ ∧ StoR c L H S ∧ t ρ S Rd Ed ∧ KI c L H S R Rd ∧ KX c L H S (fun n a H' => W n a σ H') Ed
abbrev noG : Sto → Prop := fun _ => True

/-- the turns of a for -/
def forGo (g : DTG) (G : Sto → Prop) (body : DTS) (DD : DEnds) : List D → DSt → Sto → Prop
  | [], ρ, S => G S ∧ DD.nx ρ S
  | x :: xs, ρ, S => G S ∧ g x ρ S (fun ρ1 S1 => body { DD with nx := forGo g G body DD xs, ct := forGo g G body DD xs, bk := DD.nx } ρ1 S1) (DD.xx ρ)
def sFor (i : DTI) (g : DTG) (body : DTS) : DTS := fun D ρ S => i ρ S (fun ds G S1 => forGo g G body D ds ρ S1) (D.xx ρ)
section
variable {X : Cx} {A : Cla} {W : WX} {tg iter elt : Expr} {body : List Stmt} {pos : Pos}
abbrev DItr (X : Cx) (A : Cla) (W : WX) (tg iter : Expr) (t : DTI) : Prop := PI X tg iter (liftI (cX X A) W t)
theorem PI.mono {t t' : TI} (h : PI X tg iter t) (m : ∀ σ H R, t' σ H R → t σ H R) : PI X tg iter t' := ⟨fun pins s σ H R I q => h.run pins s σ H R I (m σ H R q)⟩
theorem ds_for {i : DTI} {g : DTG} {tb : DTS} (hp : PassesOwn (model X.prog X.w) X.A X.env X.xe) (hc : X.calm = true) (hi : DItr X A W tg iter i) (hg : DTgt X A W tg g) (hb : DStms X A W body tb) (hs : ∀ x, foldedSetIterable iter X.env x = pure x) :
    DStm X A W (.For tg iter body [] pos) (sFor i g tb) :=
  PS.mono (ps_for hp hc hi hg hb hs) fun D σ H ⟨ρ, S, L, DD, sl, so, h, k⟩ => by
    refine ⟨ρ, S, L, _, _, sl, so, h, fun J H1 ds G S1 e1 so1 it q1 => ?_, k.xx.at_ sl⟩
    refine ⟨fun j m σ' H' => m = ds.length - j ∧ ∃ ρ' S', EnvR (cX X A) L H' S' ρ' σ' ∧ StoR (cX X A) L H' S' ∧ Ext H1 S1 H' S' ∧ forGo g G tb DD (ds.drop j) ρ' S', ⟨ds.length, rfl, ρ, S1, sl.ext e1, so1, .refl, q1⟩, ?_⟩
    rintro j m σ' H' ⟨em, ρ', S', sl', so', e', q'⟩
    by_cases hj : j < ds.length
    · right
      rw [List.drop_eq_getElem_cons hj] at q'
      obtain ⟨gs, q'⟩ := q'
      obtain ⟨go, _⟩ := it L H' S' (fun _ z => .inl z) e' so' gs
      obtain ⟨g1, y1⟩ := go j ds[j] (List.getElem?_eq_getElem hj)
      refine ⟨g1, fun σ2 H2 => ∃ ρ2 S2, EnvR (cX X A) L H2 S2 ρ2 σ2 ∧ StoR (cX X A) L H2 S2 ∧ Ext H1 S1 H2 S2 ∧ forGo g G tb DD (ds.drop (j + 1)) ρ2 S2, fun σ2 H2 ⟨ρ2, S2, a, b, c, d⟩ => ⟨ds.length - (j + 1), by omega, rfl, ρ2, S2, a, b, c, d⟩, fun x H'' hy => ?_⟩
      obtain ⟨ex, sx, rx⟩ := y1 x H'' hy
      have k' := (k.ext e1).ext (e'.trans ex)
      refine ⟨ρ', S', L, ds[j], _, _, sl'.ext ex, sx, rx, q', fun σ2 H2 ρ2 S2 x2 so2 sl2 q2 => ?_, k'.xx.at_ (sl'.ext ex)⟩
      have x3 := (e'.trans ex).trans x2
      refine ⟨ρ2, S2, L, _, sl2, so2, q2, ⟨fun σ3 H3 ρ3 S3 x4 so3 sl3 q3 => ⟨ρ3, S3, sl3, so3, x3.trans x4, q3⟩, (k'.ext x2).rt, (k'.ext x2).nx, fun σ3 H3 ρ3 S3 x4 so3 sl3 q3 => ⟨ρ3, S3, sl3, so3, x3.trans x4, q3⟩, (k'.ext x2).xx⟩⟩
    · left
      have hn : ds.drop j = [] := List.drop_eq_nil_of_le (by omega)
      rw [hn] at q'
      obtain ⟨gs, q'⟩ := q'
      obtain ⟨_, st⟩ := it L H' S' (fun _ z => .inl z) e' so' gs
      exact ⟨st j (by omega), k.nx σ' H' ρ' S' (e1.trans e') so' sl' q'⟩

/-! ### while -/
def sWhile (tc : DT) (body : DTS) : DTS := fun D ρ S => ∃ I : Nat → DSt → Sto → Prop, (∃ m, I m ρ S) ∧ ∀ m ρ S, I m ρ S → tc ρ S (fun x S1 => ∃ k, truth S1 x = some k ∧
  if k = true then body { D with nx := fun ρ' S' => ∃ m', m' < m ∧ I m' ρ' S', ct := fun ρ' S' => ∃ m', m' < m ∧ I m' ρ' S', bk := D.nx } ρ S1 else D.nx ρ S1) (D.xx ρ)

end
/-! ### targets that are names -/
inductive Tg where
  | nm (i : Nat) | tup (gs : List Tg)
mutual
def Tg.v (K : PySem.W.Frag) : Tg → TG
  | .nm i => gName i
  | .tup gs => gTup K gs.length (Tg.vs K gs)
def Tg.vs (K : PySem.W.Frag) : List Tg → TGs
  | [] => gNil
  | g :: gs => gCons (Tg.v K g) (Tg.vs K gs)
end
mutual
/-- what is stored, the slots behind it -/
def Tg.d : Tg → D → DSt → DP → Sto → Prop
  | .nm i, x, ρ, Q, S => Q (ρ.set i (some x)) S
  | .tup gs, x, ρ, Q, S => ∃ ds, x = .tup ds ∧ Tg.ds gs ds ρ Q S
def Tg.ds : List Tg → List D → DSt → DP → Sto → Prop
  | [], ds, ρ, Q, S => ds = [] ∧ Q ρ S
  | g :: gs, ds, ρ, Q, S => ∃ x r, ds = x :: r ∧ Tg.d g x ρ (fun ρ1 S1 => Tg.ds gs r ρ1 Q S1) S
end
mutual
def Tg.slots : Tg → List Nat
  | .nm i => [i]
  | .tup gs => Tg.slotss gs
def Tg.slotss : List Tg → List Nat
  | [] => []
  | g :: gs => Tg.slots g ++ Tg.slotss gs
end
theorem wipe_set {σ : L2.St} {i : Nat} {x : Option V} : ∀ {vs : List Nat}, i ∈ vs → wipe (σ.set i x) vs = wipe σ vs
  | [], h => by cases h
  | v :: vs, h => by
    show (wipe (σ.set i x) vs).set v none = (wipe σ vs).set v none
    by_cases e : i ∈ vs
    · rw [wipe_set e]
    · have ev : i = v := by
        rcases List.mem_cons.mp h with h | h
        · exact h
        · exact absurd h e
      subst ev
      have gen : ∀ (vs : List Nat), i ∉ vs → wipe (σ.set i x) vs = (wipe σ vs).set i x := by
        intro vs
        induction vs with
        | nil => intro _; rfl
        | cons w ws ih =>
          intro hn
          show (wipe (σ.set i x) ws).set w none = ((wipe σ ws).set w none).set i x
          rw [ih fun z => hn (List.mem_cons_of_mem _ z)]
          exact List.set_comm _ _ fun z => hn (z ▸ List.mem_cons_self)
      rw [gen vs e, List.set_set]
theorem wipe_wipe {σ : L2.St} {vs : List Nat} : ∀ {ws : List Nat}, (∀ i ∈ ws, i ∈ vs) → wipe (wipe σ ws) vs = wipe σ vs
  | [], _ => rfl
  | w :: ws, h => by
    show wipe ((wipe σ ws).set w none) vs = _
    rw [wipe_set (h w List.mem_cons_self), wipe_wipe fun i hi => h i (List.mem_cons_of_mem _ hi)]
section
variable {c : Cfg} {L : Lk} {H : Hp} {S : Sto}
mutual
theorem Tg.ok (vs : List Nat) : ∀ (g : Tg) (v : V) (σ : L2.St) (d : D) (ρ : DSt) (Qd : DP) (Q : L2.St → Hp → Prop), EnvR c L H S ρ σ → Rep c L H S d v → g.d d ρ Qd S →
    (∀ ρ' σ', EnvR c L H S ρ' σ' → ((∀ i ∈ g.slots, i ∈ vs) → wipe σ' vs = wipe σ vs) → Qd ρ' S → Q σ' H) → g.v c.K v σ H Q
  | .nm i, v, σ, d, ρ, Qd, Q, sl, r, h, k => by
    unfold Tg.d at h
    unfold Tg.v
    exact k _ _ (sl.set r) (fun hi => wipe_set (hi i (by unfold Tg.slots; simp))) h
  | .tup gs, v, σ, d, ρ, Qd, Q, sl, r, h, k => by
    unfold Tg.d at h
    unfold Tg.v
    obtain ⟨ds, ed, h⟩ := h
    subst ed
    unfold Rep at r
    obtain ⟨p, ws, ev, f, rs⟩ := r
    refine ⟨p, ws, ev, f.sq, ?_, Tg.oks vs gs ws σ ds ρ Qd Q sl rs h fun ρ' σ' a b => k ρ' σ' a fun z => b fun i hi => z i (by unfold Tg.slots; exact hi)⟩
    rw [rs.length]
    exact Tg.ds_len gs ds ρ Qd h
theorem Tg.oks (vs : List Nat) : ∀ (gs : List Tg) (ws : List V) (σ : L2.St) (ds : List D) (ρ : DSt) (Qd : DP) (Q : L2.St → Hp → Prop), EnvR c L H S ρ σ → Reps c L H S ds ws → Tg.ds gs ds ρ Qd S →
    (∀ ρ' σ', EnvR c L H S ρ' σ' → ((∀ i ∈ Tg.slotss gs, i ∈ vs) → wipe σ' vs = wipe σ vs) → Qd ρ' S → Q σ' H) → Tg.vs c.K gs ws σ H Q
  | [], ws, σ, ds, ρ, Qd, Q, sl, rs, h, k => by
    unfold Tg.ds at h
    unfold Tg.vs
    obtain ⟨e, h⟩ := h
    subst e
    exact ⟨rs.of_nil, k ρ σ sl (fun _ => rfl) h⟩
  | g :: gs, ws, σ, ds, ρ, Qd, Q, sl, rs, h, k => by
    unfold Tg.ds at h
    unfold Tg.vs
    obtain ⟨x, r, e, h⟩ := h
    subst e
    obtain ⟨v, us, ev, r1, rs1⟩ := rs.of_cons
    refine ⟨v, us, ev, Tg.ok vs g v σ x ρ _ _ sl r1 h fun ρ1 σ1 sl1 w1 q1 => Tg.oks vs gs us σ1 r ρ1 Qd Q sl1 rs1 q1 fun ρ2 σ2 sl2 w2 q2 => k ρ2 σ2 sl2 (fun z => ?_) q2⟩
    rw [w2 fun i hi => z i (by unfold Tg.slotss; exact List.mem_append_right _ hi), w1 fun i hi => z i (by unfold Tg.slotss; exact List.mem_append_left _ hi)]
theorem Tg.ds_len : ∀ (gs : List Tg) (ds : List D) (ρ : DSt) (Qd : DP), Tg.ds gs ds ρ Qd S → ds.length = gs.length
  | [], ds, ρ, Qd, h => by
    unfold Tg.ds at h
    rw [h.1]
    rfl
  | g :: gs, ds, ρ, Qd, h => by
    unfold Tg.ds at h
    obtain ⟨x, r, e, h⟩ := h
    subst e
    have : ∀ (g : Tg) (x : D) (ρ : DSt) (P : DP), g.d x ρ P S → ∃ ρ', P ρ' S := Tg.d_some
    obtain ⟨ρ', q⟩ := this g x ρ _ h
    simp [Tg.ds_len gs r ρ' Qd q]
theorem Tg.d_some : ∀ (g : Tg) (x : D) (ρ : DSt) (P : DP), g.d x ρ P S → ∃ ρ', P ρ' S
  | .nm i, x, ρ, P, h => by
    unfold Tg.d at h
    exact ⟨_, h⟩
  | .tup gs, x, ρ, P, h => by
    unfold Tg.d at h
    obtain ⟨ds, e, h⟩ := h
    exact Tg.ds_some gs ds ρ P h
theorem Tg.ds_some : ∀ (gs : List Tg) (ds : List D) (ρ : DSt) (P : DP), Tg.ds gs ds ρ P S → ∃ ρ', P ρ' S
  | [], ds, ρ, P, h => by
    unfold Tg.ds at h
    exact ⟨ρ, h.2⟩
  | g :: gs, ds, ρ, P, h => by
    unfold Tg.ds at h
    obtain ⟨x, r, e, h⟩ := h
    obtain ⟨ρ1, q⟩ := Tg.d_some g x ρ _ h
    exact Tg.ds_some gs r ρ1 P q
end
end
def Tg.g (g : Tg) : DTG := fun d ρ S Q _ => g.d d ρ Q S
theorem dg_of {X : Cx} {A : Cla} {W : WX} {e : Expr} {g : Tg} (h : PG X e (g.v X.K)) : DTgt X A W e g.g :=
  PG.mono h fun v σ H Q ⟨ρ, S, L, d, Qd, Ed, sl, so, r, h, kp, _⟩ => Tg.ok (c := cX X A) [] g v σ d ρ Qd Q sl r h fun ρ' σ' sl' _ q => kp σ' H ρ' S .refl so sl' q

/-! ### comprehensions -/
def wipeD (ρ : DSt) : List Nat → DSt
  | [] => ρ
  | v :: vs => (wipeD ρ vs).set v none
theorem EnvR.wipe {c : Cfg} {L : Lk} {H : Hp} {S : Sto} {ρ : DSt} {σ : L2.St} (s : EnvR c L H S ρ σ) : ∀ vs : List Nat, EnvR c L H S (wipeD ρ vs) (L2.wipe σ vs)
  | [] => s
  | v :: vs => by
    have ih := EnvR.wipe s vs
    refine ⟨by unfold wipeD L2.wipe; simp [ih.len], fun i d h => ?_⟩
    have h : ((wipeD ρ vs).set v none)[i]? = some (some d) := h
    show ∃ w, ((L2.wipe σ vs).set v none)[i]? = some (some w) ∧ _
    by_cases e : v = i
    · subst e
      by_cases hl : v < (wipeD ρ vs).length
      · rw [List.getElem?_set_self hl] at h; cases h
      · rw [List.getElem?_eq_none (by simpa using hl)] at h; cases h
    · rw [List.getElem?_set_ne e] at h ⊢
      exact ih.at_ i d h
/-- the turns of a comprehension; Q is told the items -/
def lcGo (g : Tg) (G : Sto → Prop) (tc : DTT) (te : DT) (ρ : DSt) (Q : List D → Sto → Prop) : List D → List D → Sto → Prop
  | [], acc, S => G S ∧ Q acc S
  | x :: xs, acc, S => G S ∧ g.d x ρ (fun ρ1 S1 => tc ρ1 S1 (fun b S2 => if b = true then te ρ1 S2 (fun y S3 => lcGo g G tc te ρ Q xs (acc ++ [y]) S3) DX0 else lcGo g G tc te ρ Q xs acc S2) DX0) S
def dLc (m : Bool) (i : DTI) (g : Tg) (tc : DTT) (te : DT) (vs : List Nat) : DT := fun ρ S Q E => i ρ S (fun ds G S1 => ds.length ≤ sizeLine ∧ lcGo g G tc te (wipeD ρ vs) (fun ys S2 => mkL m ys S2 Q) ds [] S1) E
section
variable {X : Cx} {A : Cla} {W : WX} {tg iter elt : Expr} {ifs : List Expr} {scope : Scope} {own : List (Str × Nat)} {pos : Pos}
abbrev W0 : WX := fun _ _ _ _ => False
theorem lc_lift {m : Bool} {i : DTI} {g : Tg} {tc : DTT} {te : DT} (hsl : ∀ j ∈ g.slots, j ∈ own.map (·.2)) {σ : L2.St} {H : Hp} {Q : VK} (h0 : liftE (cX X A) W (dLc m i g tc te (own.map (·.2))) σ H Q) :
    tLc (liftI (cX X A) W i) (g.v X.K) (liftT (cX X A) W0 tc) (liftE (cX X A) W0 te) (own.map (·.2)) σ H Q := by
  obtain ⟨ρ, S, L, Qd, Ed, sl, so, h, kq, kx⟩ := h0
  refine ⟨ρ, S, L, _, _, sl, so, h, fun J H1 ds G S1 e1 so1 it ⟨hz, q1⟩ => ?_, kx⟩
  intro D0 hD
  have fr := so1.free hD
  have hl : ∀ p, (L.add D0) p → L p ∨ H1 p = none := fun p z => z.elim .inl fun e => .inr (by rw [e]; exact hD)
  have sl1 := (sl.ext e1).lock hl
  refine ⟨fun j m' H' => m' = ds.length - j ∧ ∃ S' acc vs, H' D0 = some (.lst vs) ∧ S' D0 = none ∧ StoR (cX X A) (L.add D0) H' S' ∧ Ext H1 S1 H' S' ∧ Reps (cX X A) (L.add D0) H' S' acc vs ∧ acc.length ≤ j ∧
    lcGo g G tc te (wipeD ρ (own.map (·.2))) (fun ys S2 => mkL m ys S2 Qd) (ds.drop j) acc S', ?_, ?_⟩
  · exact ⟨ds.length, rfl, S1, [], [], upd_same, fr.1, so1.lockNew hD, Ext.upd hD, .nil, Nat.le_refl _, q1⟩
  · rintro j m' H' ⟨em, S', acc, vs, hd, sd, so', e', ra, la, q'⟩
    by_cases hj : j < ds.length
    · right
      rw [List.drop_eq_getElem_cons hj] at q'
      obtain ⟨gs, q'⟩ := q'
      obtain ⟨go, _⟩ := it _ H' S' hl e' so' gs
      obtain ⟨g1, y1⟩ := go j ds[j] (List.getElem?_eq_getElem hj)
      refine ⟨g1, fun H5 => ∃ S5 acc5 vs5, H5 D0 = some (.lst vs5) ∧ S5 D0 = none ∧ StoR (cX X A) (L.add D0) H5 S5 ∧ Ext H1 S1 H5 S5 ∧ Reps (cX X A) (L.add D0) H5 S5 acc5 vs5 ∧ acc5.length ≤ j + 1 ∧
        lcGo g G tc te (wipeD ρ (own.map (·.2))) (fun ys S2 => mkL m ys S2 Qd) (ds.drop (j + 1)) acc5 S5, fun H5 w5 => ⟨ds.length - (j + 1), by omega, rfl, w5⟩, fun x H'' hy => ?_⟩
      obtain ⟨ex, sx, rx⟩ := y1 x H'' hy
      have sl2 := (sl1.ext (show Ext H1 S1 H'' S' from e'.trans ex)).wipe (own.map (·.2))
      obtain ⟨hd2, sd2⟩ := ex D0 _ hd sd
      refine Tg.ok (c := cX X A) (L := L.add D0) (S := S') (own.map (·.2)) g x _ ds[j] _ _ _ sl2 rx q' fun ρ3 σ3 sl3 w3 q3 => ⟨(w3 hsl).trans (wipe_wipe fun _ z => z), ρ3, S', L.add D0, _, DX0, sl3, sx, q3, fun b H3 S3 e3 so3 q3 => ?_, KX.zero⟩
      cases b with
      | false =>
        obtain ⟨hd3, sd3⟩ := e3 D0 _ hd2 sd2
        exact ⟨S3, acc, vs, hd3, sd3, so3, (e'.trans ex).trans e3, (ra.ext ex).ext e3, by omega, q3⟩
      | true =>
        refine ⟨ρ3, S3, L.add D0, _, DX0, sl3.ext e3, so3, q3, fun y H4 dy S4 e4 so4 ry q4 => ?_, KX.zero⟩
        have ex4 := (ex.trans e3).trans e4
        obtain ⟨hd4, sd4⟩ := ex4 D0 _ hd sd
        have ra4 := ra.ext ex4
        have lD : (L.add D0) D0 := .inr rfl
        refine ⟨vs, hd4, by rw [ra.length]; omega, S4, acc ++ [dy], vs ++ [y], upd_same, sd4, so4.lockWrite lD, fun p o hp sp => ?_, ?_, by rw [List.length_append, List.length_singleton]; omega, q4⟩
        · have ne : p ≠ D0 := fun e => by rw [e, hD] at hp; cases hp
          rw [upd_ne ne]
          exact (e'.trans ex4) p o hp sp
        · exact Reps.aside lD (fun _ z => z) (fun p e => upd_ne e) (fun _ _ => rfl) _ _ (ra4.append (.cons ry .nil))
    · left
      have hn : ds.drop j = [] := List.drop_eq_nil_of_le (by omega)
      rw [hn] at q'
      obtain ⟨gs, q'⟩ := q'
      obtain ⟨_, st⟩ := it _ H' S' hl e' so' gs
      refine ⟨st j (by omega), ?_⟩
      cases m with
      | false =>
        exact kq (.ref D0) H' (.lst acc) S' (e1.trans e') (so'.unlock fun _ z => .inl z) (by unfold Rep; exact ⟨D0, vs, rfl, hd, ⟨sd, fr.2⟩, ra.unlock fun _ z => .inl z⟩) q'
      | true =>
        have q2 : ∀ p, S' p = none → Qd (.ref p) (S'.set p (.lst acc)) := q'
        have rs : Reps (cX X A) L H' (S'.set D0 (.lst acc)) acc vs := Reps.aside (q := D0) (.inr rfl) (fun _ z => .inl z) (fun _ _ => rfl) (fun p e => Sto.set_ne e) _ _ ra
        refine kq (.ref D0) H' (.ref D0) (S'.set D0 (.lst acc)) (e1.trans fun p o hp sp => ?_) (so'.lockThaw fr.2 ⟨vs, hd, rs⟩) (by unfold Rep; rfl) (q2 D0 sd)
        have ne : p ≠ D0 := fun e => by rw [e, hD] at hp; cases hp
        rw [Sto.set_ne ne]
        exact e' p o hp sp
theorem de_lc {m : Bool} {i : DTI} {g : Tg} {tc : DTT} {te : DT} (hc : X.calm = true) (hN : X.N.Nodup) (hi : DItr X A W tg iter i) (ok : BlkOk X.N X.env.scope scope own) (hsl : ∀ j ∈ g.slots, j ∈ own.map (·.2))
    (hg : ∀ (s : Shared) (H : Hp) (C : Addr) (cl : List (Str × Addr)) (fp : List Addr), PG (X.blk s H scope (compEnvC scope cl C X.env) fp) tg (g.v X.K))
    (ht : ∀ (s : Shared) (H : Hp) (C : Addr) (cl : List (Str × Addr)) (fp : List Addr), PTs (X.blk s H scope (compEnvC scope cl C X.env) fp) ifs (liftT (cX X A) W0 tc))
    (he : ∀ (s : Shared) (H : Hp) (C : Addr) (cl : List (Str × Addr)) (fp : List Addr), DE (X.blk s H scope (compEnvC scope cl C X.env) fp) A W0 elt te) (hs : ∀ x, foldedSetIterable iter X.env x = pure x) :
    DE X A W (.ListComp elt [⟨tg, iter, ifs, 0⟩] scope pos) (dLc m i g tc te (own.map (·.2))) :=
  PE.mono (pe_lc (te := liftE (cX X A) W0 te) hc hN hi ok hg ht he hs) fun σ H Q h => lc_lift hsl h
/-- name = [..] on one line, the name a local -/
theorem ds_setLc {i0 : Nat} {y : Str} {py spos : Pos} {m : Bool} {i : DTI} {g : Tg} {tc : DTT} {te : DT} (hc : X.calm = true) (hN : X.N.Nodup) (hy : X.N[i0]? = some y) (hyl : X.env.scope.names.lookup y = some .local)
    (hsw : swapsWith (.ListComp elt [⟨tg, iter, ifs, 0⟩] scope pos) (some (.Name y py)) spos.line X.env = pure true) (hi : DItr X A W tg iter i) (ok : BlkOk X.N X.env.scope scope own) (hsl : ∀ j ∈ g.slots, j ∈ own.map (·.2))
    (hg : ∀ (s : Shared) (H : Hp) (C : Addr) (cl : List (Str × Addr)) (fp : List Addr), PG (X.blk s H scope (compEnvC scope cl C X.env) fp) tg (g.v X.K))
    (ht : ∀ (s : Shared) (H : Hp) (C : Addr) (cl : List (Str × Addr)) (fp : List Addr), PTs (X.blk s H scope (compEnvC scope cl C X.env) fp) ifs (liftT (cX X A) W0 tc))
    (he : ∀ (s : Shared) (H : Hp) (C : Addr) (cl : List (Str × Addr)) (fp : List Addr), DE (X.blk s H scope (compEnvC scope cl C X.env) fp) A W0 elt te) (hs : ∀ x, foldedSetIterable iter X.env x = pure x) :
    DStm X A W (.Assign [.Name y py] (.ListComp elt [⟨tg, iter, ifs, 0⟩] scope pos) spos) (sAsg (dLc m i g tc te (own.map (·.2))) (gNm i0)) :=
  PS.mono (ps_setLc (te := liftE (cX X A) W0 te) hc hN hy hyl hsw hi ok hg ht he hs) fun D σ H ⟨ρ, S, L, DD, sl, so, h, k⟩ =>
    lc_lift hsl ⟨ρ, S, L, _, _, sl, so, h, fun v H1 d S1 e1 so1 r1 q1 => k.nx _ H1 _ S1 e1 so1 ((sl.ext e1).set r1) q1, k.xx.at_ sl⟩
end
end DL

namespace DL
open PySem PySem.Spec PyProof.Rows L2

/-! ### defs -/
/-- room for k calls, no repr under way -/
structure Rm (k : Nat) (A : Around) : Prop where
  r : Room k A
  g : A.guards = some []
theorem Rm.mono {j k : Nat} {A : Around} (m : Rm k A) (h : j ≤ k) : Rm j A := ⟨m.r.mono h, m.g⟩
theorem Rm.deeper {k : Nat} {A : Around} (m : Rm (k + 1) A) (env : PySem.Env) : Rm k (A.deeper env) := ⟨m.r.deeper env, m.g⟩
theorem make_guards {A : Around} {C : Addr} {us : List Value} {kw : List (Str × Value)} : (A.under (.builtin "type.__call__" ⟨.ref C :: us, kw⟩)).guards = A.guards := by
  first | rfl | (simp [Around.under, Code.guards, Code.isGuard, guardIds]; cases A.guards <;> simp [pushGuards]) | (unfold Around.under; cases h : A.guards <;> simp [pushGuards, Code.guards, Code.isGuard, guardIds, h])
theorem Rm.make {k : Nat} {A : Around} (m : Rm (k + 1) A) (C : Addr) (us : List Value) (kw : List (Str × Value)) : Rm k (A.under (.builtin "type.__call__" ⟨.ref C :: us, kw⟩)) := ⟨m.r.make C us kw, make_guards.trans m.g⟩
/-- a promise over data: the positional arguments -/
abbrev DSp := List D → Sto → DQ → DX → Prop
def liftSp (c : Cfg) (sp : DSp) : Sp := fun vs H Q E => ∃ ds S L Qd Ed, StoR c L H S ∧ Reps c L H S ds vs ∧ sp ds S Qd Ed ∧ KQ c L H S Q Qd ∧ KX c L H S E Ed
def FnD (P : Program) (w : World) (c : Cfg) (mg : Str → Option Value) (base : Heap) (k : Nat) (f : Addr) (sp : DSp) : Prop :=
  ∀ (A : Around) (outer : List PySem.Env) (s : Shared) (H : Hp) (us : List Value) (vs : List V) (Q : VK) (E : XK), Rm k A → Env0 P w c.K mg base A outer s H → Vals vs us → liftSp c sp vs H Q E →
    codeAny (model P w) A (.call (.ref f) ⟨us, []⟩) (CR (L2.CX P w) outer P w H s Q E) s
theorem FnD.mono {P : Program} {w : World} {c : Cfg} {mg : Str → Option Value} {base : Heap} {j k : Nat} {f : Addr} {sp : DSp} (F : FnD P w c mg base j f sp) (h : j ≤ k) : FnD P w c mg base k f sp :=
  fun A outer s H us vs Q E m => F A outer s H us vs Q E (m.mono h)

/-- the slots at the entry -/
def startD (n : Nat) (ds : List D) : DSt := ds.map some ++ List.replicate (n - ds.length) none
theorem start_env {c : Cfg} {L : Lk} {H : Hp} {S : Sto} {N : List Str} {ds : List D} {vs : List V} (r : Reps c L H S ds vs) : EnvR c L H S (startD N.length ds) (L2.start N vs) := by
  have hl := r.length
  refine ⟨by unfold startD L2.start; simp [hl], fun i d h => ?_⟩
  unfold startD at h
  unfold L2.start
  by_cases hi : i < ds.length
  · rw [List.getElem?_append_left (by simpa using hi), List.getElem?_map] at h
    cases e : ds[i]? with
    | none => rw [e] at h; cases h
    | some x =>
      rw [e] at h
      cases h
      obtain ⟨v, ev, rv⟩ := r.get e
      exact ⟨v, by rw [List.getElem?_append_left (by rw [List.length_map, hl]; exact hi), List.getElem?_map, ev]; rfl, rv⟩
  · rw [List.getElem?_append_right (by simpa using hi), List.getElem?_replicate] at h
    split at h <;> cases h

section
variable {P : Program} {w : World} {c : Cfg} {mg : Str → Option Value} {base : Heap} {k : Nat} {f : Addr} {name qual : Str} {params : Arguments} {body : List Stmt} {scope : Scope} {dV kV doc pm cdv ct oc : Value} {an od : Option Addr}
  {osl : Array (Option Value)} {N ps : List Str} {t : DTS}
/-- what a def promises: its body's reading -/
def bodySp (n m : Nat) (t : DTS) : DSp := fun ds S Q E => ds.length = m ∧ t { nx := fun _ S' => Q .non S', rt := Q, xx := fun _ => E } (startD n ds) S
/-- def f(a, b) -/
theorem fnd_of {A0 : Cla} (ec : c = ⟨c.K, A0.cA, A0.cv, A0.fl, A0.gh⟩) (lk : c.K.lookup f = some ⟨oc, od, .func (PySem.W.fnOf name qual params body scope dV kV doc pm an cdv ct), osl⟩) (hcd : PySem.W.codeIn c.K cdv qual = true) (S : FnScope N ps scope)
    (hb : ∀ us : List Value, us.length = ps.length → bindArgs (PySem.W.fnOf name qual params body scope dV kV doc pm an cdv ct) ⟨us, []⟩ = pure (ps.zip us))
    (hbody : ∀ (X : Cx) (W : WX), X.prog = P → X.w = w → X.K = c.K → X.mg = mg → X.base = base → X.N = N → X.env.scope = scope → X.calm = true → (∀ x, X.fn x = true) → X.stack = X.env :: X.outer → X.env.frame = some X.env.locals → X.ex = [] →
      PassesOwn (model X.prog X.w) X.A X.env X.xe → Rm k X.A → Takes X W → PSs X body (liftS c W t)) :
    FnD P w c mg base (k + 1) f (bodySp N.length ps.length t) := by
  intro A outer s H us vs Q E m e0 r ⟨ds, S0, L, Qd, Ed, so, rs, ⟨hl, h⟩, kq, kx⟩
  have hlu : us.length = ps.length := by rw [← r.length, rs.length, hl]
  refine StX.run_bnd (N := N) (ps := ps) (G := fun xs H2 => xs = vs ∧ H2 = H) lk hcd S m.r e0 (fun A' Ex Q' hQ => ?_) fun s2 H2 xs ⟨ex, eH⟩ hr' => ?_
  · rw [hb us hlu]
    exact wpAny_pure (hQ s H vs us e0 Un.refl rfl (fun _ _ z => z) r (by rw [r.length, hlu]) ⟨rfl, rfl⟩)
  · subst ex eH
    refine ⟨liftS c (fun n a _ H' => E n a H') t, hbody _ _ rfl rfl rfl rfl rfl rfl rfl rfl (fun _ => rfl) rfl rfl rfl (passes_of rfl) (m.deeper _) (takes_of rfl rfl rfl rfl), ?_⟩
    exact ⟨_, S0, L, _, start_env rs, so, h, ⟨fun σ' H' ρ' S' x so' sl' q => kq _ H' _ S' x so' (by unfold Rep; rfl) q, kq, fun _ _ _ _ _ _ _ z => z.elim, fun _ _ _ _ _ _ _ z => z.elim, fun n a σ' H' ρ' ds' S' x so' _ xr q => kx n a H' ds' S' x so' xr q⟩⟩
end

/-! ### calls -/
section
variable {X : Cx} {A : Cla} {W : WX} {e : Expr} {es : List Expr} {p pos : Pos} {x : Str} {f : Addr} {k : Nat} {sp : DSp} {t : DTA}
def dCall (sp : DSp) (t : DTA) : DT := fun ρ S Q E => t ρ S (fun ds S1 => sp ds S1 Q E) E
theorem KX.slots {σ : L2.St} {c : Cfg} {L : Lk} {H : Hp} {S : Sto} {E : DX} (k : KX c L H S (fun n a H' => W n a σ H') E) : KX c L H S (WE W σ) E := k
/-- the callee runs -/
theorem run_d {pins : List (Addr × Obj)} {σ : L2.St} {H : Hp} {s : Shared} {Q : VK} {us : List Value} {vs : List V} (F : FnD X.prog X.w (cX X A) X.mg X.base k f sp) (m : Rm k X.A) (tk : Takes X W)
    (I : L2.Inv X pins σ H s) (r : Vals vs us) (h : liftSp (cX X A) sp vs H Q (WE W σ)) : wpAny (model X.prog X.w) X.A (call (.ref f) us) (EP X pins σ Q) X.xe s := by
  refine wpAny_call (codeAny_mono (F X.A X.stack s H us vs Q _ m I.env0 r h) fun r' s' hq => ?_)
  cases r' with
  | error e => exact passAt tk σ pins H s e s' I hq
  | ok fl => cases fl with
    | ret u => exact I.after hq
    | next => exact hq.elim
    | brk => exact hq.elim
    | cont => exact hq.elim
theorem de_call (F : FnD X.prog X.w (cX X A) X.mg X.base k f sp) (m : Rm k X.A) (tk : Takes X W) (hg : Gl X x) (hm : X.mg x = some (.ref f)) (hk : PySem.W.keepIn X.K (.ref f) = true) (ha : DA X A W (e :: es) t)
    (hdb : (x == ("__debug__" : Str)) = false) (he : starEach (e :: es) X.env = (false, eval e X.env) :: starEach es X.env) (hpl : (backTo pos (starEach es X.env)).any (·.1) = false) :
    DE X A W (.Call (.Name x p) (e :: es) [] pos) (dCall sp t) := by
  refine ⟨fun pins s σ H Q I ⟨ρ, S, L, Qd, Ed, sl, so, h, kq, kx⟩ => ?_⟩
  refine wpAny_Call_Name_kw (ld_glob I hg hm ?_ hdb)
  refine PySem.W.callWith_K (h₀ := X.base) I.ok.mod.kin hk (thn (ha.run pos pins s σ H (fun vs H1 => liftSp (cX X A) sp vs H1 Q (WE W σ)) I ⟨ρ, S, L, _, Ed, sl, so, h, fun vs H1 ds S1 e1 so1 r1 q1 => ?_, kx⟩) fun us s1 ⟨vs, H1, I1, r, q⟩ => ⟨I1.kIn, ?_⟩) he hpl
  · exact ⟨ds, S1, L, Qd, Ed, so1, r1, q1, kq.ext e1, (kx.ext e1).slots⟩
  · exact run_d F m tk I1 r q
theorem de_call0 (F : FnD X.prog X.w (cX X A) X.mg X.base k f sp) (m : Rm k X.A) (tk : Takes X W) (hg : Gl X x) (hm : X.mg x = some (.ref f)) (hk : PySem.W.keepIn X.K (.ref f) = true)
    (hdb : (x == ("__debug__" : Str)) = false) : DE X A W (.Call (.Name x p) [] [] pos) (dCall sp dNil) := by
  refine ⟨fun pins s σ H Q I ⟨ρ, S, L, Qd, Ed, sl, so, h, kq, kx⟩ => ?_⟩
  refine wpAny_Call_Name_kw (ld_glob I hg hm ?_ hdb)
  exact PySem.W.callWith_K0 I.kIn hk (run_d (us := []) F m tk I .nil ⟨[], S, L, Qd, Ed, so, .nil, h, kq, kx.slots⟩)
/-- built-in functions and types -/
def dCB (R : DRA) (t : DTA) : DT := fun ρ S Q E => t ρ S (fun ds S1 => R ds S1 Q DX0) E
theorem tCB_lift {R : DRA} {σ : L2.St} {H : Hp} {Q : VK} (h : liftE (cX X A) W (dCB R t) σ H Q) : tCB (liftRA (cX X A) R) (liftA (cX X A) W t) σ H Q := by
  obtain ⟨ρ, S, L, Qd, Ed, sl, so, h, kq, kx⟩ := h
  exact ⟨ρ, S, L, _, Ed, sl, so, h, fun vs H1 ds S1 e1 so1 r1 q1 => ⟨S1, L, ds, Qd, so1, r1, q1, kq.ext e1⟩, kx⟩
theorem de_callB {id : String} {R : DRA} (hc : CallD X A (.builtin id) R) (hg : Gl X x) (hm : X.mg x = none) (hv : bootBuiltins x = some (.builtin id)) (ha : DA X A W (e :: es) t) (hn : x ≠ "__name__") (hdb : (x == ("__debug__" : Str)) = false)
    (he : starEach (e :: es) X.env = (false, eval e X.env) :: starEach es X.env) (hpl : (backTo pos (starEach es X.env)).any (·.1) = false) : DE X A W (.Call (.Name x p) (e :: es) [] pos) (dCB R t) :=
  PE.mono (pe_callB hc hg hm hv ha hn hdb he hpl) fun _ _ _ => tCB_lift
theorem de_callTy {T : String} {R : DRA} (hc : CallD X A (.type T) R) (hg : Gl X x) (hm : X.mg x = none) (hv : bootBuiltins x = some (.type T)) (ha : DA X A W (e :: es) t) (hn : x ≠ "__name__") (hdb : (x == ("__debug__" : Str)) = false)
    (he : starEach (e :: es) X.env = (false, eval e X.env) :: starEach es X.env) (hpl : (backTo pos (starEach es X.env)).any (·.1) = false) : DE X A W (.Call (.Name x p) (e :: es) [] pos) (dCB R t) :=
  PE.mono (pe_callTy hc hg hm hv ha hn hdb he hpl) fun _ _ _ => tCB_lift
end
end DL

namespace DL
open PySem PySem.Spec PyProof.Rows L2

/-! ### views -/
/-- the items of a list, whichever -/
def seqL (S : Sto) : D → Option (List D)
  | .lst xs => some xs
  | .cst xs => some xs
  | .ref p => match S p with
    | some (.lst xs) => some xs
    | _ => none
  | _ => none
/-- of a list of one's own -/
def seqM (S : Sto) : D → Option (List D)
  | .cst _ => none
  | d => seqL S d
/-- of a list or a tuple -/
def seqA (S : Sto) : D → Option (List D)
  | .tup xs => some xs
  | d => seqL S d
/-- a list that may change is seen as it stands -/
def view (S : Sto) : D → D
  | .ref p => match S p with
    | some (.lst xs) => .lst xs
    | some (.ins C xs) => .ins C xs
    | none => .ref p
  | d => d
section
variable {c : Cfg} {L : Lk} {H H1 H2 : Hp} {S S1 S2 : Sto}
theorem seqL_ok {d : D} {v : V} {ds : List D} (so : StoR c L H S) (r : Rep c L H S d v) (h : seqL S d = some ds) : ∃ p vs, v = .ref p ∧ SqL c.K H p vs ∧ Reps c L H S ds vs := by
  cases d with
  | lst xs =>
    cases h
    unfold Rep at r
    obtain ⟨p, vs, ev, f, _, rs⟩ := r
    exact ⟨p, vs, ev, SqL.of f, rs⟩
  | cst xs =>
    cases h
    unfold Rep at r
    obtain ⟨p, vs, ev, f, rs⟩ := r
    exact ⟨p, vs, ev, f.sq, rs⟩
  | ref p =>
    have h : (match S p with | some (.lst xs) => some xs | _ => none) = some ds := h
    unfold Rep at r
    cases s : S p with
    | none => rw [s] at h; cases h
    | some o =>
      rw [s] at h
      cases o with
      | ins C xs => cases h
      | lst xs =>
        cases h
        obtain ⟨⟨vs, hp, rs⟩, _⟩ := so.at_ p _ s
        exact ⟨p, vs, r, SqL.of hp, rs⟩
  | _ => cases h
theorem seqM_ok {d : D} {v : V} {ds : List D} (so : StoR c L H S) (r : Rep c L H S d v) (h : seqM S d = some ds) : ∃ p vs, v = .ref p ∧ H p = some (.lst vs) ∧ Reps c L H S ds vs := by
  cases d with
  | lst xs =>
    cases h
    unfold Rep at r
    obtain ⟨p, vs, ev, f, _, rs⟩ := r
    exact ⟨p, vs, ev, f, rs⟩
  | ref p =>
    have h : (match S p with | some (.lst xs) => some xs | _ => none) = some ds := h
    unfold Rep at r
    cases s : S p with
    | none => rw [s] at h; cases h
    | some o =>
      rw [s] at h
      cases o with
      | ins C xs => cases h
      | lst xs =>
        cases h
        obtain ⟨⟨vs, hp, rs⟩, _⟩ := so.at_ p _ s
        exact ⟨p, vs, r, hp, rs⟩
  | _ => cases h
theorem seqA_ok {d : D} {v : V} {ds : List D} (so : StoR c L H S) (r : Rep c L H S d v) (h : seqA S d = some ds) : ∃ p vs, v = .ref p ∧ (SqL c.K H p vs ∨ SqT c.K H p vs) ∧ Reps c L H S ds vs := by
  cases d with
  | tup xs =>
    cases h
    unfold Rep at r
    obtain ⟨p, vs, ev, f, rs⟩ := r
    exact ⟨p, vs, ev, .inr f.sq, rs⟩
  | lst xs =>
    obtain ⟨p, vs, ev, q, rs⟩ := seqL_ok so r (show seqL S (.lst xs) = some ds from h)
    exact ⟨p, vs, ev, .inl q, rs⟩
  | cst xs =>
    obtain ⟨p, vs, ev, q, rs⟩ := seqL_ok so r (show seqL S (.cst xs) = some ds from h)
    exact ⟨p, vs, ev, .inl q, rs⟩
  | ref p =>
    obtain ⟨p, vs, ev, q, rs⟩ := seqL_ok so r (show seqL S (.ref p) = some ds from h)
    exact ⟨p, vs, ev, .inl q, rs⟩
  | _ => cases h
end

/-! ### data that compare -/
mutual
def D.p : D → PyData
  | .bl b => .bool b
  | .int i => .int i
  | .str x => .str x
  | .tup xs => .tuple (D.ps xs)
  | .lst xs => .list (D.ps xs)
  | .cst xs => .list (D.ps xs)
  | _ => .none
def D.ps : List D → List PyData
  | [] => []
  | d :: ds => d.p :: D.ps ds
end
/-- plain data, of a depth -/
def D.dat : Nat → D → Bool
  | _, .non => true
  | _, .bl _ => true
  | _, .int _ => true
  | _, .str _ => true
  | n + 1, .tup xs => xs.all (D.dat n)
  | n + 1, .lst xs => xs.all (D.dat n)
  | n + 1, .cst xs => xs.all (D.dat n)
  | _, _ => false
theorem D.ps_map : ∀ ds : List D, D.ps ds = ds.map D.p
  | [] => by unfold D.ps; rfl
  | d :: ds => by unfold D.ps; rw [D.ps_map ds]; rfl
section
variable {c : Cfg} {L : Lk} {H H1 H2 : Hp} {S S1 S2 : Sto}
mutual
theorem Rep.dp : ∀ (n : Nat) (d : D) (v : V), Rep c L H S d v → d.dat n = true → Dp c.K H v d.p
  | n, .non, v, r, h => by unfold Rep at r; subst r; unfold D.p; exact .non
  | n, .bl b, v, r, h => by unfold Rep at r; subst r; unfold D.p; exact .bl b
  | n, .int i, v, r, h => by unfold Rep at r; subst r; unfold D.p; exact .int i
  | n, .str x, v, r, h => by unfold Rep at r; obtain ⟨r, _⟩ := r; subst r; unfold D.p; exact .str x
  | n + 1, .tup xs, v, r, h => by
    unfold Rep at r
    obtain ⟨p, vs, ev, f, rs⟩ := r
    subst ev
    unfold D.p
    exact .tup f.sq (Reps.dp n xs vs rs (by unfold D.dat at h; exact h))
  | n + 1, .lst xs, v, r, h => by
    unfold Rep at r
    obtain ⟨p, vs, ev, f, _, rs⟩ := r
    subst ev
    unfold D.p
    exact .lst (SqL.of f) (Reps.dp n xs vs rs (by unfold D.dat at h; exact h))
  | n + 1, .cst xs, v, r, h => by
    unfold Rep at r
    obtain ⟨p, vs, ev, f, rs⟩ := r
    subst ev
    unfold D.p
    exact .lst f.sq (Reps.dp n xs vs rs (by unfold D.dat at h; exact h))
  | 0, .tup xs, v, r, h => by cases h
  | 0, .lst xs, v, r, h => by cases h
  | 0, .cst xs, v, r, h => by cases h
  | 0, .ref a, v, r, h => by cases h
  | 0, .ty t, v, r, h => by cases h
  | 0, .rp p, v, r, h => by cases h
  | 0, .ins C xs, v, r, h => by cases h
  | n + 1, .ref a, v, r, h => by cases h
  | n + 1, .ty t, v, r, h => by cases h
  | n + 1, .rp p, v, r, h => by cases h
  | n + 1, .ins C xs, v, r, h => by cases h
theorem Reps.dp : ∀ (n : Nat) (ds : List D) (vs : List V), Reps c L H S ds vs → ds.all (D.dat n) = true → DpAll c.K H vs (D.ps ds)
  | n, [], vs, r, h => by
    rw [r.of_nil]
    unfold D.ps
    exact .nil
  | n, d :: ds, vs, r, h => by
    obtain ⟨v, ws, ev, r1, rs⟩ := r.of_cons
    subst ev
    rw [List.all_cons, Bool.and_eq_true] at h
    unfold D.ps
    exact .cons (Rep.dp n d v r1 h.1) (Reps.dp n ds ws rs h.2)
end
mutual
theorem Rep.lay : ∀ (n : Nat) (d : D) (v : V), Rep c L H S d v → d.dat n = true → d.p.canLay0 = true ∧ d.p.depth ≤ n
  | n, .non, v, r, h => by unfold D.p; exact ⟨rfl, Nat.zero_le _⟩
  | n, .bl b, v, r, h => by unfold D.p; exact ⟨rfl, Nat.zero_le _⟩
  | n, .int i, v, r, h => by unfold D.p; exact ⟨rfl, Nat.zero_le _⟩
  | n, .str x, v, r, h => by
    unfold Rep at r
    unfold D.p
    exact ⟨r.2.2, Nat.zero_le _⟩
  | n + 1, .tup xs, v, r, h => by
    unfold Rep at r
    obtain ⟨p, vs, ev, f, rs⟩ := r
    have q := Reps.lay n xs vs rs (by unfold D.dat at h; exact h)
    unfold D.p
    exact ⟨q.1, Nat.succ_le_succ q.2⟩
  | n + 1, .lst xs, v, r, h => by
    unfold Rep at r
    obtain ⟨p, vs, ev, f, _, rs⟩ := r
    have q := Reps.lay n xs vs rs (by unfold D.dat at h; exact h)
    unfold D.p
    exact ⟨q.1, Nat.succ_le_succ q.2⟩
  | n + 1, .cst xs, v, r, h => by
    unfold Rep at r
    obtain ⟨p, vs, ev, f, rs⟩ := r
    have q := Reps.lay n xs vs rs (by unfold D.dat at h; exact h)
    unfold D.p
    exact ⟨q.1, Nat.succ_le_succ q.2⟩
  | 0, .tup xs, v, r, h => by cases h
  | 0, .lst xs, v, r, h => by cases h
  | 0, .cst xs, v, r, h => by cases h
  | 0, .ref a, v, r, h => by cases h
  | 0, .ty t, v, r, h => by cases h
  | 0, .rp p, v, r, h => by cases h
  | 0, .ins C xs, v, r, h => by cases h
  | n + 1, .ref a, v, r, h => by cases h
  | n + 1, .ty t, v, r, h => by cases h
  | n + 1, .rp p, v, r, h => by cases h
  | n + 1, .ins C xs, v, r, h => by cases h
theorem Reps.lay : ∀ (n : Nat) (ds : List D) (vs : List V), Reps c L H S ds vs → ds.all (D.dat n) = true → PyData.canLayAll0 (D.ps ds) = true ∧ PyData.depthAll (D.ps ds) ≤ n
  | n, [], vs, r, h => by unfold D.ps; exact ⟨rfl, Nat.zero_le _⟩
  | n, d :: ds, vs, r, h => by
    obtain ⟨v, ws, ev, r1, rs⟩ := r.of_cons
    rw [List.all_cons, Bool.and_eq_true] at h
    have q1 := Rep.lay n d v r1 h.1
    have q2 := Reps.lay n ds ws rs h.2
    unfold D.ps
    exact ⟨by show (_ && _) = true; rw [q1.1, q2.1]; rfl, Nat.max_le.mpr ⟨q1.2, q2.2⟩⟩
end
theorem Rep.shaped {n : Nat} {d : D} {v : V} (r : Rep c L H S d v) (h : d.dat n = true) (hn : n ≤ 64) : SeqAt.shaped d.p = true := by
  have q := r.lay n d v h
  show (_ && _) = true
  rw [q.1, Bool.true_and]
  exact decide_eq_true (Nat.le_trans q.2 hn)
/-- what is seen of a value, as data: its description holds, for comparing -/
theorem view_dp {n : Nat} {d : D} {v : V} (so : StoR c L H S) (r : Rep c L H S d v) (h : (view S d).dat n = true) (hn : n ≤ 64) : Dp c.K H v (view S d).p ∧ SeqAt.shaped (view S d).p = true := by
  cases d with
  | ref p =>
    unfold Rep at r
    subst r
    have e : view S (.ref p) = (match S p with | some (.lst xs) => D.lst xs | some (.ins C xs) => .ins C xs | none => .ref p) := rfl
    rw [e] at h ⊢
    cases s : S p with
    | none => rw [s] at h; cases n <;> cases h
    | some o =>
      rw [s] at h
      cases o with
      | ins C xs => cases n <;> cases h
      | lst xs =>
        obtain ⟨⟨vs, hp, rs⟩, _⟩ := so.at_ p _ s
        cases n with
        | zero => cases h
        | succ n =>
          have h : xs.all (D.dat n) = true := h
          have q := Reps.lay n xs vs rs h
          refine ⟨?_, ?_⟩
          · show Dp c.K H (.ref p) (D.lst xs).p
            unfold D.p
            exact .lst (SqL.of hp) (Reps.dp n xs vs rs h)
          · show SeqAt.shaped (D.lst xs).p = true
            unfold D.p
            show (_ && _) = true
            rw [show PyData.canLay0 (.list (D.ps xs)) = true from q.1, Bool.true_and]
            exact decide_eq_true (Nat.le_trans (Nat.succ_le_succ q.2) hn)
  | _ => exact ⟨r.dp n _ _ h, r.shaped h hn⟩
end

/-! ### operators by values -/
def MulOk (i j : Int) : Prop := i.natAbs.log2 + j.natAbs.log2 < 1000000
def DivOk (j : Int) : Prop := 0 < j ∧ j.natAbs.log2 < 9000
def rAdd (m : Bool) : DR2 := fun x y S Q _ => match x, y with
  | .int i, .int j => Q (.int (i + j)) S
  | .str a, .str b => a.length + b.length ≤ sizeLine ∧ Q (.str (a ++ b)) S
  | .tup a, .tup b => a.length + b.length ≤ sizeLine ∧ Q (.tup (a ++ b)) S
  | x, y => ∃ a b, seqM S x = some a ∧ seqM S y = some b ∧ a.length + b.length ≤ sizeLine ∧ mkL m (a ++ b) S Q
def rSub : DR2 := fun x y S Q _ => ∃ i j, x = .int i ∧ y = .int j ∧ Q (.int (i - j)) S
def rMul (m : Bool) : DR2 := fun x y S Q _ => match x, y with
  | .int i, .int j => MulOk i j ∧ Q (.int (i * j)) S
  | x, y => ∃ a k, seqM S x = some a ∧ y = .int k ∧ -(2 ^ 63) ≤ k ∧ k < 2 ^ 63 ∧ a.length * k.toNat ≤ sizeLine ∧ mkL m (List.replicate k.toNat a).flatten S Q
def rDiv : DR2 := fun x y S Q _ => ∃ i j, x = .int i ∧ y = .int j ∧ DivOk j ∧ Q (.int (i / j)) S
def rMod : DR2 := fun x y S Q _ => ∃ i j, x = .int i ∧ y = .int j ∧ 0 < j ∧ Q (.int (i % j)) S
def rPow : DR2 := fun x y S Q _ => ∃ i j, x = .int i ∧ y = .int j ∧ (0 ≤ j ∧ j ≤ 1000000 ∧ i.natAbs < 2 ^ 64) ∧ Q (.int (i ^ j.toNat)) S
def rNone : DR2 := fun _ _ _ _ _ => False
/-- the arithmetic operators -/
def rBin (m : Bool) : Operator → DR2
  | .Add => rAdd m
  | .Sub => rSub
  | .Mult => rMul m
  | .FloorDiv => rDiv
  | .Mod => rMod
  | .Pow => rPow
  | _ => rNone
section
variable {X : Cx} {A : Cla} {pins : List (Addr × Obj)} {σ : L2.St} {H : Hp} {s : Shared}
theorem SOk.append {a b : Str} (ha : SOk a) (hb : SOk b) (h : a.length + b.length ≤ sizeLine) : SOk (a ++ b) := by
  refine ⟨?_, ?_⟩
  · have e : (a ++ b).length = a.length + b.length := by
      show (a.cps ++ b.cps).size = a.cps.size + b.cps.size
      exact Array.size_append
    rw [e]
    exact h
  · show (a.cps ++ b.cps).all _ = true
    rw [Array.all_append, ha.2, hb.2]
    rfl
theorem opd_add {m : Bool} : OpD X A (binaryOp .Add) (rAdd m) := by
  intro pins s σ H x y v u Q I rx ry ⟨S, L, dx, dy, Qd, so, r1, r2, h, kq⟩
  have lists : (∃ a b, seqM S dx = some a ∧ seqM S dy = some b ∧ a.length + b.length ≤ sizeLine ∧ mkL m (a ++ b) S Qd) → wpAny (model X.prog X.w) X.A (binaryOp .Add v u) (EP X pins σ Q) X.xe s := by
    rintro ⟨a, b, ea, eb, hz, q⟩
    obtain ⟨p, vs, ev, qa, ra⟩ := seqM_ok so r1 ea
    obtain ⟨p', ws, ew, qb, rb⟩ := seqM_ok so r2 eb
    exact op_cat pins s σ H x y v u Q I rx ry ⟨p, p', vs, ws, ev, ew, qa, qb, by rw [ra.length, rb.length]; exact hz, mkL_ok q kq so (ra.append rb)⟩
  cases dx with
  | int i => cases dy with
    | int j =>
      unfold Rep at r1 r2
      exact op_add pins s σ H x y v u Q I rx ry ⟨i, j, r1, r2, kq _ H _ S .refl so (by unfold Rep; rfl) h⟩
    | _ => exact lists h
  | str i => cases dy with
    | str j =>
      unfold Rep at r1 r2
      exact op_add_str pins s σ H x y v u Q I rx ry ⟨i, j, r1.1, r2.1, h.1, kq _ H _ S .refl so (by unfold Rep; exact ⟨rfl, r1.2.append r2.2 h.1⟩) h.2⟩
    | _ => exact lists h
  | tup a => cases dy with
    | tup b =>
      have r1' := r1
      have r2' := r2
      unfold Rep at r1 r2
      obtain ⟨p, vs, ev, fa, ra⟩ := r1
      obtain ⟨p', ws, ew, fb, rb⟩ := r2
      refine op_catA pins s σ H x y v u Q I rx ry ⟨p, p', vs, ws, ev, ew, fa.sq, fb.sq, by rw [ra.length, rb.length]; exact h.1, fun e => ?_, fun _ e => ?_, fun _ _ => mkT_ok h.2 kq so (ra.append rb)⟩
      · have ea : a = [] := List.eq_nil_of_length_eq_zero (by rw [← ra.length, e]; rfl)
        have h2 := h.2
        rw [ea, List.nil_append] at h2
        rw [← ew]
        exact kq _ H _ S .refl so r2' h2
      · have eb : b = [] := List.eq_nil_of_length_eq_zero (by rw [← rb.length, e]; rfl)
        have h2 := h.2
        rw [eb, List.append_nil] at h2
        rw [← ev]
        exact kq _ H _ S .refl so r1' h2
    | _ => exact lists h
  | _ => exact lists h
theorem opd_sub : OpD X A (binaryOp .Sub) rSub := by
  intro pins s σ H x y v u Q I rx ry ⟨S, L, dx, dy, Qd, so, r1, r2, ⟨i, j, e1, e2, h⟩, kq⟩
  subst e1 e2
  unfold Rep at r1 r2
  exact op_sub pins s σ H x y v u Q I rx ry ⟨i, j, r1, r2, kq _ H _ S .refl so (by unfold Rep; rfl) h⟩
theorem opd_mul {m : Bool} : OpD X A (binaryOp .Mult) (rMul m) := by
  intro pins s σ H x y v u Q I rx ry ⟨S, L, dx, dy, Qd, so, r1, r2, h, kq⟩
  have lists : (∃ a k, seqM S dx = some a ∧ dy = .int k ∧ -(2 ^ 63) ≤ k ∧ k < 2 ^ 63 ∧ a.length * k.toNat ≤ sizeLine ∧ mkL m (List.replicate k.toNat a).flatten S Qd) → wpAny (model X.prog X.w) X.A (binaryOp .Mult v u) (EP X pins σ Q) X.xe s := by
    rintro ⟨a, k, ea, eb, h1, h2, hz, q⟩
    subst eb
    obtain ⟨p, vs, ev, qa, ra⟩ := seqM_ok so r1 ea
    unfold Rep at r2
    have rep : ∀ n : Nat, Reps (cX X A) L H S (List.replicate n a).flatten (List.replicate n vs).flatten := by
      intro n
      induction n with
      | zero => exact .nil
      | succ n ih =>
        rw [List.replicate_succ, List.replicate_succ, List.flatten_cons, List.flatten_cons]
        exact ra.append ih
    exact op_rep pins s σ H x y v u Q I rx ry ⟨p, k, vs, ev, r2, qa, h1, h2, by rw [ra.length]; exact hz, mkL_ok q kq so (rep _)⟩
  cases dx with
  | int i => cases dy with
    | int j =>
      unfold Rep at r1 r2
      exact op_mulW pins s σ H x y v u Q I rx ry ⟨i, j, r1, r2, h.1, kq _ H _ S .refl so (by unfold Rep; rfl) h.2⟩
    | _ => exact lists h
  | _ => exact lists h
theorem opd_div : OpD X A (binaryOp .FloorDiv) rDiv := by
  intro pins s σ H x y v u Q I rx ry ⟨S, L, dx, dy, Qd, so, r1, r2, ⟨i, j, e1, e2, hc, h⟩, kq⟩
  subst e1 e2
  unfold Rep at r1 r2
  exact op_fdivW pins s σ H x y v u Q I rx ry ⟨i, j, r1, r2, hc, kq _ H _ S .refl so (by unfold Rep; rfl) h⟩
theorem opd_mod : OpD X A (binaryOp .Mod) rMod := by
  intro pins s σ H x y v u Q I rx ry ⟨S, L, dx, dy, Qd, so, r1, r2, ⟨i, j, e1, e2, hc, h⟩, kq⟩
  subst e1 e2
  unfold Rep at r1 r2
  exact op_mod pins s σ H x y v u Q I rx ry ⟨i, j, r1, r2, hc, kq _ H _ S .refl so (by unfold Rep; rfl) h⟩
theorem opd_pow : OpD X A (binaryOp .Pow) rPow := by
  intro pins s σ H x y v u Q I rx ry ⟨S, L, dx, dy, Qd, so, r1, r2, ⟨i, j, e1, e2, hc, h⟩, kq⟩
  subst e1 e2
  unfold Rep at r1 r2
  exact op_pow pins s σ H x y v u Q I rx ry ⟨i, j, r1, r2, hc, kq _ H _ S .refl so (by unfold Rep; rfl) h⟩
theorem opd_bin {m : Bool} : ∀ op : Operator, OpD X A (binaryOp op) (rBin m op)
  | .Add => opd_add
  | .Sub => opd_sub
  | .Mult => opd_mul
  | .FloorDiv => opd_div
  | .Mod => opd_mod
  | .Pow => opd_pow
  | .MatMult | .Div | .LShift | .RShift | .BitOr | .BitXor | .BitAnd => fun _ _ _ _ _ _ _ _ _ _ _ _ ⟨_, _, _, _, _, _, _, _, h, _⟩ => h.elim
/-- -x -/
def rNeg : DR1 := fun x S Q _ => ∃ i, x = .int i ∧ Q (.int (-i)) S
theorem und_neg : UnR X (unaryOp .USub) (liftR1 (cX X A) rNeg) := by
  intro pins s σ H x v Q I rx ⟨S, L, dx, Qd, so, r1, ⟨i, e1, h⟩, kq⟩
  subst e1
  unfold Rep at r1
  exact un_neg pins s σ H x v Q I rx ⟨i, r1, kq _ H _ S .refl so (by unfold Rep; rfl) h⟩

/-! ### comparisons -/
def rEqD (x y : D) (S : Sto) (Q : Bool → Prop) : Prop := (view S x).dat 32 = true ∧ (view S y).dat 32 = true ∧ Q (PyData.eqv (view S x).p (view S y).p)
def rEqR (x y : D) (S : Sto) (Q : Bool → Prop) : Prop := match x, y with
  | .rp p, .rp q => Q (decide (p.shown = q.shown))
  | .rp p, .str z => Q (decide (p.shown = z))
  | .str z, .rp p => Q (decide (z = p.shown))
  | x, y => rEqD x y S Q
def dEq : DR2 := fun x y S Q _ => rEqR x y S fun b => Q (.bl b) S
def dNe : DR2 := fun x y S Q _ => rEqR x y S fun b => Q (.bl (!b)) S
theorem dec_strV {a b : Str} : decide (V.str a = V.str b) = decide (a = b) := by
  by_cases e : a = b
  · subst e; simp
  · have : V.str a ≠ V.str b := fun z => e (V.str.inj z)
    simp [e, this]
theorem opd_eq {k : Nat} (m : Rm k X.A) : OpD X A (compareOp .Eq) dEq := by
  intro pins s σ H x y v u Q I rx ry ⟨S, L, dx, dy, Qd, so, r1, r2, h, kq⟩
  have bl : ∀ b, Qd (.bl b) S → Q (.bl b) H := fun b q => kq _ H _ S .refl so (by unfold Rep; rfl) q
  have dat : rEqD dx dy S (fun b => Qd (.bl b) S) → wpAny (model X.prog X.w) X.A (compareOp .Eq v u) (EP X pins σ Q) X.xe s := fun ⟨h1, h2, h⟩ => by
    have a := view_dp so r1 h1 (by decide)
    have b := view_dp so r2 h2 (by decide)
    exact op_eqD m.r.units pins s σ H x y v u Q I rx ry ⟨_, _, a.1, b.1, a.2, b.2, bl _ h⟩
  have two : ∀ a b : Str, x = .str a → y = .str b → Qd (.bl (decide (a = b))) S → wpAny (model X.prog X.w) X.A (compareOp .Eq v u) (EP X pins σ Q) X.xe s := fun a b ex ey q => by
    subst ex ey
    exact op_eq pins s σ H _ _ v u Q I rx ry ⟨rfl, by rw [dec_strV]; exact bl _ q⟩
  cases dx with
  | rp p => cases dy with
    | rp q => unfold Rep at r1 r2; exact two _ _ r1.1 r2.1 h
    | str z => unfold Rep at r1 r2; exact two _ _ r1.1 r2.1 h
    | _ => exact dat h
  | str z => cases dy with
    | rp q => unfold Rep at r1 r2; exact two _ _ r1.1 r2.1 h
    | _ => exact dat h
  | _ => exact dat h
theorem opd_ne {k : Nat} (m : Rm k X.A) : OpD X A (compareOp .NotEq) dNe := by
  intro pins s σ H x y v u Q I rx ry ⟨S, L, dx, dy, Qd, so, r1, r2, h, kq⟩
  have bl : ∀ b, Qd (.bl b) S → Q (.bl b) H := fun b q => kq _ H _ S .refl so (by unfold Rep; rfl) q
  have dat : rEqD dx dy S (fun b => Qd (.bl (!b)) S) → wpAny (model X.prog X.w) X.A (compareOp .NotEq v u) (EP X pins σ Q) X.xe s := fun ⟨h1, h2, h⟩ => by
    have a := view_dp so r1 h1 (by decide)
    have b := view_dp so r2 h2 (by decide)
    exact op_neD m.r.units pins s σ H x y v u Q I rx ry ⟨_, _, a.1, b.1, a.2, b.2, bl _ h⟩
  have two : ∀ a b : Str, x = .str a → y = .str b → Qd (.bl (!decide (a = b))) S → wpAny (model X.prog X.w) X.A (compareOp .NotEq v u) (EP X pins σ Q) X.xe s := fun a b ex ey q => by
    subst ex ey
    exact op_ne pins s σ H _ _ v u Q I rx ry ⟨rfl, by rw [dec_strV]; exact bl _ q⟩
  cases dx with
  | rp p => cases dy with
    | rp q => unfold Rep at r1 r2; exact two _ _ r1.1 r2.1 h
    | str z => unfold Rep at r1 r2; exact two _ _ r1.1 r2.1 h
    | _ => exact dat h
  | str z => cases dy with
    | rp q => unfold Rep at r1 r2; exact two _ _ r1.1 r2.1 h
    | _ => exact dat h
  | _ => exact dat h
/-- the order of texts -/
def strLt (a b : Str) : Bool := decide (a.cps.toList < b.cps.toList)
def dLt : DR2 := fun x y S Q _ => match x, y with
  | .int i, .int j => Q (.bl (decide (i < j))) S
  | .str a, .str b => Q (.bl (strLt a b)) S
  | _, _ => False
def dLe : DR2 := fun x y S Q _ => match x, y with
  | .int i, .int j => Q (.bl (decide (i ≤ j))) S
  | .str a, .str b => Q (.bl (!strLt b a)) S
  | _, _ => False
def dGt : DR2 := fun x y S Q _ => match x, y with
  | .int i, .int j => Q (.bl (decide (j < i))) S
  | .str a, .str b => Q (.bl (strLt b a)) S
  | _, _ => False
def dGe : DR2 := fun x y S Q _ => match x, y with
  | .int i, .int j => Q (.bl (decide (j ≤ i))) S
  | .str a, .str b => Q (.bl (!strLt a b)) S
  | _, _ => False
theorem opd_lt : OpD X A (compareOp .Lt) dLt := by
  intro pins s σ H x y v u Q I rx ry ⟨S, L, dx, dy, Qd, so, r1, r2, h, kq⟩
  have bl : ∀ b, Qd (.bl b) S → Q (.bl b) H := fun b q => kq _ H _ S .refl so (by unfold Rep; rfl) q
  cases dx <;> cases dy <;> first
    | exact h.elim
    | (unfold Rep at r1 r2; exact op_lt pins s σ H x y v u Q I rx ry ⟨_, _, r1, r2, bl _ h⟩)
    | (unfold Rep at r1 r2; exact op_lt_str pins s σ H x y v u Q I rx ry ⟨_, _, r1.1, r2.1, bl _ h⟩)
theorem opd_le : OpD X A (compareOp .LtE) dLe := by
  intro pins s σ H x y v u Q I rx ry ⟨S, L, dx, dy, Qd, so, r1, r2, h, kq⟩
  have bl : ∀ b, Qd (.bl b) S → Q (.bl b) H := fun b q => kq _ H _ S .refl so (by unfold Rep; rfl) q
  cases dx <;> cases dy <;> first
    | exact h.elim
    | (unfold Rep at r1 r2; exact op_le pins s σ H x y v u Q I rx ry ⟨_, _, r1, r2, bl _ h⟩)
    | (unfold Rep at r1 r2; exact op_le_str pins s σ H x y v u Q I rx ry ⟨_, _, r1.1, r2.1, bl _ h⟩)
theorem opd_gt : OpD X A (compareOp .Gt) dGt := by
  intro pins s σ H x y v u Q I rx ry ⟨S, L, dx, dy, Qd, so, r1, r2, h, kq⟩
  have bl : ∀ b, Qd (.bl b) S → Q (.bl b) H := fun b q => kq _ H _ S .refl so (by unfold Rep; rfl) q
  cases dx <;> cases dy <;> first
    | exact h.elim
    | (unfold Rep at r1 r2; exact op_gt pins s σ H x y v u Q I rx ry ⟨_, _, r1, r2, bl _ h⟩)
    | (unfold Rep at r1 r2; exact op_gt_str pins s σ H x y v u Q I rx ry ⟨_, _, r1.1, r2.1, bl _ h⟩)
theorem opd_ge : OpD X A (compareOp .GtE) dGe := by
  intro pins s σ H x y v u Q I rx ry ⟨S, L, dx, dy, Qd, so, r1, r2, h, kq⟩
  have bl : ∀ b, Qd (.bl b) S → Q (.bl b) H := fun b q => kq _ H _ S .refl so (by unfold Rep; rfl) q
  cases dx <;> cases dy <;> first
    | exact h.elim
    | (unfold Rep at r1 r2; exact op_ge pins s σ H x y v u Q I rx ry ⟨_, _, r1, r2, bl _ h⟩)
    | (unfold Rep at r1 r2; exact op_ge_str pins s σ H x y v u Q I rx ry ⟨_, _, r1.1, r2.1, bl _ h⟩)
/-- is None; data within a list, a tuple; a text within a text -/
def inStr (x y : Str) : Bool := match x.cps.toList with
  | [k] => decide (k ∈ y.cps.toList)
  | _ => !(Builtin.Str.occurrences y x 0 y.length 1).isEmpty
def inData (S : Sto) (x : D) (ds : List D) : Bool := ds.any fun z => PyData.eqv z.p (view S x).p
def rIn (f : Bool → Bool) : DR2 := fun x y S Q _ => match x, y with
  | .str a, .str b => Q (.bl (f (inStr a b))) S
  | x, y => ∃ ds, seqA S y = some ds ∧ (view S x).dat 16 = true ∧ ds.all (D.dat 16) = true ∧ Q (.bl (f (inData S x ds))) S
def D.isN : D → Bool
  | .non => true
  | _ => false
def rIs (f : Bool → Bool) : DR2 := fun x y S Q _ => y = .non ∧ Q (.bl (f x.isN)) S
theorem rep_non {c : Cfg} {L : Lk} {H : Hp} {S : Sto} {d : D} {v : V} (r : Rep c L H S d v) : decide (v = .non) = d.isN := by
  cases d with
  | non => unfold Rep at r; subst r; rfl
  | bl b => unfold Rep at r; subst r; rfl
  | int b => unfold Rep at r; subst r; rfl
  | str b => unfold Rep at r; obtain ⟨r, _⟩ := r; subst r; rfl
  | ref b => unfold Rep at r; subst r; rfl
  | ty t => unfold Rep at r; subst r; cases t <;> rfl
  | rp p => unfold Rep at r; obtain ⟨r, _⟩ := r; subst r; rfl
  | tup b => unfold Rep at r; obtain ⟨_, _, r, _⟩ := r; subst r; rfl
  | lst b => unfold Rep at r; obtain ⟨_, _, r, _⟩ := r; subst r; rfl
  | cst b => unfold Rep at r; obtain ⟨_, _, r, _⟩ := r; subst r; rfl
  | ins C b => unfold Rep at r; obtain ⟨_, _, _, r, _⟩ := r; subst r; rfl
theorem opd_is : OpD X A (compareOp .Is) (rIs id) := by
  intro pins s σ H x y v u Q I rx ry ⟨S, L, dx, dy, Qd, so, r1, r2, ⟨e, h⟩, kq⟩
  subst e
  unfold Rep at r2
  exact op_isN pins s σ H x y v u Q I rx ry ⟨r2, kq _ H _ S .refl so (by unfold Rep; rw [rep_non r1]; rfl) h⟩
theorem opd_isnot : OpD X A (compareOp .IsNot) (rIs not) := by
  intro pins s σ H x y v u Q I rx ry ⟨S, L, dx, dy, Qd, so, r1, r2, ⟨e, h⟩, kq⟩
  subst e
  unfold Rep at r2
  exact op_notN pins s σ H x y v u Q I rx ry ⟨r2, kq _ H _ S .refl so (by unfold Rep; rw [rep_non r1]) h⟩
end
end DL

namespace DL
open PySem PySem.Spec PyProof.Rows L2

section
variable {X : Cx} {A : Cla} {W : WX} {pins : List (Addr × Obj)} {σ : L2.St} {H : Hp} {s : Shared}
/-! ### in -/
theorem seqA_dp {c : Cfg} {L : Lk} {S : Sto} {d : D} {v : V} {ds : List D} (so : StoR c L H S) (r : Rep c L H S d v) (h : seqA S d = some ds) {n : Nat} (hd : ds.all (D.dat n) = true) :
    Dp c.K H v (.list (D.ps ds)) ∨ Dp c.K H v (.tuple (D.ps ds)) := by
  obtain ⟨p, vs, ev, q, rs⟩ := seqA_ok so r h
  subst ev
  have a := Reps.dp n ds vs rs hd
  rcases q with q | q
  · exact .inl (.lst q a)
  · exact .inr (.tup q a)
theorem seqA_lay {c : Cfg} {L : Lk} {S : Sto} {d : D} {v : V} {ds : List D} (so : StoR c L H S) (r : Rep c L H S d v) (h : seqA S d = some ds) {n : Nat} (hd : ds.all (D.dat n) = true) :
    PyData.canLayAll0 (D.ps ds) = true ∧ PyData.depthAll (D.ps ds) ≤ n := by
  obtain ⟨p, vs, ev, q, rs⟩ := seqA_ok so r h
  exact Reps.lay n ds vs rs hd
theorem any_ps (P : PyData → Bool) : ∀ ds : List D, (D.ps ds).any P = ds.any fun z => P z.p
  | [] => by unfold D.ps; rfl
  | d :: ds => by unfold D.ps; rw [List.any_cons, List.any_cons, any_ps P ds]
theorem inStr_of (a b : Str) : inStr a b = !(Builtin.Str.occurrences b a 0 b.length 1).isEmpty := by
  unfold inStr
  split
  · rename_i k e
    have ea : a = ⟨#[k]⟩ := by
      obtain ⟨⟨l⟩⟩ := a
      have e : l = [k] := e
      subst e
      rfl
    subst ea
    exact (PySem.StrLaws.found_one b k).symm
  · rfl
theorem opd_in {k : Nat} (m : Rm k X.A) : OpD X A (compareOp .In) (rIn id) := by
  intro pins s σ H x y v u Q I rx ry ⟨S, L, dx, dy, Qd, so, r1, r2, h, kq⟩
  have bl : ∀ b, Qd (.bl b) S → Q (.bl b) H := fun b q => kq _ H _ S .refl so (by unfold Rep; rfl) q
  have dat : (∃ ds, seqA S dy = some ds ∧ (view S dx).dat 16 = true ∧ ds.all (D.dat 16) = true ∧ Qd (.bl (inData S dx ds)) S) → wpAny (model X.prog X.w) X.A (compareOp .In v u) (EP X pins σ Q) X.xe s := fun ⟨ds, e, h1, h2, h⟩ => by
    have a := view_dp so r1 h1 (by decide)
    have l := seqA_lay so r2 e h2
    have hu := m.r.un
    obtain ⟨as, ra⟩ := Dp.reads I _ x v a.1 rx
    have room : X.A.units + 1 + min (PyData.depthAll (D.ps ds)) (view S dx).p.depth < cLine := by omega
    have fin : EP X pins σ Q (.bool ((D.ps ds).any fun y => PyData.eqv y (view S dx).p)) s := ⟨.bl _, H, I, rfl, by rw [any_ps]; exact bl _ h⟩
    rcases seqA_dp so r2 e h2 with q | q
    · obtain ⟨bs, rb⟩ := Dp.reads I _ y u q ry
      exact SeqAt.in_list_reads rb ra l.1 (SeqAt.canLay_of_shaped a.2) room fin
    · obtain ⟨bs, rb⟩ := Dp.reads I _ y u q ry
      exact SeqAt.in_tuple_reads rb ra l.1 (SeqAt.canLay_of_shaped a.2) room fin
  cases dx with
  | str z => cases dy with
    | str w =>
      unfold Rep at r1 r2
      exact op_in_str pins s σ H x y v u Q I rx ry ⟨z, w, r1.1, r2.1, by rw [← inStr_of]; exact bl _ h⟩
    | _ => exact dat h
  | _ => exact dat h
theorem opd_notin {k : Nat} (m : Rm k X.A) : OpD X A (compareOp .NotIn) (rIn not) := by
  intro pins s σ H x y v u Q I rx ry ⟨S, L, dx, dy, Qd, so, r1, r2, h, kq⟩
  have bl : ∀ b, Qd (.bl b) S → Q (.bl b) H := fun b q => kq _ H _ S .refl so (by unfold Rep; rfl) q
  have dat : (∃ ds, seqA S dy = some ds ∧ (view S dx).dat 16 = true ∧ ds.all (D.dat 16) = true ∧ Qd (.bl (!inData S dx ds)) S) → wpAny (model X.prog X.w) X.A (compareOp .NotIn v u) (EP X pins σ Q) X.xe s := fun ⟨ds, e, h1, h2, h⟩ => by
    have a := view_dp so r1 h1 (by decide)
    have l := seqA_lay so r2 e h2
    have hu := m.r.un
    obtain ⟨as, ra⟩ := Dp.reads I _ x v a.1 rx
    have room : X.A.units + 1 + min (PyData.depthAll (D.ps ds)) (view S dx).p.depth < cLine := by omega
    have fin : EP X pins σ Q (.bool (!(D.ps ds).any fun y => PyData.eqv y (view S dx).p)) s := ⟨.bl _, H, I, rfl, by rw [any_ps]; exact bl _ h⟩
    rcases seqA_dp so r2 e h2 with q | q
    · obtain ⟨bs, rb⟩ := Dp.reads I _ y u q ry
      exact SeqAt.notIn_list_reads rb ra l.1 (SeqAt.canLay_of_shaped a.2) room fin
    · obtain ⟨bs, rb⟩ := Dp.reads I _ y u q ry
      exact SeqAt.notIn_tuple_reads rb ra l.1 (SeqAt.canLay_of_shaped a.2) room fin
  cases dx with
  | str z => cases dy with
    | str w =>
      unfold Rep at r1 r2
      exact op_notin_str pins s σ H x y v u Q I rx ry ⟨z, w, r1.1, r2.1, by rw [← inStr_of]; exact bl _ h⟩
    | _ => exact dat h
  | _ => exact dat h
/-- the comparisons -/
def rCmp : CmpOp → DR2
  | .Eq => dEq
  | .NotEq => dNe
  | .Lt => dLt
  | .LtE => dLe
  | .Gt => dGt
  | .GtE => dGe
  | .Is => rIs id
  | .IsNot => rIs not
  | .In => rIn id
  | .NotIn => rIn not
theorem opd_cmp {k : Nat} (m : Rm k X.A) : ∀ op : CmpOp, OpD X A (compareOp op) (rCmp op)
  | .Eq => opd_eq m
  | .NotEq => opd_ne m
  | .Lt => opd_lt
  | .LtE => opd_le
  | .Gt => opd_gt
  | .GtE => opd_ge
  | .Is => opd_is
  | .IsNot => opd_isnot
  | .In => opd_in m
  | .NotIn => opd_notin m

/-! ### items, slices -/
def chD (k : Nat) : D := .str ⟨#[k]⟩
theorem SOk.ch {z : Str} (h : SOk z) {k : Nat} (hk : k ∈ z.cps.toList) : SOk ⟨#[k]⟩ := by
  refine ⟨by show 1 ≤ sizeLine; decide, ?_⟩
  have q := h.2
  rw [Array.all_eq_true'] at q
  have e := q k (by simpa using hk)
  simpa using e
def rIdx : DR2 := fun x y S Q _ => match x with
  | .str z => ∃ i k, y = .int i ∧ atI z.cps.toList i = some k ∧ Q (chD k) S
  | x => ∃ ds i d, seqA S x = some ds ∧ y = .int i ∧ atI ds i = some d ∧ Q d S
theorem atI_len {α β : Type} {xs : List α} {ys : List β} (h : xs.length = ys.length) {i : Int} {x : α} (e : atI xs i = some x) : ∃ j : Nat, xs[j]? = some x ∧ ∀ y, ys[j]? = some y → atI ys i = some y := by
  unfold atI at e ⊢
  rw [h] at e
  cases q : ixN ys.length i with
  | none => rw [q] at e; cases e
  | some j =>
    rw [q] at e
    exact ⟨j, e, fun y hy => hy⟩
theorem ixd : IxR X (liftR2 (cX X A) rIdx) := by
  intro value slice pins s σ H x y v u Q I rx ry ⟨S, L, dx, dy, Qd, so, r1, r2, h, kq⟩ hs
  have seq : (∃ ds i d, seqA S dx = some ds ∧ dy = .int i ∧ atI ds i = some d ∧ Qd d S) → wpAny (model X.prog X.w) X.A (subscriptTail value slice v u) (EP X pins σ Q) X.xe s := fun ⟨ds, i, d, e, ei, ed, q⟩ => by
    subst ei
    unfold Rep at r2
    obtain ⟨p, vs, ev, qs, rs⟩ := seqA_ok so r1 e
    obtain ⟨j, h1, h2⟩ := atI_len rs.length.symm ed
    obtain ⟨w, hw, rw'⟩ := rs.get h1
    have q' := kq w H d S .refl so rw' q
    rcases qs with qs | qs
    · exact ix_list value slice pins s σ H x y v u Q I rx ry ⟨p, vs, i, w, ev, r2, qs, h2 w hw, q'⟩ hs
    · exact ix_tup value slice pins s σ H x y v u Q I rx ry ⟨p, vs, i, w, ev, r2, qs, h2 w hw, q'⟩ hs
  cases dx with
  | str z =>
    obtain ⟨i, k, ei, e, q⟩ := h
    subst ei
    unfold Rep at r1 r2
    have hk : k ∈ z.cps.toList := by
      obtain ⟨j, h1, _⟩ := atI_len (ys := z.cps.toList) rfl e
      exact List.mem_of_getElem? h1
    exact ix_str value slice pins s σ H x y v u Q I rx ry ⟨z, i, k, r1.1, r2, r1.2.1, e, kq _ H (chD k) S .refl so (by unfold chD Rep; exact ⟨rfl, r1.2.ch hk⟩) q⟩ hs
  | _ => exact seq h
theorem de_idx {a b : Expr} {pos : Pos} {t u : DT} (ha : DE X A W a t) (hb : DE X A W b u) (hs : PlainIx b) : DE X A W (.Subscript a b pos) (dOp rIdx t u) := PE.mono (pe_ix ixd ha hb hs) fun _ _ _ => tOp_lift
/-- slices -/
def cutD {α : Type} (xs : List α) (lo hi : Option Int) : List α := (xs.drop (HT.sIx xs.length 0 lo)).take (HT.sIx xs.length xs.length hi - HT.sIx xs.length 0 lo)
theorem cut_reps {c : Cfg} {L : Lk} {S : Sto} {ds : List D} {vs : List V} (r : Reps c L H S ds vs) (lo hi : Option Int) : Reps c L H S (cutD ds lo hi) (cutV vs lo hi) := by
  unfold cutD cutV
  rw [r.length]
  exact (r.drop _).take _
theorem SOk.cut {z : Str} (h : SOk z) (lo hi : Option Int) : SOk (cutS z lo hi) := by
  have sub : ∀ k, k ∈ (cutS z lo hi).cps.toList → k ∈ z.cps.toList := fun k hk => by
    unfold cutS at hk
    exact List.mem_of_mem_drop (List.mem_of_mem_take (by simpa using hk))
  refine ⟨?_, ?_⟩
  · have e : (cutS z lo hi).length ≤ z.length := by
      unfold cutS
      show (List.toArray _).size ≤ z.cps.size
      rw [List.size_toArray, List.length_take, List.length_drop]
      have : z.cps.toList.length = z.cps.size := by simp
      omega
    exact Nat.le_trans e h.1
  · have q := h.2
    rw [Array.all_eq_true'] at q ⊢
    intro k hk
    exact q k (by simpa using sub k (by simpa using hk))
def rSlc (m : Bool) (x : D) (lo hi : Option Int) (S : Sto) (Q : DQ) : Prop := match x with
  | .str z => Q (.str (cutS z lo hi)) S
  | .tup a => Q (.tup (cutD a lo hi)) S
  | x => ∃ a, seqL S x = some a ∧ mkL m (cutD a lo hi) S Q
def liftSl (c : Cfg) (m : Bool) : V → Option Int → Option Int → Hp → VK → Prop := fun x lo hi H Q => ∃ S L dx Qd, StoR c L H S ∧ Rep c L H S dx x ∧ rSlc m dx lo hi S Qd ∧ KQ c L H S Q Qd
theorem sld {m : Bool} : SlR X (liftSl (cX X A) m) := by
  intro pins s σ H x v vl vu lo hi sl Q I rx hs pl pu ⟨S, L, dx, Qd, so, r1, h, kq⟩
  have seq : (∃ a, seqL S dx = some a ∧ mkL m (cutD a lo hi) S Qd) → ∃ T id, typeLookup (.type T) "__getitem__" = pure (some (.builtin id)) ∧ s.TypeIs v T ∧ wpAny (model X.prog X.w) X.A (getItem v (.ref sl)) (EP X pins σ Q) X.xe s := fun ⟨a, e, q⟩ => by
    obtain ⟨p, vs, ev, qs, rs⟩ := seqL_ok so r1 e
    exact sl_list pins s σ H x v vl vu lo hi sl Q I rx hs pl pu ⟨p, vs, ev, qs, mkL_ok q kq so (cut_reps rs lo hi)⟩
  cases dx with
  | str z =>
    unfold Rep at r1
    exact sl_str pins s σ H x v vl vu lo hi sl Q I rx hs pl pu ⟨z, r1.1, r1.2.1, kq _ H _ S .refl so (by unfold Rep; exact ⟨rfl, r1.2.cut lo hi⟩) h⟩
  | tup a =>
    have r1' := r1
    unfold Rep at r1
    obtain ⟨p, vs, ev, f, rs⟩ := r1
    refine sl_tupA pins s σ H x v vl vu lo hi sl Q I rx hs pl pu ⟨p, vs, ev, f.sq, fun ⟨h1, h2⟩ => ?_, fun _ => mkT_ok (show Qd (.tup (cutD a lo hi)) S from h) kq so (cut_reps rs lo hi)⟩
    have h' : Qd (.tup (cutD a lo hi)) S := h
    have e : cutD a lo hi = a := by
      unfold cutD
      rw [← rs.length, h1, h2, Nat.sub_zero, List.drop_zero, rs.length, List.take_length]
    rw [e] at h'
    rw [← ev]
    exact kq _ H _ S .refl so r1' h'
  | _ => exact seq h
/-- a slice's part: left out, or an int -/
def dPart (t : Option DT) (ρ : DSt) (S : Sto) (Q : Option Int → Sto → Prop) (E : DX) : Prop := match t with
  | none => Q none S
  | some t => t ρ S (fun x S1 => ∃ i, x = .int i ∧ Q (some i) S1) E
def KO (c : Cfg) (L : Lk) (H : Hp) (S : Sto) (Q : Option Int → Hp → Prop) (Qd : Option Int → Sto → Prop) : Prop := ∀ o H' S', Ext H S H' S' → StoR c L H' S' → Qd o S' → Q o H'
def liftO (c : Cfg) (W : WX) (t : Option DT) : TO := fun σ H Q => ∃ ρ S L Qd Ed, EnvR c L H S ρ σ ∧ StoR c L H S ∧ dPart t ρ S Qd Ed ∧ KO c L H S Q Qd ∧ KX c L H S (fun n a H' => W n a σ H') Ed
theorem PO.mono {e : Option Expr} {t t' : TO} (h : PO X e t) (m : ∀ σ H Q, t' σ H Q → t σ H Q) : PO X e t' := ⟨fun pins s σ H Q I q => h.run pins s σ H Q I (m σ H Q q)⟩
theorem do_none : PO X none (liftO (cX X A) W none) := PO.mono po_none fun σ H Q ⟨ρ, S, L, Qd, Ed, sl, so, h, ko, kx⟩ => ko none H S .refl so h
theorem do_some {e : Expr} {t : DT} (he : DE X A W e t) : PO X (some e) (liftO (cX X A) W (some t)) := PO.mono (po_some he) fun σ H Q ⟨ρ, S, L, Qd, Ed, sl, so, h, ko, kx⟩ =>
  ⟨ρ, S, L, _, Ed, sl, so, h, fun v H1 d S1 e1 so1 r1 ⟨i, ei, q1⟩ => by
    subst ei
    unfold Rep at r1
    exact ⟨i, r1, ko (some i) H1 S1 e1 so1 q1⟩, kx⟩
def dSlc (m : Bool) (t : DT) (lo hi : Option DT) : DT := fun ρ S Q E => t ρ S (fun x S1 => dPart lo ρ S1 (fun i S2 => dPart hi ρ S2 (fun j S3 => rSlc m x i j S3 Q) E) E) E
theorem de_slc {m : Bool} {e : Expr} {lo hi : Option Expr} {pos p2 : Pos} {t : DT} {tl th : Option DT} (he : DE X A W e t) (hl : PO X lo (liftO (cX X A) W tl)) (hh : PO X hi (liftO (cX X A) W th)) : DE X A W (.Subscript e (.Slice lo hi none p2) pos) (dSlc m t tl th) :=
  PE.mono (pe_slice (sld (m := m)) he hl hh) fun σ H Q ⟨ρ, S, L, Qd, Ed, sl, so, h, kq, kx⟩ =>
    ⟨ρ, S, L, _, Ed, sl, so, h, fun v H1 d S1 e1 so1 r1 q1 => ⟨ρ, S1, L, _, Ed, sl.ext e1, so1, q1, fun i H2 S2 e2 so2 q2 => ⟨ρ, S2, L, _, Ed, sl.ext (e1.trans e2), so2, q2, fun j H3 S3 e3 so3 q3 =>
      ⟨S3, L, d, Qd, so3, r1.ext (e2.trans e3), q3, kq.ext ((e1.trans e2).trans e3)⟩, kx.ext (e1.trans e2)⟩, kx.ext e1⟩, kx⟩
end
end DL

namespace DL
open PySem PySem.Spec PyProof.Rows L2

section
variable {X : Cx} {A : Cla} {W : WX} {pins : List (Addr × Obj)} {σ : L2.St} {H : Hp} {s : Shared}
/-! ### built-in functions by values -/
def lenD (S : Sto) : D → Option Nat
  | .str z => some z.length
  | x => (seqA S x).map List.length
def rLen : DRA := fun ds S Q _ => ∃ x n, ds = [x] ∧ lenD S x = some n ∧ Q (.int (n : Nat)) S
theorem reps1 {c : Cfg} {L : Lk} {S : Sto} {d : D} {vs : List V} (r : Reps c L H S [d] vs) : ∃ v, vs = [v] ∧ Rep c L H S d v := by
  obtain ⟨v, ws, e, r1, rs⟩ := r.of_cons
  rw [rs.of_nil] at e
  exact ⟨v, e, r1⟩
theorem reps2 {c : Cfg} {L : Lk} {S : Sto} {d e : D} {vs : List V} (r : Reps c L H S [d, e] vs) : ∃ v w, vs = [v, w] ∧ Rep c L H S d v ∧ Rep c L H S e w := by
  obtain ⟨v, ws, ev, r1, rs⟩ := r.of_cons
  obtain ⟨w, ew, r2⟩ := reps1 rs
  exact ⟨v, w, by rw [ev, ew], r1, r2⟩
theorem cd_len : CallD X A (.builtin "len") rLen := by
  intro pins s σ H xs us Q I r ⟨S, L, ds, Qd, so, rs, ⟨x, n, ed, e, h⟩, kq⟩
  subst ed
  obtain ⟨v, ev, r1⟩ := reps1 rs
  subst ev
  have it : ∀ n : Int, Qd (.int n) S → Q (.int n) H := fun n q => kq _ H _ S .refl so (by unfold Rep; rfl) q
  have seq : (seqA S x).map List.length = some n → wpAny (model X.prog X.w) X.A (call (.builtin "len") us) (EP X pins σ Q) X.xe s := fun e => by
    cases e1 : seqA S x with
    | none => rw [e1] at e; cases e
    | some ys =>
      rw [e1] at e
      cases e
      obtain ⟨p, vs, ev, qs, rv⟩ := seqA_ok so r1 e1
      subst ev
      exact call_len_seq pins s σ H _ us Q I r ⟨p, vs, rfl, qs, by rw [rv.length]; exact it _ h⟩
  cases x with
  | str z =>
    cases e
    unfold Rep at r1
    obtain ⟨e, z1⟩ := r1
    subst e
    exact call_len_str pins s σ H _ us Q I r ⟨z, rfl, z1.1, it _ h⟩
  | _ => exact seq e
def rAbs : DRA := fun ds S Q _ => ∃ i, ds = [.int i] ∧ Q (.int (if i < 0 then -i else i)) S
theorem cd_abs : CallD X A (.builtin "abs") rAbs := by
  intro pins s σ H xs us Q I r ⟨S, L, ds, Qd, so, rs, ⟨i, ed, h⟩, kq⟩
  subst ed
  obtain ⟨v, ev, r1⟩ := reps1 rs
  unfold Rep at r1
  subst ev r1
  exact call_abs pins s σ H _ us Q I r ⟨i, rfl, kq _ H _ S .refl so (by unfold Rep; rfl) h⟩
def rMax : DRA := fun ds S Q _ => ∃ i j, ds = [.int i, .int j] ∧ Q (.int (if j > i then j else i)) S
def rMin : DRA := fun ds S Q _ => ∃ i j, ds = [.int i, .int j] ∧ Q (.int (if j < i then j else i)) S
theorem cd_max (hc : X.calm = true) : CallD X A (.builtin "max") rMax := by
  intro pins s σ H xs us Q I r ⟨S, L, ds, Qd, so, rs, ⟨i, j, ed, h⟩, kq⟩
  subst ed
  obtain ⟨v, w, ev, r1, r2⟩ := reps2 rs
  unfold Rep at r1 r2
  subst ev r1 r2
  exact call_max2 hc pins s σ H _ us Q I r ⟨i, j, rfl, kq _ H _ S .refl so (by unfold Rep; rfl) h⟩
theorem cd_min (hc : X.calm = true) : CallD X A (.builtin "min") rMin := by
  intro pins s σ H xs us Q I r ⟨S, L, ds, Qd, so, rs, ⟨i, j, ed, h⟩, kq⟩
  subst ed
  obtain ⟨v, w, ev, r1, r2⟩ := reps2 rs
  unfold Rep at r1 r2
  subst ev r1 r2
  exact call_min2 hc pins s σ H _ us Q I r ⟨i, j, rfl, kq _ H _ S .refl so (by unfold Rep; rfl) h⟩
def intD : D → Option Int
  | .int i => some i
  | .bl b => some (if b then 1 else 0)
  | .str z => if z.length ≤ 640 then PySem.intText? z else none
  | _ => none
def rInt : DRA := fun ds S Q _ => ∃ x n, ds = [x] ∧ intD x = some n ∧ Q (.int n) S
theorem cd_int : CallD X A (.type "int") rInt := by
  intro pins s σ H xs us Q I r ⟨S, L, ds, Qd, so, rs, ⟨x, n, ed, e, h⟩, kq⟩
  subst ed
  obtain ⟨v, ev, r1⟩ := reps1 rs
  subst ev
  have it : Q (.int n) H := kq _ H _ S .refl so (by unfold Rep; rfl) h
  cases x with
  | int i =>
    cases e
    unfold Rep at r1
    subst r1
    exact call_int1 pins s σ H _ us Q I r (.inl ⟨_, rfl, it⟩)
  | bl b =>
    cases e
    unfold Rep at r1
    subst r1
    exact call_int1 pins s σ H _ us Q I r (.inr ⟨b, rfl, it⟩)
  | str z =>
    unfold Rep at r1
    obtain ⟨r1, _⟩ := r1
    subst r1
    have e : (if z.length ≤ 640 then PySem.intText? z else none) = some n := e
    by_cases hz : z.length ≤ 640
    · rw [if_pos hz] at e
      exact call_int_str pins s σ H _ us Q I r ⟨z, n, rfl, e, hz, it⟩
    · rw [if_neg hz] at e
      cases e
  | _ => cases e
/-- all, any of a list of truths; sum of ints -/
def rAllD : DRA := fun ds S Q _ => ∃ (x : D) (bs : List Bool), ds = [x] ∧ seqL S x = some (bs.map D.bl) ∧ Q (.bl (bs.all id)) S
def rAnyD : DRA := fun ds S Q _ => ∃ (x : D) (bs : List Bool), ds = [x] ∧ seqL S x = some (bs.map D.bl) ∧ Q (.bl (bs.any id)) S
def rSumD : DRA := fun ds S Q _ => ∃ (x : D) (ns : List Int), ds = [x] ∧ seqL S x = some (ns.map D.int) ∧ Q (.int ns.sum) S
theorem reps_bl {c : Cfg} {L : Lk} {S : Sto} : ∀ {bs : List Bool} {vs : List V}, Reps c L H S (bs.map D.bl) vs → vs = bs.map V.bl
  | [], vs, r => r.of_nil
  | b :: bs, vs, r => by
    obtain ⟨v, ws, e, r1, rs⟩ := r.of_cons
    unfold Rep at r1
    rw [e, r1, reps_bl rs]
    rfl
theorem reps_int {c : Cfg} {L : Lk} {S : Sto} : ∀ {bs : List Int} {vs : List V}, Reps c L H S (bs.map D.int) vs → vs = bs.map V.int
  | [], vs, r => r.of_nil
  | b :: bs, vs, r => by
    obtain ⟨v, ws, e, r1, rs⟩ := r.of_cons
    unfold Rep at r1
    rw [e, r1, reps_int rs]
    rfl
theorem reps_str {c : Cfg} {L : Lk} {S : Sto} : ∀ {bs : List Str} {vs : List V}, Reps c L H S (bs.map D.str) vs → vs = bs.map V.str ∧ ∀ b ∈ bs, SOk b
  | [], vs, r => ⟨r.of_nil, fun _ h => nomatch h⟩
  | b :: bs, vs, r => by
    obtain ⟨v, ws, e, r1, rs⟩ := r.of_cons
    unfold Rep at r1
    obtain ⟨e2, k⟩ := reps_str rs
    refine ⟨by rw [e, r1.1, e2]; rfl, fun x hx => ?_⟩
    rcases List.mem_cons.mp hx with h | h
    · rw [h]; exact r1.2
    · exact k x h
theorem cd_all (hc : X.calm = true) : CallD X A (.builtin "all") rAllD := by
  intro pins s σ H xs us Q I r ⟨S, L, ds, Qd, so, rs, ⟨x, bs, ed, e, h⟩, kq⟩
  subst ed
  obtain ⟨v, ev, r1⟩ := reps1 rs
  obtain ⟨p, vs, ep, qs, rv⟩ := seqL_ok so r1 e
  subst ev ep
  exact cr_all hc pins s σ H _ us Q I r ⟨p, bs, rfl, by rw [← reps_bl rv]; exact qs, kq _ H _ S .refl so (by unfold Rep; rfl) h⟩
theorem cd_any (hc : X.calm = true) : CallD X A (.builtin "any") rAnyD := by
  intro pins s σ H xs us Q I r ⟨S, L, ds, Qd, so, rs, ⟨x, bs, ed, e, h⟩, kq⟩
  subst ed
  obtain ⟨v, ev, r1⟩ := reps1 rs
  obtain ⟨p, vs, ep, qs, rv⟩ := seqL_ok so r1 e
  subst ev ep
  exact cr_any hc pins s σ H _ us Q I r ⟨p, bs, rfl, by rw [← reps_bl rv]; exact qs, kq _ H _ S .refl so (by unfold Rep; rfl) h⟩
theorem cd_sum (hc : X.calm = true) : CallD X A (.builtin "sum") rSumD := by
  intro pins s σ H xs us Q I r ⟨S, L, ds, Qd, so, rs, ⟨x, bs, ed, e, h⟩, kq⟩
  subst ed
  obtain ⟨v, ev, r1⟩ := reps1 rs
  obtain ⟨p, vs, ep, qs, rv⟩ := seqL_ok so r1 e
  subst ev ep
  exact cr_sum hc pins s σ H _ us Q I r ⟨p, bs, rfl, by rw [← reps_int rv]; exact qs, kq _ H _ S .refl so (by unfold Rep; rfl) h⟩
/-- list(x), tuple(x) -/
def rListD (m : Bool) : DRA := fun ds S Q _ => ∃ x xs, ds = [x] ∧ seqA S x = some xs ∧ mkL m xs S Q
def rTupD : DRA := fun ds S Q _ => ∃ x xs, ds = [x] ∧ seqA S x = some xs ∧ Q (.tup xs) S
theorem cd_list {m : Bool} : CallD X A (.type "list") (rListD m) := by
  intro pins s σ H xs us Q I r ⟨S, L, ds, Qd, so, rs, ⟨x, ys, ed, e, h⟩, kq⟩
  subst ed
  obtain ⟨v, ev, r1⟩ := reps1 rs
  obtain ⟨p, vs, ep, qs, rv⟩ := seqA_ok so r1 e
  subst ev ep
  exact call_list_of pins s σ H _ us Q I r ⟨p, vs, rfl, qs, mkL_ok h kq so rv⟩
theorem cd_tup : CallD X A (.type "tuple") rTupD := by
  intro pins s σ H xs us Q I r ⟨S, L, ds, Qd, so, rs, ⟨x, ys, ed, e, h⟩, kq⟩
  subst ed
  obtain ⟨v, ev, r1⟩ := reps1 rs
  cases x with
  | tup zs =>
    cases e
    have r2 := r1
    unfold Rep at r1
    obtain ⟨p, vs, ep, f, rv⟩ := r1
    subst ev
    subst ep
    exact call_tuple_of pins s σ H _ us Q I r ⟨p, vs, rfl, .inr ⟨f.sq, kq _ H _ S .refl so r2 h⟩⟩
  | lst zs =>
    obtain ⟨p, vs, ep, qs, rv⟩ := seqL_ok so r1 (show seqL S (.lst zs) = some ys from e)
    subst ev
    subst ep
    exact call_tuple_of pins s σ H _ us Q I r ⟨p, vs, rfl, .inl ⟨qs, mkT_ok h kq so rv⟩⟩
  | cst zs =>
    obtain ⟨p, vs, ep, qs, rv⟩ := seqL_ok so r1 (show seqL S (.cst zs) = some ys from e)
    subst ev
    subst ep
    exact call_tuple_of pins s σ H _ us Q I r ⟨p, vs, rfl, .inl ⟨qs, mkT_ok h kq so rv⟩⟩
  | ref q =>
    obtain ⟨p, vs, ep, qs, rv⟩ := seqL_ok so r1 (show seqL S (.ref q) = some ys from e)
    subst ev
    subst ep
    exact call_tuple_of pins s σ H _ us Q I r ⟨p, vs, rfl, .inl ⟨qs, mkT_ok h kq so rv⟩⟩
  | _ => cases e
/-- None, True, False, a text -/
def isSc : D → Bool
  | .non => true
  | .bl _ => true
  | .str _ => true
  | _ => false
/-- repr(x), x data with a list or a tuple above -/
def rReprD : DRA := fun ds S Q _ => ∃ x, ds = [x] ∧ ((∃ i : Int, x = .int i ∧ i.natAbs.log2 < 1920 ∧ (PyData.shown (.int i)).length ≤ sizeLine ∧ Q (.rp (.int i)) S) ∨
  (∃ xs, seqA S x = some xs ∧ (view S x).dat 16 = true ∧ (view S x).p.showable = true ∧ (view S x).p.shown.length ≤ sizeLine ∧ Q (.rp (view S x).p) S) ∨
  (isSc x = true ∧ x.p.shown.length ≤ sizeLine ∧ Q (.rp x.p) S))
theorem noDict {n : Nat} {d : PyData} (h : d.canLay0 = true) : d.hasDict = false := PyData.hasDict_of_canLay d h
theorem cd_repr {k : Nat} (m : Rm k X.A) : CallD X A (.builtin "repr") rReprD := by
  intro pins s σ H xs us Q I r ⟨S, L, ds, Qd, so, rs, ⟨x, ed, h⟩, kq⟩
  subst ed
  obtain ⟨v, ev, r1⟩ := reps1 rs
  subst ev
  rcases h with ⟨i, ex, h0, hz, h⟩ | ⟨ys, e, h1, h2, h3, h⟩ | ⟨sc, hz, h⟩
  · subst ex
    unfold Rep at r1
    subst r1
    exact SkE.call_repr_int pins s σ H _ us Q I r ⟨i, rfl, h0, kq _ H _ S .refl so (by unfold Rep; refine ⟨by unfold PyData.shown; rfl, ?_⟩; exact hz) h⟩
  · have a := view_dp so r1 h1 (by decide)
    obtain ⟨p, vs, ep, qs, rv⟩ := seqA_ok so r1 e
    subst ep
    obtain ⟨u, eu, ru⟩ : ∃ u, us = [u] ∧ RelV (.ref p) u := by
      cases r with
      | cons r rr =>
        cases rr
        exact ⟨_, rfl, r⟩
    subst eu
    obtain rfl : u = Value.ref p := ru
    obtain ⟨as, ra⟩ := Dp.reads I _ _ (Value.ref p) a.1 (show RelV (.ref p) (Value.ref p) from rfl)
    have hu := m.r.un
    have hd : (view S x).p.depth ≤ 64 := SeqAt.depth_of_shaped a.2
    have hl := SeqAt.canLay_of_shaped a.2
    have nd := PyData.hasDict_of_canLay _ hl
    exact repr_of_reads' ra h2 (fun z => by rw [nd] at z; cases z) m.g (by omega) (fun _ _ z => z) (fun h' u tk kp => ⟨.str (view S x).p.shown, H, I.kept (t' := tk) kp, ⟨u, rfl⟩, kq _ H _ S .refl so (by unfold Rep; exact ⟨rfl, h3⟩) h⟩) h3
  · have fin : ∀ (z : Str) (tk : Tok), z = x.p.shown → EP X pins σ Q (.str z tk) { s with toks := s.toks + 1 } := fun z tk ez =>
      ⟨.str x.p.shown, H, I.tok _, ⟨tk, by rw [ez]⟩, kq _ H _ S .refl so (by unfold Rep; exact ⟨rfl, hz⟩) h⟩
    cases r with
    | cons r rr =>
      cases rr
      cases x with
      | non =>
        unfold Rep at r1
        subst r1
        cases (show _ = Value.none from r)
        exact PySem.P.repr_of_none (fin _ _ rfl)
      | bl b =>
        unfold Rep at r1
        subst r1
        cases (show _ = Value.bool b from r)
        exact PySem.P.repr_of_bool (fin _ _ (by cases b <;> rfl))
      | str z =>
        unfold Rep at r1
        obtain ⟨e1, _⟩ := r1
        subst e1
        obtain ⟨t, et⟩ := r
        subst et
        exact PySem.P.repr_of_str (fin _ _ rfl) hz
      | _ => cases sc
end
end DL

namespace DL
open PySem PySem.Spec PyProof.Rows L2

/-! ### isinstance -/
def tyN (S : Sto) : D → Option Ty
  | .non => some .non
  | .bl _ => some .bl
  | .int _ => some .int
  | .str _ => some .str
  | .rp _ => some .str
  | .tup _ => some .tup
  | .lst _ => some .lst
  | .cst _ => some .lst
  | .ins C _ => some (.own C)
  | .ref p => match S p with
    | some (.lst _) => some .lst
    | some (.ins C _) => some (.own C)
    | none => none
  | .ty _ => none
def Ty.val (cA : Nat → Addr) : Ty → Value
  | .own C => .ref (cA C)
  | t => .type t.name
/-- the answers of isinstance: by the type and the class -/
abbrev Isi := List ((Ty × Ty) × Bool)
/-- what a class of one's own must have that its instances may be asked for their class -/
structure ClsOk (K : PySem.W.Frag) (C : Addr) : Prop where
  cl : Cls K C
  ha : PySem.W.findIn K (.ref C) "__class__" = some (some (.builtin "object.__class__"))
  hn : PySem.W.specialIn K (.builtin "object.__class__") "__get__" = some (some (.builtin "getset_descriptor.__get__"))
  htk : PySem.W.takesIn K (.builtin "object.__class__") = some true
  hm : PySem.W.mroIn K C (.type "object") = some true
theorem tyN_ok {c : Cfg} {L : Lk} {H : Hp} {S : Sto} {d : D} {v : V} {t : Ty} (so : StoR c L H S) (r : Rep c L H S d v) (h : tyN S d = some t) (hc : ∀ C, t = .own C → ClsOk c.K (c.cA C)) : TyX c.K H v (t.val c.cA) := by
  have lk : ∀ {p : Addr} {vs : List V}, SqL c.K hp0 p vs → TyX c.K H (.ref p) (.type "list") := fun {p vs} q => by
    rcases q with (q | ⟨o, q⟩) | ⟨o, its, n, e, h1, _⟩
    · cases q
    · cases q
    · exact .kList e h1
  have tk : ∀ {p : Addr} {vs : List V}, SqT c.K hp0 p vs → TyX c.K H (.ref p) (.type "tuple") := fun {p vs} q => by
    rcases q with (q | ⟨o, q⟩) | ⟨o, its, n, e, h1, _⟩
    · cases q
    · cases q
    · exact .kTuple e h1
  have own : ∀ {p dx : Addr} {fs : List (Str × V)} {C : Nat}, ClsOk c.K (c.cA C) → H p = some (.ins (c.cA C) dx fs) → TyX c.K H (.ref p) (.ref (c.cA C)) := fun {p dx fs C} k e => .base (.ins e k.cl k.ha k.hn k.htk k.hm)
  cases d with
  | non => cases h; unfold Rep at r; subst r; exact .base .non
  | bl b => cases h; unfold Rep at r; subst r; exact .base (.bl b)
  | int b => cases h; unfold Rep at r; subst r; exact .base (.int b)
  | str b => cases h; unfold Rep at r; obtain ⟨r, _⟩ := r; subst r; exact .base (.str b)
  | rp b => cases h; unfold Rep at r; obtain ⟨r, _⟩ := r; subst r; exact .base (.str _)
  | ty b => cases h
  | tup xs =>
    cases h
    unfold Rep at r
    obtain ⟨p, vs, ev, f, rs⟩ := r
    subst ev
    rcases f with ⟨f | ⟨o, f⟩, _⟩ | f
    · exact .base (.tup f)
    · exact .fTuple f
    · exact tk f
  | lst xs =>
    cases h
    unfold Rep at r
    obtain ⟨p, vs, ev, f, _⟩ := r
    subst ev
    exact .base (.lst f)
  | cst xs =>
    cases h
    unfold Rep at r
    obtain ⟨p, vs, ev, f, rs⟩ := r
    subst ev
    rcases f with ⟨f | ⟨o, f⟩, _⟩ | f
    · exact .base (.lst f)
    · exact .base (.frz f)
    · exact lk f
  | ins C xs =>
    cases h
    unfold Rep at r
    obtain ⟨p, dx, vs, ev, f, _⟩ := r
    subst ev
    exact own (hc C rfl) f
  | ref p =>
    unfold Rep at r
    subst r
    have e : tyN S (.ref p) = (match S p with | some (.lst _) => some .lst | some (.ins C _) => some (.own C) | none => none) := rfl
    rw [e] at h
    cases s : S p with
    | none => rw [s] at h; cases h
    | some o =>
      rw [s] at h
      cases o with
      | lst xs =>
        cases h
        obtain ⟨⟨vs, hp, rs⟩, _⟩ := so.at_ p _ s
        exact .base (.lst hp)
      | ins C xs =>
        cases h
        obtain ⟨⟨dx, vs, hp, rs⟩, _⟩ := so.at_ p _ s
        exact own (hc C rfl) hp
/-- the table holds -/
structure IsiOk (c : Cfg) (T : Isi) : Prop where
  ans : ∀ a b r, T.lookup (a, b) = some r → PySem.W.kitOne c.K (a.val c.cA) (b.val c.cA) = some r
  own : ∀ C b r, T.lookup (.own C, b) = some r → ClsOk c.K (c.cA C)
def rIsiD (T : Isi) : DRA := fun ds S Q _ => ∃ x t b a r, ds = [x, .ty b] ∧ t = b ∧ tyN S x = some a ∧ T.lookup (a, b) = some r ∧ Q (.bl r) S
/-- a tuple of classes -/
def isiAny (T : Isi) (a : Ty) : List Ty → Option Bool
  | [] => some false
  | b :: bs => match T.lookup (a, b) with
    | some true => some true
    | some false => isiAny T a bs
    | none => none
def rIsiTD (T : Isi) : DRA := fun ds S Q _ => ∃ x bs a r, ds = [x, .tup (bs.map D.ty)] ∧ tyN S x = some a ∧ isiAny T a bs = some r ∧ Q (.bl r) S
section
variable {X : Cx} {A : Cla} {W : WX} {pins : List (Addr × Obj)} {σ : L2.St} {H : Hp} {s : Shared} {T : Isi}
theorem cls_v {cA : Nat → Addr} : ∀ b : Ty, ClsV (b.v cA) (b.val cA)
  | .own C => .own _
  | .non => .ty _
  | .bl => .ty _
  | .int => .ty _
  | .str => .ty _
  | .tup => .ty _
  | .lst => .ty _
  | .dct => .ty _
theorem cd_isi (k : IsiOk (cX X A) T) : CallD X A (.builtin "isinstance") (rIsiD T) := by
  intro pins s σ H xs us Q I r ⟨S, L, ds, Qd, so, rs, ⟨x, t, b, a, q, ed, _, ea, eq, h⟩, kq⟩
  subst ed
  obtain ⟨v, w, ev, r1, r2⟩ := reps2 rs
  unfold Rep at r2
  subst ev r2
  exact call_isi pins s σ H _ us Q I r ⟨v, _, _, _, q, rfl, cls_v b, tyN_ok so r1 ea (fun C e => by subst e; exact k.own C b q eq), k.ans a b q eq, kq _ H _ S .refl so (by unfold Rep; rfl) h⟩
theorem kit_any (k : IsiOk (cX X A) T) {a : Ty} : ∀ (bs : List Ty) (r : Bool), isiAny T a bs = some r → PySem.W.kitAny X.K (a.val A.cA) (bs.map fun b => b.val A.cA) = some r
  | [], r, h => by cases h; rfl
  | b :: bs, r, h => by
    unfold isiAny at h
    cases e : T.lookup (a, b) with
    | none => rw [e] at h; cases h
    | some q =>
      rw [e] at h
      refine kitAny_cons (k.ans a b q e) (fun hq => ?_) (fun hq => ?_)
      · subst hq
        exact kit_any k bs r h
      · subst hq
        cases h
        rfl
theorem isi_own (k : IsiOk (cX X A) T) {C : Nat} : ∀ (bs : List Ty) (r : Bool), bs ≠ [] → isiAny T (.own C) bs = some r → ClsOk X.K (A.cA C)
  | [], r, n, h => absurd rfl n
  | b :: bs, r, n, h => by
    unfold isiAny at h
    cases e : T.lookup (.own C, b) with
    | none => rw [e] at h; cases h
    | some q => exact k.own C b q e
theorem paired_cls {cA : Nat → Addr} : ∀ bs : List Ty, Paired ClsV (bs.map fun b => b.v cA) (bs.map fun b => b.val cA)
  | [] => .nil
  | b :: bs => .cons (cls_v b) (paired_cls bs)
theorem reps_ty {c : Cfg} {L : Lk} {S : Sto} : ∀ {bs : List Ty} {vs : List V}, Reps c L H S (bs.map D.ty) vs → vs = bs.map fun b => b.v c.cA
  | [], vs, r => r.of_nil
  | b :: bs, vs, r => by
    obtain ⟨v, ws, e, r1, rs⟩ := r.of_cons
    unfold Rep at r1
    rw [e, r1, reps_ty rs]
    rfl

/-! ### what is walked -/
def rngD (lo : Int) (n : Nat) : List D := (List.range n).map fun i => D.int (lo + (i : Nat))
theorem rngD_len (lo : Int) (n : Nat) : (rngD lo n).length = n := by unfold rngD; simp
theorem itd_range {c : Cfg} {L : Lk} {G : Sto → Prop} {S : Sto} {lo : Int} {n : Nat} : ItD c L G H S (Itr lo n) (rngD lo n) := by
  intro L' H' S' _ _ so _
  refine ⟨fun i d e => ?_, fun i hi => ?_⟩
  · have hi : i < n := by
      have := (List.getElem?_eq_some_iff.mp e).1
      rwa [rngD_len] at this
    have ed : d = D.int (lo + (i : Nat)) := by
      unfold rngD at e
      rw [List.getElem?_map, List.getElem?_range hi] at e
      cases e
      rfl
    subst ed
    refine ⟨hi, ?_⟩
    rintro x H'' ⟨eH, ex⟩
    subst eH ex
    exact ⟨.refl, so, by unfold Rep; rfl⟩
  · rw [rngD_len] at hi
    exact hi
def iRng1D (t : DTA) : DTI := fun ρ S R E => t ρ S (fun ds S1 => ∃ j, ds = [.int j] ∧ -(2 ^ 62) ≤ j ∧ j < 2 ^ 62 ∧ R (rngD 0 j.toNat) noG S1) E
def iRng2D (t : DTA) : DTI := fun ρ S R E => t ρ S (fun ds S1 => ∃ i j, ds = [.int i, .int j] ∧ (-(2 ^ 62) ≤ i ∧ i < 2 ^ 62 ∧ -(2 ^ 62) ≤ j ∧ j < 2 ^ 62) ∧ R (rngD i (j - i).toNat) noG S1) E
theorem di_rng1 {tg a : Expr} {p pos : Pos} {t : DTA} (hg : Gl X "range") (hm : X.mg "range" = none) (ha : DA X A W [a] t) (hs : starEach [a] X.env = [(false, eval a X.env)]) :
    DItr X A W tg (.Call (.Name "range" p) [a] [] pos) (iRng1D t) :=
  PI.mono (pi_range1 hg hm ha hs) fun σ H R ⟨ρ, S, L, Rd, Ed, sl, so, h, ki, kx⟩ =>
    ⟨ρ, S, L, _, Ed, sl, so, h, fun vs H1 ds S1 e1 so1 r1 ⟨j, ed, h1, h2, q⟩ => by
      subst ed
      obtain ⟨v, ev, rv⟩ := reps1 r1
      unfold Rep at rv
      subst ev rv
      exact ⟨j, rfl, h1, h2, ki _ H1 _ noG S1 e1 so1 itd_range q⟩, kx⟩
theorem di_rng2 {tg a b : Expr} {p pos : Pos} {t : DTA} (hg : Gl X "range") (hm : X.mg "range" = none) (ha : DA X A W [a, b] t) (hs : starEach [a, b] X.env = [(false, eval a X.env), (false, eval b X.env)]) (hs2 : starEach [b] X.env = [(false, eval b X.env)]) :
    DItr X A W tg (.Call (.Name "range" p) [a, b] [] pos) (iRng2D t) :=
  PI.mono (pi_range2 hg hm ha hs hs2) fun σ H R ⟨ρ, S, L, Rd, Ed, sl, so, h, ki, kx⟩ =>
    ⟨ρ, S, L, _, Ed, sl, so, h, fun vs H1 ds S1 e1 so1 r1 ⟨i, j, ed, hb, q⟩ => by
      subst ed
      obtain ⟨v, w, ev, rv, rw'⟩ := reps2 r1
      unfold Rep at rv rw'
      subst ev rv rw'
      exact ⟨i, j, rfl, hb, ki _ H1 _ noG S1 e1 so1 itd_range q⟩, kx⟩
/-- a list, a tuple, a text -/
def seqI (S : Sto) : D → Option (List D × (Sto → Prop))
  | .str z => some (z.cps.toList.map chD, noG)
  | .tup xs => some (xs, noG)
  | .lst xs => some (xs, noG)
  | .cst xs => some (xs, noG)
  | .ref p => match S p with
    | some (.lst xs) => some (xs, fun S' => S' p = some (.lst xs))
    | _ => none
  | _ => none
def iSeqD (t : DT) : DTI := fun ρ S R E => t ρ S (fun x S1 => ∃ ds G, seqI S1 x = some (ds, G) ∧ R ds G S1) E
theorem itd_list {c : Cfg} {L : Lk} {G : Sto → Prop} {S : Sto} {p : Addr} {ds : List D}
    (h : ∀ (L' : Lk) H' S', (∀ q, L' q → L q ∨ H q = none) → Ext H S H' S' → StoR c L' H' S' → G S' → ∃ vs, SqL c.K H' p vs ∧ Reps c L' H' S' ds vs) (K0 : PySem.W.Frag) (eK : K0 = c.K) : ItD c L G H S (Itl K0 p) ds := by
  subst eK
  intro L' H' S' hl e so g
  obtain ⟨vs, q, rs⟩ := h L' H' S' hl e so g
  refine ⟨fun i d ed => ?_, fun i hi => ⟨vs, q, by rw [rs.length]; exact hi⟩⟩
  obtain ⟨v, ev, rv⟩ := rs.get ed
  refine ⟨⟨vs, v, q, ev⟩, ?_⟩
  rintro x H'' ⟨eH, ex⟩
  subst eH
  have := ex vs q
  rw [ev] at this
  cases this
  exact ⟨.refl, so, rv⟩
theorem itd_tup {c : Cfg} {L : Lk} {G : Sto → Prop} {S : Sto} {p : Addr} {ds : List D}
    (h : ∀ (L' : Lk) H' S', (∀ q, L' q → L q ∨ H q = none) → Ext H S H' S' → StoR c L' H' S' → G S' → ∃ vs, SqT c.K H' p vs ∧ Reps c L' H' S' ds vs) (K0 : PySem.W.Frag) (eK : K0 = c.K) : ItD c L G H S (Itt K0 p) ds := by
  subst eK
  intro L' H' S' hl e so g
  obtain ⟨vs, q, rs⟩ := h L' H' S' hl e so g
  refine ⟨fun i d ed => ?_, fun i hi => ⟨vs, q, by rw [rs.length]; exact hi⟩⟩
  obtain ⟨v, ev, rv⟩ := rs.get ed
  refine ⟨⟨vs, v, q, ev⟩, ?_⟩
  rintro x H'' ⟨eH, ex⟩
  subst eH
  have := ex vs q
  rw [ev] at this
  cases this
  exact ⟨.refl, so, rv⟩
theorem itd_str {c : Cfg} {L : Lk} {G : Sto → Prop} {S : Sto} {z : Str} (hz : SOk z) : ItD c L G H S (Its z) (z.cps.toList.map chD) := by
  intro L' H' S' hl e so g
  have len : z.cps.toList.length = z.cps.size := by simp
  refine ⟨fun i d ed => ?_, fun i hi => ?_⟩
  · rw [List.getElem?_map] at ed
    cases q : z.cps.toList[i]? with
    | none => rw [q] at ed; cases ed
    | some k =>
      rw [q] at ed
      cases ed
      have hi := (List.getElem?_eq_some_iff.mp q).1
      refine ⟨by show i < z.cps.size; omega, ?_⟩
      rintro x H'' ⟨eH, k', ek, ex⟩
      subst eH ex
      have e2 : z.cps.toList[i]? = some k' := by simpa using ek
      rw [q] at e2
      cases e2
      exact ⟨.refl, so, by unfold chD Rep; exact ⟨rfl, hz.ch (List.mem_of_getElem? q)⟩⟩
  · show z.cps.size ≤ i
    rw [List.length_map, len] at hi
    exact hi
/-- an iterable that is a list, a tuple or a text -/
theorem pi_any {tg e : Expr} {te : TE} (he : PE X e te) : PI X tg e (fun σ H R => te σ H fun x H1 => (∃ a, x = .ref a ∧ (∃ xs, SqL X.K H1 a xs) ∧ R (Itl X.K a) H1) ∨ (∃ a, x = .ref a ∧ (∃ xs, SqT X.K H1 a xs) ∧ R (Itt X.K a) H1) ∨ ∃ z, x = .str z ∧ R (Its z) H1) := by
  refine ⟨fun pins s σ H R I h => thn (he.run pins s σ H _ I h) fun v s1 ⟨x, H1, I1, r1, q⟩ => ?_⟩
  rcases q with ⟨a, ex, ⟨xs, hq⟩, q⟩ | ⟨a, ex, ⟨xs, hq⟩, q⟩ | ⟨z, ex, q⟩
  · subst ex
    cases r1
    obtain ⟨its, rv, p, hz⟩ := I1.list hq
    exact wpAny_pyIter_list p.isList (pi_one (tk := s1.toks) I1 _ (turn_list a _) ⟨_, Heap.get?_push_size _ rfl, rfl, rfl⟩ q)
  · subst ex
    cases r1
    obtain ⟨its, rv, p, hz⟩ := I1.tuple hq
    exact wpAny_pyIter_tuple (items := its.toArray) p (pi_one (tk := s1.toks) I1 _ (turn_tuple a _) ⟨_, Heap.get?_push_size _ rfl, rfl, rfl⟩ q)
  · subst ex
    obtain ⟨t, et⟩ := r1
    subst et
    cases hw : z.cps.all (· < 128) with
    | false => exact wpAny_pyIter_wide hw (pi_one (tk := s1.toks) I1 _ (turn_str _ z t "str_iterator" (.inr rfl)) ⟨_, Heap.get?_push_size _ rfl, rfl, rfl⟩ q)
    | true => exact wpAny_pyIter_ascii hw (pi_one (tk := s1.toks) I1 _ (turn_str _ z t "str_ascii_iterator" (.inl rfl)) ⟨_, Heap.get?_push_size _ rfl, rfl, rfl⟩ q)
theorem di_seq {tg e : Expr} {t : DT} (he : DE X A W e t) : DItr X A W tg e (iSeqD t) :=
  PI.mono (pi_any he) fun σ H R ⟨ρ, S, L, Rd, Ed, sl, so, h, ki, kx⟩ => by
      refine ⟨ρ, S, L, _, Ed, sl, so, h, ?_, kx⟩
      rintro v H1 d S1 e1 so1 r1 ⟨ds, G, es, q⟩
      cases d with
      | str z =>
        cases es
        unfold Rep at r1
        exact .inr (.inr ⟨z, r1.1, ki _ H1 _ noG S1 e1 so1 (itd_str r1.2) q⟩)
      | tup xs =>
        cases es
        have r2 := r1
        unfold Rep at r1
        obtain ⟨p, vs, ev, f, rs⟩ := r1
        refine .inr (.inl ⟨p, ev, ⟨vs, f.sq⟩, ki _ H1 _ noG S1 e1 so1 (itd_tup (fun L' H' S' hl x so' _ => ?_) X.K rfl) q⟩)
        exact ⟨vs, ((f.lock hl).ext x).sq, (rs.lock hl).ext x⟩
      | lst xs =>
        cases es
        unfold Rep at r1
        obtain ⟨p, vs, ev, f, ⟨fs, fl⟩, rs⟩ := r1
        refine .inl ⟨p, ev, ⟨vs, SqL.of f⟩, ki _ H1 _ noG S1 e1 so1 (itd_list (fun L' H' S' hl x so' _ => ?_) X.K rfl) q⟩
        exact ⟨vs, SqL.of (x p _ f fs).1, (rs.lock hl).ext x⟩
      | cst xs =>
        cases es
        unfold Rep at r1
        obtain ⟨p, vs, ev, f, rs⟩ := r1
        refine .inl ⟨p, ev, ⟨vs, f.sq⟩, ki _ H1 _ noG S1 e1 so1 (itd_list (fun L' H' S' hl x so' _ => ?_) X.K rfl) q⟩
        exact ⟨vs, ((f.lock hl).ext x).sq, (rs.lock hl).ext x⟩
      | ref p =>
        have es' : (match S1 p with | some (.lst xs) => some (xs, fun S' => S' p = some (.lst xs)) | _ => none) = some (ds, G) := es
        unfold Rep at r1
        cases sp : S1 p with
        | none => rw [sp] at es'; cases es'
        | some o =>
          rw [sp] at es'
          cases o with
          | ins C xs => cases es'
          | lst xs =>
            cases es'
            obtain ⟨⟨vs, hp, rs⟩, _⟩ := so1.at_ p _ sp
            refine .inl ⟨p, r1, ⟨vs, SqL.of hp⟩, ki _ H1 _ _ S1 e1 so1 (itd_list (fun L' H' S' hl x so' g => ?_) X.K rfl) q⟩
            obtain ⟨⟨ws, hw, rw'⟩, _⟩ := so'.at_ p _ g
            exact ⟨ws, SqL.of hw, rw'⟩
      | _ => cases es
end
end DL

namespace DL
open PySem PySem.Spec PyProof.Rows L2

/-! ### enumerate over a tuple -/
section
variable {prog : Program} {w : World} {A : Around} {E : Value → Shared → Prop} {s : Shared}
theorem enum_new1 {v : Value} {o : Obj} {G : Heap → Prop} (B : Begins v o G) : Meets (Builtin.«enumerate.__new__» ⟨[.type "enumerate", v], []⟩)
    (fun _ R s => G s.heap ∧ R (.ok (.ret (.ref (s.heap.push o).objs.size)))
      { s with heap := (s.heap.push o).push { cls := .type "enumerate", data := .fields #[.none, .bool false, .ref s.heap.objs.size, rawInt 0, .none, .none] } }) :=
  .of_wp fun prog w A R s h => by
    obtain ⟨hp, g, d, tk, os⟩ := s
    obtain ⟨h1, h⟩ := h
    have hsub := sub_enumerate
    have goIter : ∀ {A' : Around} {E : Value → Shared → Prop} {Q : Value → Shared → Prop}, Q (.ref hp.objs.size) ⟨hp.push o, g, d, tk, os⟩ → wpAny (model prog w) A' (pyIter v) Q E ⟨hp, g, d, tk, os⟩ :=
      fun q => B.iter prog w _ _ ⟨hp, g, d, tk, os⟩ _ h1 q
    wp_walk using goIter
    refine wpAny_stack_any fun st => wpAny_pure ?_
    split
    · rename_i c _ _ _ _ _
      cases (c == Value.type "enumerate") <;> (wp_walk using goIter; exact ⟨_, rfl, h⟩)
    · wp_walk using goIter
      exact ⟨_, rfl, h⟩
theorem call_enum1 {v : Value} {o : Obj} {G : Heap → Prop} {Q : Value → Shared → Prop} (B : Begins v o G) (h1 : G s.heap)
    (h : ∀ h', IsEnum h' (s.heap.objs.size + 1) s.heap.objs.size 0 .none → h'.get? s.heap.objs.size = some o → (∀ b x, s.heap.get? b = some x → h'.get? b = some x) → Q (.ref (s.heap.objs.size + 1)) { s with heap := h' }) :
    wpAny (model prog w) A (call (.type "enumerate") [v]) Q E s := by
  refine callType_new F.called_enumerate (by decide) (F.typeCall_enumerate_1 _) (F.newCall_enumerate_1 _) (fun obj => F.args_object_init_2 obj _) F.entry_enumerate_new (enum_new1 B) ⟨h1, ?_⟩
  have sz : (s.heap.push o).objs.size = s.heap.objs.size + 1 := Heap.size_push ..
  have en : IsEnum ((s.heap.push o).push { cls := .type "enumerate", data := .fields #[.none, .bool false, .ref s.heap.objs.size, rawInt 0, .none, .none] }) (s.heap.objs.size + 1) s.heap.objs.size 0 .none := by
    have q := Heap.get?_push_size (s.heap.push o) (o := { cls := .type "enumerate", data := .fields #[.none, .bool false, .ref s.heap.objs.size, rawInt 0, .none, .none] }) rfl
    rw [sz] at q
    exact q
  show _ ∧ _
  rw [sz]
  exact ⟨⟨_, en, rfl⟩, h _ en (Heap.get?_push_of_some _ (Heap.get?_push_size _ B.free)) fun b x q => Heap.get?_push_of_some _ (Heap.get?_push_of_some _ q)⟩
end
/-- the tuple at a, each item in a new pair -/
def IteT (K : PySem.W.Frag) (a : Addr) : It where
  go i H := ∃ (xs : List V) (x : V), SqT K H a xs ∧ xs[i]? = some x
  yld i H v H' := ∃ T x, v = .ref T ∧ H T = none ∧ H' = upd H T (.tup [.int (i : Nat), x]) ∧ ∀ xs, SqT K H a xs → xs[i]? = some x
  stop i H := ∃ xs : List V, SqT K H a xs ∧ xs.length ≤ i
theorem turn_enumT {P : Program} {w : World} {K : PySem.W.Frag} {elts : List Expr} {kk : Nat} {tpos : Pos} (a e it : Addr) :
    Turn P w K (.Tuple elts kk tpos) (IteT K a) [e, it] e (fun i h => (∃ old, IsEnum h e it ((i : Nat) : Int) old) ∧ h.IsTupleIter it a i ∧ e ≠ it ∧ e ≠ a ∧ a ≠ it) where
  mem := by simp
  obj := fun i h st b hb => by
    obtain ⟨⟨old, he⟩, ⟨o, ho, hc, hd⟩, _⟩ := st
    rcases List.mem_cons.mp hb with z | z
    · rw [z]
      exact ⟨_, he, fun v q => nomatch q⟩
    · rw [List.mem_singleton.mp z]
      exact ⟨o, ho, fun v q => by rw [hd] at q; cases q⟩
  keep := fun i h h' st k => by
    obtain ⟨⟨old, he⟩, hi, r⟩ := st
    exact ⟨⟨old, k e (by simp) _ he⟩, hi.at fun o q => k it (by simp) o q, r⟩
  item := by
    intro X hP hw hK hc i pins s σ H E I hf st hg
    subst hP hw hK
    obtain ⟨⟨old, he⟩, hit, n1, n2, n3⟩ := st
    obtain ⟨xs, x, hq, hx⟩ := hg
    obtain ⟨its, rv, p, hz⟩ := I.tuple hq
    obtain ⟨u, hu, ru⟩ := rv.get hx
    have hil : i < its.toArray.size := by
      have := (List.getElem?_eq_some_iff.mp hu).1
      simpa using this
    have hel : e < s.heap.objs.size := Heap.lt_size he
    have hitl : it < s.heap.objs.size := by
      obtain ⟨_, q, _⟩ := hit
      exact Heap.lt_size q
    refine wpAny_pyNext_enum_itemD (Draws.tuple (A := X.A.in1) (I.ok.hd hc) it a n3 its.toArray) he ⟨hit, p⟩ hil n1 (by simp [n1, n2]) fun y h' tk hy ho hst hT hsz hk => ?_
    have ey : y = u := by
      have h1 : its[i]? = some y := by simpa using hy
      rw [hu] at h1
      exact (Option.some.inj h1).symm
    subst ey
    refine ⟨_, rfl, wpAny_letOwnedTupleGo_enum (s := { s with heap := h', toks := tk + 1 }) ho fun h2 he2 sb => ?_⟩
    have hT2 : h2.get? s.heap.objs.size = some { cls := .type "tuple", data := .seq #[.int i tk, y] } := (sb.2 _ (Nat.ne_of_gt hel)).trans hT
    have new : ObjOk X.prog X.w (upd H s.heap.objs.size (.tup [.int (i : Nat), x])) h2 s.heap.objs.size (.tup [.int (i : Nat), x]) :=
      ⟨by show 2 ≤ sizeLine; decide, [.int i tk, y], .cons ⟨_, rfl⟩ (.cons ru .nil), ⟨_, hT2, rfl, _, rfl⟩⟩
    have kp : ∀ b ob, b ∉ [e, it] → s.heap.get? b = some ob → h2.get? b = some ob := fun b ob hb q =>
      (sb.2 b (fun z => hb (by simp [z]))).trans (hk b ob (fun z => hb (by simp [z])) (fun z => hb (by simp [z])) q)
    have I1 : L2.Inv X pins σ (upd H s.heap.objs.size (.tup [.int (i : Nat), x])) { s with heap := h2, toks := tk + 1 } := I.turnedNew (ch := [e, it]) kp hf (Nat.le_refl _) new
    refine ⟨.ref s.heap.objs.size, _, I1, rfl, ⟨_, x, rfl, I.hok.fresh (Nat.le_refl _), rfl, fun ys hy => by rw [I.tuple_inj hy hq]; exact hx⟩, ⟨⟨y, ?_⟩, hst.1.at fun o q => (sb.2 it (Ne.symm n1)).trans q, n1, n2, n3⟩, fun b hb => ?_⟩
    · rw [show ((i + 1 : Nat) : Int) = (i : Int) + 1 by omega]
      exact he2
    · have hb' : b < s.heap.objs.size := by
        rcases List.mem_cons.mp hb with z | z
        · rw [z]; exact hel
        · rw [List.mem_singleton.mp z]; exact hitl
      rw [upd_ne (Nat.ne_of_lt hb')]
      exact (hf b hb).1
  done := by
    intro X hP hw hK hc i pins s σ H E I hf st hg
    subst hP hw hK
    obtain ⟨⟨old, he⟩, hit, n1, n2, n3⟩ := st
    obtain ⟨xs, hq, hx⟩ := hg
    obtain ⟨its, rv, p, hz⟩ := I.tuple hq
    obtain ⟨f0, f1, f2, f3, f4, f5⟩ := hf it (by simp)
    have hl := rv.length
    have D0 : Draws X.prog X.w X.A.in1 it [it, a] i (fun _ _ => True) (fun j h => j = i ∧ h.IsTupleIter it a j ∧ h.IsTuple a its.toArray) :=
      { live := fun _ _ st => let ⟨_, ⟨o, ho, _⟩, _⟩ := st; ⟨o, ho⟩
        frame := fun _ _ _ st k => ⟨st.1, st.2.1.at fun o q => k it (by simp) o q, st.2.2.at fun o q => k a (by simp) o q⟩
        item := fun j s Q E hj st _ => absurd st.1 (Nat.ne_of_lt hj)
        done := fun s Q E st hE => wpAny_nextOf_tuple_end (I.ok.hd hc) st.2.1 st.2.2 (by simp; omega) hE }
    exact wpAny_pyNext_enum_endD D0 he ⟨rfl, hit, p⟩ fun h' eb => ⟨rfl, I.turned (t' := s.toks) (fun b o hb q => eb b o hb q) f0 f1 f3 f4 f5⟩
  self := fun A i s Q E st h => by
    obtain ⟨⟨_, he⟩, _⟩ := st
    exact wpAny_pyIter_enum he h
/-- enumerate of a list or a tuple -/
theorem pi_enumA {X : Cx} {e : Expr} {ta : TA} {p pos tpos : Pos} {elts : List Expr} {kk : Nat} (hg : Gl X "enumerate") (hm : X.mg "enumerate" = none) (ha : PA X [e] ta) (hs : starEach [e] X.env = [(false, eval e X.env)]) :
    PI X (.Tuple elts kk tpos) (.Call (.Name "enumerate" p) [e] [] pos) (fun σ H R => ta σ H fun vs H1 => ∃ a, vs = [.ref a] ∧ ((∃ xs, SqL X.K H1 a xs ∧ R (Ite X.K a) H1) ∨ ∃ xs, SqT X.K H1 a xs ∧ R (IteT X.K a) H1)) := by
  refine ⟨fun pins s σ H R I h => Call_ (ld_blt I hg hm boot_enumerate (PyProof.Rows.callWith_type1 (thn (ha.run pos pins s σ H _ I h) fun us s1 ⟨vs, H1, I1, r1, a, ex, q⟩ => ?_) hs rfl))⟩
  subst ex
  cases r1 with
  | cons r rr =>
    cases rr
    cases r
    have far : ∀ b ∈ [s1.heap.objs.size + 1, s1.heap.objs.size], s1.heap.objs.size ≤ b := fun b hb => by
      rcases List.mem_cons.mp hb with z | z
      · rw [z]; exact Nat.le_succ _
      · rw [List.mem_singleton.mp z]; exact Nat.le_refl _
    rcases q with ⟨xs, hq, q⟩ | ⟨xs, hq, q⟩
    · obtain ⟨its, rv, pl, hz⟩ := I1.list hq
      refine call_enumerate_list pl.isList fun h' he hit hsz hk => wpAny_pyIter_enum he ⟨s1.heap.objs.size + 1, [s1.heap.objs.size + 1, s1.heap.objs.size], _, _, H1, rfl, I1.kept (t' := s1.toks) hk, turn_enum a (s1.heap.objs.size + 1) s1.heap.objs.size, ⟨⟨.none, he⟩, hit, Nat.succ_ne_self _⟩, fun b hb => I1.fpOk (far b hb) (I1.hok.fresh (far b hb)), q⟩
    · obtain ⟨its, rv, pl, hz⟩ := I1.tuple hq
      have hlt : a < s1.heap.objs.size := pl.lt
      refine call_enum1 (begins_tuple a its.toArray) pl fun h' he hit hk => wpAny_pyIter_enum he ⟨s1.heap.objs.size + 1, [s1.heap.objs.size + 1, s1.heap.objs.size], _, _, H1, rfl, I1.kept (t' := s1.toks) hk, turn_enumT a (s1.heap.objs.size + 1) s1.heap.objs.size,
        ⟨⟨.none, he⟩, ⟨_, hit, rfl, rfl⟩, Nat.succ_ne_self _, Nat.ne_of_gt (Nat.lt_succ_of_lt hlt), Nat.ne_of_lt hlt⟩, fun b hb => I1.fpOk (far b hb) (I1.hok.fresh (far b hb)), q⟩
/-- pairs of index and item -/
def enumL : Nat → List D → List D
  | _, [] => []
  | n, d :: ds => .tup [.int (n : Nat), d] :: enumL (n + 1) ds
theorem enumL_get : ∀ (ds : List D) (n i : Nat) (d : D), (enumL n ds)[i]? = some d → ∃ x, ds[i]? = some x ∧ d = .tup [.int ((n + i : Nat) : Int), x]
  | [], n, i, d, h => by cases i <;> cases h
  | x :: ds, n, 0, d, h => ⟨x, rfl, (Option.some.inj h).symm⟩
  | x :: ds, n, i + 1, d, h => by
    obtain ⟨y, h1, h2⟩ := enumL_get ds (n + 1) i d h
    exact ⟨y, h1, by rw [h2, show n + 1 + i = n + (i + 1) by omega]⟩
theorem enumL_len : ∀ (ds : List D) (n : Nat), (enumL n ds).length = ds.length
  | [], _ => rfl
  | _ :: ds, n => congrArg (· + 1) (enumL_len ds (n + 1))
section
variable {X : Cx} {A : Cla} {W : WX} {pins : List (Addr × Obj)} {σ : L2.St} {H : Hp} {s : Shared}
theorem itd_enumP {c : Cfg} {L : Lk} {G : Sto → Prop} {S : Sto} {ds : List D} {J : It} {SQ : Hp → List V → Prop}
    (h : ∀ (L' : Lk) H' S', (∀ q, L' q → L q ∨ H q = none) → Ext H S H' S' → StoR c L' H' S' → G S' → ∃ vs, SQ H' vs ∧ Reps c L' H' S' ds vs)
    (go : ∀ i H' vs v, SQ H' vs → vs[i]? = some v → J.go i H') (st : ∀ i H' vs, SQ H' vs → vs.length ≤ i → J.stop i H')
    (yl : ∀ i H' v H'' vs, J.yld i H' v H'' → SQ H' vs → ∃ T x, v = .ref T ∧ H' T = none ∧ H'' = upd H' T (.tup [.int (i : Nat), x]) ∧ vs[i]? = some x) : ItD c L G H S J (enumL 0 ds) := by
  intro L' H' S' hl e so g
  obtain ⟨vs, q, rs⟩ := h L' H' S' hl e so g
  refine ⟨fun i d ed => ?_, fun i hi => st i H' vs q (by rw [rs.length, ← enumL_len ds 0]; exact hi)⟩
  obtain ⟨x, ex, dx⟩ := enumL_get ds 0 i d ed
  subst dx
  obtain ⟨v, ev, rv⟩ := rs.get ex
  refine ⟨go i H' vs v q ev, fun u H'' y => ?_⟩
  obtain ⟨T, w, eu, nT, eH, ew⟩ := yl i H' u H'' vs y q
  rw [ev] at ew
  cases ew
  subst eu eH
  have fr := so.free nT
  have xt : Ext H' S' (upd H' T (.tup [.int (i : Nat), v])) S' := Ext.upd nT
  refine ⟨xt, so.upd nT, ?_⟩
  unfold Rep
  refine ⟨T, _, rfl, .inl ⟨.inl upd_same, fr.1, fr.2⟩, .cons ?_ (.cons (rv.ext xt) .nil)⟩
  unfold Rep
  rw [Nat.zero_add]
def iEnumD (t : DTA) : DTI := fun ρ S R E => t ρ S (fun ds S1 => ∃ x ys G, ds = [x] ∧ seqI S1 x = some (ys, G) ∧ (match x with | .str _ => False | _ => True) ∧ R (enumL 0 ys) G S1) E
theorem di_enum {e : Expr} {p pos tpos : Pos} {elts : List Expr} {kk : Nat} {t : DTA} (hg : Gl X "enumerate") (hm : X.mg "enumerate" = none) (ha : DA X A W [e] t) (hs : starEach [e] X.env = [(false, eval e X.env)]) :
    DItr X A W (.Tuple elts kk tpos) (.Call (.Name "enumerate" p) [e] [] pos) (iEnumD t) :=
  PI.mono (pi_enumA hg hm ha hs) fun σ H R ⟨ρ, S, L, Rd, Ed, sl, so, h, ki, kx⟩ => by
    refine ⟨ρ, S, L, _, Ed, sl, so, h, ?_, kx⟩
    rintro vs H1 ds S1 e1 so1 r1 ⟨x, ys, G, ed, es, nstr, q⟩
    subst ed
    obtain ⟨v, ev, rx⟩ := reps1 r1
    subst ev
    have lst : ∀ p, v = .ref p → (∀ (L' : Lk) H' S', (∀ q, L' q → L q ∨ H1 q = none) → Ext H1 S1 H' S' → StoR (cX X A) L' H' S' → G S' → ∃ vs, SqL X.K H' p vs ∧ Reps (cX X A) L' H' S' ys vs) → (∃ vs, SqL X.K H1 p vs) →
        ∃ a, [v] = [V.ref a] ∧ ((∃ xs, SqL X.K H1 a xs ∧ R (Ite X.K a) H1) ∨ ∃ xs, SqT X.K H1 a xs ∧ R (IteT X.K a) H1) := fun p ev hh ⟨ws, hw⟩ =>
      ⟨p, by rw [ev], .inl ⟨ws, hw, ki _ H1 _ G S1 e1 so1 (itd_enumP (SQ := fun H' vs => SqL X.K H' p vs) hh (fun i H' vs v q e => ⟨vs, v, q, e⟩) (fun i H' vs q e => ⟨vs, q, e⟩) fun i H' v H'' vs ⟨T, x, a, b, c, d⟩ q => ⟨T, x, a, b, c, d vs q⟩) q⟩⟩
    have tup : ∀ p, v = .ref p → (∀ (L' : Lk) H' S', (∀ q, L' q → L q ∨ H1 q = none) → Ext H1 S1 H' S' → StoR (cX X A) L' H' S' → G S' → ∃ vs, SqT X.K H' p vs ∧ Reps (cX X A) L' H' S' ys vs) → (∃ vs, SqT X.K H1 p vs) →
        ∃ a, [v] = [V.ref a] ∧ ((∃ xs, SqL X.K H1 a xs ∧ R (Ite X.K a) H1) ∨ ∃ xs, SqT X.K H1 a xs ∧ R (IteT X.K a) H1) := fun p ev hh ⟨ws, hw⟩ =>
      ⟨p, by rw [ev], .inr ⟨ws, hw, ki _ H1 _ G S1 e1 so1 (itd_enumP (SQ := fun H' vs => SqT X.K H' p vs) hh (fun i H' vs v q e => ⟨vs, v, q, e⟩) (fun i H' vs q e => ⟨vs, q, e⟩) fun i H' v H'' vs ⟨T, x, a, b, c, d⟩ q => ⟨T, x, a, b, c, d vs q⟩) q⟩⟩
    cases x with
    | str z => exact nstr.elim
    | tup xs =>
      cases es
      unfold Rep at rx
      obtain ⟨p, ws, ev, f, rs⟩ := rx
      exact tup p ev (fun L' H' S' hl x so' _ => ⟨ws, ((f.lock hl).ext x).sq, (rs.lock hl).ext x⟩) ⟨ws, f.sq⟩
    | lst xs =>
      cases es
      unfold Rep at rx
      obtain ⟨p, ws, ev, f, ⟨fs, fl⟩, rs⟩ := rx
      exact lst p ev (fun L' H' S' hl x so' _ => ⟨ws, SqL.of (x p _ f fs).1, (rs.lock hl).ext x⟩) ⟨ws, SqL.of f⟩
    | cst xs =>
      cases es
      unfold Rep at rx
      obtain ⟨p, ws, ev, f, rs⟩ := rx
      exact lst p ev (fun L' H' S' hl x so' _ => ⟨ws, ((f.lock hl).ext x).sq, (rs.lock hl).ext x⟩) ⟨ws, f.sq⟩
    | ref p =>
      have es' : (match S1 p with | some (.lst xs) => some (xs, fun S' => S' p = some (.lst xs)) | _ => none) = some (ys, G) := es
      unfold Rep at rx
      cases sp : S1 p with
      | none => rw [sp] at es'; cases es'
      | some o =>
        rw [sp] at es'
        cases o with
        | ins C xs => cases es'
        | lst xs =>
          cases es'
          obtain ⟨⟨ws, hp, rs⟩, _⟩ := so1.at_ p _ sp
          exact lst p rx (fun L' H' S' hl x so' g => by
            obtain ⟨⟨us, hw, rw'⟩, _⟩ := so'.at_ p _ g
            exact ⟨us, SqL.of hw, rw'⟩) ⟨ws, SqL.of hp⟩
    | _ => cases es
end
end DL

namespace DL
open PySem PySem.Spec PyProof.Rows L2

/-! ### fewer tracked -/
section
variable {c : Cfg} {L : Lk} {H H1 : Hp} {S S1 : Sto}
theorem FT.fewer (h : ∀ p, S p = none → S1 p = none) {p : Addr} {vs : List V} : FT c L H S p vs → FT c L H S1 p vs
  | .inr z => .inr z
  | .inl ⟨a, b, d⟩ => .inl ⟨a, h _ b, d⟩
theorem FL.fewer (h : ∀ p, S p = none → S1 p = none) {p : Addr} {vs : List V} : FL c L H S p vs → FL c L H S1 p vs
  | .inr z => .inr z
  | .inl ⟨a, b, d⟩ => .inl ⟨a, h _ b, d⟩
mutual
theorem Rep.fewer (h : ∀ p, S p = none → S1 p = none) : ∀ (d : D) (v : V), Rep c L H S d v → Rep c L H S1 d v
  | .non, v, r => by unfold Rep at r ⊢; exact r
  | .bl b, v, r => by unfold Rep at r ⊢; exact r
  | .int i, v, r => by unfold Rep at r ⊢; exact r
  | .str x, v, r => by unfold Rep at r ⊢; exact r
  | .ref a, v, r => by unfold Rep at r ⊢; exact r
  | .rp p, v, r => by unfold Rep at r ⊢; exact r
  | .ty n, v, r => by unfold Rep at r ⊢; exact r
  | .tup ds, v, r => by
    unfold Rep at r ⊢
    obtain ⟨p, vs, ev, f, rs⟩ := r
    exact ⟨p, vs, ev, f.fewer h, Reps.fewer h ds vs rs⟩
  | .lst ds, v, r => by
    unfold Rep at r ⊢
    obtain ⟨p, vs, ev, f, ⟨s, l⟩, rs⟩ := r
    exact ⟨p, vs, ev, f, ⟨h _ s, l⟩, Reps.fewer h ds vs rs⟩
  | .cst ds, v, r => by
    unfold Rep at r ⊢
    obtain ⟨p, vs, ev, f, rs⟩ := r
    exact ⟨p, vs, ev, f.fewer h, Reps.fewer h ds vs rs⟩
  | .ins C ds, v, r => by
    unfold Rep at r ⊢
    obtain ⟨p, dx, vs, ev, f, ⟨s, l⟩, rs⟩ := r
    exact ⟨p, dx, vs, ev, f, ⟨h _ s, l⟩, Reps.fewer h ds vs rs⟩
theorem Reps.fewer (h : ∀ p, S p = none → S1 p = none) : ∀ (ds : List D) (vs : List V), Reps c L H S ds vs → Reps c L H S1 ds vs
  | [], vs, r => by unfold Reps at r ⊢; exact r
  | d :: ds, vs, r => by
    unfold Reps at r ⊢
    obtain ⟨v, ws, ev, r1, rs⟩ := r
    exact ⟨v, ws, ev, Rep.fewer h d v r1, Reps.fewer h ds ws rs⟩
end
theorem Sto.del_some {p q : Addr} {o : MO} (h : S.del p q = some o) : S q = some o ∧ q ≠ p := by
  unfold Sto.del at h
  by_cases e : q = p
  · rw [if_pos e] at h; cases h
  · rw [if_neg e] at h; exact ⟨h, e⟩
theorem Sto.del_same {p : Addr} : S.del p p = none := if_pos rfl
theorem Sto.del_none {p q : Addr} (h : S q = none) : S.del p q = none := by
  unfold Sto.del
  by_cases e : q = p
  · rw [if_pos e]
  · rw [if_neg e]; exact h
theorem Sto.del_set {p : Addr} {o : MO} (h : S p = none) : (S.set p o).del p = S := by
  funext q
  unfold Sto.del Sto.set
  by_cases e : q = p
  · rw [if_pos e, e, h]
  · rw [if_neg e, if_neg e]
theorem StoR.del (R : StoR c L H S) (p : Addr) : StoR c L H (S.del p) where
  at_ := fun q o t => by
    obtain ⟨t, _⟩ := Sto.del_some t
    obtain ⟨m, n⟩ := R.at_ q o t
    refine ⟨?_, n⟩
    cases o with
    | lst ds =>
      obtain ⟨vs, hp, r⟩ := m
      exact ⟨vs, hp, r.fewer fun _ => Sto.del_none⟩
    | ins C ds =>
      obtain ⟨dx, vs, hp, r⟩ := m
      exact ⟨dx, vs, hp, r.fewer fun _ => Sto.del_none⟩
  lk := R.lk
  gh := fun b k ds g => by
    obtain ⟨vs, h1, ⟨s1, n⟩, r⟩ := R.gh b k ds g
    exact ⟨vs, h1, ⟨Sto.del_none s1, n⟩, r.fewer fun _ => Sto.del_none⟩
theorem Ext.del {p : Addr} (e : Ext H S H1 S1) : Ext H S H1 (S1.del p) := fun q o a b => ⟨(e q o a b).1, Sto.del_none (e q o a b).2⟩
theorem XRep.fewer (h : ∀ p, S p = none → S1 p = none) {n : Nat} {a : Option Addr} {ds : List D} : XRep c L H S n a ds → XRep c L H S1 n a ds
  | .inl z => .inl z
  | .inr ⟨p, vs, ea, hp, ⟨s, l⟩, r⟩ => .inr ⟨p, vs, ea, hp, ⟨h _ s, l⟩, r.fewer h⟩
/-- an object that may change is let stand -/
def freezeD (p : Addr) : MO → D
  | .lst xs => .lst xs
  | .ins C xs => .ins C xs
theorem StoR.frz {p : Addr} {o : MO} (R : StoR c L H S) (h : S p = some o) : Rep c L H (S.del p) (freezeD p o) (.ref p) := by
  obtain ⟨m, n⟩ := R.at_ p o h
  cases o with
  | lst xs =>
    obtain ⟨vs, hp, r⟩ := m
    show Rep c L H (S.del p) (.lst xs) (.ref p)
    unfold Rep
    exact ⟨p, vs, rfl, hp, ⟨Sto.del_same, n⟩, r.fewer fun _ => Sto.del_none⟩
  | ins C xs =>
    obtain ⟨dx, vs, hp, r⟩ := m
    show Rep c L H (S.del p) (.ins C xs) (.ref p)
    unfold Rep
    exact ⟨p, dx, vs, rfl, hp, ⟨Sto.del_same, n⟩, r.fewer fun _ => Sto.del_none⟩
end
/-- from here on it does not change -/
def dFrz (t : DT) : DT := fun ρ S Q E => t ρ S (fun d S1 => ∃ p o, d = .ref p ∧ S1 p = some o ∧ Q (freezeD p o) (S1.del p)) E
section
variable {X : Cx} {A : Cla} {W : WX} {e o value : Expr} {es : List Expr} {pos pos' apos : Pos} {t u : DT} {ta : DTA} {f : Str}
theorem de_frz (h : DE X A W e t) : DE X A W e (dFrz t) :=
  PE.mono h fun σ H Q ⟨ρ, S, L, Qd, Ed, sl, so, h, kq, kx⟩ => ⟨ρ, S, L, _, Ed, sl, so, h, fun v H1 d S1 e1 so1 r1 ⟨p, o, ed, hs, q⟩ => by
    subst ed
    unfold Rep at r1
    subst r1
    exact kq _ H1 _ _ e1.del (so1.del p) (so1.frz hs) q, kx⟩

/-! ### attributes -/
def insOf (S : Sto) : D → Option (Nat × List D)
  | .ins C xs => some (C, xs)
  | .ref p => match S p with
    | some (.ins C xs) => some (C, xs)
    | _ => none
  | _ => none
theorem insOf_ok {c : Cfg} {L : Lk} {H : Hp} {S : Sto} {d : D} {v : V} {C : Nat} {xs : List D} (so : StoR c L H S) (r : Rep c L H S d v) (h : insOf S d = some (C, xs)) :
    ∃ p dx vs, v = .ref p ∧ H p = some (.ins (c.cA C) dx ((c.fl C).zip vs)) ∧ Reps c L H S xs vs := by
  cases d with
  | ins C' ys =>
    cases h
    unfold Rep at r
    obtain ⟨p, dx, vs, ev, hp, _, rs⟩ := r
    exact ⟨p, dx, vs, ev, hp, rs⟩
  | ref p =>
    have h : (match S p with | some (.ins C xs) => some (C, xs) | _ => none) = some (C, xs) := h
    unfold Rep at r
    cases s : S p with
    | none => rw [s] at h; cases h
    | some o =>
      rw [s] at h
      cases o with
      | lst xs => cases h
      | ins C' ys =>
        cases h
        obtain ⟨⟨dx, vs, hp, rs⟩, _⟩ := so.at_ p _ s
        exact ⟨p, dx, vs, r, hp, rs⟩
  | _ => cases h
theorem lookup_reps {c : Cfg} {L : Lk} {H : Hp} {S : Sto} {x : Str} {d : D} : ∀ {fs : List Str} {xs : List D} {vs : List V}, Reps c L H S xs vs → (fs.zip xs).lookup x = some d → ∃ v, (fs.zip vs).lookup x = some v ∧ Rep c L H S d v ∧ x ∈ fs
  | [], _, _, _, h => by cases h
  | f :: fs, [], _, _, h => by cases h
  | f :: fs, y :: ys, vs, r, h => by
    obtain ⟨v, ws, ev, r1, rs⟩ := r.of_cons
    subst ev
    rw [List.zip_cons_cons, List.lookup_cons] at h ⊢
    cases e : x == f with
    | true =>
      rw [e] at h
      cases h
      exact ⟨v, rfl, r1, by rw [eq_of_beq e]; exact List.mem_cons_self ..⟩
    | false =>
      rw [e] at h
      obtain ⟨w, a, b, m⟩ := lookup_reps rs h
      exact ⟨w, a, b, List.mem_cons_of_mem _ m⟩
/-- what is asked of the classes that have a field x -/
def FldOk (K : PySem.W.Frag) (A : Cla) (x : Str) : Prop := ∀ C, x ∈ A.fl C → Cls K (A.cA C) ∧ NoAttr K (A.cA C) x
def dFld (fl : Nat → List Str) (f : Str) (t : DT) : DT := fun ρ S Q E => t ρ S (fun d S1 => ∃ C xs y, insOf S1 d = some (C, xs) ∧ ((fl C).zip xs).lookup f = some y ∧ Q y S1) E
theorem de_fld (hf : FldOk X.K A f) (h : DE X A W e t) (hb : attributeBase e f X.env (eval e X.env) = eval e X.env) : DE X A W (.Attribute e f pos) (dFld A.fl f t) :=
  PE.mono (pe_fld h hb) fun σ H Q ⟨ρ, S, L, Qd, Ed, sl, so, h, kq, kx⟩ => ⟨ρ, S, L, _, Ed, sl, so, h, fun v H1 d S1 e1 so1 r1 ⟨C, xs, y, hi, hl, q⟩ => by
    obtain ⟨p, dx, vs, ev, hp, rs⟩ := insOf_ok so1 r1 hi
    obtain ⟨w, hw, rw', hm⟩ := lookup_reps rs hl
    obtain ⟨c1, n1⟩ := hf C hm
    exact ⟨p, _, dx, _, w, ev, hp, c1, n1, hw, kq _ H1 _ S1 e1 so1 rw' q⟩, kx⟩
/-- a field is written or added -/
def fput {α : Type} (x : Str) (y : α) : List Str → List α → Option (List α)
  | [], _ => none
  | f :: _, [] => if f = x then some [y] else none
  | f :: fs, z :: zs => if f = x then some (y :: zs) else (fput x y fs zs).map (z :: ·)
theorem fput_reps {c : Cfg} {L : Lk} {H : Hp} {S : Sto} {x : Str} {d : D} {v : V} (rv : Rep c L H S d v) : ∀ {fs : List Str} {xs ys : List D} {vs : List V}, Reps c L H S xs vs → fput x d fs xs = some ys →
    ∃ ws, putF x v (fs.zip vs) = fs.zip ws ∧ Reps c L H S ys ws ∧ x ∈ fs
  | [], _, _, _, _, h => by unfold fput at h; cases h
  | f :: fs, [], ys, vs, r, h => by
    unfold fput at h
    by_cases e : f = x
    · rw [if_pos e] at h
      cases h
      rw [r.of_nil]
      refine ⟨[v], ?_, .cons rv .nil, by rw [e]; exact List.mem_cons_self ..⟩
      rw [List.zip_nil_right, List.zip_cons_cons, List.zip_nil_right]
      show [(x, v)] = [(f, v)]
      rw [e]
    · rw [if_neg e] at h; cases h
  | f :: fs, z :: zs, ys, vs, r, h => by
    obtain ⟨w, ws, ev, r1, rs⟩ := r.of_cons
    subst ev
    unfold fput at h
    by_cases e : f = x
    · rw [if_pos e] at h
      cases h
      refine ⟨v :: ws, ?_, .cons rv rs, by rw [e]; exact List.mem_cons_self ..⟩
      show (if f = x then (f, v) :: fs.zip ws else (f, w) :: putF x v (fs.zip ws)) = (f, v) :: fs.zip ws
      rw [if_pos e]
    · rw [if_neg e] at h
      cases q : fput x d fs zs with
      | none => rw [q] at h; cases h
      | some qs =>
        rw [q] at h
        cases h
        obtain ⟨us, a, b, m⟩ := fput_reps rv rs q
        refine ⟨w :: us, ?_, .cons r1 b, List.mem_cons_of_mem _ m⟩
        show (if f = x then (f, v) :: fs.zip ws else (f, w) :: putF x v (fs.zip ws)) = (f, w) :: fs.zip us
        rw [if_neg e, a]
def sFldD (fl : Nat → List Str) (f : Str) (to tv : DT) : DTS := fun D ρ S => tv ρ S (fun y S1 => to ρ S1 (fun d S2 => ∃ p C xs xs', d = .ref p ∧ S2 p = some (.ins C xs) ∧ fput f y (fl C) xs = some xs' ∧ D.nx ρ (S2.set p (.ins C xs'))) (D.xx ρ)) (D.xx ρ)
theorem ds_fld (hf : FldOk X.K A f) (hsm : ∀ C, (A.fl C).length < 1000) (ho : DE X A W o t) (hv : DE X A W value u) (hs : swapsWith value (some (.Attribute o f pos')) pos.line X.env = pure false) : DStm X A W (.Assign [.Attribute o f pos'] value pos) (sFldD A.fl f t u) :=
  PS.mono (ps_fld ho hv hs) fun D σ H ⟨ρ, S, L, DD, sl, so, h, k⟩ => by
    refine ⟨ρ, S, L, _, _, sl, so, h, fun v H1 y S1 e1 so1 r1 q1 => ⟨ρ, S1, L, _, _, sl.ext e1, so1, q1, fun ov H2 d S2 e2 so2 r2 ⟨p, C, xs, xs', ed, hs, hp, q2⟩ => ?_, (k.xx.at_ sl).ext e1⟩, k.xx.at_ sl⟩
    subst ed
    unfold Rep at r2
    obtain ⟨⟨dx, vs, hh, rs⟩, _⟩ := so2.at_ p _ hs
    obtain ⟨ws, ew, rw', hm⟩ := fput_reps (r1.ext e2) rs hp
    obtain ⟨c1, n1⟩ := hf C hm
    refine ⟨p, _, dx, _, r2, hh, c1, n1, ?_, ?_⟩
    · exact Nat.lt_of_le_of_lt (by rw [List.length_zip]; exact Nat.min_le_left ..) (hsm C)
    · rw [ew]
      have x : Ext H2 S2 (upd H2 p (.ins (A.cA C) dx ((A.fl C).zip ws))) (S2.set p (.ins C xs')) := Ext.write hs
      exact k.nx σ _ ρ _ ((e1.trans e2).trans x) (so2.write hs ⟨dx, ws, upd_same, rw'.ext x⟩) (sl.ext ((e1.trans e2).trans x)) q2

/-! ### items of lists that may change -/
def gSubD (to ti : DT) : DTG := fun v ρ S Q E => to ρ S (fun d S1 => ti ρ S1 (fun i S2 => ∃ p xs k j, d = .ref p ∧ i = .int k ∧ S2 p = some (.lst xs) ∧ ixN xs.length k = some j ∧ Q ρ (S2.set p (.lst (xs.set j v)))) E) E
theorem dg_sub {i : Expr} (ho : DE X A W o t) (hi : DE X A W i u) (ha : ∀ v, assign (.Subscript o i pos) X.env v = (do
      let ov ← holding [v] (eval o X.env)
      let iv ← holding [v, ov] (eval i X.env)
      standAt pos
      holding [v, ov, iv] (setItem ov iv v)
      release [v, ov, iv] []) := by intro _; rfl) : DTgt X A W (.Subscript o i pos) (gSubD t u) :=
  PG.mono (pg_sub ho hi set_list ha) fun v σ H Q ⟨ρ, S, L, d, Qd, Ed, sl, so, r, h, kp, kx⟩ => by
    refine ⟨ρ, S, L, _, Ed, sl, so, h, fun ov H1 dd S1 e1 so1 r1 q1 => ⟨ρ, S1, L, _, Ed, sl.ext e1, so1, q1, fun iv H2 di S2 e2 so2 r2 ⟨p, xs, k, j, ed, ei, hs, hj, q2⟩ => ?_, kx.ext e1⟩, kx⟩
    subst ed ei
    unfold Rep at r1 r2
    obtain ⟨⟨vs, hh, rs⟩, _⟩ := so2.at_ p _ hs
    have rd := r.ext (e1.trans e2)
    refine ⟨p, vs, k, j, r1, r2, hh, by rw [rs.length]; exact hj, ?_⟩
    have x : Ext H2 S2 (upd H2 p (.lst (vs.set j v))) (S2.set p (.lst (xs.set j d))) := Ext.write hs
    exact kp σ _ ρ _ ((e1.trans e2).trans x) (so2.write hs ⟨_, upd_same, (rs.set rd j).ext x⟩) (sl.ext ((e1.trans e2).trans x)) q2

/-! ### methods of lists that may change -/
abbrev DMt := D → List D → Sto → DQ → Prop
def liftM (c : Cfg) (R : DMt) : V → List V → Hp → VK → Prop := fun x xs H Q => ∃ S L dx ds Qd, StoR c L H S ∧ Rep c L H S dx x ∧ Reps c L H S ds xs ∧ R dx ds S Qd ∧ KQ c L H S Q Qd
theorem MtR.mono {id : String} {r r' : V → List V → Hp → VK → Prop} (h : MtR X id r) (m : ∀ x xs H Q, r' x xs H Q → r x xs H Q) : MtR X id r' := fun pins s σ H x xs v us Q I rx rs q => h pins s σ H x xs v us Q I rx rs (m _ _ _ _ q)
abbrev MtD (X : Cx) (A : Cla) (id : String) (R : DMt) : Prop := MtR X id (liftM (cX X A) R)
def mAppend : DMt := fun x ds S Q => ∃ p xs y, x = .ref p ∧ ds = [y] ∧ S p = some (.lst xs) ∧ xs.length < sizeLine ∧ Q .non (S.set p (.lst (xs ++ [y])))
theorem md_append : MtD X A "list.append" mAppend := MtR.mono mt_append fun x xs H Q ⟨S, L, dx, ds, Qd, so, r, rs, ⟨p, ys, y, ex, ed, hs, hz, q⟩, kq⟩ => by
  subst ex ed
  unfold Rep at r
  obtain ⟨w, ew, r1⟩ := reps1 rs
  obtain ⟨⟨vs, hh, rv⟩, _⟩ := so.at_ p _ hs
  refine ⟨p, vs, w, r, ew, hh, by rw [rv.length]; exact hz, ?_⟩
  have x : Ext H S (upd H p (.lst (vs ++ [w]))) (S.set p (.lst (ys ++ [y]))) := Ext.write hs
  exact kq _ _ _ _ x (so.write hs ⟨_, upd_same, (rv.append (.cons r1 .nil)).ext x⟩) (by unfold Rep; rfl) q
def mPopAt : DMt := fun x ds S Q => ∃ p xs i k y, x = .ref p ∧ ds = [.int i] ∧ S p = some (.lst xs) ∧ -(2 ^ 63) ≤ i ∧ i < 2 ^ 63 ∧ seqIndex? i xs.length = some k ∧ xs[k]? = some y ∧ Q y (S.set p (.lst (xs.eraseIdx k)))
theorem Reps.eraseIdx {c : Cfg} {L : Lk} {H : Hp} {S : Sto} : ∀ {ds : List D} {vs : List V} (k : Nat), Reps c L H S ds vs → Reps c L H S (ds.eraseIdx k) (vs.eraseIdx k)
  | [], vs, k, r => by rw [r.of_nil]; exact .nil
  | d :: ds, vs, k, r => by
    obtain ⟨v, ws, ev, r1, rs⟩ := r.of_cons
    subst ev
    cases k with
    | zero => exact rs
    | succ k => exact .cons r1 (Reps.eraseIdx k rs)
theorem md_popAt : MtD X A "list.pop" mPopAt := MtR.mono mt_popAt fun x xs H Q ⟨S, L, dx, ds, Qd, so, r, rs, ⟨p, ys, i, k, y, ex, ed, hs, h1, h2, hk, hy, q⟩, kq⟩ => by
  subst ex ed
  unfold Rep at r
  obtain ⟨w, ew, r1⟩ := reps1 rs
  unfold Rep at r1
  subst r1 ew
  obtain ⟨⟨vs, hh, rv⟩, _⟩ := so.at_ p _ hs
  obtain ⟨z, hz, rz⟩ := rv.get hy
  refine ⟨p, vs, i, k, z, r, rfl, hh, h1, h2, by rw [rv.length]; exact hk, hz, ?_⟩
  have x : Ext H S (upd H p (.lst (vs.eraseIdx k))) (S.set p (.lst (ys.eraseIdx k))) := Ext.write hs
  exact kq _ _ _ _ x (so.write hs ⟨_, upd_same, (rv.eraseIdx k).ext x⟩) (rz.ext x) q
def dMt (R : DMt) (t : DT) (u : DTA) : DT := fun ρ S Q E => t ρ S (fun x S1 => (∃ p xs, x = .ref p ∧ S1 p = some (.lst xs)) ∧ u ρ S1 (fun ds S2 => R x ds S2 Q) E) E
theorem de_bm {id : String} {name : Str} {R : DMt} (slot : Slot "list" name id) (hty : typeOf (.builtin id) = pure (.type "method_descriptor")) (hm : MtD X A id R) (ho : DE X A W o t) (ha : DA X A W (e :: es) ta)
    (hbase : attributeBase o name X.env (eval o X.env) = eval o X.env)
    (hfew : ((backTo pos (starEach (e :: es) X.env)).all (fun x => !x.1) && (backToKw pos (keywordEach [] X.env)).all (fun x => x.1.isSome)
      && decide ((e :: es).length + ([] : List Keyword).length + (if ([] : List Keyword).isEmpty then 0 else 1) < 30)) = true)
    (hline : (apos.endLine == pos.line) = true) (hs : starEach (e :: es) X.env = (false, eval e X.env) :: starEach es X.env) (hplain : (backTo pos (starEach es X.env)).any (·.1) = false) :
    DE X A W (.Call (.Attribute o name apos) (e :: es) [] pos) (dMt R t ta) :=
  PE.mono (pe_bm PySem.F.plainAttrs_list slot hty hm ho ha hbase hfew hline hs hplain) fun σ H Q ⟨ρ, S, L, Qd, Ed, sl, so, h, kq, kx⟩ => by
    refine ⟨ρ, S, L, _, Ed, sl, so, h, fun v H1 d S1 e1 so1 r1 ⟨⟨p, xs, ed, hs⟩, q1⟩ => ⟨?_, ?_⟩, kx⟩
    · subst ed
      unfold Rep at r1
      subst r1
      obtain ⟨⟨vs, hh, rv⟩, _⟩ := so1.at_ p _ hs
      exact .inl ⟨rfl, vs, SqL.of hh⟩
    · exact ⟨ρ, S1, L, _, Ed, sl.ext e1, so1, q1, fun vs H2 ds S2 e2 so2 r2 q2 => ⟨S2, L, d, ds, Qd, so2, r1.ext e2, r2, q2, kq.ext (e1.trans e2)⟩, kx.ext e1⟩

/-! ### methods of texts -/
def dM1 (R : DR2) (t u : DT) : DT := fun ρ S Q E => t ρ S (fun x S1 => (∃ a, x = .str a) ∧ u ρ S1 (fun y S2 => R x y S2 Q DX0) E) E
abbrev MsD (X : Cx) (A : Cla) (id : String) (R : DR2) : Prop := MtR X id (fun x xs H Q => ∃ y, xs = [y] ∧ liftR2 (cX X A) R x y H Q)
theorem de_m1 {id : String} {name : Str} {R : DR2} (slot : Slot "str" name id) (ty : typeOf (.builtin id) = pure (.type "method_descriptor")) (rule : MsD X A id R) (ho : DE X A W o t) (he : DE X A W e u)
    (hs : starEach [e] X.env = [(false, eval e X.env)]) (hbase : attributeBase o name X.env (eval o X.env) = eval o X.env) (hline : (apos.endLine == pos.line) = true) :
    DE X A W (.Call (.Attribute o name apos) [e] [] pos) (dM1 R t u) :=
  PE.mono (pe_m1 slot ty rule ho he hs hbase hline) fun σ H Q ⟨ρ, S, L, Qd, Ed, sl, so, h, kq, kx⟩ =>
    ⟨ρ, S, L, _, Ed, sl, so, h, fun v H1 d S1 e1 so1 r1 ⟨⟨a, ea⟩, q1⟩ => ⟨⟨a, by subst ea; unfold Rep at r1; exact r1.1⟩, ρ, S1, L, _, Ed, sl.ext e1, so1, q1, fun w H2 y S2 e2 so2 r2 q2 =>
      ⟨w, rfl, S2, L, d, y, Qd, so2, r1.ext e2, r2, q2, kq.ext (e1.trans e2)⟩, kx.ext e1⟩, kx⟩
theorem rep_bl {c : Cfg} {L : Lk} {H : Hp} {S : Sto} {b : Bool} : Rep c L H S (.bl b) (.bl b) := by unfold Rep; rfl
theorem rep_int {c : Cfg} {L : Lk} {H : Hp} {S : Sto} {b : Int} : Rep c L H S (.int b) (.int b) := by unfold Rep; rfl
theorem rep_str {c : Cfg} {L : Lk} {H : Hp} {S : Sto} {b : Str} (h : SOk b) : Rep c L H S (.str b) (.str b) := by unfold Rep; exact ⟨rfl, h⟩
def mStarts : DR2 := fun x y S Q _ => ∃ a b, x = .str a ∧ y = .str b ∧ Q (.bl (Txt.startswith a b)) S
def mEnds : DR2 := fun x y S Q _ => ∃ a b, x = .str a ∧ y = .str b ∧ Q (.bl (Txt.endswith a b)) S
theorem ms_starts : MsD X A "str.startswith" mStarts := MtR.mono mt_startswith fun x xs H Q ⟨y, ey, S, L, dx, dy, Qd, so, r1, r2, ⟨a, b, ea, eb, q⟩, kq⟩ => by
  subst ea eb ey
  unfold Rep at r1 r2
  exact ⟨a, b, r1.1, by rw [r2.1], kq _ H _ S .refl so rep_bl q⟩
theorem ms_ends : MsD X A "str.endswith" mEnds := MtR.mono mt_endswith fun x xs H Q ⟨y, ey, S, L, dx, dy, Qd, so, r1, r2, ⟨a, b, ea, eb, q⟩, kq⟩ => by
  subst ea eb ey
  unfold Rep at r1 r2
  exact ⟨a, b, r1.1, by rw [r2.1], kq _ H _ S .refl so rep_bl q⟩
/-- the texts of a list -/
def strsD : List D → Option (List Str)
  | [] => some []
  | .str z :: r => (strsD r).map (z :: ·)
  | _ :: _ => none
theorem strsD_ok {c : Cfg} {L : Lk} {H : Hp} {S : Sto} : ∀ {ds : List D} {vs : List V} {ys : List Str}, Reps c L H S ds vs → strsD ds = some ys → vs = ys.map V.str ∧ ∀ y ∈ ys, SOk y
  | [], vs, ys, r, h => by
    cases h
    exact ⟨r.of_nil, fun y hy => by cases hy⟩
  | d :: ds, vs, ys, r, h => by
    obtain ⟨v, ws, ev, r1, rs⟩ := r.of_cons
    cases d with
    | str z =>
      have h : (strsD ds).map (z :: ·) = some ys := h
      cases q : strsD ds with
      | none => rw [q] at h; cases h
      | some qs =>
        rw [q] at h
        cases h
        obtain ⟨e, k⟩ := strsD_ok rs q
        unfold Rep at r1
        refine ⟨by rw [ev, e, r1.1]; rfl, fun y hy => ?_⟩
        rcases List.mem_cons.mp hy with hy | hy
        · rw [hy]; exact r1.2
        · exact k y hy
    | _ => cases h
theorem SOk.join {a : Str} (ha : SOk a) : ∀ {ys : List Str}, (∀ y ∈ ys, SOk y) → (Txt.join a ys).cps.all (· < 0x110000) = true := by
  intro ys
  rw [TL.join_eq]
  induction ys with
  | nil => intro _; simp [Str.join, Str.empty]
  | cons y ys ih =>
    intro h
    cases ys with
    | nil => exact (h y (List.mem_cons_self ..)).2
    | cons z r =>
      show (y.cps ++ a.cps ++ (Str.join a (z :: r)).cps).all _ = true
      rw [Array.all_append, Array.all_append, (h y (List.mem_cons_self ..)).2, ha.2, ih fun q hq => h q (List.mem_cons_of_mem _ hq)]
      rfl
theorem join_len (a : Str) : ∀ ys : List Str, (Txt.join a ys).length ≤ (ys.map (·.length)).sum + ys.length * a.length := by
  intro ys
  rw [TL.join_eq]
  induction ys with
  | nil => exact Nat.zero_le _
  | cons y ys ih =>
    cases ys with
    | nil =>
      show y.length ≤ y.length + 0 + 1 * a.length
      omega
    | cons z r =>
      have e : (Str.join a (y :: z :: r)).length = y.length + a.length + (Str.join a (z :: r)).length := by
        show (y.cps ++ a.cps ++ (Str.join a (z :: r)).cps).size = _
        rw [Array.size_append, Array.size_append]
        rfl
      rw [e]
      have e2 : ((y :: z :: r).map (·.length)).sum = y.length + ((z :: r).map (·.length)).sum := rfl
      have e3 : (y :: z :: r).length * a.length = a.length + (z :: r).length * a.length := by
        show ((z :: r).length + 1) * a.length = _
        rw [Nat.add_mul, Nat.one_mul, Nat.add_comm]
      omega
def mJoin : DR2 := fun x y S Q _ => ∃ a ds ys, x = .str a ∧ seqA S y = some ds ∧ strsD ds = some ys ∧ (ys.map (·.length)).sum + ys.length * a.length ≤ 16777216 ∧ Q (.str (Txt.join a ys)) S
theorem ms_join : MsD X A "str.join" mJoin := MtR.mono mt_join fun x xs H Q ⟨y, ey, S, L, dx, dy, Qd, so, r1, r2, ⟨a, ds, ys, ea, eb, es, hz, q⟩, kq⟩ => by
  subst ea ey
  unfold Rep at r1
  obtain ⟨e1, ok⟩ := r1
  obtain ⟨p, vs, ev, sq, rs⟩ := seqA_ok so r2 eb
  obtain ⟨e2, k⟩ := strsD_ok rs es
  subst e2
  exact ⟨a, p, ys, e1, by rw [ev], sq, hz, kq _ H _ S .refl so (rep_str ⟨Nat.le_trans (join_len a ys) (Nat.le_trans hz (by decide)), ok.join k⟩) q⟩
end

/-! ### instances are made -/
def mkI (m : Bool) (C : Nat) (p : Addr) (S : Sto) (Q : DQ) : Prop := if m = true then Q (.ref p) S else ∃ xs, S p = some (.ins C xs) ∧ Q (.ins C xs) (S.del p)
def dMake (C : Nat) (m : Bool) (sp : DSp) (t : DTA) : DT := fun ρ S Q E => t ρ S (fun ds S1 => ∀ p, S1 p = none → sp (.ref p :: ds) (S1.set p (.ins C [])) (fun r S2 => r = .non ∧ mkI m C p S2 Q) (fun n xs S2 => E n xs (S2.del p))) E
section
variable {X : Cx} {A : Cla} {W : WX} {e : Expr} {es : List Expr} {p pos : Pos} {x : Str} {f : Addr} {k C : Nat} {sp : DSp} {t : DTA}
theorem run_makeV {pins : List (Addr × Obj)} {σ : L2.St} {H : Hp} {s : Shared} {Q : VK} {us : List Value} {vs : List V} {Ca : Addr} (M : Mk X.K Ca f) (F : FnD X.prog X.w (cX X A) X.mg X.base k f sp) (m : Rm (k + 1) X.A) (tk : Takes X W) (I : L2.Inv X pins σ H s) (r : Vals vs us)
    (h : ∀ x dx, H x = none → H dx = none → dx ≠ x → liftSp (cX X A) sp (V.ref x :: vs) (upd (upd H dx (.own x)) x (.ins Ca dx [])) (fun v H2 => v = .non ∧ Q (.ref x) H2) (WE W σ)) :
    wpAny (model X.prog X.w) X.A (call (.ref Ca) us) (EP X pins σ Q) X.xe s := by
  have hq := h (s.heap.objs.size + 1) s.heap.objs.size (I.hok.fresh (Nat.le_succ _)) (I.hok.fresh (Nat.le_refl _)) (Nat.ne_of_lt (Nat.lt_succ_self _))
  have I2 := Inv.made (C := Ca) I
  have r2 : Vals (V.ref (s.heap.objs.size + 1) :: vs) (Value.ref (s.heap.objs.size + 1) :: us) := .cons rfl r
  refine wpAny_call (make_map (f := f) I.kIn M.makes M.init (beq_iff_eq.mp M.fn) (codeAny_mono (F _ X.stack _ _ (Value.ref (s.heap.objs.size + 1) :: us) _ _ (WE W σ) (m.make Ca us []) (I2.env0.make Ca us []) r2 hq) fun r s' hq' => ?_))
  cases r with
  | error e => exact passAt tk σ pins _ _ e s' I2 hq'
  | ok fl =>
    cases fl with
    | ret u =>
      obtain ⟨v, H', I3, rv, ev, q3⟩ := I2.after hq'
      subst ev
      exact ⟨rv, ⟨V.ref (s.heap.objs.size + 1), H', I3, rfl, q3⟩⟩
    | next => exact False.elim hq'
    | brk => exact False.elim hq'
    | cont => exact False.elim hq'
theorem make_ok {c : Cfg} {L : Lk} {H : Hp} {S : Sto} {ds : List D} {vs : List V} {m : Bool} {Q : VK} {Qd : DQ} {E : XK} {Ed : DX} (so : StoR c L H S) (rs : Reps c L H S ds vs)
    (h : ∀ p, S p = none → sp (.ref p :: ds) (S.set p (.ins C [])) (fun r S2 => r = .non ∧ mkI m C p S2 Qd) (fun n xs S2 => Ed n xs (S2.del p))) (kq : KQ c L H S Q Qd) (kx : KX c L H S E Ed) :
    ∀ x dx, H x = none → H dx = none → dx ≠ x → liftSp c sp (V.ref x :: vs) (upd (upd H dx (.own x)) x (.ins (c.cA C) dx [])) (fun v H2 => v = .non ∧ Q (.ref x) H2) E := by
  intro x dx nx nd ne
  have so1 : StoR c L (upd H dx (.own x)) S := so.upd nd
  have n1 : upd H dx (.own x) x = none := by rw [upd_ne (Ne.symm ne)]; exact nx
  have e1 : Ext H S (upd H dx (.own x)) S := Ext.upd nd
  have e2 : Ext (upd H dx (.own x)) S (upd (upd H dx (.own x)) x (.ins (c.cA C) dx [])) (S.set x (.ins C [])) := Ext.new n1
  have so2 : StoR c L (upd (upd H dx (.own x)) x (.ins (c.cA C) dx [])) (S.set x (.ins C [])) := so1.new n1 ⟨dx, [], by rw [List.zip_nil_right]; exact upd_same, .nil⟩
  have e12 := e1.trans e2
  refine ⟨.ref x :: ds, S.set x (.ins C []), L, _, _, so2, .cons (by unfold Rep; rfl) (rs.ext e12), h x (so.free nx).1, fun v H2 r S2 e3 so3 rr ⟨er, q⟩ => ?_, fun n a H' xs S' e3 so3 xr q => ?_⟩
  · subst er
    unfold Rep at rr
    refine ⟨rr, ?_⟩
    unfold mkI at q
    cases m with
    | true =>
      rw [if_pos rfl] at q
      exact kq _ H2 _ S2 (e12.trans e3) so3 (by unfold Rep; rfl) q
    | false =>
      rw [if_neg Bool.false_ne_true] at q
      obtain ⟨xs, hs, q⟩ := q
      exact kq _ H2 _ _ (e12.trans e3).del (so3.del x) (so3.frz hs) q
  · exact kx n a H' xs _ (e12.trans e3).del (so3.del x) (xr.fewer fun _ => Sto.del_none) q
theorem de_make {m : Bool} (M : Mk X.K (A.cA C) f) (F : FnD X.prog X.w (cX X A) X.mg X.base k f sp) (hr : Rm (k + 1) X.A) (tk : Takes X W) (hg : Gl X x) (hm : X.mg x = some (.ref (A.cA C))) (ha : DA X A W (e :: es) t)
    (hdb : (x == ("__debug__" : Str)) = false) (he : starEach (e :: es) X.env = (false, eval e X.env) :: starEach es X.env) (hpl : (backTo pos (starEach es X.env)).any (·.1) = false) :
    DE X A W (.Call (.Name x p) (e :: es) [] pos) (dMake C m sp t) := by
  refine ⟨fun pins s σ H Q I ⟨ρ, S, L, Qd, Ed, sl, so, h, kq, kx⟩ => ?_⟩
  refine wpAny_Call_Name_kw (ld_glob I hg hm ?_ hdb)
  refine PySem.W.callWith_K (h₀ := X.base) I.ok.mod.kin M.kp (thn (ha.run pos pins s σ H (fun vs H1 => ∀ x dx, H1 x = none → H1 dx = none → dx ≠ x → liftSp (cX X A) sp (V.ref x :: vs) (upd (upd H1 dx (.own x)) x (.ins (A.cA C) dx [])) (fun v H2 => v = .non ∧ Q (.ref x) H2) (WE W σ)) I
    ⟨ρ, S, L, _, Ed, sl, so, h, fun vs H1 ds S1 e1 so1 r1 q1 => make_ok so1 r1 q1 (kq.ext e1) (kx.ext e1).slots, kx⟩) fun us s1 ⟨vs, H1, I1, r, q⟩ => ⟨I1.kIn, ?_⟩) he hpl
  exact run_makeV M F hr tk I1 r q
theorem de_make0 {m : Bool} (M : Mk X.K (A.cA C) f) (F : FnD X.prog X.w (cX X A) X.mg X.base k f sp) (hr : Rm (k + 1) X.A) (tk : Takes X W) (hg : Gl X x) (hm : X.mg x = some (.ref (A.cA C)))
    (hdb : (x == ("__debug__" : Str)) = false) : DE X A W (.Call (.Name x p) [] [] pos) (dMake C m sp dNil) := by
  refine ⟨fun pins s σ H Q I ⟨ρ, S, L, Qd, Ed, sl, so, h, kq, kx⟩ => ?_⟩
  refine wpAny_Call_Name_kw (ld_glob I hg hm ?_ hdb)
  exact PySem.W.callWith_K0 I.kIn M.kp (run_makeV (us := []) M F hr tk I .nil (make_ok so .nil h kq kx.slots))
end
end DL

namespace DL
open PySem PySem.Spec PyProof.Rows L2

abbrev cc (K : PySem.W.Frag) (A : Cla) : Cfg := ⟨K, A.cA, A.cv, A.fl, A.gh⟩
/-- what holds wherever code of a def is read: the tables by which its names are looked up -/
structure In (P : Program) (w : World) (K : PySem.W.Frag) (mg : Str → Option Value) (base : Heap) (N : List Str) (sc : Scope) (fo : Str → Bool) (lv : Nat) (X : Cx) (W : WX) : Prop where
  eP : X.prog = P
  eW : X.w = w
  eK : X.K = K
  eM : X.mg = mg
  eB : X.base = base
  eN : X.N = N
  eS : X.env.scope = sc
  eF : X.fn = fo
  calm : X.calm = true
  rm : Rm lv X.A
  tk : Takes X W
/-- a def's frame: what leaves it, the frames that run -/
structure HPs (X : Cx) : Prop where
  po : PassesOwn (model X.prog X.w) X.A X.env X.xe
  stk : X.stack = X.env :: X.outer
  frm : X.env.frame = some X.env.locals
/-- a name with a slot -/
def nmB (N : List Str) (sc : Scope) (i : Nat) (x : Str) : Bool := decide (N[i]? = some x) && (decide (sc.names.lookup x = some .local) || decide (sc.names.lookup x = some .cell) || decide (sc.names.lookup x = some .free)) && !(x == ("__debug__" : Str)) && !(x == ("__classdict__" : Str))
/-- a name of the module -/
def glB (sc : Scope) (x : Str) : Bool := decide (sc.names.lookup x = some .globalImplicit) && !(x == ("__debug__" : Str)) && !(x == ("__name__" : Str))
/-- a name that is stored -/
def tgB (N : List Str) (sc : Scope) (fo : Str → Bool) (i : Nat) (x : Str) : Bool := decide N.Nodup && decide (N[i]? = some x) && (decide (sc.names.lookup x = some .local) || (decide (sc.names.lookup x = some .cell) && fo x))
def fAll : Str → Bool := fun _ => true
def fCell (sc : Scope) : Str → Bool := fun x => sc.names.lookup x == some .cell
theorem not_of {b : Bool} (h : (!b) = true) : b = false := by cases b with
  | true => cases h
  | false => rfl
section
variable {P : Program} {w : World} {K : PySem.W.Frag} {A : Cla} {mg : Str → Option Value} {base : Heap} {N : List Str} {sc : Scope} {fo : Str → Bool} {lv : Nat} {X : Cx} {W : WX}
theorem nmB_ok {i : Nat} {x : Str} (h : nmB N sc i x = true) : N[i]? = some x ∧ Vis sc x ∧ (x == ("__debug__" : Str)) = false ∧ (x == ("__classdict__" : Str)) = false := by
  unfold nmB at h
  rw [Bool.and_eq_true, Bool.and_eq_true, Bool.and_eq_true, Bool.or_eq_true, Bool.or_eq_true] at h
  obtain ⟨⟨⟨a, b⟩, c⟩, d⟩ := h
  refine ⟨of_decide_eq_true a, ?_, not_of c, not_of d⟩
  rcases b with (b | b) | b
  · exact .inl (of_decide_eq_true b)
  · exact .inr (.inl (of_decide_eq_true b))
  · exact .inr (.inr (of_decide_eq_true b))
theorem glB_ok {x : Str} (h : glB sc x = true) : sc.names.lookup x = some .globalImplicit ∧ (x == ("__debug__" : Str)) = false ∧ x ≠ "__name__" := by
  unfold glB at h
  rw [Bool.and_eq_true, Bool.and_eq_true] at h
  obtain ⟨⟨a, b⟩, c⟩ := h
  refine ⟨of_decide_eq_true a, not_of b, fun e => ?_⟩
  have c := not_of c
  rw [e] at c
  exact absurd (beq_self_eq_true _) (by rw [c]; exact Bool.false_ne_true)
theorem tgB_ok {i : Nat} {x : Str} (h : tgB N sc fo i x = true) : N.Nodup ∧ N[i]? = some x ∧ Loc sc x ∧ (fo x = true ∨ sc.names.lookup x = some .local) := by
  unfold tgB at h
  rw [Bool.and_eq_true, Bool.and_eq_true, Bool.or_eq_true, Bool.and_eq_true] at h
  obtain ⟨⟨a, b⟩, c⟩ := h
  refine ⟨of_decide_eq_true a, of_decide_eq_true b, ?_, ?_⟩
  · rcases c with c | c
    · exact .inl (of_decide_eq_true c)
    · exact .inr (of_decide_eq_true c.1)
  · rcases c with c | c
    · exact .inr (of_decide_eq_true c)
    · exact .inl c.2
theorem In.gl {x : Str} (h : In P w K mg base N sc fo lv X W) (hg : glB sc x = true) : Gl X x := by
  have := h.eS
  subst this
  exact (glB_ok hg).1
/-! ### the rules by the tables -/
variable {e a b o value : Expr} {es : List Expr} {p pos pos' apos : Pos} {x : Str} {t u : DT} {ta : DTA} {i k : Nat} {f : Addr} {sp : DSp} {fs : Str}
theorem In.var (h : In P w K mg base N sc fo lv X W) (ck : nmB N sc i x = true) : DE X A W (.Name x pos) (dVar i) := by
  have := h.eS; subst this
  have := h.eN; subst this
  obtain ⟨a, b, c, d⟩ := nmB_ok ck
  exact de_var a b c d
theorem In.glob {v : V} {d : D} {uv : Value} (h : In P w K mg base N sc fo lv X W) (hg : glB sc x = true) (hm : mg x = some uv) (r : RelV v uv) (st : Still d v) : DE X A W (.Name x pos) (dCst d) := by
  have g := h.gl hg
  have := h.eM; subst this
  exact de_tC (pe_glob g hm r (glB_ok hg).2.1) st
theorem still_str {z : Str} (h : SOk z) : Still (.str z) (.str z) := fun _ _ _ _ => rep_str h
theorem still_int {z : Int} : Still (.int z) (.int z) := fun _ _ _ _ => rep_int
/-- a class, a built-in type, as a value -/
theorem In.ty {T : Ty} (h : In P w K mg base N sc fo lv X W) (hg : glB sc x = true) (hm : mg x = none) (hv : bootBuiltins x = some (.type T.name)) (ho : ∀ C, T ≠ .own C) : DE X A W (.Name x pos) (dCst (.ty T)) := by
  have g := h.gl hg
  have := h.eM; subst this
  refine de_tC (v := .ty T.name) (pe_bltn g hm hv rfl (glB_ok hg).2.2 (glB_ok hg).2.1) fun c L H S => ?_
  unfold Rep
  cases T with
  | own C => exact absurd rfl (ho C)
  | _ => rfl
theorem In.cls {C : Nat} (h : In P w K mg base N sc fo lv X W) (hg : glB sc x = true) (hm : mg x = some (.ref (A.cA C))) : DE X A W (.Name x pos) (dCst (.ty (.own C))) := by
  have g := h.gl hg
  have := h.eM; subst this
  exact PE.mono (pe_glob (v := .ref (A.cA C)) g hm rfl (glB_ok hg).2.1) fun σ H Q ⟨ρ, S, L, Qd, Ed, sl, so, h, kq, _⟩ => kq _ H _ S .refl so (by unfold Rep; rfl) h
theorem In.call (h : In P w K mg base N sc fo lv X W) (F : FnD P w (cc K A) mg base k f sp) (hk : k ≤ lv) (hg : glB sc x = true) (hm : mg x = some (.ref f)) (kp : PySem.W.keepIn K (.ref f) = true) (ha : DA X A W (e :: es) ta)
    (he : starEach (e :: es) X.env = (false, eval e X.env) :: starEach es X.env := by rfl) (hpl : (backTo pos (starEach es X.env)).any (·.1) = false := by rfl) : DE X A W (.Call (.Name x p) (e :: es) [] pos) (dCall sp ta) := by
  have g := h.gl hg
  have := h.eM; subst this
  have := h.eP; subst this
  have := h.eW; subst this
  have := h.eK; subst this
  have := h.eB; subst this
  exact de_call F (h.rm.mono hk) h.tk g hm kp ha (glB_ok hg).2.1 he hpl
theorem In.call0 (h : In P w K mg base N sc fo lv X W) (F : FnD P w (cc K A) mg base k f sp) (hk : k ≤ lv) (hg : glB sc x = true) (hm : mg x = some (.ref f)) (kp : PySem.W.keepIn K (.ref f) = true) : DE X A W (.Call (.Name x p) [] [] pos) (dCall sp dNil) := by
  have g := h.gl hg
  have := h.eM; subst this
  have := h.eP; subst this
  have := h.eW; subst this
  have := h.eK; subst this
  have := h.eB; subst this
  exact de_call0 F (h.rm.mono hk) h.tk g hm kp (glB_ok hg).2.1
theorem In.make {C : Nat} {m : Bool} (h : In P w K mg base N sc fo lv X W) (M : Mk K (A.cA C) f) (F : FnD P w (cc K A) mg base k f sp) (hk : k + 1 ≤ lv) (hg : glB sc x = true) (hm : mg x = some (.ref (A.cA C))) (ha : DA X A W (e :: es) ta)
    (he : starEach (e :: es) X.env = (false, eval e X.env) :: starEach es X.env := by rfl) (hpl : (backTo pos (starEach es X.env)).any (·.1) = false := by rfl) : DE X A W (.Call (.Name x p) (e :: es) [] pos) (dMake C m sp ta) := by
  have g := h.gl hg
  have := h.eM; subst this
  have := h.eP; subst this
  have := h.eW; subst this
  have := h.eK; subst this
  have := h.eB; subst this
  exact de_make M F (h.rm.mono hk) h.tk g hm ha (glB_ok hg).2.1 he hpl
theorem In.make0 {C : Nat} {m : Bool} (h : In P w K mg base N sc fo lv X W) (M : Mk K (A.cA C) f) (F : FnD P w (cc K A) mg base k f sp) (hk : k + 1 ≤ lv) (hg : glB sc x = true) (hm : mg x = some (.ref (A.cA C))) : DE X A W (.Call (.Name x p) [] [] pos) (dMake C m sp dNil) := by
  have g := h.gl hg
  have := h.eM; subst this
  have := h.eP; subst this
  have := h.eW; subst this
  have := h.eK; subst this
  have := h.eB; subst this
  exact de_make0 M F (h.rm.mono hk) h.tk g hm (glB_ok hg).2.1
/-- built-in functions, types -/
theorem In.bi {id : String} {R : DRA} (h : In P w K mg base N sc fo lv X W) (hc : CallD X A (.builtin id) R) (hg : glB sc x = true) (hm : mg x = none) (hv : bootBuiltins x = some (.builtin id)) (ha : DA X A W (e :: es) ta)
    (he : starEach (e :: es) X.env = (false, eval e X.env) :: starEach es X.env := by rfl) (hpl : (backTo pos (starEach es X.env)).any (·.1) = false := by rfl) : DE X A W (.Call (.Name x p) (e :: es) [] pos) (dCB R ta) := by
  have g := h.gl hg
  have := h.eM; subst this
  exact de_callB hc g hm hv ha (glB_ok hg).2.2 (glB_ok hg).2.1 he hpl
theorem In.bt {T : String} {R : DRA} (h : In P w K mg base N sc fo lv X W) (hc : CallD X A (.type T) R) (hg : glB sc x = true) (hm : mg x = none) (hv : bootBuiltins x = some (.type T)) (ha : DA X A W (e :: es) ta)
    (he : starEach (e :: es) X.env = (false, eval e X.env) :: starEach es X.env := by rfl) (hpl : (backTo pos (starEach es X.env)).any (·.1) = false := by rfl) : DE X A W (.Call (.Name x p) (e :: es) [] pos) (dCB R ta) := by
  have g := h.gl hg
  have := h.eM; subst this
  exact de_callTy hc g hm hv ha (glB_ok hg).2.2 (glB_ok hg).2.1 he hpl
theorem In.isi {T : Isi} (h : In P w K mg base N sc fo lv X W) (hT : IsiOk (cc K A) T) : CallD X A (.builtin "isinstance") (rIsiD T) := by
  have := h.eK; subst this
  exact cd_isi hT
theorem In.fld (h : In P w K mg base N sc fo lv X W) (hf : FldOk K A fs) (he : DE X A W e t) (hb : attributeBase e fs X.env (eval e X.env) = eval e X.env := by rfl) : DE X A W (.Attribute e fs pos) (dFld A.fl fs t) := by
  have := h.eK; subst this
  exact de_fld hf he hb
theorem In.sfld (h : In P w K mg base N sc fo lv X W) (hf : FldOk K A fs) (hsm : ∀ C, (A.fl C).length < 1000) (ho : DE X A W o t) (hv : DE X A W value u) (hs : swapsWith value (some (.Attribute o fs pos')) pos.line X.env = pure false := by rfl) :
    DStm X A W (.Assign [.Attribute o fs pos'] value pos) (sFldD A.fl fs t u) := by
  have := h.eK; subst this
  exact ds_fld hf hsm ho hv hs
theorem In.set (h : In P w K mg base N sc fo lv X W) (ck : tgB N sc fo i x = true) (he : DE X A W e t) (hs : swapsWith e (some (.Name x p)) pos.line X.env = pure false := by rfl) : DStm X A W (.Assign [.Name x p] e pos) (sAsg t (gNm i)) := by
  obtain ⟨a, b, c, d⟩ := tgB_ok ck
  have := h.eS; subst this
  have := h.eN; subst this
  have := h.eF; subst this
  exact ds_set a b c he hs d
theorem In.tg (h : In P w K mg base N sc fo lv X W) (ck : tgB N sc fo i x = true) : DTgt X A W (.Name x p) (gNm i) := by
  obtain ⟨a, b, c, d⟩ := tgB_ok ck
  have := h.eS; subst this
  have := h.eN; subst this
  have := h.eF; subst this
  exact dg_name a b c d
/-- the targets of a comprehension, a for, a store of a tuple -/
theorem In.vnm (h : In P w K mg base N sc fo lv X W) (ck : tgB N sc fo i x = true) : PG X (.Name x p) (Tg.v X.K (.nm i)) := by
  obtain ⟨a, b, c, d⟩ := tgB_ok ck
  have := h.eS; subst this
  have := h.eN; subst this
  have := h.eF; subst this
  unfold Tg.v
  exact pg_name a b c d
theorem vs_nil : PGs X [] (Tg.vs X.K []) := by
  unfold Tg.vs
  exact pgs_nil
theorem vs_cons {tg : Expr} {tgs : List Expr} {g : Tg} {gs : List Tg} (h1 : PG X tg (g.v X.K)) (h2 : PGs X tgs (Tg.vs X.K gs)) (hs : (assignEach (tg :: tgs) X.env).map (·.2) = assign tg X.env :: (assignEach tgs X.env).map (·.2) := by rfl) : PGs X (tg :: tgs) (Tg.vs X.K (g :: gs)) := by
  unfold Tg.vs
  exact pgs_cons h1 h2 hs
theorem In.vtup {tgs : List Expr} {gs : List Tg} {j : Nat} (h : In P w K mg base N sc fo lv X W) (h2 : PGs X tgs (Tg.vs X.K gs)) (hn : (assignEach tgs X.env).length = gs.length := by rfl) (hst : (assignEach tgs X.env).findIdx? (·.1) = none := by rfl) :
    PG X (.Tuple tgs j pos) (Tg.v X.K (.tup gs)) := by
  unfold Tg.v
  exact pg_tup h.calm h2 hn hst
/-- a target's reading -/
def gOf (g : Tg) : DTG := fun d ρ S Q _ => g.d d ρ Q S
theorem dg_tg {tg : Expr} {g : Tg} (h : PG X tg (g.v X.K)) : DTgt X A W tg (gOf g) :=
  PG.mono h fun v σ H Q ⟨ρ, S, L, d, Qd, Ed, sl, so, r, h, kp, _⟩ => Tg.ok (c := cX X A) (L := L) (S := S) [] g v σ d ρ Qd Q sl r h fun ρ' σ' sl' _ q => kp σ' H ρ' S .refl so sl' q
theorem ds_tup {tg : Expr} {g : DTG} (he : DE X A W e t) (hg : DTgt X A W tg g) (hs : swapsWithSole [tg] e pos.line X.env = pure false := by rfl) (hw : swappedStores [tg] e X.env = pure none := by rfl) (h1 : (assignEach [tg] X.env).map (·.2) = [assign tg X.env] := by rfl) :
    DStm X A W (.Assign [tg] e pos) (sAsg t g) := ds_asg he hg hs hw h1
/-! ### comprehensions -/
/-- the names' kinds inside a block -/
def relS (outer scope : Scope) : Scope := { scope with names := scope.names.map fun (n, k) => if (k == .free && outer.kind == .function && outer.names.lookup n == some .cell) then (n, .cell) else (n, k) }
theorem In.blk {scope : Scope} {s : Shared} {H : Hp} {C : Addr} {cl : List (Str × Addr)} {fp : List Addr} (h : In P w K mg base N sc fo lv X W) : In P w K mg base N (relS sc scope) (fCell scope) lv (X.blk s H scope (compEnvC scope cl C X.env) fp) W0 where
  eP := h.eP
  eW := h.eW
  eK := h.eK
  eM := h.eM
  eB := h.eB
  eN := h.eN
  eS := by
    have := h.eS
    subst this
    rfl
  eF := rfl
  calm := h.calm
  rm := h.rm
  tk := fun u s' ⟨_, _, _, _, _, _, _, _, _, _, _, _, _, _, _, _, z⟩ => z.elim
def blkB (N : List Str) (sc scope : Scope) (own : List (Str × Nat)) : Bool :=
  decide (scope.kind = .function) && scope.names.all (fun y => decide (scope.names.lookup y.1 = some y.2)) && own.all (fun p => decide (N[p.2]? = some p.1)) &&
  scope.names.all (fun y => !decide (y.2 = .free) || decide (sc.names.lookup y.1 = some .cell) || decide (sc.names.lookup y.1 = some .free)) &&
  scope.names.all (fun y => !(decide (y.2 = .local) || decide (y.2 = .cell)) || decide (y.1 ∈ own.map (·.1)) || decide (y.1 ∉ N)) && decide N.Nodup
theorem blkB_ok {scope : Scope} {own : List (Str × Nat)} (h : blkB N sc scope own = true) : BlkOk N sc scope own ∧ N.Nodup := by
  unfold blkB at h
  simp only [Bool.and_eq_true, List.all_eq_true, Bool.or_eq_true, Bool.not_eq_true', decide_eq_true_eq, decide_eq_false_iff_not, Bool.or_eq_false_iff] at h
  obtain ⟨⟨⟨⟨⟨a, b⟩, c⟩, d⟩, e⟩, f⟩ := h
  refine ⟨⟨a, b, c, fun y hy ef => ?_, fun y hy el => ?_⟩, f⟩
  · rcases d y hy with (z | z) | z
    · exact absurd ef z
    · exact .inl z
    · exact .inr z
  · rcases e y hy with (z | z) | z
    · rcases el with el | el
      · exact absurd el z.1
      · exact absurd el z.2
    · exact .inl z
    · exact .inr z
def dYes : DTT := fun _ S Q _ => Q true S
theorem ts_nil : PTs X [] (liftT (cX X A) W dYes) := ⟨fun pins s σ H Q I ⟨ρ, S, L, Qd, Ed, sl, so, h, kt, kx⟩ => pts_nil.run pins s σ H Q I (kt true H S .refl so h)⟩
theorem ts_one {c : Expr} {t : DTT} (h : DTst X A W c t) : PTs X [c] (liftT (cX X A) W t) := pts_one h
theorem In.lc {m : Bool} {ti : DTI} {g : Tg} {tc : DTT} {te : DT} {tg iter elt : Expr} {ifs : List Expr} {scope : Scope} (own : List (Str × Nat)) (h : In P w K mg base N sc fo lv X W) (hi : DItr X A W tg iter ti) (ok : blkB N sc scope own = true) (hsl : ∀ j ∈ g.slots, j ∈ own.map (·.2))
    (hg : ∀ X', In P w K mg base N (relS sc scope) (fCell scope) lv X' W0 → PG X' tg (g.v X'.K)) (ht : ∀ X', In P w K mg base N (relS sc scope) (fCell scope) lv X' W0 → PTs X' ifs (liftT (cX X' A) W0 tc))
    (he : ∀ X', In P w K mg base N (relS sc scope) (fCell scope) lv X' W0 → DE X' A W0 elt te) (hs : ∀ x, foldedSetIterable iter X.env x = pure x := by intro _; rfl) :
    DE X A W (.ListComp elt [⟨tg, iter, ifs, 0⟩] scope pos) (dLc m ti g tc te (own.map (·.2))) := by
  obtain ⟨ok, nd⟩ := blkB_ok ok
  have h0 := h
  have := h.eS; subst this
  have := h.eN; subst this
  exact de_lc h.calm nd hi ok hsl (fun s H C cl fp => hg _ (h0.blk)) (fun s H C cl fp => ht _ (h0.blk)) (fun s H C cl fp => he _ (h0.blk)) hs
theorem In.setLc {i0 : Nat} {y : Str} {py spos : Pos} {m : Bool} {ti : DTI} {g : Tg} {tc : DTT} {te : DT} {tg iter elt : Expr} {ifs : List Expr} {scope : Scope} (h : In P w K mg base N sc fo lv X W) (hy : (decide (N[i0]? = some y) && decide (sc.names.lookup y = some .local) && !(scope.names.any fun (n, k) => n == y && (k == .local || k == .cell))) = true)
    (hk : decide (sc.kind = .function) = true) (hl : (py.line == pos.line) = true) (own : List (Str × Nat)) (hi : DItr X A W tg iter ti) (ok : blkB N sc scope own = true) (hsl : ∀ j ∈ g.slots, j ∈ own.map (·.2))
    (hg : ∀ X', In P w K mg base N (relS sc scope) (fCell scope) lv X' W0 → PG X' tg (g.v X'.K)) (ht : ∀ X', In P w K mg base N (relS sc scope) (fCell scope) lv X' W0 → PTs X' ifs (liftT (cX X' A) W0 tc))
    (he : ∀ X', In P w K mg base N (relS sc scope) (fCell scope) lv X' W0 → DE X' A W0 elt te) (hs : ∀ x, foldedSetIterable iter X.env x = pure x := by intro _; rfl) :
    DStm X A W (.Assign [.Name y py] (.ListComp elt [⟨tg, iter, ifs, 0⟩] scope pos) spos) (sAsg (dLc m ti g tc te (own.map (·.2))) (gNm i0)) := by
  obtain ⟨ok, nd⟩ := blkB_ok ok
  rw [Bool.and_eq_true, Bool.and_eq_true] at hy
  obtain ⟨⟨y1, y2⟩, y3⟩ := hy
  have y1 := of_decide_eq_true y1
  have y2 := of_decide_eq_true y2
  have y3 := not_of y3
  have hk := of_decide_eq_true hk
  have h0 := h
  have := h.eS; subst this
  have := h.eN; subst this
  exact ds_setLc h.calm nd y1 y2 (sw_true hk y2 hl y3) hi ok hsl (fun s H C cl fp => hg _ (h0.blk)) (fun s H C cl fp => ht _ (h0.blk)) (fun s H C cl fp => he _ (h0.blk)) hs
theorem sw_cell {elt : Expr} {gs : List Comprehension} {scope : Scope} {pos py : Pos} {y : Str} {l : Nat} {env : PySem.Env} (hy : env.scope.names.lookup y = some .cell) : swapsWith (.ListComp elt gs scope pos) (some (.Name y py)) l env = pure false := by
  have ky : env.kindOf y = some .cell := hy
  unfold swapsWith
  have z : (NameKind.cell == NameKind.local) = false := rfl
  simp [ky, z]
/-- name = [..], the name read in a block -/
theorem In.setC {elt : Expr} {gs : List Comprehension} {scope : Scope} {cp : Pos} (h : In P w K mg base N sc fo lv X W) (ck : tgB N sc fo i x = true) (hc : decide (sc.names.lookup x = some .cell) = true) (he : DE X A W (.ListComp elt gs scope cp) t) : DStm X A W (.Assign [.Name x p] (.ListComp elt gs scope cp) pos) (sAsg t (gNm i)) := by
  refine h.set ck he (sw_cell ?_)
  have := h.eS; subst this
  exact of_decide_eq_true hc
theorem In.rng1 {tg a : Expr} {t : DTA} (h : In P w K mg base N sc fo lv X W) (hg : glB sc "range" = true) (hm : mg "range" = none) (ha : DA X A W [a] t) (hs : starEach [a] X.env = [(false, eval a X.env)] := by rfl) : DItr X A W tg (.Call (.Name "range" p) [a] [] pos) (iRng1D t) := by
  have g := h.gl hg
  have := h.eM; subst this
  exact di_rng1 g hm ha hs
theorem In.rng2 {tg a b : Expr} {t : DTA} (h : In P w K mg base N sc fo lv X W) (hg : glB sc "range" = true) (hm : mg "range" = none) (ha : DA X A W [a, b] t) (hs : starEach [a, b] X.env = [(false, eval a X.env), (false, eval b X.env)] := by rfl) (hs2 : starEach [b] X.env = [(false, eval b X.env)] := by rfl) :
    DItr X A W tg (.Call (.Name "range" p) [a, b] [] pos) (iRng2D t) := by
  have g := h.gl hg
  have := h.eM; subst this
  exact di_rng2 g hm ha hs hs2
theorem In.enum {e : Expr} {tpos : Pos} {elts : List Expr} {kk : Nat} {t : DTA} (h : In P w K mg base N sc fo lv X W) (hg : glB sc "enumerate" = true) (hm : mg "enumerate" = none) (ha : DA X A W [e] t) (hs : starEach [e] X.env = [(false, eval e X.env)] := by rfl) :
    DItr X A W (.Tuple elts kk tpos) (.Call (.Name "enumerate" p) [e] [] pos) (iEnumD t) := by
  have g := h.gl hg
  have := h.eM; subst this
  exact di_enum g hm ha hs
theorem In.loop {i : DTI} {g : DTG} {tb : DTS} {tg iter : Expr} {body : List Stmt} (h : In P w K mg base N sc fo lv X W) (hp : HPs X) (hi : DItr X A W tg iter i) (hg : DTgt X A W tg g) (hb : DStms X A W body tb)
    (hs : ∀ x, foldedSetIterable iter X.env x = pure x := by intro _; rfl) : DStm X A W (.For tg iter body [] pos) (sFor i g tb) := ds_for hp.po h.calm hi hg hb hs
end

/-! ### defs -/
/-- a def of the text stands at f -/
def FunP (K : PySem.W.Frag) (name qual : Str) (st : Stmt) (f : Addr) : Prop :=
  ∃ (oc kV doc pm cdv ct : Value) (od an : Option Addr) (osl : Array (Option Value)), K.lookup f = some ⟨oc, od, .func (PySem.W.fnOf name qual (defArgs st) (defBody st) (defScope st) .none kV doc pm an cdv ct), osl⟩ ∧ PySem.W.codeIn K cdv qual = true
section
variable {P : Program} {w : World} {K : PySem.W.Frag} {A : Cla} {mg : Str → Option Value} {base : Heap} {k : Nat} {f : Addr} {name qual : Str} {st : Stmt} {N ps : List Str} {t : DTS}
theorem fnd_mk (F : FunP K name qual st f) (S : FnScope N ps (defScope st))
    (hb : ∀ (kV doc pm cdv ct : Value) (an : Option Addr) (us : List Value), us.length = ps.length → bindArgs (PySem.W.fnOf name qual (defArgs st) (defBody st) (defScope st) .none kV doc pm an cdv ct) ⟨us, []⟩ = pure (ps.zip us))
    (hbody : ∀ (X : Cx) (W : WX), In P w K mg base N (defScope st) fAll k X W → HPs X → DStms X A W (defBody st) t) :
    FnD P w (cc K A) mg base (k + 1) f (bodySp N.length ps.length t) := by
  obtain ⟨oc, kV, doc, pm, cdv, ct, od, an, osl, lk, cd⟩ := F
  refine fnd_of (c := cc K A) (A0 := A) rfl lk cd S (hb kV doc pm cdv ct an) fun X W e1 e2 e3 e4 e5 e6 e7 e8 e9 e10 e11 e12 hp hr ht => ?_
  have e3' : X.K = K := e3
  have r := hbody X W ⟨e1, e2, e3', e4, e5, e6, e7, funext e9, e8, hr, ht⟩ ⟨hp, e10, e11⟩
  have e : cX X A = cc K A := by
    show (⟨X.K, A.cA, A.cv, A.fl, A.gh⟩ : Cfg) = ⟨K, A.cA, A.cv, A.fl, A.gh⟩
    rw [e3']
  rw [← e]
  exact r
theorem FnD.imp {c : Cfg} {sp sp' : DSp} (F : FnD P w c mg base k f sp) (h : ∀ ds S Q E, sp' ds S Q E → sp ds S Q E) : FnD P w c mg base k f sp' :=
  fun A outer s H us vs Q E m e0 r ⟨ds, S, L, Qd, Ed, so, rs, hs, kq, kx⟩ => F A outer s H us vs Q E m e0 r ⟨ds, S, L, Qd, Ed, so, rs, h _ _ _ _ hs, kq, kx⟩
/-- def f(a, .., *v) -/
def starSp (n m : Nat) (t : DTS) : DSp := fun ds S Q E => ∃ ws rest, ds = ws ++ rest ∧ ws.length = m ∧ rest.length ≤ sizeLine ∧ t { nx := fun _ S' => Q .non S', rt := Q, xx := fun _ => E } (startD n (ws ++ [.tup rest])) S
theorem Reps.split {c : Cfg} {L : Lk} {H : Hp} {S : Sto} : ∀ {ws rest : List D} {vs : List V}, Reps c L H S (ws ++ rest) vs → ∃ v1 v2, vs = v1 ++ v2 ∧ Reps c L H S ws v1 ∧ Reps c L H S rest v2
  | [], rest, vs, r => ⟨[], vs, rfl, .nil, r⟩
  | d :: ws, rest, vs, r => by
    obtain ⟨v, us, e, r1, rs⟩ := Reps.of_cons (ds := ws ++ rest) r
    obtain ⟨a, b, e2, r2, r3⟩ := Reps.split rs
    exact ⟨v :: a, b, by rw [e, e2]; rfl, .cons r1 r2, r3⟩
theorem fnd_star {pv : Str} (F : FunP K name qual st f) (S : FnScope N (ps ++ [pv]) (defScope st))
    (hb : ∀ (kV doc pm cdv ct : Value) (an : Option Addr) (us rest : List Value), us.length = ps.length → bindArgs (PySem.W.fnOf name qual (defArgs st) (defBody st) (defScope st) .none kV doc pm an cdv ct) ⟨us ++ rest, []⟩ = (newTuple rest >>= fun t => pure (ps.zip us ++ [(pv, t)])))
    (hbody : ∀ (X : Cx) (W : WX), In P w K mg base N (defScope st) fAll k X W → HPs X → DStms X A W (defBody st) t) :
    FnD P w (cc K A) mg base (k + 1) f (starSp N.length ps.length t) := by
  obtain ⟨oc, kV, doc, pm, cdv, ct, od, an, osl, lk, cd⟩ := F
  intro A1 outer s H us vs Q E m e0 r ⟨ds, S0, L, Qd, Ed, so, rs, ⟨dw, dr, ed, hl, hz, h⟩, kq, kx⟩
  subst ed
  obtain ⟨vw, vr, ev, rw1, rr⟩ := rs.split
  subst ev
  obtain ⟨u1, u2, eu, r1, r2⟩ := StX.vals_split r
  subst eu
  have hn : H s.heap.objs.size = none := e0.hok.fresh (Nat.le_refl _)
  have hlw : vw.length = ps.length := by rw [rw1.length]; exact hl
  have hl1 : u1.length = ps.length := by rw [← r1.length]; exact hlw
  have hzv : vr.length ≤ sizeLine := by rw [rr.length]; exact hz
  have hl2 : u2.length ≤ sizeLine := by rw [← r2.length]; exact hzv
  refine StX.run_bnd (N := N) (ps := ps ++ [pv]) (G := fun xs H2 => ∃ p, H p = none ∧ xs = vw ++ [V.ref p] ∧ H2 = upd H p (.tup vr)) lk cd S m.r e0 (fun A' Ex Q' hq => ?_) fun s2 H2 xs ⟨p, hp, ex, eH⟩ hr' => ?_
  · rw [hb kV doc pm cdv ct an u1 u2 hl1]
    refine wpAny_bind (wpAny_newTuple (wpAny_pure ?_) hl2)
    have new : ObjOk P w (upd H s.heap.objs.size (.tup vr)) (s.heap.push ({ cls := .type "tuple", data := .seq u2.toArray } : Obj)) s.heap.objs.size (.tup vr) := ⟨hzv, u2, r2, ⟨_, Heap.get?_push_size _ rfl, rfl, _, rfl⟩⟩
    have un := StX.un_laid (fs := frs outer) (s := s) (o := ({ cls := .type "tuple", data := .seq u2.toArray } : Obj)) (u := .tup vr) hn
    have z := hq _ _ (vw ++ [V.ref s.heap.objs.size]) (u1 ++ [Value.ref s.heap.objs.size]) (StX.env0_laid e0 new) un rfl (fun e s' => StX.cxUp outer s H _ _ E e s' un (fun b o q => Heap.get?_push_of_some _ q) rfl) (r1.append (.cons rfl .nil))
      (by rw [List.length_append, List.length_append, hlw] <;> rfl) ⟨_, hn, rfl, rfl⟩
    rw [List.zip_append hl1.symm] at z
    exact z
  · subst ex eH
    have e1 : Ext H S0 (upd H p (.tup vr)) S0 := Ext.upd hp
    have so1 : StoR (cc K A) L (upd H p (.tup vr)) S0 := so.upd hp
    have fr := so.free hp
    have rt : Rep (cc K A) L (upd H p (.tup vr)) S0 (.tup dr) (.ref p) := by unfold Rep; exact ⟨p, vr, rfl, .inl ⟨.inl upd_same, fr.1, fr.2⟩, rr.ext e1⟩
    have rs1 : Reps (cc K A) L (upd H p (.tup vr)) S0 (dw ++ [.tup dr]) (vw ++ [V.ref p]) := (rw1.ext e1).append (.cons rt .nil)
    refine ⟨liftS (cc K A) (fun n a _ H' => E n a H') t, ?_, ?_⟩
    · exact hbody _ _ ⟨rfl, rfl, rfl, rfl, rfl, rfl, rfl, rfl, rfl, m.deeper _, takes_of rfl rfl rfl rfl⟩ ⟨passes_of rfl, rfl, rfl⟩
    · exact ⟨_, S0, L, _, start_env rs1, so1, h, ⟨fun σ' H' ρ' S' x so' sl' q => kq _ H' _ S' (e1.trans x) so' (by unfold Rep; rfl) q, kq.ext e1, fun _ _ _ _ _ _ _ z => z.elim, fun _ _ _ _ _ _ _ z => z.elim, fun n a σ' H' ρ' ds' S' x so' _ xr q => kx n a H' ds' S' (e1.trans x) so' xr q⟩⟩
end
end DL

namespace DL
open PySem PySem.Spec PyProof.Rows L2

/-! ### the rules as the printer names them -/
section
variable {X : Cx} {A : Cla} {W : WX} {e a b e3 o value : Expr} {es rest : List Expr} {pos p apos : Pos} {t u v : DT} {ta : DTA} {R R' : DR2}
theorem pCons (h1 : DE X A W e t) (h2 : DA X A W es ta) (hs : starEach (e :: es) X.env = (false, eval e X.env) :: starEach es X.env := by rfl) : DA X A W (e :: es) (dCons t ta) := da_cons h1 h2 hs
def sokB (z : Str) : Bool := decide (z.length ≤ sizeLine) && z.cps.all (· < 0x110000)
theorem sokB_ok {z : Str} (h : sokB z = true) : SOk z := by
  unfold sokB at h
  rw [Bool.and_eq_true] at h
  exact ⟨of_decide_eq_true h.1, h.2⟩
theorem pStr {z : Str} {j : Nat} (h : sokB z = true) : DE X A W (.Constant (.str z) j pos) (dCst (.str z)) := de_str (sokB_ok h)
theorem pBin {op : Operator} (m : Bool) (ha : DE X A W a t) (hb : DE X A W b u) : DE X A W (.BinOp a op b pos) (dOp (rBin m op) t u) := de_op (opd_bin op) ha hb
theorem pNeg (ha : DE X A W a t) : DE X A W (.UnaryOp .USub a pos) (dUn rNeg t) := de_un und_neg ha
theorem pCmp {op : CmpOp} {k : Nat} (m : Rm k X.A) (ha : DE X A W a t) (hb : DE X A W b u) (hm : behindInMarks op b = false := by first | exact nobehind _ (by decide) (by decide) | rfl) : DE X A W (.Compare a [op] [b] pos) (dOp (rCmp op) t u) := de_cmp (opd_cmp m op) ha hb hm
theorem pCmpT {op : CmpOp} {k : Nat} (m : Rm k X.A) (ha : DE X A W a t) (hb : DE X A W b u) (hm : behindInMarks op b = false := by first | exact nobehind _ (by decide) (by decide) | rfl) : DTst X A W (.Compare a [op] [b] pos) (dTst (dOp (rCmp op) t u)) := dt_cmp (opd_cmp m op) ha hb hm
theorem pChn {op op' : CmpOp} {k : Nat} (m : Rm k X.A) (ha : DE X A W a t) (hb : DE X A W b u) (hc : DE X A W e3 v) (hm : lastMarks [op, op'] [b, e3] = false := by rfl) : DE X A W (.Compare a [op, op'] [b, e3] pos) (dChain (rCmp op) (rCmp op') t u v) := de_chain (opd_cmp m op) (opd_cmp m op') ha hb hc hm
theorem pChnT {op op' : CmpOp} {k : Nat} (m : Rm k X.A) (ha : DE X A W a t) (hb : DE X A W b u) (hc : DE X A W e3 v) (hm : lastMarks [op, op'] [b, e3] = false := by rfl) : DTst X A W (.Compare a [op, op'] [b, e3] pos) (dTst (dBl (dChain (rCmp op) (rCmp op') t u v))) := dt_chain (opd_cmp m op) (opd_cmp m op') ha hb hc hm
theorem pVal (h : DE X A W e t) (he : ∀ whole, isTrue e X.env whole = (do let v ← whole; standAt e.pos; holding [v] (truthy v)) := by intro _; rfl) : DTst X A W e (dTst t) := dt_val h he
theorem pIdx (ha : DE X A W a t) (hb : DE X A W b u) (hs : PlainIx b := by intro _ _; rfl) : DE X A W (.Subscript a b pos) (dOp rIdx t u) := de_idx ha hb hs
theorem pExpr (he : DE X A W e t) (hs : swapsWith e none pos.line X.env = pure false := by rfl) : DStm X A W (.Expr e pos) (sDrop t) := ds_expr he hs
theorem pSub {i : Expr} (ho : DE X A W o t) (hi : DE X A W i u) (ha : ∀ v, assign (.Subscript o i pos) X.env v = (do
      let ov ← holding [v] (eval o X.env)
      let iv ← holding [v, ov] (eval i X.env)
      standAt pos
      holding [v, ov, iv] (setItem ov iv v)
      release [v, ov, iv] []) := by intro _; rfl) : DTgt X A W (.Subscript o i pos) (gSubD t u) := dg_sub ho hi ha
theorem pStarts (ho : DE X A W o t) (he : DE X A W e u) (hs : starEach [e] X.env = [(false, eval e X.env)] := by rfl) (hbase : attributeBase o "startswith" X.env (eval o X.env) = eval o X.env := by rfl) (hline : (apos.endLine == pos.line) = true := by rfl) :
    DE X A W (.Call (.Attribute o "startswith" apos) [e] [] pos) (dM1 mStarts t u) := de_m1 PySem.F.slot_str_startswith PySem.F.type_str_startswith ms_starts ho he hs hbase hline
theorem pEnds (ho : DE X A W o t) (he : DE X A W e u) (hs : starEach [e] X.env = [(false, eval e X.env)] := by rfl) (hbase : attributeBase o "endswith" X.env (eval o X.env) = eval o X.env := by rfl) (hline : (apos.endLine == pos.line) = true := by rfl) :
    DE X A W (.Call (.Attribute o "endswith" apos) [e] [] pos) (dM1 mEnds t u) := de_m1 PySem.F.slot_str_endswith PySem.F.type_str_endswith ms_ends ho he hs hbase hline
theorem pJoin (ho : DE X A W o t) (he : DE X A W e u) (hs : starEach [e] X.env = [(false, eval e X.env)] := by rfl) (hbase : attributeBase o "join" X.env (eval o X.env) = eval o X.env := by rfl) (hline : (apos.endLine == pos.line) = true := by rfl) :
    DE X A W (.Call (.Attribute o "join" apos) [e] [] pos) (dM1 mJoin t u) := de_m1 PySem.F.slot_str_join PySem.F.type_str_join ms_join ho he hs hbase hline
theorem pAppend (ho : DE X A W o t) (ha : DA X A W (e :: es) ta) (hbase : attributeBase o "append" X.env (eval o X.env) = eval o X.env := by rfl)
    (hfew : ((backTo pos (starEach (e :: es) X.env)).all (fun x => !x.1) && (backToKw pos (keywordEach [] X.env)).all (fun x => x.1.isSome)
      && decide ((e :: es).length + ([] : List Keyword).length + (if ([] : List Keyword).isEmpty then 0 else 1) < 30)) = true := by rfl)
    (hline : (apos.endLine == pos.line) = true := by rfl) (hs : starEach (e :: es) X.env = (false, eval e X.env) :: starEach es X.env := by rfl) (hplain : (backTo pos (starEach es X.env)).any (·.1) = false := by rfl) :
    DE X A W (.Call (.Attribute o "append" apos) (e :: es) [] pos) (dMt mAppend t ta) := de_bm PySem.F.slot_list_append PySem.F.type_list_append md_append ho ha hbase hfew hline hs hplain
theorem pPopAt (ho : DE X A W o t) (ha : DA X A W (e :: es) ta) (hbase : attributeBase o "pop" X.env (eval o X.env) = eval o X.env := by rfl)
    (hfew : ((backTo pos (starEach (e :: es) X.env)).all (fun x => !x.1) && (backToKw pos (keywordEach [] X.env)).all (fun x => x.1.isSome)
      && decide ((e :: es).length + ([] : List Keyword).length + (if ([] : List Keyword).isEmpty then 0 else 1) < 30)) = true := by rfl)
    (hline : (apos.endLine == pos.line) = true := by rfl) (hs : starEach (e :: es) X.env = (false, eval e X.env) :: starEach es X.env := by rfl) (hplain : (backTo pos (starEach es X.env)).any (·.1) = false := by rfl) :
    DE X A W (.Call (.Attribute o "pop" apos) (e :: es) [] pos) (dMt mPopAt t ta) := de_bm PySem.F.slot_list_pop PySem.F.type_list_pop md_popAt ho ha hbase hfew hline hs hplain
end
theorem mem_lookup {α β : Type} [BEq α] [LawfulBEq α] {x : α} {y : β} : ∀ {l : List (α × β)}, l.lookup x = some y → (x, y) ∈ l
  | [], h => by cases h
  | (a, b) :: l, h => by
    rw [List.lookup_cons] at h
    cases e : x == a with
    | true =>
      rw [e] at h
      cases h
      rw [eq_of_beq e]
      exact List.mem_cons_self ..
    | false =>
      rw [e] at h
      exact List.mem_cons_of_mem _ (mem_lookup h)
theorem isi_mk {c : Cfg} {l : Isi} (h1 : ∀ a b r, ((a, b), r) ∈ l → PySem.W.kitOne c.K (a.val c.cA) (b.val c.cA) = some r) (h2 : ∀ C b r, ((.own C, b), r) ∈ l → ClsOk c.K (c.cA C)) : IsiOk c l :=
  ⟨fun a b r h => h1 a b r (mem_lookup h), fun C b r h => h2 C b r (mem_lookup h)⟩
end DL

namespace DL
open PySem PySem.Spec PyProof.Rows L2

/-! ### loops: invariants -/
theorem forGo_inv {g : DTG} {G : Sto → Prop} {body : DTS} {DD : DEnds} (xs : List D) (J : Nat → DSt → Sto → Prop) {ρ : DSt} {S : Sto} (h0 : J 0 ρ S)
    (hs : ∀ i x ρ S (Kn : DP), xs[i]? = some x → J i ρ S → (∀ ρ' S', J (i + 1) ρ' S' → Kn ρ' S') → G S ∧ g x ρ S (fun ρ1 S1 => body { DD with nx := Kn, ct := Kn, bk := DD.nx } ρ1 S1) (DD.xx ρ))
    (hq : ∀ ρ S, J xs.length ρ S → G S ∧ DD.nx ρ S) : forGo g G body DD xs ρ S := by
  have gen : ∀ (n : Nat) (ys : List D) (i : Nat) (ρ : DSt) (S : Sto), ys = xs.drop i → ys.length = n → i ≤ xs.length → J i ρ S → forGo g G body DD ys ρ S := by
    intro n
    induction n with
    | zero =>
      intro ys i ρ S e hn hi j
      have hy : ys = [] := List.length_eq_zero_iff.mp hn
      subst hy
      have : xs.length ≤ i := by
        have := congrArg List.length e
        rw [List.length_drop] at this
        simp at this
        omega
      have ei : i = xs.length := by omega
      subst ei
      exact hq ρ S j
    | succ n ih =>
      intro ys i ρ S e hn hi j
      cases ys with
      | nil => cases hn
      | cons y ys =>
        have hlt : i < xs.length := by
          have := congrArg List.length e
          rw [List.length_drop] at this
          simp at this hn
          omega
        rw [List.drop_eq_getElem_cons hlt] at e
        injection e with e1 e2
        have hg : xs[i]? = some y := by rw [List.getElem?_eq_getElem hlt, e1]
        exact hs i y ρ S (forGo g G body DD ys) hg j fun ρ' S' j' => ih ys (i + 1) ρ' S' e2 (by simpa using hn) hlt j'
  exact gen _ xs 0 ρ S rfl rfl (Nat.zero_le _) h0
theorem lcGo_inv {g : Tg} {G : Sto → Prop} {tc : DTT} {te : DT} {ρ : DSt} {Q : List D → Sto → Prop} (xs : List D) (J : Nat → List D → Sto → Prop) {acc : List D} {S : Sto} (h0 : J 0 acc S)
    (hs : ∀ i x acc S (Kn : D → Sto → Prop) (Ks : Sto → Prop), xs[i]? = some x → J i acc S → (∀ y S', J (i + 1) (acc ++ [y]) S' → Kn y S') → (∀ S', J (i + 1) acc S' → Ks S') → G S ∧ g.d x ρ (fun ρ1 S1 => tc ρ1 S1 (fun b S2 => if b = true then te ρ1 S2 Kn DX0 else Ks S2) DX0) S)
    (hq : ∀ acc S, J xs.length acc S → G S ∧ Q acc S) : lcGo g G tc te ρ Q xs acc S := by
  have gen : ∀ (n : Nat) (ys : List D) (i : Nat) (acc : List D) (S : Sto), ys = xs.drop i → ys.length = n → i ≤ xs.length → J i acc S → lcGo g G tc te ρ Q ys acc S := by
    intro n
    induction n with
    | zero =>
      intro ys i acc S e hn hi j
      have hy : ys = [] := List.length_eq_zero_iff.mp hn
      subst hy
      have : xs.length ≤ i := by
        have := congrArg List.length e
        rw [List.length_drop] at this
        simp at this
        omega
      have ei : i = xs.length := by omega
      subst ei
      exact hq acc S j
    | succ n ih =>
      intro ys i acc S e hn hi j
      cases ys with
      | nil => cases hn
      | cons y ys =>
        have hlt : i < xs.length := by
          have := congrArg List.length e
          rw [List.length_drop] at this
          simp at this hn
          omega
        rw [List.drop_eq_getElem_cons hlt] at e
        injection e with e1 e2
        have hg : xs[i]? = some y := by rw [List.getElem?_eq_getElem hlt, e1]
        exact hs i y acc S (fun z S3 => lcGo g G tc te ρ Q ys (acc ++ [z]) S3) (fun S2 => lcGo g G tc te ρ Q ys acc S2) hg j (fun z S' j' => ih ys (i + 1) (acc ++ [z]) S' e2 (by simpa using hn) hlt j')
          fun S' j' => ih ys (i + 1) acc S' e2 (by simpa using hn) hlt j'
  exact gen _ xs 0 acc S rfl rfl (Nat.zero_le _) h0
/-- each item by a function, some left out; nothing changes -/
theorem lcGo_fm {g : Tg} {G : Sto → Prop} {tc : DTT} {te : DT} {ρ : DSt} {Q : List D → Sto → Prop} {S : Sto} (f : D → Option D) (hG : G S) : ∀ (xs : List D) (acc : List D)
    (_ : ∀ x ∈ xs, ∀ (Kn : D → Sto → Prop) (Ks : Sto → Prop), (∀ y, f x = some y → Kn y S) → (f x = none → Ks S) → g.d x ρ (fun ρ1 S1 => tc ρ1 S1 (fun b S2 => if b = true then te ρ1 S2 Kn DX0 else Ks S2) DX0) S)
    (_ : Q (acc ++ xs.filterMap f) S), lcGo g G tc te ρ Q xs acc S
  | [], acc, _, q => ⟨hG, by simpa using q⟩
  | x :: xs, acc, h, q => ⟨hG, h x (List.mem_cons_self ..) _ _ (fun y e => lcGo_fm f hG xs (acc ++ [y]) (fun z hz => h z (List.mem_cons_of_mem _ hz)) (by rw [List.filterMap_cons, e] at q; simpa using q))
      fun e => lcGo_fm f hG xs acc (fun z hz => h z (List.mem_cons_of_mem _ hz)) (by rw [List.filterMap_cons, e] at q; exact q)⟩
theorem lcGo_map {g : Tg} {G : Sto → Prop} {te : DT} {ρ : DSt} {Q : List D → Sto → Prop} {S : Sto} (f : D → D) (hG : G S) (xs : List D)
    (h : ∀ x ∈ xs, ∀ (Kn : D → Sto → Prop), Kn (f x) S → g.d x ρ (fun ρ1 S1 => te ρ1 S1 Kn DX0) S) (q : Q (xs.map f) S) : lcGo g G dYes te ρ Q xs [] S := by
  refine lcGo_fm (fun x => some (f x)) hG xs [] (fun x hx Kn Ks h1 _ => ?_) (by rw [List.nil_append, List.filterMap_eq_map' ] <;> exact q)
  exact h x hx Kn (h1 _ rfl)

/-! ### the law's bag of numbers -/
def BagOk (a b : Int) : Prop := 0 ≤ a ∧ 0 ≤ b ∧ b < 2147483648
/-- the store: the bag's numbers changed, new objects -/
def Bg (p : Addr) (S S' : Sto) : Prop := (∃ a b, BagOk a b ∧ S' p = some (.lst [.int a, .int b])) ∧ ∀ q, q ≠ p → S q ≠ none → S' q = S q
theorem Bg.trans {p : Addr} {S S1 S2 : Sto} (h : Bg p S S1) (h2 : Bg p S1 S2) : Bg p S S2 := ⟨h2.1, fun q n z => (h2.2 q n (by rw [h.2 q n z]; exact z)).trans (h.2 q n z)⟩
theorem Bg.self {p : Addr} {S S' : Sto} (h : Bg p S S') : Bg p S' S' := ⟨h.1, fun _ _ _ => rfl⟩
theorem Bg.refl {p : Addr} {S : Sto} {a b : Int} (h : S p = some (.lst [.int a, .int b])) (k : BagOk a b) : Bg p S S := ⟨⟨a, b, k, h⟩, fun _ _ _ => rfl⟩
theorem Bg.at_ {p : Addr} {S S' : Sto} (h : Bg p S S') : ∃ a b, BagOk a b ∧ S' p = some (.lst [.int a, .int b]) := h.1
theorem Bg.off {p q : Addr} {S S' : Sto} (n : q ≠ p) {o : MO} (z : S q = some o) (h : Bg p S S') : S' q = some o := (h.2 q n (by rw [z]; exact fun e => by cases e)).trans z
theorem Bg.num {p : Addr} {S : Sto} {a b : Int} (k : BagOk a b) : Bg p S (S.set p (.lst [.int a, .int b])) := ⟨⟨a, b, k, Sto.set_same⟩, fun q n _ => Sto.set_ne n⟩
theorem Bg.ne {p q : Addr} {S S' : Sto} (h : Bg p S S') (hq : S' q = none) : q ≠ p := fun e => by
  obtain ⟨a, b, _, z⟩ := h.1
  rw [e, z] at hq
  cases hq
theorem Bg.no {p q : Addr} {S S' : Sto} (h : Bg p S S') (hq : S' q = none) : S q = none := by
  cases e : S q with
  | none => rfl
  | some o =>
    have := h.off (h.ne hq) e
    rw [hq] at this
    cases this
theorem Bg.wr {p q : Addr} {S S' : Sto} {o : MO} (h : Bg p S S') (n : q ≠ p) (hn : S q = none) : Bg p S (S'.set q o) := by
  obtain ⟨⟨a, b, k, z⟩, r⟩ := h
  refine ⟨⟨a, b, k, by rw [Sto.set_ne (Ne.symm n)]; exact z⟩, fun x nx sx => ?_⟩
  have : x ≠ q := fun e => sx (by rw [e]; exact hn)
  rw [Sto.set_ne this]
  exact r x nx sx
theorem Bg.new {p q : Addr} {S S' : Sto} {o : MO} (h : Bg p S S') (hq : S' q = none) : Bg p S (S'.set q o) := h.wr (h.ne hq) (h.no hq)
theorem Bg.dl {p q : Addr} {S S' : Sto} (h : Bg p S S') (n : q ≠ p) (hn : S q = none) : Bg p S (S'.del q) := by
  obtain ⟨⟨a, b, k, z⟩, r⟩ := h
  refine ⟨⟨a, b, k, by unfold Sto.del; rw [if_neg (Ne.symm n)]; exact z⟩, fun x nx sx => ?_⟩
  have : x ≠ q := fun e => sx (by rw [e]; exact hn)
  unfold Sto.del
  rw [if_neg this]
  exact r x nx sx

/-! ### readings as equations: they fire where the values are known -/
section
variable {S : Sto} {Q : DQ} {E : DX} {i j : Int} {a b : Str} {xs ys : List D} {p : Addr} {x y : D} {m : Bool}
theorem x_lt : rCmp .Lt (.int i) (.int j) S Q E = Q (.bl (decide (i < j))) S := rfl
theorem x_le : rCmp .LtE (.int i) (.int j) S Q E = Q (.bl (decide (i ≤ j))) S := rfl
theorem x_gt : rCmp .Gt (.int i) (.int j) S Q E = Q (.bl (decide (j < i))) S := rfl
theorem x_ge : rCmp .GtE (.int i) (.int j) S Q E = Q (.bl (decide (j ≤ i))) S := rfl
theorem ex_simp {P : D → Prop} {v : D} {R : Prop} (h : R = P v) : R = P v := h
theorem beqD {α : Type} [DecidableEq α] [BEq α] [LawfulBEq α] (a b : α) : (a == b) = decide (a = b) := by
  by_cases e : a = b
  · rw [e]; simp
  · rw [decide_eq_false e]; exact beq_eq_false_iff_ne.mpr e
theorem x_eqi : rCmp .Eq (.int i) (.int j) S Q E = Q (.bl (decide (i = j))) S := by
  show ((view S (.int i)).dat 32 = true ∧ (view S (.int j)).dat 32 = true ∧ Q (.bl (PyData.eqv (.int i) (.int j))) S) = _
  have e1 : (view S (.int i)).dat 32 = true := rfl
  have e2 : (view S (.int j)).dat 32 = true := rfl
  have e3 : PyData.eqv (.int i) (.int j) = decide (i = j) := beqD _ _
  rw [e1, e2, e3]
  simp
theorem x_nei : rCmp .NotEq (.int i) (.int j) S Q E = Q (.bl (!decide (i = j))) S := by
  show ((view S (.int i)).dat 32 = true ∧ (view S (.int j)).dat 32 = true ∧ Q (.bl (!PyData.eqv (.int i) (.int j))) S) = _
  have e1 : (view S (.int i)).dat 32 = true := rfl
  have e2 : (view S (.int j)).dat 32 = true := rfl
  have e3 : PyData.eqv (.int i) (.int j) = decide (i = j) := beqD _ _
  rw [e1, e2, e3]
  simp
theorem x_eqs : rCmp .Eq (.str a) (.str b) S Q E = Q (.bl (decide (a = b))) S := by
  show ((view S (.str a)).dat 32 = true ∧ (view S (.str b)).dat 32 = true ∧ Q (.bl (PyData.eqv (.str a) (.str b))) S) = _
  have e1 : (view S (.str a)).dat 32 = true := rfl
  have e2 : (view S (.str b)).dat 32 = true := rfl
  have e3 : PyData.eqv (.str a) (.str b) = decide (a = b) := beqD _ _
  rw [e1, e2, e3]
  simp
theorem x_nes : rCmp .NotEq (.str a) (.str b) S Q E = Q (.bl (!decide (a = b))) S := by
  show ((view S (.str a)).dat 32 = true ∧ (view S (.str b)).dat 32 = true ∧ Q (.bl (!PyData.eqv (.str a) (.str b))) S) = _
  have e1 : (view S (.str a)).dat 32 = true := rfl
  have e2 : (view S (.str b)).dat 32 = true := rfl
  have e3 : PyData.eqv (.str a) (.str b) = decide (a = b) := beqD _ _
  rw [e1, e2, e3]
  simp
theorem x_ner {p q : PyData} : rCmp .NotEq (.rp p) (.rp q) S Q E = Q (.bl (!decide (p.shown = q.shown))) S := rfl
theorem x_eqr {p q : PyData} : rCmp .Eq (.rp p) (.rp q) S Q E = Q (.bl (decide (p.shown = q.shown))) S := rfl
theorem x_in : rCmp .In (.str a) (.str b) S Q E = Q (.bl (inStr a b)) S := rfl
theorem x_nin : rCmp .NotIn (.str a) (.str b) S Q E = Q (.bl (!inStr a b)) S := rfl
theorem x_is : rCmp .Is x .non S Q E = Q (.bl x.isN) S := by show (D.non = D.non ∧ _) = _; simp
theorem x_isnt : rCmp .IsNot x .non S Q E = Q (.bl (!x.isN)) S := by show (D.non = D.non ∧ _) = _; simp
theorem x_add : rBin m .Add (.int i) (.int j) S Q E = Q (.int (i + j)) S := rfl
theorem x_adds : rBin m .Add (.str a) (.str b) S Q E = (a.length + b.length ≤ sizeLine ∧ Q (.str (a ++ b)) S) := rfl
theorem x_addt : rBin m .Add (.tup xs) (.tup ys) S Q E = (xs.length + ys.length ≤ sizeLine ∧ Q (.tup (xs ++ ys)) S) := rfl
theorem x_addl : rBin false .Add (.lst xs) (.lst ys) S Q E = (xs.length + ys.length ≤ sizeLine ∧ Q (.lst (xs ++ ys)) S) := by
  show (∃ a b, seqM S (.lst xs) = some a ∧ seqM S (.lst ys) = some b ∧ a.length + b.length ≤ sizeLine ∧ mkL false (a ++ b) S Q) = _
  simp [seqM, seqL, mkL]
theorem x_sub : rBin m .Sub (.int i) (.int j) S Q E = Q (.int (i - j)) S := by show (∃ i' j', D.int i = D.int i' ∧ D.int j = D.int j' ∧ _) = _; simp
theorem x_mul : rBin m .Mult (.int i) (.int j) S Q E = (MulOk i j ∧ Q (.int (i * j)) S) := rfl
theorem x_div : rBin m .FloorDiv (.int i) (.int j) S Q E = (DivOk j ∧ Q (.int (i / j)) S) := by show (∃ i' j', D.int i = D.int i' ∧ D.int j = D.int j' ∧ _) = _; simp
theorem x_mod : rBin m .Mod (.int i) (.int j) S Q E = (0 < j ∧ Q (.int (i % j)) S) := by show (∃ i' j', D.int i = D.int i' ∧ D.int j = D.int j' ∧ _) = _; simp
theorem x_pow : rBin m .Pow (.int i) (.int j) S Q E = (0 ≤ j ∧ j ≤ 1000000 ∧ -18446744073709551616 < i ∧ i < 18446744073709551616 ∧ Q (.int (i ^ j.toNat)) S) := by
  apply propext
  constructor
  · rintro ⟨i', j', e1, e2, ⟨h1, h2, h3⟩, h⟩
    cases e1
    cases e2
    exact ⟨h1, h2, by omega, by omega, h⟩
  · rintro ⟨h1, h2, h3, h4, h⟩
    exact ⟨i, j, rfl, rfl, ⟨h1, h2, by omega⟩, h⟩
theorem x_neg : rNeg (.int i) S Q E = Q (.int (-i)) S := by show (∃ i', D.int i = D.int i' ∧ _) = _; simp
theorem x_int : rInt [.int i] S Q E = Q (.int i) S := by show (∃ x n, [D.int i] = [x] ∧ intD x = some n ∧ _) = _; simp [intD]
theorem x_abs : rAbs [.int i] S Q E = Q (.int (if i < 0 then -i else i)) S := by show (∃ i', [D.int i] = [D.int i'] ∧ _) = _; simp
theorem x_max : rMax [.int i, .int j] S Q E = Q (.int (if j > i then j else i)) S := by
  apply propext
  constructor
  · rintro ⟨i', j', e, h⟩
    cases e
    exact h
  · exact fun h => ⟨i, j, rfl, h⟩
theorem x_min : rMin [.int i, .int j] S Q E = Q (.int (if j < i then j else i)) S := by
  apply propext
  constructor
  · rintro ⟨i', j', e, h⟩
    cases e
    exact h
  · exact fun h => ⟨i, j, rfl, h⟩
theorem x_len : rLen [x] S Q E = ∃ n, lenD S x = some n ∧ Q (.int (n : Nat)) S := by show (∃ x' n, [x] = [x'] ∧ _) = _; simp
theorem len_str : lenD S (.str a) = some a.length := rfl
theorem len_tup : lenD S (.tup xs) = some xs.length := rfl
theorem len_lst : lenD S (.lst xs) = some xs.length := rfl
theorem len_cst : lenD S (.cst xs) = some xs.length := rfl
theorem x_idxs : rIdx (.str a) (.int i) S Q E = ∃ k, atI a.cps.toList i = some k ∧ Q (chD k) S := by show (∃ i' k, D.int i = D.int i' ∧ _) = _; simp
theorem x_idxt : rIdx (.tup xs) (.int i) S Q E = ∃ d, atI xs i = some d ∧ Q d S := by show (∃ ds i' d, some xs = some ds ∧ D.int i = D.int i' ∧ _) = _; simp
theorem x_idxl : rIdx (.lst xs) (.int i) S Q E = ∃ d, atI xs i = some d ∧ Q d S := by show (∃ ds i' d, some xs = some ds ∧ D.int i = D.int i' ∧ _) = _; simp
theorem x_idxc : rIdx (.cst xs) (.int i) S Q E = ∃ d, atI xs i = some d ∧ Q d S := by show (∃ ds i' d, some xs = some ds ∧ D.int i = D.int i' ∧ _) = _; simp
theorem x_idxr : rIdx (.ref p) (.int i) S Q E = ∃ xs, S p = some (.lst xs) ∧ ∃ d, atI xs i = some d ∧ Q d S := by
  show (∃ ds i' d, (match S p with | some (.lst xs) => some xs | _ => none) = some ds ∧ D.int i = D.int i' ∧ _) = _
  cases h : S p with
  | none => simp
  | some o => cases o <;> simp
theorem x_isi {T : Isi} {t : Ty} : rIsiD T [x, .ty t] S Q E = ∃ a, tyN S x = some a ∧ ∃ r, T.lookup (a, t) = some r ∧ Q (.bl r) S := by
  show (∃ x' t' b a r, [x, D.ty t] = [x', D.ty b] ∧ t' = b ∧ _) = _
  simp only [List.cons.injEq, D.ty.injEq, and_true]
  apply propext
  constructor
  · rintro ⟨x', t', b, a, r, ⟨e1, e2⟩, e3, e4, e5, e6⟩
    subst e1 e2
    exact ⟨a, e4, r, e5, e6⟩
  · rintro ⟨a, e4, r, e5, e6⟩
    exact ⟨x, t, t, a, r, ⟨rfl, rfl⟩, rfl, e4, e5, e6⟩
theorem ty_str : tyN S (.str a) = some .str := rfl
theorem ty_int : tyN S (.int i) = some .int := rfl
theorem ty_bl {k : Bool} : tyN S (.bl k) = some .bl := rfl
theorem ty_non : tyN S .non = some .non := rfl
theorem ty_tup : tyN S (.tup xs) = some .tup := rfl
theorem ty_lst : tyN S (.lst xs) = some .lst := rfl
theorem ty_cst : tyN S (.cst xs) = some .lst := rfl
theorem ty_ins {C : Nat} : tyN S (.ins C xs) = some (.own C) := rfl
theorem tr_bl {k : Bool} : truth S (.bl k) = some k := rfl
theorem tr_int : truth S (.int i) = some (i != 0) := rfl
theorem tr_str : truth S (.str a) = some ((a.length : Int) != 0) := rfl
theorem tr_tup : truth S (.tup xs) = some (!xs.isEmpty) := rfl
theorem tr_lst : truth S (.lst xs) = some (!xs.isEmpty) := rfl
theorem tr_non : truth S .non = some false := rfl
theorem x_frz {o : MO} {ρ : DSt} {t : DT} : dFrz t ρ S Q E = t ρ S (fun d S1 => ∃ p o, d = .ref p ∧ S1 p = some o ∧ Q (freezeD p o) (S1.del p)) E := rfl
theorem x_all {bs : List Bool} : rAllD [.lst (bs.map D.bl)] S Q E = Q (.bl (bs.all id)) S := by
  show (∃ (x : D) (bs' : List Bool), [D.lst (bs.map D.bl)] = [x] ∧ seqL S x = some (bs'.map D.bl) ∧ _) = _
  apply propext
  constructor
  · rintro ⟨x, bs', e, e2, h⟩
    injection e with e _
    subst e
    have e3 : bs.map D.bl = bs'.map D.bl := Option.some.inj e2
    have inj : ∀ (l r : List Bool), l.map D.bl = r.map D.bl → l = r := by
      intro l
      induction l with
      | nil => intro r h; cases r with
        | nil => rfl
        | cons _ _ => cases h
      | cons u us ih => intro r h; cases r with
        | nil => cases h
        | cons w ws =>
          simp only [List.map_cons, List.cons.injEq, D.bl.injEq] at h
          rw [h.1, ih ws h.2]
    rw [inj _ _ e3]
    exact h
  · intro h
    exact ⟨_, bs, rfl, rfl, h⟩
theorem x_join {zs : List Str} (hz : strsD xs = some zs) : mJoin (.str a) (.lst xs) S Q E = ((zs.map (·.length)).sum + zs.length * a.length ≤ 16777216 ∧ Q (.str (Txt.join a zs)) S) := by
  show (∃ a' ds ys, D.str a = D.str a' ∧ seqA S (.lst xs) = some ds ∧ strsD ds = some ys ∧ _) = _
  simp [seqA, seqL, hz]
theorem x_ends : mEnds (.str a) (.str b) S Q E = Q (.bl (Txt.endswith a b)) S := by show (∃ a' b', D.str a = D.str a' ∧ D.str b = D.str b' ∧ _) = _; simp
theorem x_starts : mStarts (.str a) (.str b) S Q E = Q (.bl (Txt.startswith a b)) S := by show (∃ a' b', D.str a = D.str a' ∧ D.str b = D.str b' ∧ _) = _; simp
theorem x_isstr : (∃ c, D.str a = D.str c) = True := by simp
theorem at_0 {α : Type} {x : α} {xs : List α} : atI (x :: xs) 0 = some x := by
  unfold atI ixN
  simp
theorem at_nat {α : Type} {xs : List α} {k : Nat} {x : α} (h : xs[k]? = some x) : atI xs (k : Nat) = some x := by
  unfold atI ixN
  have hk := (List.getElem?_eq_some_iff.mp h).1
  have h2 : ((k : Nat) : Int) < (xs.length : Int) := by omega
  simp [h2, h]
theorem at_1 {α : Type} {x y : α} {xs : List α} : atI (x :: y :: xs) 1 = some y := at_nat (k := 1) rfl
theorem at_2 {α : Type} {x y z : α} {xs : List α} : atI (x :: y :: z :: xs) 2 = some z := at_nat (k := 2) rfl
theorem at_in {α : Type} {xs : List α} {i : Int} (h0 : 0 ≤ i) (h1 : i < xs.length) : ∃ x, atI xs i = some x ∧ x ∈ xs := by
  obtain ⟨k, rfl⟩ := Int.eq_ofNat_of_zero_le h0
  have hk : k < xs.length := by omega
  exact ⟨xs[k], at_nat (List.getElem?_eq_getElem hk), List.getElem_mem hk⟩
theorem ix_0 : ixN 2 0 = some 0 := by decide
theorem ix_1 : ixN 2 1 = some 1 := by decide
theorem x_spr {n k : Nat} {t : DTS} {ds : List D} : bodySp n k t ds S Q E = (ds.length = k ∧ t { nx := fun _ S' => Q .non S', rt := Q, xx := fun _ => E } (startD n ds) S) := rfl
theorem si_str : seqI S (.str a) = some (a.cps.toList.map chD, noG) := rfl
theorem si_tup : seqI S (.tup xs) = some (xs, noG) := rfl
theorem si_lst : seqI S (.lst xs) = some (xs, noG) := rfl
theorem si_cst : seqI S (.cst xs) = some (xs, noG) := rfl
theorem x_slcs {lo hi : Option Int} : rSlc m (.str a) lo hi S Q = Q (.str (cutS a lo hi)) S := rfl
theorem x_slct {lo hi : Option Int} : rSlc m (.tup xs) lo hi S Q = Q (.tup (cutD xs lo hi)) S := rfl
theorem x_slcl {lo hi : Option Int} : rSlc m (.lst xs) lo hi S Q = mkL m (cutD xs lo hi) S Q := by
  show (∃ a, some xs = some a ∧ _) = _
  simp
theorem x_slcc {lo hi : Option Int} : rSlc m (.cst xs) lo hi S Q = mkL m (cutD xs lo hi) S Q := by
  show (∃ a, some xs = some a ∧ _) = _
  simp
theorem cutD_mem {α : Type} {xs : List α} {lo hi : Option Int} {x : α} (h : x ∈ cutD xs lo hi) : x ∈ xs := by
  unfold cutD at h
  exact List.mem_of_mem_drop (List.mem_of_mem_take h)
theorem zl {n : Nat} (h : n ≤ 10000000) : (n ≤ sizeLine) = True := eq_true (by have : sizeLine = 2 ^ 24 := rfl; rw [this]; omega)
theorem lt_line {n : Nat} (h : n ≤ 10000000) : n ≤ sizeLine := by
  have : sizeLine = 2 ^ 24 := rfl
  rw [this]
  omega
theorem x_app : mAppend (.ref p) [y] S Q = ∃ xs, S p = some (.lst xs) ∧ xs.length < sizeLine ∧ Q .non (S.set p (.lst (xs ++ [y]))) := by
  apply propext
  constructor
  · rintro ⟨p', xs, y', e1, e2, h⟩
    cases e1
    cases e2
    exact ⟨xs, h⟩
  · rintro ⟨xs, h⟩
    exact ⟨p, xs, y, rfl, rfl, h⟩
theorem x_pop : mPopAt (.ref p) [.int i] S Q = ∃ xs, S p = some (.lst xs) ∧ -(2 ^ 63) ≤ i ∧ i < 2 ^ 63 ∧ ∃ k y, seqIndex? i xs.length = some k ∧ xs[k]? = some y ∧ Q y (S.set p (.lst (xs.eraseIdx k))) := by
  apply propext
  constructor
  · rintro ⟨p', xs, i', k, y', e1, e2, h1, h2, h3, h4, h5, h6⟩
    cases e1
    cases e2
    exact ⟨xs, h1, h2, h3, k, y', h4, h5, h6⟩
  · rintro ⟨xs, h1, h2, h3, k, y', h4, h5, h6⟩
    exact ⟨p, xs, i, k, y', rfl, rfl, h1, h2, h3, h4, h5, h6⟩
theorem x_isref : (∃ p' xs, D.ref p = .ref p' ∧ S p' = some (.lst xs)) = ∃ xs, S p = some (.lst xs) := by
  apply propext
  constructor
  · rintro ⟨p', xs, e, h⟩
    cases e
    exact ⟨xs, h⟩
  · rintro ⟨xs, h⟩
    exact ⟨p, xs, rfl, h⟩
end
end DL

namespace DL
open PySem PySem.Spec PyProof.Rows L2

/-! ### the numbers that the laws draw -/
def R_bag : DTS := sSeq (sAsg (dIf (dOp (rCmp .Lt) (dVar 1) (dCB rLen (dCons (dVar 0) (dNil)))) (dCB rAbs (dCons (dOp rIdx (dVar 0) (dVar 1)) (dNil))) (dCst (.int 0))) (gNm 2)) (sSeq (sAsg (dOp (rBin false .Add) (dOp (rBin false .Mult) (dCst (.int 7919)) (dVar 1)) (dCst (.int 331))) (gNm 3)) (sSeq (sFor (iEnumD (dCons (dSlc false (dVar 0) none (some (dCst (.int 63)))) (dNil))) (gOf (.tup [.nm 4, .nm 5])) (sSeq (sAsg (dOp (rBin false .Mod) (dCB rInt (dCons (dOp (rBin false .Add) (dOp (rBin false .Add) (dOp (rBin false .Add) (dOp (rBin false .Mult) (dVar 3) (dCst (.int 52631))) (dOp (rBin false .Mod) (dCB rInt (dCons (dVar 5) (dNil))) (dCst (.int 2147483587)))) (dOp (rBin false .Mult) (dCst (.int 257)) (dVar 4))) (dCst (.int 19))) (dNil))) (dCst (.int 2147483629))) (gNm 3)) (sNext))) (sSeq (sRet (dLst true (dCons (dIf (dOp (rCmp .GtE) (dVar 2) (dOp (rBin true .Pow) (dCst (.int 10)) (dCst (.int 18)))) (dVar 2) (dCst (.int 0))) (dCons (dVar 3) (dNil))))) (sNext))))
def R_draw : DTS := sSeq (sIf (dOp (rCmp .Gt) (dOp rIdx (dVar 0) (dCst (.int 0))) (dCst (.int 0))) (sSeq (sAsg (dOp (rBin false .Mod) (dCB rInt (dCons (dOp rIdx (dVar 0) (dCst (.int 0))) (dNil))) (dVar 1)) (gNm 2)) (sSeq (sAsg (dOp (rBin false .FloorDiv) (dOp rIdx (dVar 0) (dCst (.int 0))) (dVar 1)) (gSubD (dVar 0) (dCst (.int 0)))) (sSeq (sRet (dVar 2)) (sNext)))) (sNext)) (sSeq (sAsg (dOp (rBin false .Mod) (dCB rInt (dCons (dOp (rBin false .Add) (dOp (rBin false .Mult) (dOp rIdx (dVar 0) (dCst (.int 1))) (dCst (.int 48271))) (dCst (.int 12347))) (dNil))) (dCst (.int 2147483647))) (gSubD (dVar 0) (dCst (.int 1)))) (sSeq (sRet (dOp (rBin false .Mod) (dOp (rBin false .FloorDiv) (dOp (rBin false .Mod) (dCB rInt (dCons (dOp (rBin false .Mult) (dOp (rBin false .FloorDiv) (dOp rIdx (dVar 0) (dCst (.int 1))) (dCst (.int 7))) (dCst (.int 40503))) (dNil))) (dCst (.int 2147483629))) (dCst (.int 32))) (dVar 1))) (sNext)))
theorem mul_ok {i j : Int} (h1 : i.natAbs < 2 ^ 64) (h2 : j.natAbs < 2 ^ 64) : MulOk i j := by
  unfold MulOk
  have a : ∀ n : Nat, n < 2 ^ 64 → n.log2 < 64 := fun n h => by
    by_cases e : n = 0
    · subst e; decide
    · exact (Nat.log2_lt e).mpr h
  have := a _ h1
  have := a _ h2
  omega
theorem div_ok {j : Int} (h0 : 0 < j) (h2 : j.natAbs < 2 ^ 64) : DivOk j := by
  refine ⟨h0, ?_⟩
  have : j.natAbs.log2 < 64 := (Nat.log2_lt (by omega)).mpr h2
  omega
/-- a number from 0 to many - 1 is drawn -/
def sp_draw : DSp := fun ds S Q _ => ∃ (p : Addr) (many : Int), ds = [.ref p, .int many] ∧ 0 < many ∧ many < 2 ^ 64 ∧ Bg p S S ∧ ∀ r S', Bg p S S' → 0 ≤ r → r < many → Q (.int r) S'
theorem draw_ok : ∀ ds S Q E, sp_draw ds S Q E → bodySp 3 2 R_draw ds S Q E := by
  rintro ds S Q E ⟨p, many, ed, h0, h1, bg, q⟩
  subst ed
  obtain ⟨a, b, ⟨ka, kb, kc⟩, hp⟩ := bg.at_
  unfold R_draw
  have dm : DivOk many := div_ok h0 (by omega)
  have d7 : DivOk 7 := div_ok (by decide) (by decide)
  have d32 : DivOk 32 := div_ok (by decide) (by decide)
  have m1 : MulOk b 48271 := mul_ok (by omega) (by decide)
  have hb2 : 0 ≤ (b * 48271 + 12347) % 2147483647 ∧ (b * 48271 + 12347) % 2147483647 < 2147483647 := ⟨Int.emod_nonneg _ (by decide), Int.emod_lt_of_pos _ (by decide)⟩
  have m2 : MulOk ((b * 48271 + 12347) % 2147483647 / 7) 40503 := mul_ok (by omega) (by decide)
  simp only [x_spr, startD, List.map_cons, List.map_nil, List.length_cons, List.length_nil, Nat.reduceAdd, Nat.reduceSub, Int.reduceLT, Int.reduceLE, Int.reduceToNat,  Int.reducePow, Int.reduceNeg, Nat.reduceLT, Nat.reduceLeDiff, Nat.reducePow, List.replicate_succ, List.replicate_zero, List.cons_append, List.nil_append, sSeq, sIf, sRet, sRetN, sNext, sAsg, sDrop, gNm, gOf, Tg.d, Tg.ds, dVar, dCst, dNil, dCons, dOp, dUn, dChain, dBl, dAnd, dOr, dNot, dIf, dTst, dCall, dCB, dLst, dTup, dM1, gSubD, mkL, dYes, dPart, dSlc, iEnumD, iSeqD, iRng1D, iRng2D, sFor, dLc, wipeD, si_str, si_tup, si_lst, si_cst, x_slcs, x_slct, x_slcl, x_slcc, dFld, sFldD, x_frz, dMake, dMt, x_isref, x_app, x_pop,
  x_lt, x_le, x_gt, x_ge, x_eqi, x_nei, x_eqs, x_nes, x_ner, x_eqr, x_in, x_nin, x_is, x_isnt, x_add, x_adds, x_addt, x_addl, x_sub, x_mul, x_div, x_mod, x_pow, x_neg, x_int, x_abs, x_max, x_min, x_len, len_str, len_tup, len_lst, len_cst, x_idxs, x_idxt, x_idxl, x_idxc, x_idxr, x_isi, ty_str, ty_int, ty_bl, ty_non, ty_tup, ty_lst, ty_cst, ty_ins, tr_bl, tr_int, tr_str, tr_tup, tr_lst, tr_non, x_all, x_ends, x_starts, at_0, at_1, at_2, ix_0, ix_1,
  List.getElem?_cons_zero, List.getElem?_cons_succ, List.getElem?_nil, List.set_cons_zero, List.set_cons_succ, List.set_nil, Option.some.injEq, exists_eq_left', exists_eq_left, exists_and_left, Bool.false_eq_true, if_false, if_true, D.int.injEq, D.bl.injEq, D.ref.injEq, D.str.injEq, D.lst.injEq, D.tup.injEq, MO.lst.injEq, MO.ins.injEq, List.cons.injEq, Prod.mk.injEq, and_true, true_and, and_assoc, decide_eq_true_eq, Sto.set_same, Sto.set_set, reduceCtorEq, false_and, exists_false, false_or, or_false, ne_eq, not_false_eq_true, exists_eq', Bool.not_true, Bool.not_false, Bool.not_eq_true', decide_eq_false_iff_not, hp, dm, d7, d32, m1, m2, h0]
  by_cases ha : 0 < a
  · rw [if_pos ha]
    exact q _ _ (Bg.num ⟨Int.ediv_nonneg ka (by omega), kb, kc⟩) (Int.emod_nonneg _ (by omega)) (Int.emod_lt_of_pos _ h0)
  · rw [if_neg ha]
    exact q _ _ (Bg.num ⟨ka, hb2.1, by omega⟩) (Int.emod_nonneg _ (by omega)) (Int.emod_lt_of_pos _ h0)
/-- the bag is made -/
def sp_bag : DSp := fun ds S Q _ => ∃ (ns : List Int) (at_ : Int), ds = [.cst (ns.map D.int), .int at_] ∧ 0 ≤ at_ ∧ at_ < 100 ∧ ns.length ≤ 63 ∧ ∀ p S', S p = none → Bg p S S' → Q (.ref p) S'
theorem bag_ok : ∀ ds S Q E, sp_bag ds S Q E → bodySp 6 2 R_bag ds S Q E := by
  rintro ds S Q E ⟨ns, at_, ed, h0, h1, hl, q⟩
  subst ed
  unfold R_bag
  have m1 : MulOk 7919 at_ := mul_ok (by decide) (by omega)
  have loop : ∀ (c : Int), (0 ≤ c → ∀ (v4 v5 : Option D) (m : Int) (p : Addr), 0 ≤ m → m < 2147483648 → S p = none → Q (.ref p) (S.set p (.lst [.int (if (1000000000000000000 : Int) ≤ c then c else 0), .int m]))) → 0 ≤ c →
      sFor (iEnumD (dCons (dSlc false (dVar 0) none (some (dCst (.int 63)))) (dNil))) (gOf (.tup [.nm 4, .nm 5])) (sSeq (sAsg (dOp (rBin false .Mod) (dCB rInt (dCons (dOp (rBin false .Add) (dOp (rBin false .Add) (dOp (rBin false .Add) (dOp (rBin false .Mult) (dVar 3) (dCst (.int 52631))) (dOp (rBin false .Mod) (dCB rInt (dCons (dVar 5) (dNil))) (dCst (.int 2147483587)))) (dOp (rBin false .Mult) (dCst (.int 257)) (dVar 4))) (dCst (.int 19))) (dNil))) (dCst (.int 2147483629))) (gNm 3)) (sNext))
        { nx := (sSeq (sRet (dLst true (dCons (dIf (dOp (rCmp .GtE) (dVar 2) (dOp (rBin true .Pow) (dCst (.int 10)) (dCst (.int 18)))) (dVar 2) (dCst (.int 0))) (dCons (dVar 3) (dNil))))) (sNext)) { nx := fun _ S' => Q .non S', rt := Q, xx := fun _ => E }, rt := Q, xx := fun _ => E }
        [some (.cst (ns.map D.int)), some (.int at_), some (.int c), some (.int (7919 * at_ + 331)), none, none] S := by
    intro c qc hc
    simp only [x_spr, startD, List.map_cons, List.map_nil, List.length_cons, List.length_nil, Nat.reduceAdd, Nat.reduceSub, Int.reduceLT, Int.reduceLE, Int.reduceToNat,  Int.reducePow, Int.reduceNeg, Nat.reduceLT, Nat.reduceLeDiff, Nat.reducePow, List.replicate_succ, List.replicate_zero, List.cons_append, List.nil_append, sSeq, sIf, sRet, sRetN, sNext, sAsg, sDrop, gNm, gOf, Tg.d, Tg.ds, dVar, dCst, dNil, dCons, dOp, dUn, dChain, dBl, dAnd, dOr, dNot, dIf, dTst, dCall, dCB, dLst, dTup, dM1, gSubD, mkL, dYes, dPart, dSlc, iEnumD, iSeqD, iRng1D, iRng2D, sFor, dLc, wipeD, si_str, si_tup, si_lst, si_cst, x_slcs, x_slct, x_slcl, x_slcc, dFld, sFldD, x_frz, dMake, dMt, x_isref, x_app, x_pop,
  x_lt, x_le, x_gt, x_ge, x_eqi, x_nei, x_eqs, x_nes, x_ner, x_eqr, x_in, x_nin, x_is, x_isnt, x_add, x_adds, x_addt, x_addl, x_sub, x_mul, x_div, x_mod, x_pow, x_neg, x_int, x_abs, x_max, x_min, x_len, len_str, len_tup, len_lst, len_cst, x_idxs, x_idxt, x_idxl, x_idxc, x_idxr, x_isi, ty_str, ty_int, ty_bl, ty_non, ty_tup, ty_lst, ty_cst, ty_ins, tr_bl, tr_int, tr_str, tr_tup, tr_lst, tr_non, x_all, x_ends, x_starts, at_0, at_1, at_2, ix_0, ix_1,
  List.getElem?_cons_zero, List.getElem?_cons_succ, List.getElem?_nil, List.set_cons_zero, List.set_cons_succ, List.set_nil, Option.some.injEq, exists_eq_left', exists_eq_left, exists_and_left, Bool.false_eq_true, if_false, if_true, D.int.injEq, D.bl.injEq, D.ref.injEq, D.str.injEq, D.lst.injEq, D.tup.injEq, MO.lst.injEq, MO.ins.injEq, List.cons.injEq, Prod.mk.injEq, and_true, true_and, and_assoc, decide_eq_true_eq, Sto.set_same, Sto.set_set, reduceCtorEq, false_and, exists_false, false_or, or_false, ne_eq, not_false_eq_true, exists_eq', Bool.not_true, Bool.not_false, Bool.not_eq_true', decide_eq_false_iff_not]
    refine forGo_inv _ (fun _ ρ S' => S' = S ∧ ∃ m v4 v5, 0 ≤ m ∧ m < 2147483648 ∧ ρ = [some (.cst (ns.map D.int)), some (.int at_), some (.int c), some (.int m), v4, v5]) ⟨rfl, 7919 * at_ + 331, none, none, by omega, by omega, rfl⟩ ?_ ?_
    · rintro i x ρ S' Kn hx ⟨eS, m, v4, v5, hm0, hm1, eρ⟩ hk
      subst eS eρ
      obtain ⟨y, hy, ex⟩ := enumL_get _ _ _ _ hx
      obtain ⟨z, _, ez⟩ := List.mem_map.mp (cutD_mem (List.mem_of_getElem? hy))
      subst ex ez
      have hi : i < 63 := by
        have h1 := (List.getElem?_eq_some_iff.mp hy).1
        have h2 : (cutD (ns.map D.int) none (some 63)).length ≤ 63 := by
          unfold cutD
          rw [List.length_take, List.length_drop, List.length_map]
          omega
        omega
      have k1 : MulOk m 52631 := mul_ok (by omega) (by decide)
      have k2 : MulOk 257 ((0 + i : Nat) : Int) := mul_ok (by decide) (by omega)
      simp only [x_spr, startD, List.map_cons, List.map_nil, List.length_cons, List.length_nil, Nat.reduceAdd, Nat.reduceSub, Int.reduceLT, Int.reduceLE, Int.reduceToNat,  Int.reducePow, Int.reduceNeg, Nat.reduceLT, Nat.reduceLeDiff, Nat.reducePow, List.replicate_succ, List.replicate_zero, List.cons_append, List.nil_append, sSeq, sIf, sRet, sRetN, sNext, sAsg, sDrop, gNm, gOf, Tg.d, Tg.ds, dVar, dCst, dNil, dCons, dOp, dUn, dChain, dBl, dAnd, dOr, dNot, dIf, dTst, dCall, dCB, dLst, dTup, dM1, gSubD, mkL, dYes, dPart, dSlc, iEnumD, iSeqD, iRng1D, iRng2D, sFor, dLc, wipeD, si_str, si_tup, si_lst, si_cst, x_slcs, x_slct, x_slcl, x_slcc, dFld, sFldD, x_frz, dMake, dMt, x_isref, x_app, x_pop,
  x_lt, x_le, x_gt, x_ge, x_eqi, x_nei, x_eqs, x_nes, x_ner, x_eqr, x_in, x_nin, x_is, x_isnt, x_add, x_adds, x_addt, x_addl, x_sub, x_mul, x_div, x_mod, x_pow, x_neg, x_int, x_abs, x_max, x_min, x_len, len_str, len_tup, len_lst, len_cst, x_idxs, x_idxt, x_idxl, x_idxc, x_idxr, x_isi, ty_str, ty_int, ty_bl, ty_non, ty_tup, ty_lst, ty_cst, ty_ins, tr_bl, tr_int, tr_str, tr_tup, tr_lst, tr_non, x_all, x_ends, x_starts, at_0, at_1, at_2, ix_0, ix_1,
  List.getElem?_cons_zero, List.getElem?_cons_succ, List.getElem?_nil, List.set_cons_zero, List.set_cons_succ, List.set_nil, Option.some.injEq, exists_eq_left', exists_eq_left, exists_and_left, Bool.false_eq_true, if_false, if_true, D.int.injEq, D.bl.injEq, D.ref.injEq, D.str.injEq, D.lst.injEq, D.tup.injEq, MO.lst.injEq, MO.ins.injEq, List.cons.injEq, Prod.mk.injEq, and_true, true_and, and_assoc, decide_eq_true_eq, Sto.set_same, Sto.set_set, reduceCtorEq, false_and, exists_false, false_or, or_false, ne_eq, not_false_eq_true, exists_eq', Bool.not_true, Bool.not_false, Bool.not_eq_true', decide_eq_false_iff_not, k1, k2]
      refine hk _ _ ⟨rfl, _, _, _, Int.emod_nonneg _ (by decide), ?_, rfl⟩
      exact Int.lt_trans (Int.emod_lt_of_pos _ (by decide)) (by decide)
    · rintro ρ S' ⟨eS, m, v4, v5, hm0, hm1, eρ⟩
      subst eS eρ
      simp only [x_spr, startD, List.map_cons, List.map_nil, List.length_cons, List.length_nil, Nat.reduceAdd, Nat.reduceSub, Int.reduceLT, Int.reduceLE, Int.reduceToNat,  Int.reducePow, Int.reduceNeg, Nat.reduceLT, Nat.reduceLeDiff, Nat.reducePow, List.replicate_succ, List.replicate_zero, List.cons_append, List.nil_append, sSeq, sIf, sRet, sRetN, sNext, sAsg, sDrop, gNm, gOf, Tg.d, Tg.ds, dVar, dCst, dNil, dCons, dOp, dUn, dChain, dBl, dAnd, dOr, dNot, dIf, dTst, dCall, dCB, dLst, dTup, dM1, gSubD, mkL, dYes, dPart, dSlc, iEnumD, iSeqD, iRng1D, iRng2D, sFor, dLc, wipeD, si_str, si_tup, si_lst, si_cst, x_slcs, x_slct, x_slcl, x_slcc, dFld, sFldD, x_frz, dMake, dMt, x_isref, x_app, x_pop,
  x_lt, x_le, x_gt, x_ge, x_eqi, x_nei, x_eqs, x_nes, x_ner, x_eqr, x_in, x_nin, x_is, x_isnt, x_add, x_adds, x_addt, x_addl, x_sub, x_mul, x_div, x_mod, x_pow, x_neg, x_int, x_abs, x_max, x_min, x_len, len_str, len_tup, len_lst, len_cst, x_idxs, x_idxt, x_idxl, x_idxc, x_idxr, x_isi, ty_str, ty_int, ty_bl, ty_non, ty_tup, ty_lst, ty_cst, ty_ins, tr_bl, tr_int, tr_str, tr_tup, tr_lst, tr_non, x_all, x_ends, x_starts, at_0, at_1, at_2, ix_0, ix_1,
  List.getElem?_cons_zero, List.getElem?_cons_succ, List.getElem?_nil, List.set_cons_zero, List.set_cons_succ, List.set_nil, Option.some.injEq, exists_eq_left', exists_eq_left, exists_and_left, Bool.false_eq_true, if_false, if_true, D.int.injEq, D.bl.injEq, D.ref.injEq, D.str.injEq, D.lst.injEq, D.tup.injEq, MO.lst.injEq, MO.ins.injEq, List.cons.injEq, Prod.mk.injEq, and_true, true_and, and_assoc, decide_eq_true_eq, Sto.set_same, Sto.set_set, reduceCtorEq, false_and, exists_false, false_or, or_false, ne_eq, not_false_eq_true, exists_eq', Bool.not_true, Bool.not_false, Bool.not_eq_true', decide_eq_false_iff_not]
      by_cases h : (1000000000000000000 : Int) ≤ c
      · rw [if_pos h]
        refine ⟨lt_line (by decide), fun p hp => ?_⟩
        have := qc hc v4 v5 m p hm0 hm1 hp
        rw [if_pos h] at this
        exact this
      · rw [if_neg h]
        refine ⟨lt_line (by decide), fun p hp => ?_⟩
        have := qc hc v4 v5 m p hm0 hm1 hp
        rw [if_neg h] at this
        exact this
  have fin : ∀ c : Int, 0 ≤ c → ∀ (v4 v5 : Option D) (m : Int) (p : Addr), 0 ≤ m → m < 2147483648 → S p = none → Q (.ref p) (S.set p (.lst [.int (if (1000000000000000000 : Int) ≤ c then c else 0), .int m])) := fun c hc _ _ m p h0 h1 hp =>
    q p _ hp (Bg.num ⟨by split <;> omega, h0, h1⟩)
  have step : ∀ c : Int, 0 ≤ c → _ := fun c hc => loop c (fun _ => fin c hc) hc
  clear loop fin
  by_cases hlt : at_ < ((ns.map D.int).length : Int)
  · obtain ⟨d, hd, hm⟩ := at_in h0 hlt
    obtain ⟨z, _, ez⟩ := List.mem_map.mp hm
    subst ez
    have st := step (if z < 0 then -z else z) (by split <;> omega)
    clear step
    show ([D.cst (ns.map D.int), D.int at_].length = 2 ∧ _)
    refine ⟨rfl, ?_⟩
    show dIf _ _ _ _ _ _ _
    simp only [x_spr, startD, List.map_cons, List.map_nil, List.length_cons, List.length_nil, Nat.reduceAdd, Nat.reduceSub, Int.reduceLT, Int.reduceLE, Int.reduceToNat,  Int.reducePow, Int.reduceNeg, Nat.reduceLT, Nat.reduceLeDiff, Nat.reducePow, List.replicate_succ, List.replicate_zero, List.cons_append, List.nil_append, sSeq, sIf, sRet, sRetN, sNext, sAsg, sDrop, gNm, gOf, Tg.d, Tg.ds, dVar, dCst, dNil, dCons, dOp, dUn, dChain, dBl, dAnd, dOr, dNot, dIf, dTst, dCall, dCB, dLst, dTup, dM1, gSubD, mkL, dYes, dPart, dSlc, iEnumD, iSeqD, iRng1D, iRng2D, sFor, dLc, wipeD, si_str, si_tup, si_lst, si_cst, x_slcs, x_slct, x_slcl, x_slcc, dFld, sFldD, x_frz, dMake, dMt, x_isref, x_app, x_pop,
  x_lt, x_le, x_gt, x_ge, x_eqi, x_nei, x_eqs, x_nes, x_ner, x_eqr, x_in, x_nin, x_is, x_isnt, x_add, x_adds, x_addt, x_addl, x_sub, x_mul, x_div, x_mod, x_pow, x_neg, x_int, x_abs, x_max, x_min, x_len, len_str, len_tup, len_lst, len_cst, x_idxs, x_idxt, x_idxl, x_idxc, x_idxr, x_isi, ty_str, ty_int, ty_bl, ty_non, ty_tup, ty_lst, ty_cst, ty_ins, tr_bl, tr_int, tr_str, tr_tup, tr_lst, tr_non, x_all, x_ends, x_starts, at_0, at_1, at_2, ix_0, ix_1,
  List.getElem?_cons_zero, List.getElem?_cons_succ, List.getElem?_nil, List.set_cons_zero, List.set_cons_succ, List.set_nil, Option.some.injEq, exists_eq_left', exists_eq_left, exists_and_left, Bool.false_eq_true, if_false, if_true, D.int.injEq, D.bl.injEq, D.ref.injEq, D.str.injEq, D.lst.injEq, D.tup.injEq, MO.lst.injEq, MO.ins.injEq, List.cons.injEq, Prod.mk.injEq, and_true, true_and, and_assoc, decide_eq_true_eq, Sto.set_same, Sto.set_set, reduceCtorEq, false_and, exists_false, false_or, or_false, ne_eq, not_false_eq_true, exists_eq', Bool.not_true, Bool.not_false, Bool.not_eq_true', decide_eq_false_iff_not, m1] at st ⊢
    rw [if_pos hlt, hd]
    simp only [x_spr, startD, List.map_cons, List.map_nil, List.length_cons, List.length_nil, Nat.reduceAdd, Nat.reduceSub, Int.reduceLT, Int.reduceLE, Int.reduceToNat,  Int.reducePow, Int.reduceNeg, Nat.reduceLT, Nat.reduceLeDiff, Nat.reducePow, List.replicate_succ, List.replicate_zero, List.cons_append, List.nil_append, sSeq, sIf, sRet, sRetN, sNext, sAsg, sDrop, gNm, gOf, Tg.d, Tg.ds, dVar, dCst, dNil, dCons, dOp, dUn, dChain, dBl, dAnd, dOr, dNot, dIf, dTst, dCall, dCB, dLst, dTup, dM1, gSubD, mkL, dYes, dPart, dSlc, iEnumD, iSeqD, iRng1D, iRng2D, sFor, dLc, wipeD, si_str, si_tup, si_lst, si_cst, x_slcs, x_slct, x_slcl, x_slcc, dFld, sFldD, x_frz, dMake, dMt, x_isref, x_app, x_pop,
  x_lt, x_le, x_gt, x_ge, x_eqi, x_nei, x_eqs, x_nes, x_ner, x_eqr, x_in, x_nin, x_is, x_isnt, x_add, x_adds, x_addt, x_addl, x_sub, x_mul, x_div, x_mod, x_pow, x_neg, x_int, x_abs, x_max, x_min, x_len, len_str, len_tup, len_lst, len_cst, x_idxs, x_idxt, x_idxl, x_idxc, x_idxr, x_isi, ty_str, ty_int, ty_bl, ty_non, ty_tup, ty_lst, ty_cst, ty_ins, tr_bl, tr_int, tr_str, tr_tup, tr_lst, tr_non, x_all, x_ends, x_starts, at_0, at_1, at_2, ix_0, ix_1,
  List.getElem?_cons_zero, List.getElem?_cons_succ, List.getElem?_nil, List.set_cons_zero, List.set_cons_succ, List.set_nil, Option.some.injEq, exists_eq_left', exists_eq_left, exists_and_left, Bool.false_eq_true, if_false, if_true, D.int.injEq, D.bl.injEq, D.ref.injEq, D.str.injEq, D.lst.injEq, D.tup.injEq, MO.lst.injEq, MO.ins.injEq, List.cons.injEq, Prod.mk.injEq, and_true, true_and, and_assoc, decide_eq_true_eq, Sto.set_same, Sto.set_set, reduceCtorEq, false_and, exists_false, false_or, or_false, ne_eq, not_false_eq_true, exists_eq', Bool.not_true, Bool.not_false, Bool.not_eq_true', decide_eq_false_iff_not, m1]
    exact st
  · have st := step 0 (by decide)
    simp only [x_spr, startD, List.map_cons, List.map_nil, List.length_cons, List.length_nil, Nat.reduceAdd, Nat.reduceSub, Int.reduceLT, Int.reduceLE, Int.reduceToNat,  Int.reducePow, Int.reduceNeg, Nat.reduceLT, Nat.reduceLeDiff, Nat.reducePow, List.replicate_succ, List.replicate_zero, List.cons_append, List.nil_append, sSeq, sIf, sRet, sRetN, sNext, sAsg, sDrop, gNm, gOf, Tg.d, Tg.ds, dVar, dCst, dNil, dCons, dOp, dUn, dChain, dBl, dAnd, dOr, dNot, dIf, dTst, dCall, dCB, dLst, dTup, dM1, gSubD, mkL, dYes, dPart, dSlc, iEnumD, iSeqD, iRng1D, iRng2D, sFor, dLc, wipeD, si_str, si_tup, si_lst, si_cst, x_slcs, x_slct, x_slcl, x_slcc, dFld, sFldD, x_frz, dMake, dMt, x_isref, x_app, x_pop,
  x_lt, x_le, x_gt, x_ge, x_eqi, x_nei, x_eqs, x_nes, x_ner, x_eqr, x_in, x_nin, x_is, x_isnt, x_add, x_adds, x_addt, x_addl, x_sub, x_mul, x_div, x_mod, x_pow, x_neg, x_int, x_abs, x_max, x_min, x_len, len_str, len_tup, len_lst, len_cst, x_idxs, x_idxt, x_idxl, x_idxc, x_idxr, x_isi, ty_str, ty_int, ty_bl, ty_non, ty_tup, ty_lst, ty_cst, ty_ins, tr_bl, tr_int, tr_str, tr_tup, tr_lst, tr_non, x_all, x_ends, x_starts, at_0, at_1, at_2, ix_0, ix_1,
  List.getElem?_cons_zero, List.getElem?_cons_succ, List.getElem?_nil, List.set_cons_zero, List.set_cons_succ, List.set_nil, Option.some.injEq, exists_eq_left', exists_eq_left, exists_and_left, Bool.false_eq_true, if_false, if_true, D.int.injEq, D.bl.injEq, D.ref.injEq, D.str.injEq, D.lst.injEq, D.tup.injEq, MO.lst.injEq, MO.ins.injEq, List.cons.injEq, Prod.mk.injEq, and_true, true_and, and_assoc, decide_eq_true_eq, Sto.set_same, Sto.set_set, reduceCtorEq, false_and, exists_false, false_or, or_false, ne_eq, not_false_eq_true, exists_eq', Bool.not_true, Bool.not_false, Bool.not_eq_true', decide_eq_false_iff_not, m1] at st ⊢
    rw [if_neg hlt]
    exact st
end DL

namespace DL
open PySem PySem.Spec PyProof.Rows L2

/-! ### the law's def at the end of the top -/
abbrev S0 : Sto := fun _ => none
/-- what the law is asked: a list of numbers of the caller's -/
def Asks (n : Nat) (sp : DSp) : Prop := ∀ (zs : List Int) (Qd : DQ), zs.length ≤ n → (∀ S, Qd (.bl true) S) → sp [.cst (zs.map D.int)] S0 Qd DX0
section
variable {P : Program} {w : World} {K : PySem.W.Frag} {A : Cla} {mg mb : Str → Option Value} {k n : Nat} {fa a : Addr} {sp : DSp} {s1 : Shared} {vs : List Value} {zs : List Int}
/-- nothing of the script's own heap but the script -/
structure Scr (K : PySem.W.Frag) (s1 : Shared) (a : Addr) (zs : List Int) (H : Hp) : Prop where
  sq : SqL K H a (zs.map V.int)
  one : ∀ b, H b ≠ none → b = a
  frz : ∀ b, H b = none ∨ ∃ o xs, H b = some (.frz o (.lst xs))
  out : H a ≠ none → K.lookup a = none
theorem script_rep {H : Hp} (r : Scr K s1 a zs H) : Rep (cc K A) (fun _ => False) H S0 (.cst (zs.map D.int)) (.ref a) := by
  unfold Rep
  refine ⟨a, zs.map V.int, rfl, ?_, Reps.int zs⟩
  rcases r.sq with h | h
  · exact .inl ⟨h, rfl, fun z => z⟩
  · exact .inr (.inr h)
theorem asked {H : Hp} (hgh : A.gh = none) (r : Scr K s1 a zs H) (hn : zs.length ≤ n) (hs : Asks n sp) : liftSp (cc K A) sp [V.ref a] H (fun v _ => v = .bl true) (fun _ _ _ => False) :=
  ⟨[.cst (zs.map D.int)], S0, fun _ => False, fun d _ => d = .bl true, DX0, ⟨(fun _ _ e => by cases e), (fun _ z => z.elim), fun _ _ _ z => (by have z : A.gh = _ := z; rw [hgh] at z; cases z)⟩, .cons (script_rep r) .nil, hs zs _ hn fun _ => rfl,
    fun v H' d S' _ _ rd ed => by
      subst ed
      unfold Rep at rd
      exact rd, fun _ _ _ _ _ _ _ _ z => z.elim⟩
theorem law_runs (hgh : A.gh = none) (hK : K.In s1.heap) (g1 : s1.heap.Ns mainGlobals mg) (g2 : s1.heap.Ns builtinsNs mb) (g3 : ∀ x : Str, x ≠ "__name__" → mb x = bootBuiltins x) (nl : s1.heap.NoLimit) (ng : s1.gens = #[])
    (ob : s1.heap.get? a = some { cls := .type "list", data := .seq vs.toArray }) (ok : ∀ b u, (∃ H, Scr K s1 a zs H ∧ H b = some u) → True) (rm : Rm k callerA)
    (F : ∀ base : Heap, K.In base → base.Ns mainGlobals mg → FnD P w (cc K A) mg base k fa sp) (hs : Asks n sp) (hn : zs.length ≤ n) {H : Hp} (r : Scr K s1 a zs H) (hok : HOk P w H s1.heap) :
    codeAny (model P w) callerA (.call (.ref fa) ⟨[.ref a], []⟩) (fun q s2 => q = .ok (.ret (.bool true)) ∧ OldK s1.heap s2.heap ∧ s2.os = s1.os ∧ AllBare s2.gens) s1 := by
  have kept : ∀ {b : Addr} {o : Obj}, s1.heap.get? b = some o → H b = none → (hidT s1.heap H).get? b = some o := fun e m => hidT_get e m
  have ofdict : ∀ {b : Addr} {o : Obj} {es : Array DictEntry} {ep : Nat}, s1.heap.get? b = some o → o.data = .dict es ep → H b = none := fun {b o es ep} e d => by
    cases hb : H b with
    | none => rfl
    | some u =>
      have eb := r.one b (by rw [hb]; exact fun z => by cases z)
      subst eb
      rw [ob] at e
      cases e
      cases d
  have space : ∀ {b : Addr} {m : Str → Option Value}, s1.heap.Ns b m → (hidT s1.heap H).Ns b m := fun {b m} ⟨o, es, ep, e, d, t⟩ => ⟨o, es, ep, kept e (ofdict e d), d, t⟩
  have inB : K.In (hidT s1.heap H) := fun b o e => by
    refine kept (hK b o e) ?_
    cases hb : H b with
    | none => rfl
    | some u =>
      have eb := r.one b (by rw [hb]; exact fun z => by cases z)
      subst eb
      have := r.out (by rw [hb]; exact fun z => by cases z)
      rw [this] at e
      cases e
  have lim : ∃ mc, (hidT s1.heap H).Ns _ mc ∧ _ := let ⟨mc, x1, x2⟩ := nl; ⟨mc, space x1, x2⟩
  have md : Mod K mg (hidT s1.heap H) := ⟨inB, space g1, ⟨mb, space g2, g3⟩, lim⟩
  have none_in : ∀ b : Addr, b ∉ ([] : List Addr) := fun b z => by cases z
  have e0 : Env0 P w K mg (hidT s1.heap H) callerA [] s1 H := ⟨rfl, md, fun b o e => of_hidT e, Nat.le_of_eq (hidT_size _ _), trivial, fun b hb => (none_in b hb).elim, hok, .of_eq ng⟩
  have run := F _ inB (space g1) callerA [] s1 H [.ref a] [V.ref a] (fun v _ => v = .bl true) (fun _ _ _ => False) rm e0 (.cons rfl .nil) (asked hgh r hn hs)
  refine codeAny_mono run fun q s2 h => ?_
  match q, h with
  | .error e, ⟨_, _, _, _, _, _, _, _, _, _, _, _, z⟩ => exact z.elim
  | .ok (.ret u), ⟨v, H2, os, bare, un, hok2, rv, ev⟩ =>
    have ev : v = V.bl true := ev
    subst ev
    have eu : u = Value.bool true := rv
    subst eu
    refine ⟨rfl, OldK.of_keep fun b o e => ?_, os, bare⟩
    cases hb : H b with
    | none => exact un.keep b o e hb (none_in b) (by simp)
    | some u =>
      rcases r.frz b with z | ⟨ox, xs, z⟩
      · rw [hb] at z
        cases z
      · obtain ⟨c1, _⟩ := hok b _ z
        obtain ⟨c2, _⟩ := hok2 b _ (un.frzs b ox _ z)
        rw [e] at c1
        cases c1
        exact c2
theorem law_runs2 (hgh : A.gh = none) (hK : K.In s1.heap) (g1 : s1.heap.Ns mainGlobals mg) (g2 : s1.heap.Ns builtinsNs mb) (g3 : ∀ x : Str, x ≠ "__name__" → mb x = bootBuiltins x) (nl : s1.heap.NoLimit) (ng : s1.gens = #[])
    (ob : s1.heap.get? a = some { cls := .type "list", data := .seq vs.toArray }) (ia : IntsAre vs zs) (hn : zs.length ≤ n) (hz : zs.length ≤ sizeLine) (rm : Rm k callerA)
    (F : ∀ base : Heap, K.In base → base.Ns mainGlobals mg → FnD P w (cc K A) mg base k fa sp) (hs : Asks n sp) :
    codeAny (model P w) callerA (.call (.ref fa) ⟨[.ref a], []⟩) (fun q s2 => q = .ok (.ret (.bool true)) ∧ OldK s1.heap s2.heap ∧ s2.os = s1.os ∧ AllBare s2.gens) s1 := by
  have vi := vals_ints ia
  have li := ia.length
  cases hk : K.lookup a with
  | some o =>
    have e := hK a o hk
    rw [ob] at e
    cases e
    have sq : SqL K hp0 a (zs.map V.int) := .inr ⟨_, vs.toArray, _, hk, rfl, rfl, rfl, by rw [List.size_toArray, li]; exact hz, by simpa using vi⟩
    exact law_runs hgh hK g1 g2 g3 nl ng ob (fun _ _ _ => trivial) rm F hs hn (H := hp0) ⟨sq, fun b z => (z rfl).elim, fun _ => .inl rfl, fun z => (z rfl).elim⟩ fun b u e => by cases e
  | none =>
    let H : Hp := fun b => if b = a then some (.frz { cls := .type "list", data := .seq vs.toArray } (.lst (zs.map V.int))) else none
    have hy : H a = some (.frz { cls := .type "list", data := .seq vs.toArray } (.lst (zs.map V.int))) := if_pos rfl
    have hnn : ∀ b, b ≠ a → H b = none := fun b h => if_neg h
    refine law_runs hgh hK g1 g2 g3 nl ng ob (fun _ _ _ => trivial) rm F hs hn (H := H) ⟨.inl (.inr ⟨_, hy⟩), fun b z => ?_, fun b => ?_, fun _ => hk⟩ fun b u e => ?_
    · by_cases hb : b = a
      · exact hb
      · exact (z (hnn b hb)).elim
    · by_cases hb : b = a
      · subst hb
        exact .inr ⟨_, _, hy⟩
      · exact .inl (hnn b hb)
    · by_cases hb : b = a
      · subst hb
        rw [hy] at e
        cases e
        exact ⟨ob, by rw [List.length_map]; exact hz, vs, _, vi, ob⟩
      · rw [hnn b hb] at e
        cases e
end
theorem caller_rm {k : Nat} (hr : Room k callerA) : Rm k callerA := ⟨hr, rfl⟩
theorem walkD {l : PySem.W.OpenLaw} {n k : Nat} {q : Program} {loose : List Str} {XP : (Str → Option Value) → Heap → Prop} {YP : World → Heap → Prop} {d : DefRec} {K : Params → PySem.W.Frag} (sp : DSp) (hn : l.most = some n) (hn2 : n ≤ sizeLine)
    (hdf : d.params.defaults = []) (hr : Room k callerA) (hY : ∀ (w : World) (h : Heap), YP w h → (K w.params).In h) (hs : Asks n sp)
    (F : ∀ (w : World) (mg : Str → Option Value) (fa : Addr) (h : Heap), (K w.params).In h → h.Ns mainGlobals mg → mg d.name = some (.ref fa) → ∃ A : Cla, A.gh = none ∧ ∀ base : Heap, (K w.params).In base → base.Ns mainGlobals mg → FnD l.prog w (cc (K w.params) A) mg base k fa sp) :
    PySem.W.WalkO q loose XP YP l.row.toRowW d [] (fun f vs => PySem.call f vs) := by
  refine Att.attach_call hn hdf fun w s0 s1 mg mb fa o pm cd doc a vs zs G Y ho hd hcd hmg hobj hints hlen hg => ?_
  have hK := hY w _ Y
  obtain ⟨A, hgh, FA⟩ := F w mg fa _ hK G.T.g hmg
  exact law_runs2 hgh hK G.T.g G.T.b G.T.builtins G.T.nolimit hg hobj hints hlen (Nat.le_trans hlen hn2) (caller_rm hr) FA hs
/-! ### isinstance: the head's answers -/
section
variable {K : PySem.W.Frag} {C D : Addr} {T : String} {r : Bool} {t : Value}
theorem kit_rt (m : PySem.W.kitMeta T = true) (h : PySem.W.subIn K (.ref C) (.type T) = some r) : PySem.W.kitOne K (.ref C) (.type T) = some r := by
  unfold PySem.W.kitOne
  have e : (Value.ref C == Value.type T) = false := rfl
  rw [e]
  show (if PySem.W.kitMeta T = true then PySem.W.subIn K (.ref C) (.type T) else none) = some r
  rw [if_pos m, h]
theorem kit_self : PySem.W.kitOne K (.ref C) (.ref C) = some true := if_pos (beq_self_eq_true _)
theorem kit_xr {cl : _} (ne : (t == Value.ref D) = false) (c : PySem.W.clsIn K D = some cl) (ty : PySem.W.typeIn K (.ref D) = some (.type "type")) (h : PySem.W.subIn K t (.ref D) = some r) : PySem.W.kitOne K t (.ref D) = some r := by
  unfold PySem.W.kitOne
  rw [ne]
  show (if ((PySem.W.clsIn K D).isSome && PySem.W.typeIn K (.ref D) == some (.type "type")) = true then PySem.W.subIn K t (.ref D) else none) = some r
  rw [c, ty]
  exact (if_pos rfl).trans h
end
end DL

namespace DL
open PySem PySem.Spec PyProof.Rows L2

/-! ### operators of one's own classes: defs run at an inner place -/
theorem Rm.in1 {k : Nat} {A : Around} (m : Rm (k + 1) A) : Rm k A.in1 := ⟨m.r.in1, m.g⟩
/-- the class says what an operator does -/
structure Dn (K : PySem.W.Frag) (C : Addr) (name : Str) (f : Addr) : Prop where
  at_ : PySem.W.findIn K (.ref C) name = some (some (.ref f))
  fn : PySem.W.isFn K (.ref f) = true
abbrev isC (S : Sto) (C : Nat) (d : D) : Prop := ∃ xs, insOf S d = some (C, xs)
def liftX1 (c : Cfg) (E : XK) (R : DR1) : V → Hp → VK → Prop := fun x H Q => ∃ S L dx Qd Ed, StoR c L H S ∧ Rep c L H S dx x ∧ R dx S Qd Ed ∧ KQ c L H S Q Qd ∧ KX c L H S E Ed
def liftX2 (c : Cfg) (E : XK) (R : DR2) : R2 := fun x y H Q => ∃ S L dx dy Qd Ed, StoR c L H S ∧ Rep c L H S dx x ∧ Rep c L H S dy y ∧ R dx dy S Qd Ed ∧ KQ c L H S Q Qd ∧ KX c L H S E Ed
def OpX (X : Cx) (A : Cla) (W : WX) (f : Value → Value → Sem Value) (R : DR2) : Prop :=
  ∀ (pins : List (Addr × Obj)) (s : Shared) (σ : L2.St) (H : Hp) (x y : V) (v u : Value) (Q : VK), Inv X pins σ H s → RelV x v → RelV y u → liftX2 (cX X A) (WE W σ) R x y H Q → wpAny (model X.prog X.w) X.A (f v u) (EP X pins σ Q) X.xe s
def dOpX (R : DR2) (t u : DT) : DT := fun ρ S Q E => t ρ S (fun x S1 => u ρ S1 (fun y S2 => R x y S2 Q E) E) E
section
variable {X : Cx} {A : Cla} {W : WX} {e a b o : Expr} {es : List Expr} {pos p apos : Pos} {t u : DT} {ta : DTA} {R : DR2} {f : Addr} {k C : Nat} {sp : DSp}
theorem run_code {A1 : Around} {pins : List (Addr × Obj)} {σ : L2.St} {H : Hp} {s : Shared} {Q : VK} {us : List Value} {vs : List V} (hf : A1.frames = X.A.frames) (F : FnD X.prog X.w (cX X A) X.mg X.base k f sp) (m : Rm k A1) (tk : Takes X W)
    (I : L2.Inv X pins σ H s) (r : Vals vs us) (h : liftSp (cX X A) sp vs H Q (WE W σ)) : codeAny (model X.prog X.w) A1 (.call (.ref f) ⟨us, []⟩) (fun q s' => match q with | .ok (.ret v) => EP X pins σ Q v s' | .ok _ => False | .error e => X.xe e s') s := by
  have e0 : Env0 X.prog X.w X.K X.mg X.base A1 X.stack s H := by
    have e := I.env0
    exact ⟨by rw [hf]; exact e.frames, e.mod, e.bs, e.bsz, e.funs, e.frf, e.hok, e.bare⟩
  refine codeAny_mono (F A1 X.stack s H us vs Q _ m e0 r h) fun q s' hq => ?_
  match q, hq with
  | .error e, hq => exact passAt tk σ pins H s e s' I hq
  | .ok (.ret w), hq => exact I.after hq
theorem run_at {A1 : Around} {pins : List (Addr × Obj)} {σ : L2.St} {H : Hp} {s : Shared} {Q : VK} {us : List Value} {vs : List V} (hf : A1.frames = X.A.frames) (F : FnD X.prog X.w (cX X A) X.mg X.base k f sp) (m : Rm k A1) (tk : Takes X W)
    (I : L2.Inv X pins σ H s) (r : Vals vs us) (h : liftSp (cX X A) sp vs H Q (WE W σ)) : wpAny (model X.prog X.w) A1 (call (.ref f) us) (EP X pins σ Q) X.xe s :=
  wpAny_call (codeAny_mono (run_code hf F m tk I r h) fun q s' hq => by
    match q, hq with
    | .error e, hq => exact hq
    | .ok (.ret w), hq => exact hq)
theorem inst_of {pins : List (Addr × Obj)} {σ : L2.St} {H : Hp} {s : Shared} {p0 c0 dx : Addr} {fs : List (Str × V)} (I : L2.Inv X pins σ H s) (h : H p0 = some (.ins c0 dx fs)) : ∃ ox od, PySem.W.InstAt s.heap p0 ox c0 od := by
  obtain ⟨mA, J, _⟩ := ins_get I.hok h
  obtain ⟨od, J, _⟩ := J.look
  exact ⟨_, od, J⟩
/-- two operands, then the rest -/
theorem two_run {pins : List (Addr × Obj)} {s : Shared} {σ : L2.St} {H : Hp} {Q : VK} {Post : Value → Value → Shared → Prop} (ha : DE X A W a t) (hb : DE X A W b u) (I : L2.Inv X pins σ H s) (h : liftE (cX X A) W (dOpX R t u) σ H Q)
    (k : ∀ v w s2 x y H2, L2.Inv X pins σ H2 s2 → RelV x v → RelV y w → liftX2 (cX X A) (WE W σ) R x y H2 Q → Post v w s2) :
    wpAny (model X.prog X.w) X.A (eval a X.env) (fun v s1 => wpAny (model X.prog X.w) X.A (eval b X.env) (fun w s2 => Post v w s2) X.xe s1) X.xe s := by
  obtain ⟨ρ, S, L, Qd, Ed, sl, so, h, kq, kx⟩ := h
  refine thn (ha.run pins s σ H (fun x H1 => ∃ S1 d, Ext H S H1 S1 ∧ StoR (cX X A) L H1 S1 ∧ Rep (cX X A) L H1 S1 d x ∧ u ρ S1 (fun y S2 => R d y S2 Qd Ed) Ed) I ⟨ρ, S, L, _, Ed, sl, so, h, fun v H1 d S1 e1 so1 r1 q1 => ⟨S1, d, e1, so1, r1, q1⟩, kx⟩) fun v s1 ⟨x, H1, I1, rx, S1, d, e1, so1, r1, q1⟩ => ?_
  refine thn (hb.run pins s1 σ H1 (fun y H2 => liftX2 (cX X A) (WE W σ) R x y H2 Q) I1 ⟨ρ, S1, L, _, Ed, sl.ext e1, so1, q1, fun w H2 d2 S2 e2 so2 r2 q2 => ⟨S2, L, d, d2, Qd, Ed, so2, r1.ext e2, r2, q2, kq.ext (e1.trans e2), (kx.ext (e1.trans e2)).slots⟩, kx.ext e1⟩) fun w s2 ⟨y, H2, I2, ry, q2⟩ => ?_
  exact k v w s2 x y H2 I2 rx ry q2
theorem de_opX {op : Operator} (ho : OpX X A W (binaryOp op) R) (ha : DE X A W a t) (hb : DE X A W b u) : DE X A W (.BinOp a op b pos) (dOpX R t u) :=
  ⟨fun pins s σ H Q I h => wpAny_BinOp (two_run ha hb I h fun v w s2 x y H2 I2 rx ry q => ho pins s2 σ H2 x y v w Q I2 rx ry q)⟩
theorem de_cmpX {op : CmpOp} (ho : OpX X A W (compareOp op) R) (ha : DE X A W a t) (hb : DE X A W b u) (hm : behindInMarks op b = false := by first | exact nobehind _ (by decide) (by decide) | rfl) : DE X A W (.Compare a [op] [b] pos) (dOpX R t u) :=
  ⟨fun pins s σ H Q I h => wpAny_Compare1 (two_run ha hb I h fun v w s2 x y H2 I2 rx ry q => ho pins s2 σ H2 x y v w Q I2 rx ry q) hm⟩
theorem dt_cmpX {op : CmpOp} (ho : OpX X A W (compareOp op) R) (ha : DE X A W a t) (hb : DE X A W b u) (hm : behindInMarks op b = false := by first | exact nobehind _ (by decide) (by decide) | rfl) : DTst X A W (.Compare a [op] [b] pos) (dTst (dOpX R t u)) := by
  refine ⟨fun pins s σ H Q I ⟨ρ, S, L, Qd, Ed, sl, so, h, kq, kx⟩ => ?_⟩
  have h2 : liftE (cX X A) W (dOpX R t u) σ H (fun x H' => ∃ k, TruV X.K x H' k ∧ Q k H') :=
    ⟨ρ, S, L, _, Ed, sl, so, h, fun v H1 d S1 e1 so1 r1 ⟨k, tk, q1⟩ => ⟨k, truth_ok so1 r1 tk, kq k H1 S1 e1 so1 q1⟩, kx⟩
  exact wpAny_isTrue_Compare1 (two_run ha hb I h2 fun v w s2 x y H2 I2 rx ry q =>
    thn (ho pins s2 σ H2 x y v w _ I2 rx ry q) fun c s3 ⟨z, H3, I3, r3, k, e, q3⟩ => tru_ok pins s3 σ H3 z c Q I3 r3 ⟨k, e, q3⟩) hm
/-! what comes back -/
abbrev Pst := DQ → DQ
def bkAny : Pst := fun Q => Q
def bkTru (f : Bool → Bool) : Pst := fun Q r S => ∃ b, r = .bl b ∧ Q (.bl (f b)) S
def bkLen : Pst := fun Q r S => ∃ n : Int, r = .int n ∧ 0 ≤ n ∧ n < 2 ^ 63 ∧ Q (.int n) S
/-- the left operand's class answers -/
def ownL (C : Nat) (sp : DSp) (bk : Pst) : DR2 := fun x y S Q E => isC S C x ∧ sp [x, y] S (bk Q) E
def ownR (C : Nat) (sp : DSp) (bk : Pst) : DR2 := fun x y S Q E => isC S C y ∧ sp [y, x] S (bk Q) E
theorem cmp_back {P : Value → Shared → Prop} {z : V} {v : Value} {s' : Shared} (r : RelV z v) (h : P v s') : PySem.W.CmpBack P v s' := SlX.cmpback r h
theorem ty_looks {pins : List (Addr × Obj)} {s : Shared} {σ : L2.St} {H : Hp} {S : Sto} {L : Lk} {d : D} {y : V} {w : Value} {T : Ty} (I : L2.Inv X pins σ H s) (so : StoR (cX X A) L H S) (r : Rep (cX X A) L H S d y) (ry : RelV y w) (h : tyN S d = some T) (hc : ∀ C, T = .own C → ClsOk X.K (A.cA C)) :
    PySem.W.Looks (model X.prog X.w) s.heap (typeOf w) (T.val A.cA) := by
  obtain ⟨P, Z, p, _⟩ := kit_of I ry (tyN_ok so r h hc)
  exact Z.ty _ _ I.kIn p
/-- x op y by the left one's def: what the right one may be -/
def ownCmp (C : Nat) (sp : DSp) (ok : Ty → Bool) : DR2 := fun x y S Q E => isC S C x ∧ (∃ T, tyN S y = some T ∧ ok T = true) ∧ sp [x, y] S Q E
theorem ox_cmp {op : CmpOp} {ok : Ty → Bool} (hop : ∀ a b, compareOp op a b = richCompare op a b) (d : Dn X.K (A.cA C) (cmpInfo op).2.1 f) (F : FnD X.prog X.w (cX X A) X.mg X.base k f sp) (m : Rm k X.A) (tk : Takes X W)
    (nf : ∀ T, ok T = true → PySem.W.notFirst X.K (A.cA C) (T.val A.cA) = true) (hc : ∀ C, ok (.own C) = true → ClsOk X.K (A.cA C)) : OpX X A W (compareOp op) (ownCmp C sp ok) := by
  intro pins s σ H x y v w Q I rx ry ⟨S, L, dx, dy, Qd, Ed, so, r1, r2, ⟨⟨xs, hi⟩, ⟨T, hT, hk⟩, q⟩, kq, kx⟩
  rw [hop]
  obtain ⟨p0, dd, vs, ev, hp, _⟩ := insOf_ok so r1 hi
  subst ev
  have eu : v = Value.ref p0 := rx
  subst eu
  obtain ⟨ox, od, J⟩ := inst_of I hp
  obtain ⟨mm, hF⟩ := I.fr
  refine PySem.W.cmp_K m.r.units0 hF I.ok.mod.kin J (ty_looks I so r2 ry hT fun C' e => hc C' (by rw [← e]; exact hk)) (nf T hk) d.at_ d.fn ?_
  exact wpAny_mono (run_at rfl F m tk I (.cons rx (.cons ry .nil)) ⟨[dx, dy], S, L, Qd, Ed, so, .cons r1 (.cons r2 .nil), q, kq, kx⟩) (fun z s' ⟨zv, H', I', rz, q'⟩ => cmp_back rz ⟨zv, H', I', rz, q'⟩) fun _ _ h => h
theorem ox_in (d : Dn X.K (A.cA C) "__contains__" f) (F : FnD X.prog X.w (cX X A) X.mg X.base k f sp) (m : Rm k X.A) (tk : Takes X W) : OpX X A W (compareOp .In) (ownR C sp (bkTru id)) := by
  intro pins s σ H x y v w Q I rx ry ⟨S, L, dx, dy, Qd, Ed, so, r1, r2, ⟨⟨xs, hi⟩, q⟩, kq, kx⟩
  obtain ⟨p0, dd, vs, ev, hp, _⟩ := insOf_ok so r2 hi
  subst ev
  have eu : w = Value.ref p0 := ry
  subst eu
  obtain ⟨ox, od, J⟩ := inst_of I hp
  obtain ⟨mm, hF⟩ := I.fr
  refine PySem.W.in_K hF I.ok.mod.kin J d.at_ d.fn ?_
  refine wpAny_mono (run_at rfl F m tk I (Q := fun z H' => ∃ b, z = .bl b ∧ Q (.bl b) H') (.cons ry (.cons rx .nil)) ⟨[dy, dx], S, L, bkTru id Qd, Ed, so, .cons r2 (.cons r1 .nil), q, fun z H' dz S' e' so' rz ⟨b, ez, q'⟩ => ⟨b, by subst ez; unfold Rep at rz; exact rz, kq _ H' _ S' e' so' rep_bl q'⟩, kx⟩)
    (fun z s' ⟨zv, H', I', rz, b, ez, q'⟩ => ?_) fun _ _ h => h
  subst ez
  have eb : z = Value.bool b := rz
  subst eb
  exact wpAny_truthy_bool ⟨.bl b, H', I', rfl, q'⟩
theorem ox_nin (d : Dn X.K (A.cA C) "__contains__" f) (F : FnD X.prog X.w (cX X A) X.mg X.base k f sp) (m : Rm k X.A) (tk : Takes X W) : OpX X A W (compareOp .NotIn) (ownR C sp (bkTru not)) := by
  intro pins s σ H x y v w Q I rx ry ⟨S, L, dx, dy, Qd, Ed, so, r1, r2, ⟨⟨xs, hi⟩, q⟩, kq, kx⟩
  obtain ⟨p0, dd, vs, ev, hp, _⟩ := insOf_ok so r2 hi
  subst ev
  have eu : w = Value.ref p0 := ry
  subst eu
  obtain ⟨ox, od, J⟩ := inst_of I hp
  obtain ⟨mm, hF⟩ := I.fr
  refine PySem.W.notIn_K hF I.ok.mod.kin J d.at_ d.fn ?_
  refine wpAny_mono (run_at rfl F m tk I (Q := fun z H' => ∃ b, z = .bl b ∧ Q (.bl (!b)) H') (.cons ry (.cons rx .nil)) ⟨[dy, dx], S, L, bkTru not Qd, Ed, so, .cons r2 (.cons r1 .nil), q, fun z H' dz S' e' so' rz ⟨b, ez, q'⟩ => ⟨b, by subst ez; unfold Rep at rz; exact rz, kq _ H' _ S' e' so' rep_bl q'⟩, kx⟩)
    (fun z s' ⟨zv, H', I', rz, b, ez, q'⟩ => ?_) fun _ _ h => h
  subst ez
  have eb : z = Value.bool b := rz
  subst eb
  exact wpAny_truthy_bool ⟨.bl (!b), H', I', rfl, q'⟩
/-- x op y, both of the class -/
def ownBin (C : Nat) (sp : DSp) : DR2 := fun x y S Q E => isC S C x ∧ isC S C y ∧ sp [x, y] S Q E
theorem ox_bin {op : Operator} (d : Dn X.K (A.cA C) (PySem.dunder op.info.2) f) (hc : PySem.W.selfFirst X.K (A.cA C) = true) (ck : ClsOk X.K (A.cA C)) (F : FnD X.prog X.w (cX X A) X.mg X.base k f sp) (m : Rm k X.A) (tk : Takes X W) : OpX X A W (binaryOp op) (ownBin C sp) := by
  intro pins s σ H x y v w Q I rx ry ⟨S, L, dx, dy, Qd, Ed, so, r1, r2, ⟨⟨xs, hi⟩, ⟨ys, hj⟩, q⟩, kq, kx⟩
  obtain ⟨p0, dd, vs, ev, hp, _⟩ := insOf_ok so r1 hi
  obtain ⟨p1, dd1, vs1, ev1, hp1, _⟩ := insOf_ok so r2 hj
  subst ev ev1
  have eu : v = Value.ref p0 := rx
  have ew : w = Value.ref p1 := ry
  subst eu ew
  obtain ⟨ox, od, J⟩ := inst_of I hp
  obtain ⟨ox1, od1, J1⟩ := inst_of I hp1
  obtain ⟨mm, hF⟩ := I.fr
  refine PySem.W.binop_K hF I.ok.mod.kin J J1.type hc d.at_ d.fn ?_
  exact wpAny_mono (run_at rfl F m tk I (.cons rx (.cons ry .nil)) ⟨[dx, dy], S, L, Qd, Ed, so, .cons r1 (.cons r2 .nil), q, kq, kx⟩) (fun z s' ⟨zv, H', I', rz, q'⟩ => cmp_back rz ⟨zv, H', I', rz, q'⟩) fun _ _ h => h
/-! len(x), -x -/
def dOwn1 (C : Nat) (sp : DSp) (bk : Pst) (t : DTA) : DT := fun ρ S Q E => t ρ S (fun ds S1 => ∃ d, ds = [d] ∧ isC S1 C d ∧ sp [d] S1 (bk Q) E) E
theorem de_lenO (d : Dn X.K (A.cA C) "__len__" f) (F : FnD X.prog X.w (cX X A) X.mg X.base k f sp) (m : Rm (k + 1) X.A) (tk : Takes X W) (hg : Gl X "len") (hm : X.mg "len" = none) (ha : DA X A W (e :: es) ta)
    (he : starEach (e :: es) X.env = (false, eval e X.env) :: starEach es X.env) (hpl : (backTo pos (starEach es X.env)).any (·.1) = false) : DE X A W (.Call (.Name "len" p) (e :: es) [] pos) (dOwn1 C sp bkLen ta) := by
  refine ⟨fun pins s σ H Q I ⟨ρ, S, L, Qd, Ed, sl, so, h, kq, kx⟩ => ?_⟩
  refine wpAny_Call_Name_kw (ld_blt I hg hm PySem.boot_len ?_)
  refine PyProof.Rows.callWith_builtin1 (thn (ha.run pos pins s σ H (fun vs H1 => ∃ S1 ds, Ext H S H1 S1 ∧ StoR (cX X A) L H1 S1 ∧ Reps (cX X A) L H1 S1 ds vs ∧ ∃ d, ds = [d] ∧ isC S1 C d ∧ sp [d] S1 (bkLen Qd) Ed) I ⟨ρ, S, L, _, Ed, sl, so, h, fun vs H1 ds S1 e1 so1 r1 q1 => ⟨S1, ds, e1, so1, r1, q1⟩, kx⟩) fun us s1 ⟨vs, H1, I1, rv, S1, ds, e1, so1, rs, dd, ed, ⟨xs, hi⟩, q⟩ => ?_) he hpl
  subst ed
  obtain ⟨z, ez, r1⟩ := reps1 rs
  subst ez
  obtain ⟨p0, dx, vs, ev, hp, _⟩ := insOf_ok so1 r1 hi
  subst ev
  obtain ⟨u1, eu, ru⟩ := rv.one
  subst eu
  have eu : u1 = Value.ref p0 := ru
  subst eu
  obtain ⟨ox, od, J⟩ := inst_of I1 hp
  obtain ⟨mm, hF⟩ := I1.fr
  refine PySem.W.len_K hF I1.ok.mod.kin J d.at_ d.fn ?_
  refine wpAny_mono (run_at rfl F m.in1 tk I1 (Q := fun z H' => ∃ n : Int, z = .int n ∧ 0 ≤ n ∧ n < 2 ^ 63 ∧ Q (.int n) H') (.cons ru .nil) ⟨[dd], S1, L, bkLen Qd, Ed, so1, .cons r1 .nil, q, fun z H' dz S' e' so' rz ⟨n, ez, h0, h1, q'⟩ => ⟨n, by subst ez; unfold Rep at rz; exact rz, h0, h1, kq _ H' _ S' (e1.trans e') so' rep_int q'⟩, (kx.ext e1).slots⟩)
    (fun z s' ⟨zv, H', I', rz, n, ez, h0, h1, q'⟩ => ?_) fun _ _ h => h
  subst ez
  obtain ⟨t', et⟩ := rz
  subst et
  exact ⟨⟨h0, h1⟩, .int n, H', I'.tok _, ⟨_, rfl⟩, q'⟩
end
end DL

namespace DL
open PySem PySem.Spec PyProof.Rows L2

/-! ### methods, methods of the class, classes called with a star -/
def dMeth (C : Nat) (sp : DSp) (t : DT) (u : DTA) : DT := fun ρ S Q E => t ρ S (fun d S1 => isC S1 C d ∧ u ρ S1 (fun ds S2 => sp (d :: ds) S2 Q E) E) E
def dCMet (C : Nat) (sp : DSp) (u : DTA) : DT := fun ρ S Q E => u ρ S (fun ds S2 => sp (.ty (.own C) :: ds) S2 Q E) E
section
variable {X : Cx} {A : Cla} {W : WX} {e o fe : Expr} {es : List Expr} {pos p sp0 apos : Pos} {t tf : DT} {ta : DTA} {f g : Addr} {k C : Nat} {sp : DSp} {m x : Str} {mc : Value} {pl : Sem Bool}
/-- the class's fields do not hide its methods -/
theorem no_field {c : Cfg} {fs : List Str} {vs : List V} (h : m ∉ fs) : (fs.zip vs).lookup m = none := by
  induction fs generalizing vs with
  | nil => rfl
  | cons y ys ih =>
    cases vs with
    | nil => rfl
    | cons v vs =>
      rw [List.zip_cons_cons, List.lookup_cons]
      have e : (m == y) = false := beq_eq_false_iff_ne.mpr fun e => h (by rw [e]; exact List.mem_cons_self ..)
      rw [e]
      exact ih fun z => h (List.mem_cons_of_mem _ z)
theorem de_meth (he : DE X A W o t) (c : Cls X.K (A.cA C)) (hm : Meth X.K (A.cA C) m f) (nf : m ∉ A.fl C) (F : FnD X.prog X.w (cX X A) X.mg X.base k f sp) (hr : Rm k X.A) (tk : Takes X W) (ha : DA X A W (e :: es) ta)
    (hst : starEach (e :: es) X.env = (false, eval e X.env) :: starEach es X.env) (hpl : (backTo pos (starEach es X.env)).any (·.1) = false)
    (ht : eval (.Call (.Attribute o m apos) (e :: es) [] pos) X.env = (do
      let ov ← eval o X.env
      standAt apos.atName
      let (f, first) ← holding [ov] (getMethod ov m pl)
      callWith pos f first (backTo pos (starEach (e :: es) X.env)) (backToKw pos (keywordEach [] X.env)))) : DE X A W (.Call (.Attribute o m apos) (e :: es) [] pos) (dMeth C sp t ta) := by
  refine ⟨fun pins s σ H Q I ⟨ρ, S, L, Qd, Ed, sl, so, h, kq, kx⟩ => ?_⟩
  refine PySem.W.methodCall_KW (pl := pl) (thn (he.run pins s σ H (fun x H1 => ∃ S1 d, Ext H S H1 S1 ∧ StoR (cX X A) L H1 S1 ∧ Rep (cX X A) L H1 S1 d x ∧ isC S1 C d ∧ ta ρ S1 (fun ds S2 => sp (d :: ds) S2 Qd Ed) Ed) I ⟨ρ, S, L, _, Ed, sl, so, h, fun v H1 d S1 e1 so1 r1 q1 => ⟨S1, d, e1, so1, r1, q1⟩, kx⟩) fun u s1 ⟨y, H1, I1, rx, S1, d, e1, so1, r1, ⟨xs, hi⟩, q1⟩ => ?_) ht
  obtain ⟨p0, dx, vs, ev, hp, _⟩ := insOf_ok so1 r1 hi
  subst ev
  have eu : u = Value.ref p0 := rx
  subst eu
  refine getmeth_ok I1 hp c hm (no_field (c := cX X A) nf) ?_
  refine PySem.W.callWith_K (first := [.ref p0]) (h₀ := X.base) I1.ok.mod.kin hm.kp (thn (ha.run pos pins s1 σ H1 (fun vs H2 => liftSp (cX X A) sp (V.ref p0 :: vs) H2 Q (WE W σ)) I1 ⟨ρ, S1, L, _, Ed, sl.ext e1, so1, q1, fun vs H2 ds S2 e2 so2 r2 q2 => ⟨d :: ds, S2, L, Qd, Ed, so2, .cons (r1.ext e2) r2, q2, kq.ext (e1.trans e2), (kx.ext (e1.trans e2)).slots⟩, kx.ext e1⟩) fun us s2 ⟨vs, H2, I2, r, q2⟩ => ⟨I2.kIn, ?_⟩) hst hpl
  exact run_at rfl F hr tk I2 (.cons (show RelV (.ref p0) (.ref p0) from rfl) r) q2
theorem de_meth0 (he : DE X A W o t) (c : Cls X.K (A.cA C)) (hm : Meth X.K (A.cA C) m f) (nf : m ∉ A.fl C) (F : FnD X.prog X.w (cX X A) X.mg X.base k f sp) (hr : Rm k X.A) (tk : Takes X W)
    (ht : eval (.Call (.Attribute o m apos) [] [] pos) X.env = (do
      let ov ← eval o X.env
      standAt apos.atName
      let (f, first) ← holding [ov] (getMethod ov m pl)
      callWith pos f first (backTo pos (starEach [] X.env)) (backToKw pos (keywordEach [] X.env)))) : DE X A W (.Call (.Attribute o m apos) [] [] pos) (dMeth C sp t dNil) := by
  refine ⟨fun pins s σ H Q I ⟨ρ, S, L, Qd, Ed, sl, so, h, kq, kx⟩ => ?_⟩
  refine PySem.W.methodCall_KW (pl := pl) (thn (he.run pins s σ H (fun x H1 => ∃ S1 d, Ext H S H1 S1 ∧ StoR (cX X A) L H1 S1 ∧ Rep (cX X A) L H1 S1 d x ∧ isC S1 C d ∧ sp [d] S1 Qd Ed) I ⟨ρ, S, L, _, Ed, sl, so, h, fun v H1 d S1 e1 so1 r1 q1 => ⟨S1, d, e1, so1, r1, q1⟩, kx⟩) fun u s1 ⟨y, H1, I1, rx, S1, d, e1, so1, r1, ⟨xs, hi⟩, q1⟩ => ?_) ht
  obtain ⟨p0, dx, vs, ev, hp, _⟩ := insOf_ok so1 r1 hi
  subst ev
  have eu : u = Value.ref p0 := rx
  subst eu
  refine getmeth_ok I1 hp c hm (no_field (c := cX X A) nf) ?_
  exact PySem.W.callWith_K0 (first := [.ref p0]) I1.kIn hm.kp (run_at (us := [.ref p0]) (vs := [.ref p0]) rfl F hr tk I1 (.cons rx .nil) ⟨[d], S1, L, Qd, Ed, so1, .cons r1 .nil, q1, kq.ext e1, (kx.ext e1).slots⟩)
/-- C.m(..), m a method of the class -/
theorem de_cmet (hg : Gl X x) (hx : X.mg x = some (.ref (A.cA C))) (hdb : (x == ("__debug__" : Str)) = false) (r : ClX.CRead X.K (A.cA C) mc) (c : ClX.CMet X.K (A.cA C) mc m f g) (F : FnD X.prog X.w (cX X A) X.mg X.base k g sp) (hr : Rm k X.A) (tk : Takes X W) (ha : DA X A W (e :: es) ta)
    (hst : starEach (e :: es) X.env = (false, eval e X.env) :: starEach es X.env) (hpl : (backTo pos (starEach es X.env)).any (·.1) = false)
    (ht : eval (.Call (.Attribute (.Name x p) m apos) (e :: es) [] pos) X.env = (do
      let ov ← eval (.Name x p) X.env
      standAt apos.atName
      let (f, first) ← holding [ov] (getMethod ov m pl)
      callWith pos f first (backTo pos (starEach (e :: es) X.env)) (backToKw pos (keywordEach [] X.env)))) : DE X A W (.Call (.Attribute (.Name x p) m apos) (e :: es) [] pos) (dCMet C sp ta) := by
  refine ⟨fun pins s σ H Q I ⟨ρ, S, L, Qd, Ed, sl, so, h, kq, kx⟩ => ?_⟩
  refine PySem.W.methodCall_KW (pl := pl) (ld_glob I hg hx ?_ hdb) ht
  refine ClX.getmethcm_ok I r c fun s2 I2 => ?_
  refine ClX.callwith_cm I2 (ClX.base_none I (Nat.le_refl _)) c.fi (thn (ha.run pos _ s2 σ H (fun vs H2 => liftSp (cX X A) sp (V.ref (A.cA C) :: vs) H2 Q (WE W σ)) I2 ⟨ρ, S, L, _, Ed, sl, so, h, fun vs H2 ds S2 e2 so2 r2 q2 => ⟨.ty (.own C) :: ds, S2, L, Qd, Ed, so2, .cons (by unfold Rep; rfl) r2, q2, kq.ext e2, (kx.ext e2).slots⟩, kx⟩) fun us s3 ⟨vs, H2, I3, rv, q2⟩ => ⟨⟨ClX.pin_at I3, I3.kIn⟩, ?_⟩) hst hpl
  refine thn (wpAny_call (PySem.W.method_call (ClX.pin_at I3) (codeAny_mono (run_code (us := .ref (A.cA C) :: us) (vs := .ref (A.cA C) :: vs) rfl F hr tk I3 (.cons rfl rv) q2) fun q s' hq => by
    match q, hq with
    | .error e, hq => exact hq
    | .ok (.ret w), hq => exact hq))) fun _ _ y => ClX.unpinE y
/-- c(*y), c a class in a name -/
def dMakeS (C : Nat) (m : Bool) (sp : DSp) (tf te : DT) : DT := fun ρ S Q E => tf ρ S (fun c S0 => c = .ty (.own C) ∧ te ρ S0 (fun y S1 => ∃ ds, seqA S1 y = some ds ∧ ∀ p, S1 p = none → sp (.ref p :: ds) (S1.set p (.ins C [])) (fun r S2 => r = .non ∧ mkI m C p S2 Q) (fun n xs S2 => E n xs (S2.del p))) E) E
theorem de_makeS {mm : Bool} (M : Mk X.K (A.cA C) f) (F : FnD X.prog X.w (cX X A) X.mg X.base k f sp) (hr : Rm (k + 1) X.A) (tk : Takes X W) (hf : DE X A W (.Name x p) tf) (he : DE X A W e t) (hst : starEach [.Starred e sp0] X.env = [(true, eval e X.env)]) :
    DE X A W (.Call (.Name x p) [.Starred e sp0] [] pos) (dMakeS C mm sp tf t) := by
  refine ⟨fun pins s σ H Q I ⟨ρ, S, L, Qd, Ed, sl, so, h, kq, kx⟩ => ?_⟩
  refine wpAny_Call_Name_kw (thn (hf.run pins s σ H (fun c H0 => ∃ S0, Ext H S H0 S0 ∧ StoR (cX X A) L H0 S0 ∧ c = .ref (A.cA C) ∧ t ρ S0 (fun y S1 => ∃ ds, seqA S1 y = some ds ∧ ∀ p, S1 p = none → sp (.ref p :: ds) (S1.set p (.ins C [])) (fun r S2 => r = .non ∧ mkI mm C p S2 Qd) (fun n xs S2 => Ed n xs (S2.del p))) Ed) I
    ⟨ρ, S, L, _, Ed, sl, so, h, fun v H0 d S0 e0 so0 r0 ⟨ed, q0⟩ => ⟨S0, e0, so0, by subst ed; unfold Rep at r0; exact r0, q0⟩, kx⟩) fun u s0 ⟨c, H0, I0, rc, S0, e0, so0, ec, q0⟩ => ?_)
  subst ec
  have eu : u = Value.ref (A.cA C) := rc
  subst eu
  refine PySem.W.callWith_S (h₀ := X.base) (first := []) I0.ok.mod.kin M.kp (thn (he.run pins s0 σ H0 (fun y H1 => ∃ S1 d, Ext H0 S0 H1 S1 ∧ StoR (cX X A) L H1 S1 ∧ Rep (cX X A) L H1 S1 d y ∧ ∃ ds, seqA S1 d = some ds ∧ ∀ p, S1 p = none → sp (.ref p :: ds) (S1.set p (.ins C [])) (fun r S2 => r = .non ∧ mkI mm C p S2 Qd) (fun n xs S2 => Ed n xs (S2.del p))) I0
    ⟨ρ, S0, L, _, Ed, sl.ext e0, so0, q0, fun v H1 d S1 e1 so1 r1 q1 => ⟨S1, d, e1, so1, r1, q1⟩, kx.ext e0⟩) fun v s1 ⟨y, H1, I1, ry, S1, d, e1, so1, r1, ds, es, q1⟩ => ?_) hst
  obtain ⟨pa, vs, ev, hs, rs⟩ := seqA_ok so1 r1 es
  subst ev
  have ew : v = Value.ref pa := ry
  subst ew
  refine StX.star_any I1 (hs.elim .inr .inl) fun us s2 I2 rv => ⟨I2.kIn, ?_⟩
  exact run_makeV M F hr tk I2 rv (make_ok so1 rs q1 (kq.ext (e0.trans e1)) (kx.ext (e0.trans e1)).slots)
end
end DL

namespace DL
open PySem PySem.Spec PyProof.Rows L2

/-! ### a, b = x, y -/
def isStar : Expr → Bool
  | .Starred .. => true
  | _ => false
def tgLoc (sc : Scope) (line : Nat) : Expr → Option Str
  | .Name id pos => if sc.names.lookup id == some .local && pos.line == line then some id else none
  | _ => none
def swLine (ts : List Expr) : Nat := (ts.head?.map (·.pos.line)).getD 0
def swNone (ts vs : List Expr) (sc : Scope) : Bool := !(ts.length == 2 || ts.length == 3) || vs.length != ts.length || vs.any isStar || (ts.filterMap (tgLoc sc (swLine ts))).length != ts.length || vs.all (foldedForSure 8)
def swSome (ts vs : List Expr) (sc : Scope) (xs : List Str) : Bool := (ts.length == 2 || ts.length == 3) && vs.length == ts.length && !(vs.any isStar) && decide (ts.filterMap (tgLoc sc (swLine ts)) = xs) && xs.length == ts.length && !(xs.eraseDups.length != xs.length) && !(vs.all (foldedForSure 8)) && !(vs.all (constantsAlone 8))
section
variable {env : PySem.Env} {ts vs : List Expr} {kt k2 : _} {pt pt2 : Pos}
theorem star_eq : (fun x : Expr => match x with | .Starred .. => true | _ => false) = isStar := by
  funext x
  cases x <;> rfl
theorem tgl_eq (line : Nat) : (fun x : Expr => match x with | .Name id pos => if env.kindOf id == some .local && pos.line == line then some id else none | _ => none) = tgLoc env.scope line := by
  funext x
  cases x <;> rfl
theorem sw_none (hk : env.scope.kind = .function) (h : swNone ts vs env.scope = true) : swappedStores [.Tuple ts kt pt] (.Tuple vs k2 pt2) env = pure none := by
  have hb : env.blockKind = .function := by unfold Env.blockKind; rw [hk]; rfl
  unfold swappedStores
  unfold swNone at h
  show (if (!(ts.length == 2 || ts.length == 3) || vs.length != ts.length || env.blockKind != ScopeKind.function) = true then pure none else if (vs.any isStar) = true then pure none
    else if ((ts.filterMap (tgLoc env.scope (swLine ts))).length != ts.length || (ts.filterMap (tgLoc env.scope (swLine ts))).eraseDups.length != (ts.filterMap (tgLoc env.scope (swLine ts))).length) = true then pure none
    else if vs.all (foldedForSure 8) = true then pure none else _) = (pure none : Sem (Option (List Str)))
  by_cases c1 : (!(ts.length == 2 || ts.length == 3) || vs.length != ts.length || env.blockKind != ScopeKind.function) = true
  · rw [if_pos c1]
  rw [if_neg c1]
  by_cases c2 : (vs.any isStar) = true
  · rw [if_pos c2]
  rw [if_neg c2]
  by_cases c3 : ((ts.filterMap (tgLoc env.scope (swLine ts))).length != ts.length || (ts.filterMap (tgLoc env.scope (swLine ts))).eraseDups.length != (ts.filterMap (tgLoc env.scope (swLine ts))).length) = true
  · rw [if_pos c3]
  rw [if_neg c3]
  by_cases c4 : vs.all (foldedForSure 8) = true
  · rw [if_pos c4]
  exfalso
  simp only [Bool.or_eq_true, not_or] at h c1 c3
  rcases h with (((h | h) | h) | h) | h
  · exact c1.1.1 h
  · exact c1.1.2 h
  · exact c2 h
  · exact c3.1 h
  · exact c4 h
theorem sw_some {xs : List Str} (hk : env.scope.kind = .function) (h : swSome ts vs env.scope xs = true) : swappedStores [.Tuple ts kt pt] (.Tuple vs k2 pt2) env = pure (some xs) := by
  have hb : env.blockKind = .function := by unfold Env.blockKind; rw [hk]; rfl
  unfold swappedStores
  unfold swSome at h
  simp only [Bool.and_eq_true] at h
  obtain ⟨⟨⟨⟨⟨⟨⟨h1, h2⟩, h3⟩, h4⟩, h5⟩, h6⟩, h7⟩, h8⟩ := h
  have h4 := of_decide_eq_true h4
  show (if (!(ts.length == 2 || ts.length == 3) || vs.length != ts.length || env.blockKind != ScopeKind.function) = true then pure none else if (vs.any isStar) = true then pure none
    else if ((ts.filterMap (tgLoc env.scope (swLine ts))).length != ts.length || (ts.filterMap (tgLoc env.scope (swLine ts))).eraseDups.length != (ts.filterMap (tgLoc env.scope (swLine ts))).length) = true then pure none
    else if vs.all (foldedForSure 8) = true then pure none else if vs.all (constantsAlone 8) = true then _ else pure (some (ts.filterMap (tgLoc env.scope (swLine ts))))) = (pure (some xs) : Sem (Option (List Str)))
  rw [h4, hb, h1, if_neg (by
    have : (vs.length != ts.length) = false := by simpa using h2
    rw [this]
    decide), if_neg (by rw [not_of h3]; exact Bool.false_ne_true), if_neg (by
    have e1 : (xs.length != ts.length) = false := by simpa using h5
    rw [e1, not_of h6]
    decide), if_neg (by rw [not_of h7]; exact Bool.false_ne_true), if_neg (by rw [not_of h8]; exact Bool.false_ne_true)]
end
def setAll : List Nat → List D → DSt → Option DSt
  | [], [], ρ => some ρ
  | i :: is, d :: ds, ρ => setAll is ds (ρ.set i (some d))
  | _, _, _ => none
def sPar (is : List Nat) (ta : DTA) : DTS := fun D ρ S => ta ρ S (fun ds S1 => ∃ ρ', setAll is ds ρ = some ρ' ∧ D.nx ρ' S1) (D.xx ρ)
section
variable {P : Program} {w : World} {K : PySem.W.Frag} {A : Cla} {mg : Str → Option Value} {base : Heap} {N : List Str} {sc : Scope} {fo : Str → Bool} {lv : Nat} {X : Cx} {W : WX} {a b c e : Expr} {es ts vs : List Expr} {pos : Pos} {t u v : DT} {ta : DTA} {x y z : Str} {px py pz pt pt2 : Pos} {kt k2 : Nat} {i j l : Nat} {g : DTG}
def slB (N : List Str) (sc : Scope) (i : Nat) (x : Str) : Bool := decide (N[i]? = some x) && decide (sc.names.lookup x = some .local)
theorem In.par2 (h : In P w K mg base N sc fo lv X W) (hk : (decide (sc.kind = .function) && decide N.Nodup && decide (i ≠ j) && (slB N sc i x && slB N sc j y)) = true) (hs : swSome [.Name x px, .Name y py] [a, b] sc [x, y] = true) (ha : DA X A W [a, b] ta)
    (hw : swapsWithSole [.Tuple [.Name x px, .Name y py] kt pt] (.Tuple [a, b] k2 pt2) pos.line X.env = pure false := by rfl) :
    DStm X A W (.Assign [.Tuple [.Name x px, .Name y py] kt pt] (.Tuple [a, b] k2 pt2) pos) (sPar [i, j] ta) := by
  simp only [Bool.and_eq_true, slB, decide_eq_true_eq] at hk
  obtain ⟨⟨⟨k1, k2'⟩, k3⟩, ⟨k4, k5⟩, k6, k7⟩ := hk
  have := h.eS; subst this
  have := h.eN; subst this
  refine PS.mono (ps_par h.calm k2' k4 k6 k3 k5 k7 ha (sw_some k1 hs) hw) fun D σ H ⟨ρ, S, L, DD, sl, so, q, k⟩ => ?_
  refine ⟨ρ, S, L, _, DD.xx ρ, sl, so, q, fun vs H1 ds S1 e1 so1 rs ⟨ρ', er, q1⟩ => ?_, k.xx.at_ sl⟩
  match ds, er, rs with
  | [d1, d2], er, rs =>
    have er : some ((ρ.set i (some d1)).set j (some d2)) = some ρ' := er
    cases er
    obtain ⟨v1, v2, ev, r1, r2⟩ := reps2 rs
    exact ⟨v1, v2, ev, k.nx _ H1 _ S1 e1 so1 (((sl.ext e1).set r1).set r2) q1⟩
  | [], er, _ => cases er
  | [_], er, _ => cases er
  | _ :: _ :: _ :: _, er, _ => cases er
theorem In.par3 (h : In P w K mg base N sc fo lv X W) (hk : (decide (sc.kind = .function) && decide N.Nodup && (decide (i ≠ j) && decide (i ≠ l) && decide (j ≠ l)) && (slB N sc i x && (slB N sc j y && slB N sc l z))) = true) (hs : swSome [.Name x px, .Name y py, .Name z pz] [a, b, c] sc [x, y, z] = true) (ha : DA X A W [a, b, c] ta)
    (hw : swapsWithSole [.Tuple [.Name x px, .Name y py, .Name z pz] kt pt] (.Tuple [a, b, c] k2 pt2) pos.line X.env = pure false := by rfl) :
    DStm X A W (.Assign [.Tuple [.Name x px, .Name y py, .Name z pz] kt pt] (.Tuple [a, b, c] k2 pt2) pos) (sPar [i, j, l] ta) := by
  simp only [Bool.and_eq_true, slB, decide_eq_true_eq] at hk
  obtain ⟨⟨⟨k1, k2'⟩, ⟨k3, k3'⟩, k3''⟩, ⟨k4, k5⟩, ⟨k6, k7⟩, k8, k9⟩ := hk
  have := h.eS; subst this
  have := h.eN; subst this
  refine PS.mono (ps_par3 h.calm k2' k4 k6 k8 k3 k3' k3'' k5 k7 k9 ha (sw_some k1 hs) hw) fun D σ H ⟨ρ, S, L, DD, sl, so, q, k⟩ => ?_
  refine ⟨ρ, S, L, _, DD.xx ρ, sl, so, q, fun vs H1 ds S1 e1 so1 rs ⟨ρ', er, q1⟩ => ?_, k.xx.at_ sl⟩
  match ds, er, rs with
  | [d1, d2, d3], er, rs =>
    have er : some (((ρ.set i (some d1)).set j (some d2)).set l (some d3)) = some ρ' := er
    cases er
    obtain ⟨v1, us, ev, r1, rs⟩ := rs.of_cons
    obtain ⟨v2, v3, ev2, r2, r3⟩ := reps2 rs
    subst ev2
    exact ⟨v1, v2, v3, ev, k.nx _ H1 _ S1 e1 so1 ((((sl.ext e1).set r1).set r2).set r3) q1⟩
  | [], er, _ => cases er
  | [_], er, _ => cases er
  | [_, _], er, _ => cases er
  | _ :: _ :: _ :: _ :: _, er, _ => cases er
/-- a tuple stored into targets of which one is no plain local name -/
theorem In.parC (h : In P w K mg base N sc fo lv X W) (hk : (decide (sc.kind = .function) && swNone ts vs sc) = true) (he : DE X A W (.Tuple vs k2 pt2) t) (hg : DTgt X A W (.Tuple ts kt pt) g) (hs : swapsWithSole [.Tuple ts kt pt] (.Tuple vs k2 pt2) pos.line X.env = pure false := by rfl)
    (h1 : (assignEach [.Tuple ts kt pt] X.env).map (·.2) = [assign (.Tuple ts kt pt) X.env] := by rfl) : DStm X A W (.Assign [.Tuple ts kt pt] (.Tuple vs k2 pt2) pos) (sAsg t g) := by
  simp only [Bool.and_eq_true, decide_eq_true_eq] at hk
  have := h.eS; subst this
  exact ds_asg he hg hs (sw_none hk.1 hk.2) h1
end
/-! ### list.extend, list of a text -/
def mExtend : DMt := fun x ds S Q => ∃ p xs y zs, x = .ref p ∧ ds = [y] ∧ S p = some (.lst xs) ∧ seqM S y = some zs ∧ xs.length + zs.length ≤ sizeLine ∧ Q .non (S.set p (.lst (xs ++ zs)))
section
variable {X : Cx} {A : Cla} {W : WX} {e o : Expr} {es : List Expr} {pos apos : Pos} {t : DT} {ta : DTA}
theorem md_extend : MtD X A "list.extend" mExtend := MtR.mono mt_extend fun x xs H Q ⟨S, L, dx, ds, Qd, so, r, rs, ⟨p, ys, y, zs, ex, ed, hs, hy, hz, q⟩, kq⟩ => by
  subst ex ed
  unfold Rep at r
  obtain ⟨w, ew, r1⟩ := reps1 rs
  obtain ⟨b, us, eb, hb, rb⟩ := seqM_ok so r1 hy
  subst eb
  obtain ⟨⟨vs, hh, rv⟩, _⟩ := so.at_ p _ hs
  refine ⟨p, b, vs, us, r, ew, hh, hb, by rw [rv.length, rb.length]; exact hz, ?_⟩
  have x : Ext H S (upd H p (.lst (vs ++ us))) (S.set p (.lst (ys ++ zs))) := Ext.write hs
  exact kq _ _ _ _ x (so.write hs ⟨_, upd_same, (rv.append rb).ext x⟩) (by unfold Rep; rfl) q
theorem pExtend (ho : DE X A W o t) (ha : DA X A W (e :: es) ta) (hbase : attributeBase o "extend" X.env (eval o X.env) = eval o X.env := by rfl)
    (hfew : ((backTo pos (starEach (e :: es) X.env)).all (fun x => !x.1) && (backToKw pos (keywordEach [] X.env)).all (fun x => x.1.isSome)
      && decide ((e :: es).length + ([] : List Keyword).length + (if ([] : List Keyword).isEmpty then 0 else 1) < 30)) = true := by rfl)
    (hline : (apos.endLine == pos.line) = true := by rfl) (hs : starEach (e :: es) X.env = (false, eval e X.env) :: starEach es X.env := by rfl) (hplain : (backTo pos (starEach es X.env)).any (·.1) = false := by rfl) :
    DE X A W (.Call (.Attribute o "extend" apos) (e :: es) [] pos) (dMt mExtend t ta) := de_bm PySem.F.slot_list_extend PySem.F.type_list_extend md_extend ho ha hbase hfew hline hs hplain
end
end DL

namespace DLc
open PySem PySem.Spec PyProof.Rows

section
variable {prog : Program} {w : World} {A : Around} {E : Value → Shared → Prop} {s : Shared}
theorem ext_signs {R : Result → Shared → Prop} (hd : A.handled = none) (z : Str) (tk0 : Tok) (le : z.cps.size ≤ sizeLine) (S : Addr) (res : Value) {c0 : Nat} (hS : s.heap.get? S = some { cls := .type "list", data := .seq #[] c0 })
    (hR : ∀ h1 tk acc c1, (∀ b o, b ≠ S → s.heap.get? b = some o → h1.get? b = some o) → h1.get? S = some { cls := .type "list", dict := none, data := .seq acc c1, slots := #[] } → ItemsOf (SignAt z) acc z.cps.size → R (.ok (.ret res)) { s with heap := h1, toks := tk }) :
    wpAny (model prog w) A.in1 (Builtin.List.listExtendWith (.ref S) (.str z tk0) res) (fun fin s' => match fin with | .done f => R (.ok f) s' | .again c1 => c1.quiet = true ∧ codeAny (model prog w) A c1 R s') (fun e s' => R (.error e) s') s := by
  have lt : S < s.heap.objs.size := Heap.lt_size hS
  have out : S ∉ [s.heap.objs.size] := fun hm => Nat.ne_of_lt lt (List.mem_singleton.mp hm)
  unfold Builtin.List.listExtendWith
  refine wpAny_bind (wpAny_typeOf (v := .str z tk0) (T := "str") rfl ?_)
  have n1 : Builtin.List.listSameRef (.ref S) (.str z tk0) = false := rfl
  have n2 : (Value.type "str" == Value.type "tuple") = false := by decide
  have n3 : (Value.type "str" == Value.type "list") = false := by decide
  simp only [n1, n2, n3, Bool.false_eq_true, Bool.or_false, if_false]
  refine wpAny_bind (wpAny_pyIter_str fun o St W st => ?_)
  refine wpAny_bind (wpAny_holding ?_)
  unfold Builtin.List.listLengthHint
  refine wpAny_bind (wpAny_specialOf (v := .str z tk0) (T := "str") rfl F.str_len ?_)
  wp_delta
  refine wpAny_bind (wpAny_isInstance (b := true) (T := "str") (v := .str z tk0) rfl (by rw [isSubtype_type]; kernel_rfl) ?_)
  show wpAny _ A.in1 (typeOf (.str z tk0) >>= _) _ _ _
  refine wpAny_bind (wpAny_typeOf (v := .str z tk0) (T := "str") rfl ?_)
  refine wpAny_pure ?_
  rw [if_neg (by decide)]
  refine wpAny_pure ⟨plainId_quiet F.plain_extend_loop _, ?_⟩
  refine codeAny_extend_loopS (W A.in1 hd).toS le S out res z.cps.size 0 _ #[] c0 rfl (Nat.zero_le _) st (Heap.get?_push_of_some _ hS) (ItemsOf.nil _) fun s1 acc c1 mv hS1 items => ?_
  rw [Moved.eq_with mv]
  refine hR _ _ acc c1 (fun b ob hb e => mv.heap b ob (fun m => ?_) (Heap.get?_push_of_some _ e)) hS1 items
  rcases List.mem_cons.mp m with x | x
  · exact hb x
  · exact Nat.lt_irrefl _ ((List.mem_singleton.mp x) ▸ Heap.lt_size e)
theorem init_signs {R : Result → Shared → Prop} (hd : A.handled = none) (z : Str) (tk0 : Tok) (le : z.cps.size ≤ sizeLine) (S : Addr) (hS : s.heap.get? S = some { cls := .type "list", data := .seq #[] })
    (hR : ∀ h1 tk acc c1, (∀ b o, b ≠ S → s.heap.get? b = some o → h1.get? b = some o) → h1.get? S = some { cls := .type "list", dict := none, data := .seq acc c1, slots := #[] } → ItemsOf (SignAt z) acc z.cps.size → R (.ok (.ret .none)) { s with heap := h1, toks := tk }) :
    wpAny (model prog w) A.in1 (Builtin.«list.__init__» ⟨[.ref S, .str z tk0], []⟩) (fun fin s' => match fin with | .done f => R (.ok f) s' | .again c1 => c1.quiet = true ∧ codeAny (model prog w) A c1 R s') (fun e s' => R (.error e) s') s := by
  show wpAny _ _ (Builtin.List.listItems (.ref S) >>= fun old => Builtin.List.listUpdate (.ref S) (fun _ => #[]) >>= fun _ => letGo old.toList.reverse >>= fun _ => Builtin.List.listExtendWith (.ref S) (.str z tk0) .none) _ _ s
  refine wpAny_bind ?_
  unfold Builtin.List.listItems
  refine wpAny_bind (wpAny_seqItems hS rfl (wpAny_pure ?_))
  show wpAny _ _ (updateSeq S (fun _ => #[]) >>= fun _ => letGo ([] : List Value) >>= fun _ => Builtin.List.listExtendWith (.ref S) (.str z tk0) .none) _ _ s
  refine wpAny_bind (wpAny_updateSeq hS rfl (wpAny_bind (wpAny_letGo ?_)))
  refine ext_signs hd z tk0 le S .none (Heap.get?_update_self (Obj.mapSeq (fun _ => (#[] : Array Value))) hS rfl) fun h1 tk acc c1 kp hS1 items => ?_
  exact hR h1 tk acc c1 (fun b o hb e => kp b o hb ((Heap.get?_update_other _ _ (Ne.symm hb)).trans e)) hS1 items
theorem list_signs {Q : Value → Shared → Prop} (hd : A.handled = none) (z : Str) (tk0 : Tok) (le : z.cps.size ≤ sizeLine)
    (hQ : ∀ h1 tk acc c1, (∀ b o, s.heap.get? b = some o → h1.get? b = some o) → h1.get? s.heap.objs.size = some { cls := .type "list", dict := none, data := .seq acc c1, slots := #[] } → ItemsOf (SignAt z) acc z.cps.size → Q (.ref s.heap.objs.size) { s with heap := h1, toks := tk }) :
    wpAny (model prog w) A (call (.type "list") [.str z tk0]) Q E s := by
  refine callType_codes (Q₁ := fun ob s1 => ob = .ref s.heap.objs.size ∧ s1 = { s with heap := s.heap.push { cls := .type "list", data := .seq #[] } }) F.called_list (F.typeCall_list_1 _) F.entry_list_init (code_list_new _ ⟨rfl, rfl⟩) fun ob s1 hx => ?_
  obtain ⟨e1, e2⟩ := hx
  subst e1 e2
  have hS : (s.heap.push { cls := .type "list", data := .seq #[] }).get? s.heap.objs.size = some { cls := .type "list", data := .seq #[] } := Heap.get?_push_size _ rfl
  refine ⟨⟨_, hS, rfl⟩, F.args_list_init_2 _ _, init_signs (A := A.in1) hd z tk0 le _ hS fun h1 tk acc c1 kp hS1 items => ⟨rfl, ?_⟩⟩
  exact hQ h1 tk acc c1 (fun b o e => kp b o (Nat.ne_of_lt (Heap.lt_size e)) (Heap.get?_push_of_some _ e)) hS1 items
end
end DLc
namespace DL
open PySem PySem.Spec PyProof.Rows L2
/-- list(x), x a text, too -/
def rListS (m : Bool) : DRA := fun ds S Q _ => ∃ x xs, ds = [x] ∧ (match x with | .str z => some (z.cps.toList.map chD) | x => seqA S x) = some xs ∧ mkL m xs S Q
section
variable {X : Cx} {A : Cla} {W : WX}
theorem signs_rep {c : Cfg} {L : Lk} {H : Hp} {S : Sto} {z : Str} (hz : SOk z) : ∀ (l : List Nat), (∀ k ∈ l, k ∈ z.cps.toList) → Reps c L H S (l.map chD) (l.map fun k => V.str ⟨#[k]⟩)
  | [], _ => .nil
  | k :: l, h => .cons (by unfold chD Rep; exact ⟨rfl, hz.ch (h k (List.mem_cons_self ..))⟩) (signs_rep hz l fun m hm => h m (List.mem_cons_of_mem _ hm))
theorem cd_listS {m : Bool} (hc : X.calm = true) : CallD X A (.type "list") (rListS m) := by
  intro pins s σ H xs us Q I r ⟨S, L, ds, Qd, so, rs, ⟨x, ys, ed, e, h⟩, kq⟩
  have old : (seqA S x = some ys) → wpAny (model X.prog X.w) X.A (call (.type "list") us) (EP X pins σ Q) X.xe s := fun e' =>
    cd_list (m := m) (A := A) pins s σ H xs us Q I r ⟨S, L, ds, Qd, so, rs, ⟨x, ys, ed, e', h⟩, kq⟩
  cases x with
  | str z =>
    subst ed
    have e : some (z.cps.toList.map chD) = some ys := e
    cases e
    obtain ⟨v, ev, r1⟩ := reps1 rs
    subst ev
    unfold Rep at r1
    obtain ⟨e1, hz⟩ := r1
    subst e1
    obtain ⟨u, eu, ru⟩ := r.one
    subst eu
    obtain ⟨t, et⟩ := ru
    subst et
    refine DLc.list_signs (I.ok.hd hc) z t hz.1 fun h1 tk acc c1 kp e1 items => ?_
    have vals : Vals (z.cps.toList.map fun k => V.str ⟨#[k]⟩) acc.toList := by
      have ln : acc.toList.length = z.cps.toList.length := by
        have := items.1
        simpa using this
      refine vals_of_at (by rw [List.length_map, ln]) fun j x u hx hu => ?_
      obtain ⟨k, tk', hk, eu⟩ := items.2 j u (by rw [← Array.getElem?_toList]; exact hu)
      rw [List.getElem?_map] at hx
      have : z.cps.toList[j]? = some k := by rw [Array.getElem?_toList]; exact hk
      rw [this] at hx
      cases hx
      exact ⟨tk', eu⟩
    have fr := I.hok.fresh (Nat.le_refl _)
    have sz : (z.cps.toList.map fun k => V.str ⟨#[k]⟩).length ≤ sizeLine := by
      have e : z.cps.toList.length = z.cps.size := by simp
      rw [List.length_map, e]
      exact hz.1
    refine ⟨.ref s.heap.objs.size, upd H s.heap.objs.size (.lst (z.cps.toList.map fun k => V.str ⟨#[k]⟩)), I.laid kp (Nat.le_refl _) ⟨sz, acc.toList, c1, vals, by rw [Array.toArray_toList]; exact e1⟩, rfl, ?_⟩
    exact mkL_ok h kq so (signs_rep hz _ fun _ h => h) _ fr
  | _ => exact old e
end
end DL

namespace DLc
open PySem PySem.Spec PyProof.Rows PySem.Calls

section
variable {prog : Program} {w : World} {A : Around} {E : Value → Shared → Prop} {s : Shared} {K : PySem.W.Frag} {x C f : Addr} {ox : Obj} {od : Option Obj} {b tb : Value}
theorem ne_entry {Q : Fin → Shared → Prop} (hu : A.units < cLine) (X : K.In s.heap) (I : PySem.W.InstAt s.heap x ox C od) (he : PySem.W.findIn K (.ref C) "__eq__" = some (some (.ref f))) (hf : PySem.W.isFn K (.ref f) = true)
    (h : wpAny (model prog w) A (call (.ref f) [.ref x, b]) (fun v s1 => ∃ k, v = .bool k ∧ Q (.done (.ret (.bool (!k)))) s1) E s) : wpAny (model prog w) A (Builtin.«object.__ne__» ⟨[.ref x, b], []⟩) Q E s := by
  unfold Builtin.«object.__ne__»
  refine wpAny_bind (m := slotArgs "__ne__" 1 _) (wpAny_pure ?_)
  refine wpAny_bind (m := cRoomFor _ _) (wpAny_cRoomFor hu ?_)
  refine wpAny_bind (m := callSpecialIfBound? (.ref x) (Str.ofString "__eq__") _) (PySem.W.ifBound_K X I he hf (wpAny_mono h (fun v s1 hq => ?_) fun _ _ y => y))
  obtain ⟨k, ev, q⟩ := hq
  subst ev
  exact wpAny_bind (wpAny_truthy_bool (wpAny_pure q))
theorem ne_call {Q : Value → Shared → Prop} (hu : A.in1.units < cLine) (X : K.In s.heap) (I : PySem.W.InstAt s.heap x ox C od) (hm : PySem.W.mroIn K C (.type "object") = some true) (he : PySem.W.findIn K (.ref C) "__eq__" = some (some (.ref f))) (hf : PySem.W.isFn K (.ref f) = true)
    (h : wpAny (model prog w) A.in1 (call (.ref f) [.ref x, b]) (fun v s1 => ∃ k, v = .bool k ∧ Q (.bool (!k)) s1) E s) : wpAny (model prog w) A (call (.builtin "object.__ne__") [.ref x, b]) Q E s :=
  wpAny_call (codeAny_call_builtin F.cmp_object.ne.plain F.cmpEntry_ne (PySem.W.check_slot F.cmpKind_ne F.cmpSplit_ne (I.type.andThen (PySem.W.looks_mroIn X hm)) (F.cmpArgs_ne _ _) (ne_entry hu X I he hf (wpAny_mono h (fun v s1 ⟨k, e, q⟩ => ⟨k, e, q⟩) fun _ _ y => y))))
theorem ne_bound {args : List Value} {Q : Option Value → Shared → Prop} (X : K.In s.heap) (I : PySem.W.InstAt s.heap x ox C od) (hs : PySem.W.findIn K (.ref C) "__ne__" = some (some (.builtin "object.__ne__")))
    (h : wpAny (model prog w) A (call (.builtin "object.__ne__") (.ref x :: args)) (fun v => Q (some v)) E s) : wpAny (model prog w) A (callSpecialIfBound? (.ref x) "__ne__" args) Q E s := by
  simp only [callSpecialIfBound?, bindSpecialIfBound?]
  refine wpAny_holding (wpAny_bind (wpAny_bind (wpAny_bind (I.type.here ((PySem.W.looks_findIn X hs).here ?_)))))
  have done : wpAny (model prog w) A (call (.builtin "object.__ne__") ([.ref x] ++ args) >>= fun v => pure (some v)) Q E s := wpAny_bind (wpAny_mono h (fun _ _ y => wpAny_pure y) fun _ _ y => y)
  refine wpAny_bind (wpAny_askSetting (wpAny_ite ?_))
  split
  · exact wpAny_bind (wpAny_of_eq (F.cmp_object.ne.bind _) (wpAny_pure (by exact done)))
  · exact wpAny_tryCatch (wpAny_bind (wpAny_of_eq (F.cmp_object.ne.bind _) (wpAny_pure (by exact done))))
theorem rc_ne {Q : Value → Shared → Prop} (hu : A.in1.units < cLine) (X : K.In s.heap) (I : PySem.W.InstAt s.heap x ox C od) (hb : PySem.W.Looks (model prog w) s.heap (typeOf b) tb) (hn : PySem.W.notFirst K C tb = true) (hm : PySem.W.mroIn K C (.type "object") = some true)
    (hs : PySem.W.findIn K (.ref C) "__ne__" = some (some (.builtin "object.__ne__"))) (he : PySem.W.findIn K (.ref C) "__eq__" = some (some (.ref f))) (hf : PySem.W.isFn K (.ref f) = true)
    (h : wpAny (model prog w) A.in1 (call (.ref f) [.ref x, b]) (fun v s1 => ∃ k, v = .bool k ∧ Q (.bool (!k)) s1) E s) : wpAny (model prog w) A (richCompare .NotEq (.ref x) b) Q E s := by
  have once : wpAny (model prog w) A (tryCompare (.ref x) "__ne__" b) (fun r s1 => ∃ k, r = some (.bool k) ∧ Q (.bool k) s1) E s := by
    unfold tryCompare
    refine wpAny_bind (ne_bound X I hs (ne_call hu X I hm he hf (wpAny_mono h (fun v s1 ⟨k, e, q⟩ => ⟨k, e, ?_⟩) fun _ _ y => y)))
    exact wpAny_pure ⟨!k, rfl, q⟩
  have hu1 : A.units < cLine := Nat.lt_of_succ_lt hu
  simp only [richCompare, cmpInfo_NotEq, oneThing_ref]
  refine wpAny_holding (wpAny_bind (wpAny_cRoomFor hu1 ?_))
  refine wpAny_bind (I.type.here (wpAny_bind (hb.here ?_)))
  split
  · rename_i q
    have e : PySem.W.subIn K tb (.ref C) = some false := by
      rcases Bool.or_eq_true_iff.mp hn with e | e
      · rw [beq_iff_eq.mp e] at q; simp at q
      · exact beq_iff_eq.mp e
    refine wpAny_bind ((PySem.W.looks_subIn X e).here ?_)
    rw [if_neg Bool.false_ne_true]
    refine wpAny_bind (m := tryCompare (.ref x) _ b) (wpAny_mono once (fun r s1 z => ?_) fun _ _ y => y)
    obtain ⟨k, er, hq⟩ := z
    subst er
    exact wpAny_pure hq
  · refine wpAny_bind (wpAny_pure ?_)
    rw [if_neg Bool.false_ne_true]
    refine wpAny_bind (m := tryCompare (.ref x) _ b) (wpAny_mono once (fun r s1 z => ?_) fun _ _ y => y)
    obtain ⟨k, er, hq⟩ := z
    subst er
    exact wpAny_pure hq
end
end DLc

namespace DL
open PySem PySem.Spec PyProof.Rows L2

/-- x != y by the class's == -/
def ownNe (C : Nat) (sp : DSp) (ok : Ty → Bool) : DR2 := fun x y S Q E => isC S C x ∧ (∃ T, tyN S y = some T ∧ ok T = true) ∧ sp [x, y] S (bkTru not Q) E
/-- what the right side of a comparison may be -/
structure CmpOk (K : PySem.W.Frag) (A : Cla) (C : Nat) (ok : Ty → Bool) : Prop where
  nf : ∀ T, ok T = true → PySem.W.notFirst K (A.cA C) (T.val A.cA) = true
  ck : ∀ C, ok (.own C) = true → ClsOk K (A.cA C)
theorem notFirst_self {K : PySem.W.Frag} {C : Addr} : PySem.W.notFirst K C (.ref C) = true := by
  unfold PySem.W.notFirst
  rw [beq_self_eq_true, Bool.true_or]
theorem notFirst_sub {K : PySem.W.Frag} {C : Addr} {t : Value} (h : PySem.W.subIn K t (.ref C) = some false) : PySem.W.notFirst K C t = true := by
  unfold PySem.W.notFirst
  rw [h]
  exact Bool.or_true _
section
variable {X : Cx} {A : Cla} {W : WX} {e a b o : Expr} {es : List Expr} {pos p apos : Pos} {t u : DT} {ta : DTA} {R : DR2} {f : Addr} {k C : Nat} {sp : DSp}
theorem ox_ne {ok : Ty → Bool} (d : Dn X.K (A.cA C) "__eq__" f) (hs : PySem.W.findIn X.K (.ref (A.cA C)) "__ne__" = some (some (.builtin "object.__ne__"))) (hck : ClsOk X.K (A.cA C)) (F : FnD X.prog X.w (cX X A) X.mg X.base k f sp) (m : Rm (k + 1) X.A) (tk : Takes X W)
    (c : CmpOk X.K A C ok) : OpX X A W (compareOp .NotEq) (ownNe C sp ok) := by
  intro pins s σ H x y v w Q I rx ry ⟨S, L, dx, dy, Qd, Ed, so, r1, r2, ⟨⟨xs, hi⟩, ⟨T, hT, hk⟩, q⟩, kq, kx⟩
  obtain ⟨p0, dd, vs, ev, hp, _⟩ := insOf_ok so r1 hi
  subst ev
  have eu : v = Value.ref p0 := rx
  subst eu
  obtain ⟨ox, od, J⟩ := inst_of I hp
  show wpAny _ _ (richCompare .NotEq (.ref p0) w) _ _ _
  refine DLc.rc_ne (by have := m.r.un; show X.A.units + 1 < _; omega) I.kIn J (ty_looks I so r2 ry hT fun C' e => c.ck C' (by rw [← e]; exact hk)) (c.nf T hk) hck.hm hs d.at_ d.fn ?_
  refine wpAny_mono (run_at rfl F m.in1 tk I (Q := fun z H' => ∃ b, z = .bl b ∧ Q (.bl (!b)) H') (.cons rx (.cons ry .nil)) ⟨[dx, dy], S, L, bkTru not Qd, Ed, so, .cons r1 (.cons r2 .nil), q, fun z H' dz S' e' so' rz ⟨b, ez, q'⟩ => ⟨b, by subst ez; unfold Rep at rz; exact rz, kq _ H' _ S' e' so' rep_bl q'⟩, kx⟩)
    (fun z s' ⟨zv, H', I', rz, b, ez, q'⟩ => ?_) fun _ _ h => h
  subst ez
  have eb : z = Value.bool b := rz
  exact ⟨b, eb, .bl (!b), H', I', rfl, q'⟩
/-- x[i], x of one's own -/
theorem de_idxO (d : Dn X.K (A.cA C) "__getitem__" f) (hfn : PySem.W.fnIn X.K f = true) (F : FnD X.prog X.w (cX X A) X.mg X.base k f sp) (m : Rm (k + 1) X.A) (tk : Takes X W) (ha : DE X A W a t) (hb : DE X A W b u)
    (hs : ∀ o i, subscripted b true o i = runValue (.builtin "lifetime.subscript" ⟨[o, i], []⟩)) : DE X A W (.Subscript a b pos) (dOpX (ownL C sp bkAny) t u) := by
  refine ⟨fun pins s σ H Q I h => Subscript_ (two_run ha hb I h fun v w s2 x y H2 I2 rx ry ⟨S, L, dx, dy, Qd, Ed, so, r1, r2, ⟨⟨xs, hi⟩, q⟩, kq, kx⟩ => ?_)⟩
  obtain ⟨p0, dd, vs, ev, hp, _⟩ := insOf_ok so r1 hi
  subst ev
  have eu : v = Value.ref p0 := rx
  subst eu
  obtain ⟨ox, od, J⟩ := inst_of I2 hp
  obtain ⟨mm, hF⟩ := I2.fr
  refine PySem.W.sub_K hF I2.ok.mod.kin J d.at_ hfn d.fn ?_ (hs _ _)
  exact run_at rfl F m.in1 tk I2 (.cons rx (.cons ry .nil)) ⟨[dx, dy], S, L, Qd, Ed, so, .cons r1 (.cons r2 .nil), q, kq, kx⟩
end
/-! ### by the tables -/
section
variable {P : Program} {w : World} {K : PySem.W.Frag} {A : Cla} {mg : Str → Option Value} {base : Heap} {N : List Str} {sc : Scope} {fo : Str → Bool} {lv : Nat} {X : Cx} {W : WX} {e a b o : Expr} {es : List Expr} {pos p apos : Pos} {t u tf : DT} {ta : DTA} {x m : Str} {f g : Addr} {k C : Nat} {sp : DSp} {ok : Ty → Bool} {mc : Value} {pl : Sem Bool}
theorem In.lenO (h : In P w K mg base N sc fo lv X W) (d : Dn K (A.cA C) "__len__" f) (F : FnD P w (cc K A) mg base k f sp) (hk : k + 1 ≤ lv) (hg : glB sc "len" = true) (hm : mg "len" = none) (ha : DA X A W (e :: es) ta)
    (he : starEach (e :: es) X.env = (false, eval e X.env) :: starEach es X.env := by rfl) (hpl : (backTo pos (starEach es X.env)).any (·.1) = false := by rfl) : DE X A W (.Call (.Name "len" p) (e :: es) [] pos) (dOwn1 C sp bkLen ta) := by
  have g := h.gl hg
  have := h.eM; subst this
  have := h.eP; subst this
  have := h.eW; subst this
  have := h.eK; subst this
  have := h.eB; subst this
  exact de_lenO d F (h.rm.mono hk) h.tk g hm ha he hpl
theorem In.cmpO {op : CmpOp} (h : In P w K mg base N sc fo lv X W) (d : Dn K (A.cA C) (cmpInfo op).2.1 f) (F : FnD P w (cc K A) mg base k f sp) (hk : k ≤ lv) (c : CmpOk K A C ok) (hop : ∀ a b, compareOp op a b = richCompare op a b := by intro _ _; rfl) : OpX X A W (compareOp op) (ownCmp C sp ok) := by
  have := h.eM; subst this
  have := h.eP; subst this
  have := h.eW; subst this
  have := h.eK; subst this
  have := h.eB; subst this
  exact ox_cmp hop d F (h.rm.mono hk) h.tk c.nf c.ck
theorem In.neO (h : In P w K mg base N sc fo lv X W) (d : Dn K (A.cA C) "__eq__" f) (hs : PySem.W.findIn K (.ref (A.cA C)) "__ne__" = some (some (.builtin "object.__ne__"))) (hck : ClsOk K (A.cA C)) (F : FnD P w (cc K A) mg base k f sp) (hk : k + 1 ≤ lv) (c : CmpOk K A C ok) : OpX X A W (compareOp .NotEq) (ownNe C sp ok) := by
  have := h.eM; subst this
  have := h.eP; subst this
  have := h.eW; subst this
  have := h.eK; subst this
  have := h.eB; subst this
  exact ox_ne d hs hck F (h.rm.mono hk) h.tk c
theorem In.inO (h : In P w K mg base N sc fo lv X W) (d : Dn K (A.cA C) "__contains__" f) (F : FnD P w (cc K A) mg base k f sp) (hk : k ≤ lv) : OpX X A W (compareOp .In) (ownR C sp (bkTru id)) := by
  have := h.eM; subst this
  have := h.eP; subst this
  have := h.eW; subst this
  have := h.eK; subst this
  have := h.eB; subst this
  exact ox_in d F (h.rm.mono hk) h.tk
theorem In.ninO (h : In P w K mg base N sc fo lv X W) (d : Dn K (A.cA C) "__contains__" f) (F : FnD P w (cc K A) mg base k f sp) (hk : k ≤ lv) : OpX X A W (compareOp .NotIn) (ownR C sp (bkTru not)) := by
  have := h.eM; subst this
  have := h.eP; subst this
  have := h.eW; subst this
  have := h.eK; subst this
  have := h.eB; subst this
  exact ox_nin d F (h.rm.mono hk) h.tk
theorem In.binO {op : Operator} (h : In P w K mg base N sc fo lv X W) (d : Dn K (A.cA C) (PySem.dunder op.info.2) f) (hc : PySem.W.selfFirst K (A.cA C) = true) (ck : ClsOk K (A.cA C)) (F : FnD P w (cc K A) mg base k f sp) (hk : k ≤ lv) : OpX X A W (binaryOp op) (ownBin C sp) := by
  have := h.eM; subst this
  have := h.eP; subst this
  have := h.eW; subst this
  have := h.eK; subst this
  have := h.eB; subst this
  exact ox_bin d hc ck F (h.rm.mono hk) h.tk
theorem In.idxO (h : In P w K mg base N sc fo lv X W) (d : Dn K (A.cA C) "__getitem__" f) (hfn : PySem.W.fnIn K f = true) (F : FnD P w (cc K A) mg base k f sp) (hk : k + 1 ≤ lv) (ha : DE X A W a t) (hb : DE X A W b u)
    (hs : ∀ o i, subscripted b true o i = runValue (.builtin "lifetime.subscript" ⟨[o, i], []⟩) := by intro _ _; rfl) : DE X A W (.Subscript a b pos) (dOpX (ownL C sp bkAny) t u) := by
  have := h.eM; subst this
  have := h.eP; subst this
  have := h.eW; subst this
  have := h.eK; subst this
  have := h.eB; subst this
  exact de_idxO d hfn F (h.rm.mono hk) h.tk ha hb hs
theorem In.meth (h : In P w K mg base N sc fo lv X W) (he : DE X A W o t) (c : ClsOk K (A.cA C)) (hm : Meth K (A.cA C) m f) (nf : m ∉ A.fl C) (F : FnD P w (cc K A) mg base k f sp) (hk : k ≤ lv) (ha : DA X A W (e :: es) ta)
    (hst : starEach (e :: es) X.env = (false, eval e X.env) :: starEach es X.env := by rfl) (hpl : (backTo pos (starEach es X.env)).any (·.1) = false := by rfl)
    (ht : eval (.Call (.Attribute o m apos) (e :: es) [] pos) X.env = (do
      let ov ← eval o X.env
      standAt apos.atName
      let (f, first) ← holding [ov] (getMethod ov m pl)
      callWith pos f first (backTo pos (starEach (e :: es) X.env)) (backToKw pos (keywordEach [] X.env))) := by rfl) : DE X A W (.Call (.Attribute o m apos) (e :: es) [] pos) (dMeth C sp t ta) := by
  have := h.eM; subst this
  have := h.eP; subst this
  have := h.eW; subst this
  have := h.eK; subst this
  have := h.eB; subst this
  exact de_meth he c.cl hm nf F (h.rm.mono hk) h.tk ha hst hpl ht
theorem In.meth0 (h : In P w K mg base N sc fo lv X W) (he : DE X A W o t) (c : ClsOk K (A.cA C)) (hm : Meth K (A.cA C) m f) (nf : m ∉ A.fl C) (F : FnD P w (cc K A) mg base k f sp) (hk : k ≤ lv)
    (ht : eval (.Call (.Attribute o m apos) [] [] pos) X.env = (do
      let ov ← eval o X.env
      standAt apos.atName
      let (f, first) ← holding [ov] (getMethod ov m pl)
      callWith pos f first (backTo pos (starEach [] X.env)) (backToKw pos (keywordEach [] X.env))) := by rfl) : DE X A W (.Call (.Attribute o m apos) [] [] pos) (dMeth C sp t dNil) := by
  have := h.eM; subst this
  have := h.eP; subst this
  have := h.eW; subst this
  have := h.eK; subst this
  have := h.eB; subst this
  exact de_meth0 he c.cl hm nf F (h.rm.mono hk) h.tk ht
theorem In.cmet (h : In P w K mg base N sc fo lv X W) (hg : glB sc x = true) (hx : mg x = some (.ref (A.cA C))) (r : ClX.CRead K (A.cA C) mc) (c : ClX.CMet K (A.cA C) mc m f g) (F : FnD P w (cc K A) mg base k g sp) (hk : k ≤ lv) (ha : DA X A W (e :: es) ta)
    (hst : starEach (e :: es) X.env = (false, eval e X.env) :: starEach es X.env := by rfl) (hpl : (backTo pos (starEach es X.env)).any (·.1) = false := by rfl)
    (ht : eval (.Call (.Attribute (.Name x p) m apos) (e :: es) [] pos) X.env = (do
      let ov ← eval (.Name x p) X.env
      standAt apos.atName
      let (f, first) ← holding [ov] (getMethod ov m pl)
      callWith pos f first (backTo pos (starEach (e :: es) X.env)) (backToKw pos (keywordEach [] X.env))) := by rfl) : DE X A W (.Call (.Attribute (.Name x p) m apos) (e :: es) [] pos) (dCMet C sp ta) := by
  have g := h.gl hg
  have := h.eM; subst this
  have := h.eP; subst this
  have := h.eW; subst this
  have := h.eK; subst this
  have := h.eB; subst this
  exact de_cmet g hx (glB_ok hg).2.1 r c F (h.rm.mono hk) h.tk ha hst hpl ht
theorem In.makeS {mm : Bool} {sp0 : Pos} (h : In P w K mg base N sc fo lv X W) (M : Mk K (A.cA C) f) (F : FnD P w (cc K A) mg base k f sp) (hk : k + 1 ≤ lv) (hf : DE X A W (.Name x p) tf) (he : DE X A W e t) (hst : starEach [.Starred e sp0] X.env = [(true, eval e X.env)] := by rfl) :
    DE X A W (.Call (.Name x p) [.Starred e sp0] [] pos) (dMakeS C mm sp tf t) := by
  have := h.eM; subst this
  have := h.eP; subst this
  have := h.eW; subst this
  have := h.eK; subst this
  have := h.eB; subst this
  exact de_makeS M F (h.rm.mono hk) h.tk hf he hst
end
end DL

namespace DL
open PySem PySem.Spec PyProof.Rows L2

/-! ### more equations -/
section
variable {S : Sto} {Q : DQ} {E : DX} {i j : Int} {a b : Str} {xs ys : List D} {p : Addr} {x y : D} {m : Bool}
theorem x_ext : mExtend (.ref p) [y] S Q = ∃ xs zs, S p = some (.lst xs) ∧ seqM S y = some zs ∧ xs.length + zs.length ≤ sizeLine ∧ Q .non (S.set p (.lst (xs ++ zs))) := by
  apply propext
  constructor
  · rintro ⟨p', xs, y', zs, e1, e2, h⟩
    cases e1
    cases e2
    exact ⟨xs, zs, h⟩
  · rintro ⟨xs, zs, h⟩
    exact ⟨p, xs, y, zs, rfl, rfl, h⟩
theorem sm_lst : seqM S (.lst xs) = some xs := rfl
theorem sa_lst : seqA S (.lst xs) = some xs := rfl
theorem sa_tup : seqA S (.tup xs) = some xs := rfl
theorem sa_cst : seqA S (.cst xs) = some xs := rfl
theorem x_lists : rListS m [.str a] S Q E = mkL m (a.cps.toList.map chD) S Q := by
  apply propext
  constructor
  · rintro ⟨x, zs, e1, e2, h⟩
    cases e1
    have e2 : some (a.cps.toList.map chD) = some zs := e2
    cases e2
    exact h
  · exact fun h => ⟨_, _, rfl, rfl, h⟩
theorem x_listl : rListS m [.lst xs] S Q E = mkL m xs S Q := by
  apply propext
  constructor
  · rintro ⟨x, zs, e1, e2, h⟩
    cases e1
    cases e2
    exact h
  · exact fun h => ⟨_, _, rfl, rfl, h⟩
theorem x_listt : rListS m [.tup xs] S Q E = mkL m xs S Q := by
  apply propext
  constructor
  · rintro ⟨x, zs, e1, e2, h⟩
    cases e1
    cases e2
    exact h
  · exact fun h => ⟨_, _, rfl, rfl, h⟩
theorem x_tupl : rTupD [.lst xs] S Q E = Q (.tup xs) S := by
  apply propext
  constructor
  · rintro ⟨x, zs, e1, e2, h⟩
    cases e1
    cases e2
    exact h
  · exact fun h => ⟨_, _, rfl, rfl, h⟩
theorem x_tupt : rTupD [.tup xs] S Q E = Q (.tup xs) S := by
  apply propext
  constructor
  · rintro ⟨x, zs, e1, e2, h⟩
    cases e1
    cases e2
    exact h
  · exact fun h => ⟨_, _, rfl, rfl, h⟩
theorem len_ref (h : S p = some (.lst xs)) : lenD S (.ref p) = some xs.length := by
  show ((match S p with | some (.lst xs) => some xs | _ => none).map List.length) = _
  rw [h]
  rfl
theorem si_ref (h : S p = some (.lst xs)) : seqI S (.ref p) = some (xs, fun S' => S' p = some (.lst xs)) := by
  unfold seqI
  simp only [h]
theorem sa_ref (h : S p = some (.lst xs)) : seqA S (.ref p) = some xs := by
  show (match S p with | some (.lst xs) => some xs | _ => none) = _
  rw [h]
theorem sm_ref (h : S p = some (.lst xs)) : seqM S (.ref p) = some xs := by
  show (match S p with | some (.lst xs) => some xs | _ => none) = _
  rw [h]
theorem io_ins {C : Nat} : insOf S (.ins C xs) = some (C, xs) := rfl
theorem x_muls : rBin false .Mult (.lst xs) (.int i) S Q E = (-(2 ^ 63) ≤ i ∧ i < 2 ^ 63 ∧ xs.length * i.toNat ≤ sizeLine ∧ Q (.lst (List.replicate i.toNat xs).flatten) S) := by
  apply propext
  constructor
  · rintro ⟨a, k, e1, e2, h1, h2, h3, h⟩
    cases e1
    cases e2
    exact ⟨h1, h2, h3, h⟩
  · rintro ⟨h1, h2, h3, h⟩
    exact ⟨xs, i, rfl, rfl, h1, h2, h3, h⟩
end
end DL

namespace DL
open PySem PySem.Spec PyProof.Rows L2

/-! ### own errors over a built-in error -/
structure ErrB (B newId initId : String) (bmB : List Value) : Prop where
  F : ExcBaseFacts B newId initId bmB
  KF : PySem.W.KxsFacts B initId
  SF : StoreFacts B bmB "object.__setattr__" "object"
theorem err_value : ErrB "ValueError" "ValueError.__new__" "ValueError.__init__" [.type "ValueError", .type "Exception", .type "BaseException", .type "object"] := ⟨PySem.F.excBase_ValueError, PySem.W.kxs_ValueError, PySem.F.store_ValueError⟩
theorem err_lookup : ErrB "LookupError" "LookupError.__new__" "LookupError.__init__" [.type "LookupError", .type "Exception", .type "BaseException", .type "object"] := ⟨PySem.F.excBase_LookupError, PySem.W.kxs_LookupError, PySem.F.store_LookupError⟩
theorem err_runtime : ErrB "RuntimeError" "RuntimeError.__new__" "RuntimeError.__init__" [.type "RuntimeError", .type "Exception", .type "BaseException", .type "object"] := ⟨PySem.F.excBase_RuntimeError, PySem.W.kxs_RuntimeError, PySem.F.store_RuntimeError⟩
theorem err_overflow : ErrB "OverflowError" "OverflowError.__new__" "OverflowError.__init__" [.type "OverflowError", .type "ArithmeticError", .type "Exception", .type "BaseException", .type "object"] := ⟨PySem.F.excBase_OverflowError, PySem.W.kxs_OverflowError, PySem.F.store_OverflowError⟩

section
open PySem.W Builtin Builtin.ObjectAttr
variable {prog : Program} {w : World} {A : Around} {E : Value → Shared → Prop} {hp : Heap} {g : Array GenState} {d : Drawn} {t : Nat} {os : OsState} {K : Frag} {C x : Addr} {B : String} {bmB : List Value} {name : Str} {v : Value} {Q : Unit → Shared → Prop} {fv : Array Value}
/-- the first field of an error that is being made -/
theorem set_first (SF : StoreFacts B bmB "object.__setattr__" "object") (X : K.In hp) (sa : findIn K (.ref C) "__setattr__" = some (some (.builtin "object.__setattr__"))) (ov : excOver K C bmB = true) (hh : hasDictIn K C = true) (ht : takerIn K C name = some none)
    (hx : hp.get? x = some { cls := .ref C, data := .fields fv })
    (hq : ∀ h' tk' dx, (∀ b o, b ≠ x → hp.get? b = some o → h'.get? b = some o) → hp.objs.size ≤ dx → dx ≠ x → h'.get? x = some { cls := .ref C, dict := some dx, data := .fields fv } →
      h'.Ns1 dx (fun y => if y = name then some v else none) → Q () ⟨h', g, d, tk', os⟩) : wpAny (model prog w) A (setAttr (.ref x) name v) Q E ⟨hp, g, d, t, os⟩ := by
  have hxs : x ≠ hp.objs.size := Nat.ne_of_lt (Heap.lt_size hx)
  obtain ⟨cd, hc, hd'⟩ := any_some hh
  refine set_plain (od := none) X ⟨hx, rfl, rfl, trivial⟩ sa (osa_openX (od := none) SF X ⟨hx, rfl, rfl, trivial⟩ ov ht fun b => ?_)
  have hcls : Looks (model prog w) hp (classData C) cd := looks_clsIn X hc
  obtain ⟨nm, bs, mro, ns, qn, hd, sn, sb, ab, col, del⟩ := cd
  dsimp only at hd'
  subst hd'
  show wpAny _ _ (storeInOwnDict (.ref x) (.ref C) (.str name _) name v b) _ _ _
  unfold storeInOwnDict ownDictForStores
  repeat (first | with_reducible refine HandSPX.store_in_new ?_ ?_ | with_reducible refine wpAny_loadPart_at hx ?_ | with_reducible refine hcls.at ?_ | wp_step)
  · exact ⟨_, #[], _, (Heap.get?_update_ne _ _ _ _ hxs.symm).trans (Heap.get?_push_at rfl rfl), rfl, fun e he => absurd he (by simp), fun _ => rfl⟩
  · intro h' tk' hn' hs
    have hx₁ : (hp.push { cls := .type "dict", data := .dict #[] }).get? x = some { cls := .ref C, data := .fields fv } := Heap.get?_push_of_some _ hx
    refine hq h' _ hp.objs.size (fun b o hb ho => ?_) (Nat.le_refl _) hxs.symm ?_ hn'
    · exact (hs.2 b (Nat.ne_of_lt (Heap.lt_size ho))).trans ((Heap.get?_update_ne _ _ _ _ hb).trans (Heap.get?_push_of_some _ ho))
    · exact (hs.2 x hxs).trans (Heap.get?_update_self _ hx₁ rfl)
/-- a further field -/
theorem set_next {dx : Addr} {m0 : Str → Option Value} {nl : List Str} (SF : StoreFacts B bmB "object.__setattr__" "object") (X : K.In hp) (sa : findIn K (.ref C) "__setattr__" = some (some (.builtin "object.__setattr__"))) (ov : excOver K C bmB = true) (hh : hasDictIn K C = true) (ht : takerIn K C name = some none)
    (hx : hp.get? x = some { cls := .ref C, dict := some dx, data := .fields fv }) (hns : hp.Ns1 dx m0) (hw : Within m0 nl) (hz : nl.length ≤ 1000)
    (hq : ∀ h' tk', (∀ b o, b ≠ dx → hp.get? b = some o → h'.get? b = some o) → h'.Ns1 dx (fun y => if y = name then some v else m0 y) → Q () ⟨h', g, d, tk', os⟩) : wpAny (model prog w) A (setAttr (.ref x) name v) Q E ⟨hp, g, d, t, os⟩ := by
  obtain ⟨oD, esD, epD, hoD, hdD, _⟩ := hns.count hw
  obtain ⟨cd, hc, hd'⟩ := any_some hh
  refine set_plain (od := some oD) X ⟨hx, rfl, rfl, hoD⟩ sa (osa_openX (od := some oD) SF X ⟨hx, rfl, rfl, hoD⟩ ov ht fun b => ?_)
  have hcls : Looks (model prog w) hp (classData C) cd := looks_clsIn X hc
  obtain ⟨nm, bs, mro, ns, qn, hd, sn, sb, ab, col, del⟩ := cd
  dsimp only at hd'
  subst hd'
  show wpAny _ _ (storeInOwnDict (.ref x) (.ref C) (.str name _) name v b) _ _ _
  unfold storeInOwnDict ownDictForStores
  repeat (first | with_reducible refine PySem.OEX.store_in_old hns hw hz ?_ | with_reducible refine wpAny_loadPart_at hx ?_ | with_reducible refine hcls.at ?_ | wp_step)
  intro h' tk' hn' hs
  exact hq h' _ (fun b o hb ho => (hs.2 b hb).trans ho) hn'
end
end DL

namespace DL
open PySem PySem.Spec PyProof.Rows L2

section
open PySem.W PySem.Calls
variable {prog : Program} {w : World} {A : Around} {E : Value → Shared → Prop} {h : Heap} {g : Array GenState} {d : Drawn} {t : Nat} {os : OsState}
variable {nm q : Str} {C N : Addr} {bs bm bmB : List Value} {hdct : Bool} {sn : List Str} {sub : List Value} {ab : Bool} {col : Option Bool} {dd : Option Addr} {k0 k1 k2 k3 k5 : Option Value} {B newId initId : String}
/-- the bound built-in __init__ called -/
theorem call_mw (EB : ErrB B newId initId bmB) {u e t0 : Addr} {rest : List Value} {Q : Value → Shared → Prop}
    (hC : h.get? C = some (excClassObj nm q C N bs bm hdct sn sub ab col dd k0 k1 k2 k3 k5 newId)) (he : h.get? e = some (HandSPX.excO C t0)) (hu : h.get? u = some (kxs_mw initId e)) (hrest : rest.length ≤ sizeLine)
    (hq : ∀ h' t1, (∀ b o, b ≠ e → h.get? b = some o → h'.get? b = some o) → h'.get? e = some (HandSPX.excO C t1) → Q .none ⟨h', g, d, t, os⟩) :
    wpAny (model prog w) A (call (.ref u) rest) Q E ⟨h, g, d, t, os⟩ := by
  refine wpAny_call (codeAny_of_tree ?_)
  show wpAny _ A.in1 (callAny (.ref u) ⟨rest, []⟩) _ _ _
  simp only [callAny]
  refine wpAny_bind (wpAny_load hu ?_)
  simp only [kxs_mw, show (Value.type "method-wrapper" == Value.type "method" || Value.type "method-wrapper" == Value.type "builtin_function_or_method" || Value.type "method-wrapper" == Value.type "method-wrapper") = true by decide, if_true]
  refine W.KFB.if_so (by decide) ?_
  refine wpAny_bind (ESX.check_bound EB.F hC he rfl ?_)
  refine wpAny_bind (wpAny_pure (wpAny_pure ?_))
  refine ⟨plainId_quiet EB.F.init.plain _, codeAny_builtin EB.F.initEntry ?_⟩
  rw [Around.under_plainId EB.F.init.plain _]
  refine exc_init_tree (cls := .ref C) (t0 := t0) (dv := none) (c2 := .none) (c3 := .none) (b4 := .bool false) he hrest fun h' k' e' t' => ?_
  exact hq h' h.objs.size k' e'
end
end DL

namespace DL
open PySem PySem.Spec PyProof.Rows L2

/-- what the written part says of an own error's class and its __init__ -/
structure ErrC (K : PySem.W.Frag) (file : Str) (C fI cda cc : Addr) (B newId initId : String) (bmB : List Value) : Prop where
  eb : ErrB B newId initId bmB
  q : PySem.W.excInitIn K C bmB newId = true
  ov : PySem.W.excOver K C bmB = true
  hd : PySem.W.hasDictIn K C = true
  sa : PySem.W.findIn K (.ref C) "__setattr__" = some (some (.builtin "object.__setattr__"))
  sup : PySem.W.ks_superIn K C C "__init__" = some (some (.builtin initId))
  sB : PySem.W.subIn K (.ref C) (.type B) = some true
  mro : PySem.W.mroIn K C (.ref C) = some true
  opq : PySem.W.nsIn K cStatics "thirdparty.any" = some none
  cls : (PySem.W.clsIn K C).isSome = true
  cell : ∃ cl cld csl, K.lookup cc = some ⟨cl, cld, .cell (some (.ref C)), csl⟩
  code : ∃ ccl cdd vs ccs tf, K.lookup cda = some ⟨ccl, cdd, .fields vs, ccs⟩ ∧ vs[2]? = some (.str file tf)

section
open PySem.W PySem.Calls
variable {prog : Program} {w : World} {A : Around} {E : Value → Shared → Prop} {h : Heap} {g : Array GenState} {d : Drawn} {t : Nat} {os : OsState}
variable {K : Frag} {C fI cda cc e L t0 : Addr} {B newId initId : String} {bmB : List Value} {file : Str} {mg mb m : Str → Option Value} {qual : Str} {scope : Scope} {fd : FuncData} {oc : Value} {od : Option Addr} {osl : Array (Option Value)}
/-- super().__init__(text) -/
theorem super_stmt (T : ErrC K file C fI cda cc B newId initId bmB) (X : K.In h) (hf : K.lookup fI = some ⟨oc, od, .func fd, osl⟩) {ar : Arg} (hp : (fd.params.posonlyargs ++ fd.params.args).head? = some ar)
    (hns : h.Ns L m) (hv : m ar.arg = some (.ref e)) (he : h.get? e = some (HandSPX.excO C t0)) (hG : h.Ns mainGlobals mg) (hm : mg "super" = none) (hB : h.Ns builtinsNs mb) (hb : mb "super" = some (.type "super"))
    (hfile : ((prog.main.file : Str) == file) = true) (htop : (prog.main.scope.names.lookup ("super" : Str)).isSome = false)
    (hks : scope.names.lookup ("super" : Str) = some .globalImplicit) (hkc : scope.names.lookup ("__class__" : Str) = some .free) (hka : scope.names.lookup ar.arg = some .local) (hk : scope.kind = .function)
    {body : List Stmt} {txt : Str} {p0 p1 p2 p3 p4 p5 : Pos} {pl : Sem Bool} {Q : Flow → Shared → Prop}
    (hev : eval (.Call (.Attribute (.Call (.Name "super" p0) [] [] p1) "__init__" p2) [.Constant (.str txt) 0 p3] [] p4) (ksEnv qual scope L fI (.ref cda) cc) = (do
      let ov ← attributeBase (.Call (.Name "super" p0) [] [] p1) "__init__" (ksEnv qual scope L fI (.ref cda) cc) (eval (.Call (.Name "super" p0) [] [] p1) (ksEnv qual scope L fI (.ref cda) cc))
      standAt p2.atName
      let (f, first) ← holding [ov] (getMethod ov "__init__" pl)
      callWith p4 f first (backTo p4 (starEach [.Constant (.str txt) 0 p3] (ksEnv qual scope L fI (.ref cda) cc))) []))
    (hq : ∀ h' tk' t1, (∀ b o, b ≠ e → h.get? b = some o → h'.get? b = some o) → h'.get? e = some (HandSPX.excO C t1) → Q .next ⟨h', g, d, tk', os⟩) :
    _root_.PySem.wpAt (model prog w) A (.func body (ksEnv qual scope L fI (.ref cda) cc)) (exec (.Expr (.Call (.Attribute (.Call (.Name "super" p0) [] [] p1) "__init__" p2) [.Constant (.str txt) 0 p3] [] p4) p5) (ksEnv qual scope L fI (.ref cda) cc)) Q E ⟨h, g, d, t, os⟩ := by
  obtain ⟨cl, cld, csl, hcell⟩ := T.cell
  obtain ⟨ccl, cdd, vs, ccs, tf, hcode, hvs⟩ := T.code
  obtain ⟨cdD, hD⟩ := Option.isSome_iff_exists.mp T.cls
  obtain ⟨nm, N', qn, bs, bm, hdct, sn, sub, ab, col, dd, k0, k1, k2, k3, k5, hC, hT⟩ := excInit_of X T.q
  have hCd : h.get? C = some _ := hC
  obtain ⟨sk, sns, sgn, sco, smo⟩ := scope
  dsimp only at hk hks hkc hka
  subst hk
  refine ks_wpAt_Expr_any (ks_wpAt_MethodCall ?_ hev)
  refine ks_wpAt_super_base (attr := "__init__") (env := ksEnv qual _ L fI (.ref cda) cc) hks hkc (by decide) rfl (X _ _ hf) rfl hp rfl (X _ _ hcode) rfl hvs hfile htop ?_
  refine ks_loadName_global rfl hks (loadGlobal_builtin (env := ksEnv qual _ L fI (.ref cda) cc) hG hm hB hb ⟨rfl, ?_⟩)
  refine wpAny_loadName_free rfl hkc rfl ⟨_, X _ _ hcell, rfl⟩ ?_
  refine wpAny_loadName_local rfl hka hns hv ?_
  refine ks_wpAny_isType_cls hCd rfl ⟨rfl, ?_⟩
  refine ks_wpAny_call_super hCd rfl he rfl (fun c z => by cases z) (looks_mroIn X T.mro) (fun h1 e1 k1' => ?_)
  have ux : ∀ b o, h.get? b = some o → h1.get? b = some o := k1'
  have X1 : K.In h1 := X.keeps ux
  have I1 : InstAt h1 e (HandSPX.excO C t0) C none := ⟨ux _ _ he, rfl, rfl, trivial⟩
  have hs := T.sup
  unfold ks_superIn at hs
  rw [hD] at hs
  refine kxs_getMethod T.eb.KF e1 (looks_opaque X1 T.opq) (l₀ := cdD.mro) (fun A Q E s k q => wpAny_bind ((looks_clsIn X1 hD) A _ E s k (wpAny_pure q))) rfl X1 hs (I1.type.andThen (looks_subIn X1 T.sB)) (ks_ne X1 I1 hD) (by decide) ?_
  have xx : ∀ b o, b ≠ e → h.get? b = some o → (h1.push (kxs_mw initId e)).get? b = some o := fun b o _ z => Heap.get?_push_of_some _ (ux b o z)
  have hu : (h1.push (kxs_mw initId e)).get? h1.objs.size = some (kxs_mw initId e) := Heap.get?_push_at rfl rfl
  refine kxs_callWith (i := initId) (x := e) (by rfl) (evalArgs_plain ?_)
  refine Calls.spliced_cons (wpAny_Constant_str (k := 0) (pos := p3) (Calls.spliced_nil ⟨hu, ?_⟩))
  refine call_mw (C := C) (t0 := t0) T.eb (Heap.get?_push_of_some _ (ux _ _ hC)) (Heap.get?_push_of_some _ (ux _ _ he)) hu (lt_line (n := 1) (Nat.le_of_ble_eq_true rfl)) fun h' t1 k2 e2 => ?_
  exact hq h' _ t1 (fun b o hb z => k2 b o hb (xx b o hb z)) e2
/-- self.f = a, the first field -/
theorem store_stmt (T : ErrC K file C fI cda cc B newId initId bmB) (X : K.In h) {f a self : Str} {v : Value} (ht : takerIn K C f = some none)
    (hns : h.Ns L m) (hv : m self = some (.ref e)) (ha : m a = some v) (he : h.get? e = some (HandSPX.excO C t0))
    (hks : scope.names.lookup self = some .local) (hka : scope.names.lookup a = some .local) (hk : scope.kind = .function) (d1 : (self == ("__debug__" : Str)) = false) (d2 : (a == ("__debug__" : Str)) = false)
    {p0 p1 p2 p3 : Pos} {Q : Flow → Shared → Prop}
    (hsw : swapsWith (.Name a p2) (some (.Attribute (.Name self p0) f p1)) p3.line (ksEnv qual scope L fI (.ref cda) cc) = pure false)
    (hq : ∀ h' tk' dx, (∀ b o, b ≠ e → h.get? b = some o → h'.get? b = some o) → h.objs.size ≤ dx → dx ≠ e → h'.get? e = some { HandSPX.excO C t0 with dict := some dx } → h'.Ns1 dx (fun y => if y = f then some v else none) → Q .next ⟨h', g, d, tk', os⟩) :
    wpAny (model prog w) A (exec (.Assign [.Attribute (.Name self p0) f p1] (.Name a p2) p3) (ksEnv qual scope L fI (.ref cda) cc)) Q E ⟨h, g, d, t, os⟩ := by
  refine plainObj_wpAny_Assign_Attribute (wpAny_Name (wpAny_loadName_local hk hka hns ha ?_) d2) hsw
  refine wpAny_Name (wpAny_loadName_local hk hks hns hv ?_) d1
  exact set_first T.eb.SF X T.sa T.ov T.hd ht he hq
theorem store_stmt2 (T : ErrC K file C fI cda cc B newId initId bmB) (X : K.In h) {f a self : Str} {v : Value} (ht : takerIn K C f = some none)
    (hns : h.Ns L m) (hv : m self = some (.ref e)) (ha : m a = some v) {dx : Addr} {m0 : Str → Option Value} {nl : List Str} (he : h.get? e = some { HandSPX.excO C t0 with dict := some dx }) (hd : h.Ns1 dx m0) (hw : Within m0 nl) (hz : nl.length ≤ 1000)
    (hks : scope.names.lookup self = some .local) (hka : scope.names.lookup a = some .local) (hk : scope.kind = .function) (d1 : (self == ("__debug__" : Str)) = false) (d2 : (a == ("__debug__" : Str)) = false)
    {p0 p1 p2 p3 : Pos} {Q : Flow → Shared → Prop}
    (hsw : swapsWith (.Name a p2) (some (.Attribute (.Name self p0) f p1)) p3.line (ksEnv qual scope L fI (.ref cda) cc) = pure false)
    (hq : ∀ h' tk', (∀ b o, b ≠ dx → h.get? b = some o → h'.get? b = some o) → h'.Ns1 dx (fun y => if y = f then some v else m0 y) → Q .next ⟨h', g, d, tk', os⟩) :
    wpAny (model prog w) A (exec (.Assign [.Attribute (.Name self p0) f p1] (.Name a p2) p3) (ksEnv qual scope L fI (.ref cda) cc)) Q E ⟨h, g, d, t, os⟩ := by
  refine plainObj_wpAny_Assign_Attribute (wpAny_Name (wpAny_loadName_local hk hka hns ha ?_) d2) hsw
  refine wpAny_Name (wpAny_loadName_local hk hks hns hv ?_) d1
  exact set_next T.eb.SF X T.sa T.ov T.hd ht he hd hw hz hq
end
end DL

namespace DL
open PySem PySem.Spec PyProof.Rows L2

section
open PySem.W PySem.Calls
variable {prog : Program} {w : World} {A : Around} {h : Heap} {g : Array GenState} {d : Drawn} {t : Nat} {os : OsState}
variable {K : Frag} {C fI cda cc e t0 : Addr} {B newId initId : String} {bmB : List Value} {file : Str} {mg mb : Str → Option Value} {name qual : Str} {params : Arguments} {scope : Scope} {dV kV doc pm ct oc : Value} {an od : Option Addr} {osl : Array (Option Value)}
/-- the state behind the __init__ of an error -/
def MadeErr (h : Heap) (g : Array GenState) (d : Drawn) (os : OsState) (e C : Addr) (fs : Str → Option Value) (s' : Shared) : Prop :=
  ∃ h' tk' dx t1, s' = ⟨h', g, d, tk', os⟩ ∧ (∀ b o, b ≠ e → h.get? b = some o → h'.get? b = some o) ∧ h.get? dx = none ∧ dx ≠ e ∧ h'.get? e = some { HandSPX.excO C t1 with dict := some dx } ∧ h'.Ns1 dx fs
/-- what the written part says of __init__ with one field -/
structure ErrF (K : Frag) (file : Str) (fI cda cc : Addr) (qual : Str) (fd : FuncData) (scope : Scope) (body : List Stmt) : Prop where
  cd : codeIn K (.ref cda) qual = true
  hb : fd.body = .stmts body
  sc : fd.scope = scope
theorem init_run1 (T : ErrC K file C fI cda cc B newId initId bmB) (X : K.In h) (hKe : K.lookup e = none) (lim : h.NoLimit) (hroom : A.depth < recursionLimit)
    {txt f a self : Str} {p0 p1 p2 p3 p4 p5 q0 q1 q2 q3 : Pos} {pl : Sem Bool} {ar : Arg} {v : Value} {R : Result → Shared → Prop}
    (lk : K.lookup fI = some ⟨oc, od, .func (ksFn name qual params [.Expr (.Call (.Attribute (.Call (.Name "super" p0) [] [] p1) "__init__" p2) [.Constant (.str txt) 0 p3] [] p4) p5, .Assign [.Attribute (.Name self q0) f q1] (.Name a q2) q3] scope dV kV doc pm an (.ref cda) ct cc), osl⟩)
    (hcd : codeIn K (.ref cda) qual = true) (hp : (params.posonlyargs ++ params.args).head? = some ar) (har : ar.arg = self)
    (hbind : BindsTo ⟨h, g, d, t, os⟩ (ksFn name qual params [.Expr (.Call (.Attribute (.Call (.Name "super" p0) [] [] p1) "__init__" p2) [.Constant (.str txt) 0 p3] [] p4) p5, .Assign [.Attribute (.Name self q0) f q1] (.Name a q2) q3] scope dV kV doc pm an (.ref cda) ct cc) ⟨[.ref e, v], []⟩ [(self, .ref e), (a, v)])
    (hne : self ≠ a) (he : h.get? e = some (HandSPX.excO C t0)) (hG : h.Ns mainGlobals mg) (hm : mg "super" = none) (hB : h.Ns builtinsNs mb) (hb : mb "super" = some (.type "super"))
    (hfile : ((prog.main.file : Str) == file) = true) (htop : (prog.main.scope.names.lookup ("super" : Str)).isSome = false)
    (hks : scope.names.lookup ("super" : Str) = some .globalImplicit) (hkc : scope.names.lookup ("__class__" : Str) = some .free) (hsl : scope.names.lookup self = some .local) (hal : scope.names.lookup a = some .local) (hk : scope.kind = .function)
    (hco : scope.isCoroutine = false) (hgen : scope.isGenerator = false) (hcell : ∀ x ∈ scope.names, x.2 ≠ .cell) (d1 : (self == ("__debug__" : Str)) = false) (d2 : (a == ("__debug__" : Str)) = false) (ht : takerIn K C f = some none)
    (hev : ∀ L, eval (.Call (.Attribute (.Call (.Name "super" p0) [] [] p1) "__init__" p2) [.Constant (.str txt) 0 p3] [] p4) (ksEnv qual scope L fI (.ref cda) cc) = (do
      let ov ← attributeBase (.Call (.Name "super" p0) [] [] p1) "__init__" (ksEnv qual scope L fI (.ref cda) cc) (eval (.Call (.Name "super" p0) [] [] p1) (ksEnv qual scope L fI (.ref cda) cc))
      standAt p2.atName
      let (f, first) ← holding [ov] (getMethod ov "__init__" pl)
      callWith p4 f first (backTo p4 (starEach [.Constant (.str txt) 0 p3] (ksEnv qual scope L fI (.ref cda) cc))) []))
    (hsw : ∀ L, swapsWith (.Name a q2) (some (.Attribute (.Name self q0) f q1)) q3.line (ksEnv qual scope L fI (.ref cda) cc) = pure false)
    (hR : ∀ s', MadeErr h g d os e C (fun y => if y = f then some v else none) s' → R (.ok (.ret .none)) s') :
    codeAny (model prog w) A (.call (.ref fI) ⟨[.ref e, v], []⟩) R ⟨h, g, d, t, os⟩ := by
  subst har
  refine ks_codeAny_call_defAt (s := ⟨h, g, d, t, os⟩) (binds := [(ar.arg, .ref e), (a, v)]) hroom (X _ _ lk) rfl lim (codeRec_of X hcd) rfl hbind hcell (fun x hx => ?_) (fun h1 hns k1 => ?_) hco hgen hk
  · simp only [List.mem_cons, List.not_mem_nil, or_false] at hx
    rcases hx with e | e <;> subst e
    · exact hsl
    · exact hal
  · have k1 : ∀ b o, h.get? b = some o → h1.get? b = some o := k1
    have v1 : (fun x => ([(ar.arg, Value.ref e), (a, v)] : List (Str × Value)).reverse.lookup x) ar.arg = some (.ref e) := by
      show ([(a, v), (ar.arg, Value.ref e)] : List (Str × Value)).lookup ar.arg = _
      rw [List.lookup_cons, show (ar.arg == a) = false from by simpa using hne, List.lookup_cons, beq_self_eq_true]
    have v2 : (fun x => ([(ar.arg, Value.ref e), (a, v)] : List (Str × Value)).reverse.lookup x) a = some v := by
      show ([(a, v), (ar.arg, Value.ref e)] : List (Str × Value)).lookup a = _
      rw [List.lookup_cons, beq_self_eq_true]
    refine ks_wpAt_execs_cons ?_
    refine super_stmt T (X.keeps k1) lk hp hns v1 (k1 _ _ he) (hG.keeps k1) hm (hB.keeps k1) hb hfile htop hks hkc hsl hk (hev _) fun h2 tk2 t2 k2 e2 => ?_
    refine wpAt_of_wpAny (wpAny_execs_cons ?_)
    have X2 : K.In h2 := fun b o z => k2 b o (fun y => by rw [y, hKe] at z; cases z) (k1 _ _ (X b o z))
    have Le : h.objs.size ≠ e := Nat.ne_of_gt (Heap.lt_size he)
    have hns2 : h2.Ns h.objs.size (fun x => ([(ar.arg, Value.ref e), (a, v)] : List (Str × Value)).reverse.lookup x) := by
      obtain ⟨oL, es, ep, e1, r⟩ := hns
      exact ⟨oL, es, ep, k2 _ _ Le e1, r⟩
    refine store_stmt T X2 ht hns2 v1 v2 e2 hsl hal hk d1 d2 (hsw _) fun h3 tk3 dx k3 n3 ne3 e3 ns3 => ?_
    refine wpAny_execs_nil (hR _ ⟨h3, tk3, dx, t2, rfl, fun b o hb z => k3 b o hb (k2 b o hb (k1 b o z)), ?_, ne3, e3, ns3⟩)
    cases z : h.get? dx with
    | none => rfl
    | some o =>
      have y := k2 dx o ne3 (k1 _ _ z)
      exact absurd (Heap.lt_size y) (Nat.not_lt.mpr n3)
end
end DL

namespace DL
open PySem PySem.Spec PyProof.Rows L2

section
open PySem.W PySem.Calls
/-- what making an error leaves: e the error, dx its dict -/
def ErrMade (C : Addr) (fs : Str → Option Value) (s : Shared) (u : Value) (s' : Shared) : Prop :=
  ∃ e h' tk' dx t1, u = .ref e ∧ s' = { s with heap := h', toks := tk' } ∧ (∀ b o, s.heap.get? b = some o → h'.get? b = some o) ∧ s.heap.objs.size ≤ e ∧ s.heap.get? dx = none ∧ dx ≠ e ∧ h'.get? e = some { HandSPX.excO C t1 with dict := some dx } ∧ h'.Ns1 dx fs
variable {prog : Program} {w : World} {A : Around} {E : Value → Shared → Prop} {s : Shared}
variable {K : Frag} {C fI cda cc : Addr} {B newId initId : String} {bmB : List Value} {file : Str}
theorem err_call (T : ErrC K file C fI cda cc B newId initId bmB) (X : K.In s.heap) {us : List Value} {fs : Str → Option Value} (hl : us.length ≤ sizeLine) (iC : findIn K (.ref C) "__init__" = some (some (.ref fI))) (tI : typeIn K (.ref fI) = some (.type "function"))
    (hrun : ∀ (h : Heap) (e t0 : Addr) (R : Result → Shared → Prop), K.In h → K.lookup e = none → (∀ b o, s.heap.get? b = some o → h.get? b = some o) → h.get? e = some (HandSPX.excO C t0) →
      (∀ s', MadeErr h s.gens s.drawn s.os e C fs s' → R (.ok (.ret .none)) s') → codeAny (model prog w) (A.under (.builtin "type.__call__" ⟨.ref C :: us, []⟩)) (.call (.ref fI) ⟨.ref e :: us, []⟩) R ⟨h, s.gens, s.drawn, s.toks, s.os⟩)
    {Q : Value → Shared → Prop} (hq : ∀ u s', ErrMade C fs s u s' → Q u s') : wpAny (model prog w) A (call (.ref C) us) Q E s := by
  obtain ⟨hp, g, d, tk, os⟩ := s
  obtain ⟨nm, N', qn, bs, bm, hdct, sn, sub, ab, col, dd, k0, k1, k2, k3, k5, hC, hT⟩ := excInit_of X T.q
  have kk : ∀ b o, hp.get? b = some o → ((hp.push (kdv_tup us)).push (HandSPX.excO C hp.objs.size)).get? b = some o := fun b o e => Heap.get?_push_of_some _ (Heap.get?_push_of_some _ e)
  have hget : ((hp.push (kdv_tup us)).push (HandSPX.excO C hp.objs.size)).get? (hp.objs.size + 1) = some (HandSPX.excO C hp.objs.size) := by heap_get
  have hKe : K.lookup (hp.objs.size + 1) = none := by
    cases z : K.lookup (hp.objs.size + 1) with
    | none => rfl
    | some o =>
      have y := Heap.lt_size (X _ _ z)
      exact absurd y (Nat.not_lt.mpr (Nat.le_succ _))
  refine wpAny_call (HandSPX.call_own T.eb.F hT hC (looks_findIn X iC) (fun self => bind_fn X self tI) hl ?_)
  refine hrun _ _ _ _ (X.keeps kk) hKe kk hget fun s' hm => ?_
  obtain ⟨h', tk', dx, t1, es, k, n, ne, he, hns⟩ := hm
  subst es
  show _ = _ ∧ _
  refine ⟨rfl, hq _ _ ⟨hp.objs.size + 1, h', tk', dx, t1, rfl, rfl, fun b o z => k b o (Nat.ne_of_lt (Nat.lt_succ_of_lt (Heap.lt_size z))) (kk b o z), Nat.le_succ _, ?_, ne, he, hns⟩⟩
  cases z : hp.get? dx with
  | none => rfl
  | some o =>
    rw [kk _ _ z] at n
    cases n
end
end DL

namespace DL
open PySem PySem.Spec PyProof.Rows L2

/-- the reading of E(e, ..): the error's class, its dict with the fields -/
def tMkE (C : Addr) (fl : List Str) (ta : TA) : L2.St → Hp → XK → Prop := fun σ H Q => ta σ H fun vs H1 => vs.length = fl.length ∧ ∀ d, H1 d = none → Q (.ref C) (some d) (upd H1 d (.xd (fl.zip vs)))
section
variable {X : Cx} {pins : List (Addr × Obj)} {σ : L2.St} {H1 : Hp} {s : Shared} {C : Addr} {fl : List Str} {vs : List V} {us : List Value} {Q : XK} {u : Value} {s' : Shared}
theorem zip_rel : ∀ {fl : List Str} {vs : List V} {us : List Value}, Vals vs us → ∀ f, RelO ((fl.zip vs).lookup f) ((fl.zip us).lookup f)
  | [], _, _, _, _ => True.intro
  | _ :: _, [], [], _, _ => True.intro
  | f1 :: fl, v :: vs, u :: us, r, f => by
    cases r with
    | cons r1 r2 =>
      show RelO (((f1, v) :: fl.zip vs).lookup f) (((f1, u) :: fl.zip us).lookup f)
      rw [List.lookup_cons, List.lookup_cons]
      cases f == f1 with
      | true => exact r1
      | false => exact zip_rel r2 f
theorem made_mk (T : Raises X (.ref C)) (I1 : Inv X pins σ H1 s) (r : Vals vs us) (hm : ErrMade C (fun y => (fl.zip us).lookup y) s u s') (q : ∀ d, H1 d = none → Q (.ref C) (some d) (upd H1 d (.xd (fl.zip vs)))) : MkP X pins σ Q u s' := by
  obtain ⟨e, h2, tk', d, t1, eu, es, k, ne, nd, hde, hoe, hns⟩ := hm
  subst eu
  subst es
  obtain ⟨hp, g1, d1, t1', os1⟩ := s
  have hd1 : H1 d = none := HOk.gone I1.hok nd
  have hn : H1 e = none := I1.hok.fresh ne
  obtain ⟨G, g1', g2'⟩ := restrict h2 fun b => decide (b ≠ e)
  have gk : ∀ b, b ≠ e → G.get? b = h2.get? b := fun b hb => g1' b (decide_eq_true hb)
  have ge : G.get? e = none := g2' e (by simp)
  have nha : ∀ {b : Addr} {o : Obj}, hp.get? b = some o → b ≠ e := fun {b o} z => Nat.ne_of_lt (Nat.lt_of_lt_of_le (Heap.lt_size z) ne)
  have nda : ∀ {b : Addr} {o : Obj}, hp.get? b = some o → b ≠ d := fun {b o} z y => by
    rw [y] at z
    have nd' : hp.get? d = none := nd
    rw [nd'] at z
    cases z
  have kG : ∀ b o, hp.get? b = some o → G.get? b = some o := fun b o z => (gk b (nha z)).trans (k b o z)
  have U : Un (frs X.stack) [] H1 (upd H1 d (.xd (fl.zip vs))) hp G := {
    keep := fun b o z n hf hx => kG b o z
    slot := fun b o z n hf hx => ⟨o.slots, kG b o z⟩
    free := fun b o z n hx => by rw [upd_ne (nda z)]; exact n
    there := fun b o z hx => ⟨o, kG b o z⟩
    tups := fun b xs z => by rw [upd_ne (ne_of_none z hd1)]; exact z
    frzs := fun b o v z => by rw [upd_ne (ne_of_none z hd1)]; exact z
    tbls := fun b ps z => ⟨#[], by rw [upd_ne (ne_of_none z hd1), z]; simp⟩ }
  have hok3 : HOk X.prog X.w (upd H1 d (.xd (fl.zip vs))) G := fun b o z => by
    by_cases hbd : b = d
    · subst hbd
      rw [upd_same] at z
      cases z
      exact ⟨_, hns.at fun o y => (gk b hde).trans y, zip_rel r⟩
    · rw [upd_ne hbd] at z
      exact (I1.hok b o z).stay (fun c v hc y => kG c v y) (fun c hc => by rw [upd_ne (ne_of_none hc hd1)]; exact hc) (fun c xs hc => by rw [upd_ne (ne_of_none hc hd1)]; exact hc)
  have J : Inv X pins σ (upd H1 d (.xd (fl.zip vs))) ⟨G, g1, d1, tk', os1⟩ := I1.call' (ch := []) rfl U hok3 I1.bare (fun b z => absurd z (by simp))
  refine ⟨e, _, _, ⟨G, g1, d1, tk', os1⟩, _, .ref C, some d, rfl, J, fun b o z => ?_, ge, hoe, ⟨rfl, rfl⟩, rfl, rfl, ?_, rfl, I1.bare, T, q d hd1⟩
  · by_cases hba : b = e
    · rw [hba, ge] at z
      cases z
    · exact (gk b hba).symm.trans z
  · rw [upd_ne (Ne.symm hde)]
    exact hn
end
end DL

namespace DL
open PySem PySem.Spec PyProof.Rows L2

/-- an own error that can be made: its class at C, the fields that its __init__ sets -/
structure ErrR (P : Program) (w : World) (K : PySem.W.Frag) (mg : Str → Option Value) (base : Heap) (C : Addr) (fl : List Str) : Prop where
  exC : PySem.W.subIn K (.ref C) (.type "BaseException") = some true
  tyC : PySem.W.typeIn K (.ref C) = some (.type "type")
  kC : PySem.W.keepIn K (.ref C) = true
  run : ∀ (A : Around) (E : Value → Shared → Prop) (s : Shared) (us : List Value), us.length = fl.length → A.depth + 4 < recursionLimit → (∀ b o, base.get? b = some o → s.heap.get? b = some o) → Mod K mg base →
    wpAny (model P w) A (call (.ref C) us) (ErrMade C (fun y => (fl.zip us).lookup y) s) E s
section
variable {X : Cx} {x : Str} {C : Addr} {fl : List Str} {e : Expr} {es : List Expr} {ta : TA} {p pos : Pos} {k : Nat}
theorem pmk_err (R : ErrR X.prog X.w X.K X.mg X.base C fl) (hr : Room k X.A) (hg : Gl X x) (hm : X.mg x = some (.ref C)) (ha : PA X (e :: es) ta)
    (hdb : (x == ("__debug__" : Str)) = false := by decide) (he : starEach (e :: es) X.env = (false, eval e X.env) :: starEach es X.env := by rfl) (hpl : (backTo pos (starEach es X.env)).any (·.1) = false := by rfl) :
    PMk X (.Call (.Name x p) (e :: es) [] pos) (tMkE C fl ta) := by
  intro pins s σ H Q I h
  refine wpAny_Call_Name_kw (ld_glob I hg hm ?_ hdb)
  refine PySem.W.callWith_K (h₀ := X.base) I.ok.mod.kin R.kC (thn (ha.run pos pins s σ H _ I h) fun us s1 ⟨vs, H1, I1, r1, hz, q1⟩ => ⟨I1.kIn, ?_⟩) he hpl
  show wpAny _ _ (call (.ref C) us) _ _ _
  refine wpAny_mono (R.run X.A X.xe s1 us (by rw [← r1.length]; exact hz) (by have := hr.dp; omega) I1.bk I1.mod) (fun u s' hm => ?_) fun _ _ z => z
  exact made_mk (raises_own R.exC R.tyC) I1 r1 hm q1
end
end DL

namespace DL
open PySem PySem.Spec PyProof.Rows L2

/-- raise E(..): the n-th error, its fields -/
def sRaise (n k : Nat) (t : DTA) : DTS := fun D ρ S => t ρ S (fun ds S1 => ds.length = k ∧ D.xx ρ n ds S1) (D.xx ρ)
section
variable {X : Cx} {A : Cla} {W : WX} {x : Str} {C : Addr} {e : Expr} {es : List Expr} {t : DTA} {p pos pos' : Pos} {k n : Nat}
theorem ds_raise (hc : X.calm = true) (tk : Takes X W) (R : ErrR X.prog X.w X.K X.mg X.base C (A.fl n)) (ecv : A.cv n = .ref C) (hr : Room k X.A) (hg : Gl X x) (hm : X.mg x = some (.ref C)) (ha : DA X A W (e :: es) t)
    (hdb : (x == ("__debug__" : Str)) = false) (he : starEach (e :: es) X.env = (false, eval e X.env) :: starEach es X.env) (hpl : (backTo pos (starEach es X.env)).any (·.1) = false) :
    DStm X A W (.Raise (some (.Call (.Name x p) (e :: es) [] pos)) none pos') (sRaise n (A.fl n).length t) := by
  refine PS.mono (ps_raise hc tk (pmk_err R hr hg hm ha hdb he hpl)) fun D σ H ⟨ρ, S, L, DD, sl, so, h, kk⟩ => ?_
  refine ⟨ρ, S, L, _, _, sl, so, h, fun vs H1 ds S1 e1 so1 r1 ⟨z, q1⟩ => ⟨by rw [r1.length]; exact z, fun d hd => ?_⟩, kk.xx.at_ sl⟩
  have fr := so1.free hd
  have ex : Ext H1 S1 (upd H1 d (.xd ((A.fl n).zip vs))) S1 := Ext.upd hd
  show W (.ref C) (some d) σ _
  rw [← ecv]
  exact kk.xx n (some d) σ _ ρ ds S1 (e1.trans ex) (so1.upd hd) (sl.ext (e1.trans ex)) (.inr ⟨d, vs, rfl, upd_same, ⟨fr.1, fr.2⟩, r1.ext ex⟩) q1
end
end DL

namespace DL
open PySem PySem.Spec PyProof.Rows L2

section
open PySem.W PySem.Calls
variable {prog : Program} {w : World} {A : Around} {h : Heap} {g : Array GenState} {d : Drawn} {t : Nat} {os : OsState}
variable {K : Frag} {C fI cda cc e t0 : Addr} {B newId initId : String} {bmB : List Value} {file : Str} {mg mb : Str → Option Value} {name qual : Str} {params : Arguments} {scope : Scope} {dV kV doc pm ct oc : Value} {an od : Option Addr} {osl : Array (Option Value)}
/-- __init__ with two fields -/
theorem init_run2 (T : ErrC K file C fI cda cc B newId initId bmB) (X : K.In h) (hKe : K.lookup e = none) (lim : h.NoLimit) (hroom : A.depth < recursionLimit)
    {txt f a f2 a2 self : Str} {p0 p1 p2 p3 p4 p5 q0 q1 q2 q3 r0 r1 r2 r3 : Pos} {pl : Sem Bool} {ar : Arg} {v v2 : Value} {R : Result → Shared → Prop}
    (lk : K.lookup fI = some ⟨oc, od, .func (ksFn name qual params [.Expr (.Call (.Attribute (.Call (.Name "super" p0) [] [] p1) "__init__" p2) [.Constant (.str txt) 0 p3] [] p4) p5, .Assign [.Attribute (.Name self q0) f q1] (.Name a q2) q3, .Assign [.Attribute (.Name self r0) f2 r1] (.Name a2 r2) r3] scope dV kV doc pm an (.ref cda) ct cc), osl⟩)
    (hcd : codeIn K (.ref cda) qual = true) (hp : (params.posonlyargs ++ params.args).head? = some ar) (har : ar.arg = self)
    (hbind : BindsTo ⟨h, g, d, t, os⟩ (ksFn name qual params [.Expr (.Call (.Attribute (.Call (.Name "super" p0) [] [] p1) "__init__" p2) [.Constant (.str txt) 0 p3] [] p4) p5, .Assign [.Attribute (.Name self q0) f q1] (.Name a q2) q3, .Assign [.Attribute (.Name self r0) f2 r1] (.Name a2 r2) r3] scope dV kV doc pm an (.ref cda) ct cc) ⟨[.ref e, v, v2], []⟩ [(self, .ref e), (a, v), (a2, v2)])
    (hne : self ≠ a) (hne2 : self ≠ a2) (hne3 : a ≠ a2) (he : h.get? e = some (HandSPX.excO C t0)) (hG : h.Ns mainGlobals mg) (hm : mg "super" = none) (hB : h.Ns builtinsNs mb) (hb : mb "super" = some (.type "super"))
    (hfile : ((prog.main.file : Str) == file) = true) (htop : (prog.main.scope.names.lookup ("super" : Str)).isSome = false)
    (hks : scope.names.lookup ("super" : Str) = some .globalImplicit) (hkc : scope.names.lookup ("__class__" : Str) = some .free) (hsl : scope.names.lookup self = some .local) (hal : scope.names.lookup a = some .local) (hal2 : scope.names.lookup a2 = some .local) (hk : scope.kind = .function)
    (hco : scope.isCoroutine = false) (hgen : scope.isGenerator = false) (hcell : ∀ x ∈ scope.names, x.2 ≠ .cell) (d1 : (self == ("__debug__" : Str)) = false) (d2 : (a == ("__debug__" : Str)) = false) (d3 : (a2 == ("__debug__" : Str)) = false) (ht : takerIn K C f = some none) (ht2 : takerIn K C f2 = some none)
    (hev : ∀ L, eval (.Call (.Attribute (.Call (.Name "super" p0) [] [] p1) "__init__" p2) [.Constant (.str txt) 0 p3] [] p4) (ksEnv qual scope L fI (.ref cda) cc) = (do
      let ov ← attributeBase (.Call (.Name "super" p0) [] [] p1) "__init__" (ksEnv qual scope L fI (.ref cda) cc) (eval (.Call (.Name "super" p0) [] [] p1) (ksEnv qual scope L fI (.ref cda) cc))
      standAt p2.atName
      let (f, first) ← holding [ov] (getMethod ov "__init__" pl)
      callWith p4 f first (backTo p4 (starEach [.Constant (.str txt) 0 p3] (ksEnv qual scope L fI (.ref cda) cc))) []))
    (hsw : ∀ L, swapsWith (.Name a q2) (some (.Attribute (.Name self q0) f q1)) q3.line (ksEnv qual scope L fI (.ref cda) cc) = pure false)
    (hsw2 : ∀ L, swapsWith (.Name a2 r2) (some (.Attribute (.Name self r0) f2 r1)) r3.line (ksEnv qual scope L fI (.ref cda) cc) = pure false)
    (hR : ∀ s', MadeErr h g d os e C (fun y => if y = f2 then some v2 else if y = f then some v else none) s' → R (.ok (.ret .none)) s') :
    codeAny (model prog w) A (.call (.ref fI) ⟨[.ref e, v, v2], []⟩) R ⟨h, g, d, t, os⟩ := by
  subst har
  refine ks_codeAny_call_defAt (s := ⟨h, g, d, t, os⟩) (binds := [(ar.arg, .ref e), (a, v), (a2, v2)]) hroom (X _ _ lk) rfl lim (codeRec_of X hcd) rfl hbind hcell (fun x hx => ?_) (fun h1 hns k1 => ?_) hco hgen hk
  · simp only [List.mem_cons, List.not_mem_nil, or_false] at hx
    rcases hx with e | e | e <;> subst e
    · exact hsl
    · exact hal
    · exact hal2
  · have k1 : ∀ b o, h.get? b = some o → h1.get? b = some o := k1
    have v1 : (fun x => ([(ar.arg, Value.ref e), (a, v), (a2, v2)] : List (Str × Value)).reverse.lookup x) ar.arg = some (.ref e) := by
      show ([(a2, v2), (a, v), (ar.arg, Value.ref e)] : List (Str × Value)).lookup ar.arg = _
      rw [List.lookup_cons, show (ar.arg == a2) = false from by simpa using hne2, List.lookup_cons, show (ar.arg == a) = false from by simpa using hne, List.lookup_cons, beq_self_eq_true]
    have v2' : (fun x => ([(ar.arg, Value.ref e), (a, v), (a2, v2)] : List (Str × Value)).reverse.lookup x) a = some v := by
      show ([(a2, v2), (a, v), (ar.arg, Value.ref e)] : List (Str × Value)).lookup a = _
      rw [List.lookup_cons, show (a == a2) = false from by simpa using hne3, List.lookup_cons, beq_self_eq_true]
    have v3 : (fun x => ([(ar.arg, Value.ref e), (a, v), (a2, v2)] : List (Str × Value)).reverse.lookup x) a2 = some v2 := by
      show ([(a2, v2), (a, v), (ar.arg, Value.ref e)] : List (Str × Value)).lookup a2 = _
      rw [List.lookup_cons, beq_self_eq_true]
    refine ks_wpAt_execs_cons ?_
    refine super_stmt T (X.keeps k1) lk hp hns v1 (k1 _ _ he) (hG.keeps k1) hm (hB.keeps k1) hb hfile htop hks hkc hsl hk (hev _) fun h2 tk2 t2 k2 e2 => ?_
    refine wpAt_of_wpAny (wpAny_execs_cons ?_)
    have X2 : K.In h2 := fun b o z => k2 b o (fun y => by rw [y, hKe] at z; cases z) (k1 _ _ (X b o z))
    have Le : h.objs.size ≠ e := Nat.ne_of_gt (Heap.lt_size he)
    have hns2 : h2.Ns h.objs.size (fun x => ([(ar.arg, Value.ref e), (a, v), (a2, v2)] : List (Str × Value)).reverse.lookup x) := by
      obtain ⟨oL, es, ep, e1, r⟩ := hns
      exact ⟨oL, es, ep, k2 _ _ Le e1, r⟩
    refine store_stmt T X2 ht hns2 v1 v2' e2 hsl hal hk d1 d2 (hsw _) fun h3 tk3 dx k3 n3 ne3 e3 ns3 => ?_
    refine wpAny_execs_cons ?_
    have X3 : K.In h3 := fun b o z => k3 b o (fun y => by rw [y, hKe] at z; cases z) (X2 b o z)
    have hns3 : h3.Ns h.objs.size (fun x => ([(ar.arg, Value.ref e), (a, v), (a2, v2)] : List (Str × Value)).reverse.lookup x) := by
      obtain ⟨oL, es, ep, e1, r⟩ := hns2
      exact ⟨oL, es, ep, k3 _ _ Le e1, r⟩
    have hdn : h2.get? dx = none := by
      cases z : h2.get? dx with
      | none => rfl
      | some o => exact absurd (Heap.lt_size z) (Nat.not_lt.mpr n3)
    have hw : Within (fun y => if y = f then some v else none) [f] := fun y hy => by
      by_cases z : y = f
      · rw [z]; exact List.mem_singleton.mpr rfl
      · have hy : (if y = f then some v else none) ≠ none := hy
        rw [if_neg z] at hy
        exact absurd rfl hy
    refine store_stmt2 T X3 ht2 hns3 v1 v3 e3 ns3 hw (by simp) hsl hal2 hk d1 d3 (hsw2 _) fun h4 tk4 k4 ns4 => ?_
    refine wpAny_execs_nil (hR _ ⟨h4, tk4, dx, t2, rfl, fun b o hb z => ?_, ?_, ne3, k4 _ _ (Ne.symm ne3) e3, ns4⟩)
    · have z1 := k2 b o hb (k1 b o z)
      refine k4 b o (fun y => ?_) (k3 b o hb z1)
      rw [y, hdn] at z1
      cases z1
    · cases z : h.get? dx with
      | none => rfl
      | some o =>
        have y := k2 dx o ne3 (k1 _ _ z)
        rw [hdn] at y
        cases y
/-- what the head says of an own error: its class and its __init__ -/
structure ErrH (P : Program) (K : Frag) (mg : Str → Option Value) (file : Str) (C fI cda cc : Addr) (st : Stmt) (qual : Str) (B newId initId : String) (bmB : List Value) : Prop where
  ec : ErrC K file C fI cda cc B newId initId bmB
  lk : ∃ oc od kV doc pm an ct osl, K.lookup fI = some ⟨oc, od, .func (ksFn "__init__" qual (defArgs st) (defBody st) (defScope st) .none kV doc pm an (.ref cda) ct cc), osl⟩
  hcd : codeIn K (.ref cda) qual = true
  iC : findIn K (.ref C) "__init__" = some (some (.ref fI))
  tI : typeIn K (.ref fI) = some (.type "function")
  exC : PySem.W.subIn K (.ref C) (.type "BaseException") = some true
  tyC : PySem.W.typeIn K (.ref C) = some (.type "type")
  kC : PySem.W.keepIn K (.ref C) = true
  hm : mg "super" = none
  hfile : ((P.main.file : Str) == file) = true
  htop : (P.main.scope.names.lookup ("super" : Str)).isSome = false
/-- the scope of an __init__ -/
def initB (sc : Scope) (self : Str) (as : List Str) : Bool :=
  decide (sc.names.lookup ("super" : Str) = some .globalImplicit) && decide (sc.names.lookup ("__class__" : Str) = some .free) && decide (sc.names.lookup self = some .local) && as.all (fun a => decide (sc.names.lookup a = some .local) && !(a == self) && !(a == ("__debug__" : Str))) && decide (sc.kind = .function) && !sc.isCoroutine && !sc.isGenerator && sc.names.all (fun x => decide (x.2 ≠ .cell)) && !(self == ("__debug__" : Str)) && decide as.Nodup
theorem lookup_two {f f2 : Str} {v v2 : Value} : (fun y => if y = f2 then some v2 else if y = f then some v else none) = (fun y => ([(f2, v2), (f, v)] : List (Str × Value)).lookup y) := by
  funext y
  rw [List.lookup_cons, List.lookup_cons]
  by_cases h : y = f2
  · rw [if_pos h, h, beq_self_eq_true]
  · rw [if_neg h, show (y == f2) = false from by simpa using h]
    by_cases h1 : y = f
    · rw [if_pos h1, h1, beq_self_eq_true]
    · rw [if_neg h1, show (y == f) = false from by simpa using h1]
      rfl
theorem lookup_two' {f f2 : Str} {v v2 : Value} (hne : f ≠ f2) : (fun y => if y = f2 then some v2 else if y = f then some v else none) = (fun y => ([(f, v), (f2, v2)] : List (Str × Value)).lookup y) := by
  funext y
  rw [List.lookup_cons, List.lookup_cons]
  by_cases h : y = f2
  · rw [if_pos h, h, show (f2 == f) = false from by simpa using Ne.symm hne, beq_self_eq_true]
  · rw [if_neg h, show (y == f2) = false from by simpa using h]
    by_cases h1 : y = f
    · rw [if_pos h1, h1, beq_self_eq_true]
    · rw [if_neg h1, show (y == f) = false from by simpa using h1]
      rfl
theorem lookup_one {f : Str} {v : Value} : (fun y => if y = f then some v else none) = (fun y => ([(f, v)] : List (Str × Value)).lookup y) := by
  funext y
  rw [List.lookup_cons]
  by_cases h1 : y = f
  · rw [if_pos h1, h1, beq_self_eq_true]
  · rw [if_neg h1, show (y == f) = false from by simpa using h1]
    rfl
variable {P : Program} {base : Heap} {st : Stmt}
theorem errR1 (T : ErrH P K mg file C fI cda cc st qual B newId initId bmB)
    {txt f a self : Str} {p0 p1 p2 p3 p4 p5 q0 q1 q2 q3 : Pos} {pl : Sem Bool} {ar : Arg}
    (hbd : defBody st = [.Expr (.Call (.Attribute (.Call (.Name "super" p0) [] [] p1) "__init__" p2) [.Constant (.str txt) 0 p3] [] p4) p5, .Assign [.Attribute (.Name self q0) f q1] (.Name a q2) q3])
    (hp : ((defArgs st).posonlyargs ++ (defArgs st).args).head? = some ar) (har : ar.arg = self) (hsc : initB (defScope st) self [a] = true)
    (hbind : ∀ (kV doc pm ct : Value) (an : Option Addr) (u v : Value), bindArgs (ksFn "__init__" qual (defArgs st) (defBody st) (defScope st) .none kV doc pm an (.ref cda) ct cc) ⟨[u, v], []⟩ = pure [(self, u), (a, v)])
    (ht : takerIn K C f = some none)
    (hev : ∀ L, eval (.Call (.Attribute (.Call (.Name "super" p0) [] [] p1) "__init__" p2) [.Constant (.str txt) 0 p3] [] p4) (ksEnv qual (defScope st) L fI (.ref cda) cc) = (do
      let ov ← attributeBase (.Call (.Name "super" p0) [] [] p1) "__init__" (ksEnv qual (defScope st) L fI (.ref cda) cc) (eval (.Call (.Name "super" p0) [] [] p1) (ksEnv qual (defScope st) L fI (.ref cda) cc))
      standAt p2.atName
      let (f, first) ← holding [ov] (getMethod ov "__init__" pl)
      callWith p4 f first (backTo p4 (starEach [.Constant (.str txt) 0 p3] (ksEnv qual (defScope st) L fI (.ref cda) cc))) []))
    (hsw : ∀ L, swapsWith (.Name a q2) (some (.Attribute (.Name self q0) f q1)) q3.line (ksEnv qual (defScope st) L fI (.ref cda) cc) = pure false) :
    ErrR P w K mg base C [f] where
  exC := T.exC
  tyC := T.tyC
  kC := T.kC
  run := fun A E s us hl hd hb md => by
    obtain ⟨oc, od, kV, doc, pm, an, ct, osl, lk⟩ := T.lk
    obtain ⟨mb, hB, hbb⟩ := md.blt
    match us, hl with
    | [v], _ =>
    unfold initB at hsc
    simp only [List.all_cons, List.all_nil, Bool.and_true, Bool.and_eq_true, decide_eq_true_eq, Bool.not_eq_true', List.all_eq_true] at hsc
    obtain ⟨⟨⟨⟨⟨⟨⟨⟨⟨s1, s2⟩, s3⟩, ⟨s4, s5⟩, s6⟩, s7⟩, s8⟩, s9⟩, s10⟩, s11⟩, s12⟩ := hsc
    have Xs : K.In s.heap := fun b o z => hb b o (md.kin b o z)
    refine err_call T.ec Xs (by show 1 ≤ sizeLine; exact Nat.le_of_ble_eq_true rfl) T.iC T.tI (fs := fun y => ([(f, v)] : List (Str × Value)).lookup y) (fun h e t0 R X hKe kk he hR => ?_) fun u s' h => h
    have kb : ∀ b o, base.get? b = some o → h.get? b = some o := fun b o z => kk b o (hb b o z)
    rw [hbd] at lk hbind
    rw [← lookup_one] at hR
    exact init_run1 T.ec X hKe (md.nolimit.keeps kb) (by have := hd; show A.depth + 1 < _; omega) (pl := pl) lk T.hcd hp har (BindsTo.of_eq (hbind _ _ _ _ _ _ _)) (fun z => by rw [z] at s5; simp at s5) he (md.glob.keeps kb) T.hm (hB.keeps kb) (by rw [hbb "super" (by decide)]; rfl) T.hfile T.htop s1 s2 s3 s4 s7 s8 s9 (fun x hx => by simpa using s10 x hx) s11 s6 ht hev hsw hR
theorem errR2 (T : ErrH P K mg file C fI cda cc st qual B newId initId bmB)
    {txt f a f2 a2 self : Str} {p0 p1 p2 p3 p4 p5 q0 q1 q2 q3 r0 r1 r2 r3 : Pos} {pl : Sem Bool} {ar : Arg}
    (hbd : defBody st = [.Expr (.Call (.Attribute (.Call (.Name "super" p0) [] [] p1) "__init__" p2) [.Constant (.str txt) 0 p3] [] p4) p5, .Assign [.Attribute (.Name self q0) f q1] (.Name a q2) q3, .Assign [.Attribute (.Name self r0) f2 r1] (.Name a2 r2) r3])
    (hp : ((defArgs st).posonlyargs ++ (defArgs st).args).head? = some ar) (har : ar.arg = self) (hsc : initB (defScope st) self [a, a2] = true)
    (hbind : ∀ (kV doc pm ct : Value) (an : Option Addr) (u v v2 : Value), bindArgs (ksFn "__init__" qual (defArgs st) (defBody st) (defScope st) .none kV doc pm an (.ref cda) ct cc) ⟨[u, v, v2], []⟩ = pure [(self, u), (a, v), (a2, v2)])
    (ht : takerIn K C f = some none) (ht2 : takerIn K C f2 = some none) (hff : f ≠ f2)
    (hev : ∀ L, eval (.Call (.Attribute (.Call (.Name "super" p0) [] [] p1) "__init__" p2) [.Constant (.str txt) 0 p3] [] p4) (ksEnv qual (defScope st) L fI (.ref cda) cc) = (do
      let ov ← attributeBase (.Call (.Name "super" p0) [] [] p1) "__init__" (ksEnv qual (defScope st) L fI (.ref cda) cc) (eval (.Call (.Name "super" p0) [] [] p1) (ksEnv qual (defScope st) L fI (.ref cda) cc))
      standAt p2.atName
      let (f, first) ← holding [ov] (getMethod ov "__init__" pl)
      callWith p4 f first (backTo p4 (starEach [.Constant (.str txt) 0 p3] (ksEnv qual (defScope st) L fI (.ref cda) cc))) []))
    (hsw : ∀ L, swapsWith (.Name a q2) (some (.Attribute (.Name self q0) f q1)) q3.line (ksEnv qual (defScope st) L fI (.ref cda) cc) = pure false)
    (hsw2 : ∀ L, swapsWith (.Name a2 r2) (some (.Attribute (.Name self r0) f2 r1)) r3.line (ksEnv qual (defScope st) L fI (.ref cda) cc) = pure false) :
    ErrR P w K mg base C [f, f2] where
  exC := T.exC
  tyC := T.tyC
  kC := T.kC
  run := fun A E s us hl hd hb md => by
    obtain ⟨oc, od, kV, doc, pm, an, ct, osl, lk⟩ := T.lk
    obtain ⟨mb, hB, hbb⟩ := md.blt
    match us, hl with
    | [v, v2], _ =>
    unfold initB at hsc
    simp only [List.all_cons, List.all_nil, Bool.and_true, Bool.and_eq_true, decide_eq_true_eq, Bool.not_eq_true', List.all_eq_true] at hsc
    obtain ⟨⟨⟨⟨⟨⟨⟨⟨⟨s1, s2⟩, s3⟩, ⟨⟨s4, s5⟩, s6⟩, ⟨t4, t5⟩, t6⟩, s7⟩, s8⟩, s9⟩, s10⟩, s11⟩, s12⟩ := hsc
    have Xs : K.In s.heap := fun b o z => hb b o (md.kin b o z)
    refine err_call T.ec Xs (by show 2 ≤ sizeLine; exact Nat.le_of_ble_eq_true rfl) T.iC T.tI (fs := fun y => ([(f, v), (f2, v2)] : List (Str × Value)).lookup y) (fun h e t0 R X hKe kk he hR => ?_) fun u s' h => h
    have kb : ∀ b o, base.get? b = some o → h.get? b = some o := fun b o z => kk b o (hb b o z)
    rw [hbd] at lk hbind
    rw [← lookup_two' hff] at hR
    exact init_run2 T.ec X hKe (md.nolimit.keeps kb) (by have := hd; show A.depth + 1 < _; omega) (pl := pl) lk T.hcd hp har (BindsTo.of_eq (hbind _ _ _ _ _ _ _ _)) (fun z => by rw [z] at s5; simp at s5) (fun z => by rw [z] at t5; simp at t5) (fun z => by simp [z] at s12) he (md.glob.keeps kb) T.hm (hB.keeps kb) (by rw [hbb "super" (by decide)]; rfl) T.hfile T.htop s1 s2 s3 s4 t4 s7 s8 s9 (fun x hx => by simpa using s10 x hx) s11 s6 t6 ht ht2 hev hsw hsw2 hR
end
end DL

namespace DL
open PySem PySem.Spec PyProof.Rows L2
section
open PySem.W
variable {K : Frag} {C : Addr} {ddC : Option Addr} {cd : ClassData} {slC : Array (Option Value)} {B newId initId : String} {bmB : List Value} {k0 k1 k2 k3 k5 : Option Value}
theorem cls_of (lk : K.lookup C = some ⟨.type "type", ddC, .cls cd, slC⟩) : clsIn K C = some cd := by
  unfold clsIn
  rw [lk]
theorem err_q (lk : K.lookup C = some ⟨.type "type", ddC, .cls cd, slC⟩) (hm : cd.mro = .ref C :: bmB) (hs : slC.toList = [k0, k1, k2, k3, some (.builtin newId), k5]) (hd : cd.hasDel = false) (ht : excTail bmB bmB = true) : excInitIn K C bmB newId = true := by
  unfold excInitIn
  simp [lk, hm, hs, hd, ht]
theorem err_ov (lk : K.lookup C = some ⟨.type "type", ddC, .cls cd, slC⟩) (hm : cd.mro = .ref C :: bmB) (ht : excTail bmB bmB = true) : excOver K C bmB = true := by
  unfold excOver
  rw [cls_of lk]
  show (match cd.mro with | .ref C' :: bm => C' == C && excTail bmB bm | _ => false) = true
  rw [hm]
  dsimp only
  rw [ht]
  simp
theorem err_sup (lk : K.lookup C = some ⟨.type "type", ddC, .cls cd, slC⟩) (hm : cd.mro = .ref C :: bmB) (hi : alongIn K "__init__" bmB = some (some (.builtin initId))) : ks_superIn K C C "__init__" = some (some (.builtin initId)) := by
  unfold ks_superIn
  rw [cls_of lk]
  show alongIn K "__init__" ((cd.mro.dropWhile (· != .ref C)).drop 1) = _
  rw [hm, List.dropWhile_cons]
  simp only [bne_self_eq_false, Bool.false_eq_true, if_false, List.drop_succ_cons, List.drop_zero]
  exact hi
theorem along_one {T : String} {r : List Value} {v : Value} (h : fastBuiltinOwn T "__init__" = some v) : alongIn K "__init__" (.type T :: r) = some (some v) := by
  unfold alongIn ownIn
  dsimp only
  rw [h]
end
abbrev bVE : List Value := [.type "ValueError", .type "Exception", .type "BaseException", .type "object"]
abbrev bLE : List Value := [.type "LookupError", .type "Exception", .type "BaseException", .type "object"]
abbrev bRE : List Value := [.type "RuntimeError", .type "Exception", .type "BaseException", .type "object"]
abbrev bOE : List Value := [.type "OverflowError", .type "ArithmeticError", .type "Exception", .type "BaseException", .type "object"]
theorem fb_VE : fastBuiltinOwn "ValueError" "__init__" = some (.builtin "ValueError.__init__") := by decide +kernel
theorem fb_LE : fastBuiltinOwn "LookupError" "__init__" = some (.builtin "LookupError.__init__") := by decide +kernel
theorem fb_RE : fastBuiltinOwn "RuntimeError" "__init__" = some (.builtin "RuntimeError.__init__") := by decide +kernel
theorem fb_OE : fastBuiltinOwn "OverflowError" "__init__" = some (.builtin "OverflowError.__init__") := by decide +kernel
section
open PySem.W
variable {P : Program} {K : Frag} {C fI cda cc : Addr} {ddC : Option Addr} {cdC : ClassData} {slC : Array (Option Value)} {B newId initId : String} {bmB : List Value} {mg : Str → Option Value} {h : Heap}
variable {st : Stmt} {qual file : Str} {oc kV dc pm ct cl ccl : Value} {od an cld cdd : Option Addr} {sl csl ccs : Array (Option Value)} {vs : Array Value} {tf : Tok} {k0 k1 k2 k3 k5 : Option Value}
/-- the head's answers of one own error -/
theorem errH_of (X : K.In h) (G : h.Ns mainGlobals mg) (eb : ErrB B newId initId bmB) (ht : excTail bmB bmB = true) (hi : alongIn K "__init__" bmB = some (some (.builtin initId)))
    (lkC : K.lookup C = some ⟨.type "type", ddC, .cls cdC, slC⟩) (mroC : cdC.mro = .ref C :: bmB) (hs : slC.toList = [k0, k1, k2, k3, some (.builtin newId), k5]) (hdl : cdC.hasDel = false)
    (hd : hasDictIn K C = true) (sa : findIn K (.ref C) "__setattr__" = some (some (.builtin "object.__setattr__"))) (sB : subIn K (.ref C) (.type B) = some true) (mro : mroIn K C (.ref C) = some true) (opq : nsIn K cStatics "thirdparty.any" = some none)
    (iC : findIn K (.ref C) "__init__" = some (some (.ref fI))) (tI : typeIn K (.ref fI) = some (.type "function"))
    (lk : K.lookup fI = some ⟨oc, od, .func (ksFn "__init__" qual (defArgs st) (defBody st) (defScope st) .none kV dc pm an (.ref cda) ct cc), sl⟩)
    (cell : K.lookup cc = some ⟨cl, cld, .cell (some (.ref C)), csl⟩) (code : K.lookup cda = some ⟨ccl, cdd, .fields vs, ccs⟩) (hvs : vs[2]? = some (.str file tf)) (hcd : codeIn K (.ref cda) qual = true)
    (exC : subIn K (.ref C) (.type "BaseException") = some true) (tyC : typeIn K (.ref C) = some (.type "type")) (kC : keepIn K (.ref C) = true)
    (hm : nsIn K mainGlobals "super" = some none) (hfile : ((P.main.file : Str) == file) = true) (htop : (P.main.scope.names.lookup ("super" : Str)).isSome = false) :
    ErrH P K mg file C fI cda cc st qual B newId initId bmB :=
  ⟨⟨eb, err_q lkC mroC hs hdl ht, err_ov lkC mroC ht, hd, sa, err_sup lkC mroC hi, sB, mro, opq, by rw [cls_of lkC]; rfl, ⟨_, _, _, cell⟩, ⟨_, _, _, _, _, code, hvs⟩⟩, ⟨_, _, _, _, _, _, _, _, lk⟩, hcd, iC, tI, exC, tyC, kC, mg_none_of X G hm, hfile, htop⟩
end
end DL

namespace DL
open PySem PySem.Spec PyProof.Rows L2

/-! ### the ghost may come and go -/
section
variable {c c' : Cfg} {L : Lk} {H : Hp} {S : Sto}
/-- two that differ in the ghost alone (and in the errors' classes) -/
structure Gh (c c' : Cfg) : Prop where
  K : c.K = c'.K
  cA : c.cA = c'.cA
  fl : c.fl = c'.fl
theorem FT.gh (g : Gh c c') {p : Addr} {vs : List V} (h : FT c L H S p vs) : FT c' L H S p vs := by unfold FT at h ⊢; rw [← g.K]; exact h
theorem FL.gh (g : Gh c c') {p : Addr} {vs : List V} (h : FL c L H S p vs) : FL c' L H S p vs := by unfold FL at h ⊢; rw [← g.K]; exact h
mutual
theorem Rep.gh (g : Gh c c') : ∀ (d : D) (v : V), Rep c L H S d v → Rep c' L H S d v
  | .non, v, h => by unfold Rep at h ⊢; exact h
  | .bl b, v, h => by unfold Rep at h ⊢; exact h
  | .int i, v, h => by unfold Rep at h ⊢; exact h
  | .str x, v, h => by unfold Rep at h ⊢; exact h
  | .ref a, v, h => by unfold Rep at h ⊢; exact h
  | .rp p, v, h => by unfold Rep at h ⊢; exact h
  | .ty n, v, h => by unfold Rep at h ⊢; rw [← g.cA]; exact h
  | .tup ds, v, h => by
    unfold Rep at h ⊢
    obtain ⟨p, vs, ev, f, r⟩ := h
    exact ⟨p, vs, ev, f.gh g, Reps.gh g ds vs r⟩
  | .lst ds, v, h => by
    unfold Rep at h ⊢
    obtain ⟨p, vs, ev, f, z, r⟩ := h
    exact ⟨p, vs, ev, f, z, Reps.gh g ds vs r⟩
  | .cst ds, v, h => by
    unfold Rep at h ⊢
    obtain ⟨p, vs, ev, f, r⟩ := h
    exact ⟨p, vs, ev, f.gh g, Reps.gh g ds vs r⟩
  | .ins C ds, v, h => by
    unfold Rep at h ⊢
    obtain ⟨p, dx, vs, ev, f, z, r⟩ := h
    exact ⟨p, dx, vs, ev, by rw [← g.cA, ← g.fl]; exact f, z, Reps.gh g ds vs r⟩
theorem Reps.gh (g : Gh c c') : ∀ (ds : List D) (vs : List V), Reps c L H S ds vs → Reps c' L H S ds vs
  | [], vs, h => by unfold Reps at h ⊢; exact h
  | d :: ds, vs, h => by
    unfold Reps at h ⊢
    obtain ⟨v, ws, ev, r, rs⟩ := h
    exact ⟨v, ws, ev, Rep.gh g d v r, Reps.gh g ds ws rs⟩
end
theorem MR.gh (g : Gh c c') {p : Addr} : ∀ {o : MO}, MR c L H S p o → MR c' L H S p o
  | .lst ds, ⟨vs, h, r⟩ => ⟨vs, h, r.gh g⟩
  | .ins C ds, ⟨dx, vs, h, r⟩ => ⟨dx, vs, by rw [← g.cA, ← g.fl]; exact h, r.gh g⟩
theorem EnvR.gh {ρ : DSt} {σ : L2.St} (g : Gh c c') (s : EnvR c L H S ρ σ) : EnvR c' L H S ρ σ := ⟨s.len, fun i d h => by
  obtain ⟨v, a, r⟩ := s.at_ i d h
  exact ⟨v, a, r.gh g⟩⟩
theorem StoR.gh0 (g : Gh c c') (z : c'.gh = none) (R : StoR c L H S) : StoR c' L H S := ⟨fun p o h => ⟨(R.at_ p o h).1.gh g, (R.at_ p o h).2⟩, R.lk, fun p n ds e => by rw [z] at e; cases e⟩
theorem StoR.gh1 (g : Gh c c') {p : Addr} {n : Nat} {ds : List D} {vs : List V} (z : c'.gh = some (p, n, ds)) (R : StoR c L H S) (h : H p = some (.xd ((c.fl n).zip vs))) (f : Fz L S p) (r : Reps c L H S ds vs) : StoR c' L H S :=
  ⟨fun p o h => ⟨(R.at_ p o h).1.gh g, (R.at_ p o h).2⟩, R.lk, fun p' n' ds' e => by rw [z] at e; cases e; exact ⟨vs, by rw [← g.fl]; exact h, f, r.gh g⟩⟩
theorem EnvR.clr {ρ : DSt} {σ : L2.St} {i : Nat} (s : EnvR c L H S ρ σ) : EnvR c L H S (ρ.set i none) (σ.set i none) := ⟨by simp [s.len], fun j x h => by
  by_cases e : i = j
  · subst e
    have hl := (List.getElem?_eq_some_iff.mp h).1
    rw [List.length_set] at hl
    rw [List.getElem?_set_self hl] at h
    cases h
  · rw [List.getElem?_set_ne e] at h ⊢
    exact s.at_ j x h⟩
end

/-! ### try .. except C as e -/
abbrev WF : WX := fun _ _ _ _ => False
abbrev Cla.hot (A : Cla) (p : Addr) (n : Nat) (ds : List D) : Cla := { A with gh := some (p, n, ds) }
/-- i: the slot of e, n: the error's number, known: the numbers that may come -/
def sTry (i n : Nat) (known : Nat → Bool) (tb : DTS) (th : Addr → List D → DTS) : DTS := fun DD ρ S => tb { DD with xx := fun ρ' m ds S' => known m = true ∧ (m = n → ds ≠ [] ∧ ∀ a, th a ds ⟨fun ρ2 S2 => DD.nx (ρ2.set i none) S2, DD.rt, fun ρ2 S2 => DD.bk (ρ2.set i none) S2, fun ρ2 S2 => DD.ct (ρ2.set i none) S2, fun _ => DX0⟩ (ρ'.set i (some (.ref a))) S') ∧ (m ≠ n → DD.xx ρ' m ds S') } ρ S
section
variable {X : Cx} {A : Cla} {W : WX} {body suite : List Stmt} {b₀ : Stmt} {x y : Str} {C : Addr} {i n : Nat} {np pos pos' : Pos} {known : Nat → Bool} {tb : DTS} {th : Addr → List D → DTS}
theorem ds_try (hgh : A.gh = none) (hs : X.stack = X.env :: X.outer) (hf : X.env.frame = some X.env.locals) (hN : X.N.Nodup) (hi : X.N[i]? = some y) (hln : X.env.kindOf y = some .local) (hc : Names X x (A.cv n)) (tk : Takes X W)
    (hex : ∀ m, known m = true → PySem.W.exmOne X.K (A.cv m) (A.cv n) = some (decide (m = n)))
    (hb : ∀ (W' : WX) (pn : List (Addr × Obj)) (xe : Value → Shared → Prop), Takes (X.tr pn xe) W' → PassesOwn (model X.prog X.w) X.A X.env xe → DStms (X.tr pn xe) A W' body tb)
    (hsu : ∀ (a p : Addr) (oe : Obj) (ds : List D) (pn : List (Addr × Obj)), Zc (A.cv n) (some p) oe → (∃ vs, oe.data = .fields vs) → DStms (X.suite a ((a, oe) :: pn)) (A.hot p n ds) WF (b₀ :: suite) (th a ds)) :
    DStm X A W (.Try body [.ExceptHandler (some (.Name x np)) (some y) (b₀ :: suite) pos'] [] [] pos) (sTry i n known tb th) := by
  have hsu' : ∀ (a : Addr) (oe : Obj) (cls : Value) (d : Option Addr) (pn : List (Addr × Obj)), Zc cls d oe → (∃ vs, oe.data = .fields vs) →
      PSs (X.suite a ((a, oe) :: pn)) (b₀ :: suite) (fun D σ H => ∃ p ds, cls = A.cv n ∧ d = some p ∧ liftS (cX X (A.hot p n ds)) WF (th a ds) D σ H) := fun a oe cls d pn hz hv => ⟨fun pins s σ H D I ⟨p, ds, ec, ed, h⟩ => by
    subst ec ed
    exact (hsu a p oe ds pn hz hv).run pins s σ H D I h⟩
  refine PS.mono (ps_try_as (tb := fun W' => liftS (cX X A) W' tb) hs hf hN hi hln hc tk (fun W' pn xe t p => hb W' pn xe t p) hsu') fun D σ H ⟨ρ, S, L, DD, sl, so, h, k⟩ => ?_
  refine ⟨ρ, S, L, _, sl, so, h, ⟨k.nx, k.rt, k.bk, k.ct, fun m a σ' H' ρ' ds S' ex so' sl' xr ⟨hk, h1, h2⟩ => ?_⟩⟩
  refine ⟨_, hex m hk, fun e => ?_, fun e => ?_⟩
  · have e : m = n := of_decide_eq_true e
    subst e
    obtain ⟨ne, h1⟩ := h1 rfl
    intro a0 _
    rcases xr with ⟨_, e0⟩ | ⟨p, vs, ea, hp, fz, r⟩
    · exact absurd e0 ne
    · have g : Gh (cX X A) (cX X (A.hot p m ds)) := ⟨rfl, rfl, rfl⟩
      have g' : Gh (cX X (A.hot p m ds)) (cX X A) := ⟨rfl, rfl, rfl⟩
      have back : ∀ {H2 S2}, StoR (cX X (A.hot p m ds)) L H2 S2 → StoR (cX X A) L H2 S2 := fun so2 => so2.gh0 g' hgh
      refine ⟨p, ds, rfl, ea, _, S', L, _, (sl'.set (v := .ref a0) (d := .ref a0) (by unfold Rep; rfl)).gh g, so'.gh1 g rfl hp fz r, h1 a0, ⟨fun σ2 H2 ρ2 S2 x2 so2 sl2 q2 => ?_, fun v H2 d S2 x2 so2 r2 q2 => ?_, fun σ2 H2 ρ2 S2 x2 so2 sl2 q2 => ?_, fun σ2 H2 ρ2 S2 x2 so2 sl2 q2 => ?_, fun _ _ _ _ _ _ _ _ _ _ _ z => z.elim⟩⟩
      · exact k.nx _ H2 _ S2 (ex.trans x2) (back so2) (sl2.gh g').clr q2
      · exact k.rt v H2 d S2 (ex.trans x2) (back so2) (r2.gh g') q2
      · exact k.bk _ H2 _ S2 (ex.trans x2) (back so2) (sl2.gh g').clr q2
      · exact k.ct _ H2 _ S2 (ex.trans x2) (back so2) (sl2.gh g').clr q2
  · have e : m ≠ n := of_decide_eq_false e
    exact k.xx m a σ' H' ρ' ds S' ex so' sl' xr (h2 e)
end
/-! ### e.f in the suite -/
def dXf (i : Nat) (a : Addr) (f : Str) (fl : List Str) (ds : List D) : DT := fun ρ S Q _ => ρ[i]? = some (some (.ref a)) ∧ ∃ x, (fl.zip ds).lookup f = some x ∧ Q x S
theorem zip_get {c : Cfg} {L : Lk} {H : Hp} {S : Sto} : ∀ {fl : List Str} {ds : List D} {vs : List V} {f : Str} {x : D}, Reps c L H S ds vs → (fl.zip ds).lookup f = some x → ∃ v, (fl.zip vs).lookup f = some v ∧ Rep c L H S x v
  | [], ds, vs, f, x, r, h => by cases h
  | g :: fl, [], vs, f, x, r, h => by cases h
  | g :: fl, d :: ds, vs, f, x, r, h => by
    obtain ⟨v, ws, ev, r1, rs⟩ := r.of_cons
    subst ev
    rw [List.zip_cons_cons, List.lookup_cons] at h ⊢
    cases e : f == g with
    | true =>
      rw [e] at h
      cases h
      exact ⟨v, rfl, r1⟩
    | false =>
      rw [e] at h
      exact zip_get rs h
section
variable {X : Cx} {A : Cla} {y f : Str} {C a p : Addr} {oe : Obj} {ds : List D} {pn : List (Addr × Obj)} {i n : Nat} {np pos : Pos}
theorem de_xf (T : XfC X.K C) (hno : PySem.W.findIn X.K (.ref C) f = some none) (hcv : A.cv n = .ref C) (hz : Zc (A.cv n) (some p) oe) (hv : ∃ vs, oe.data = .fields vs) (he : DE (X.suite a ((a, oe) :: pn)) (A.hot p n ds) WF (.Name y np) (dVar i))
    (hb : attributeBase (.Name y np) f X.env (eval (.Name y np) X.env) = eval (.Name y np) X.env) : DE (X.suite a ((a, oe) :: pn)) (A.hot p n ds) WF (.Attribute (.Name y np) f pos) (dXf i a f (A.fl n) ds) := by
  refine PE.mono (pe_xf (X := X) T hno hz hv he hb) fun σ H Q ⟨ρ, S, L, Qd, Ed, sl, so, ⟨hi, x, hl, h⟩, kq, kx⟩ => ?_
  refine ⟨ρ, S, L, fun d S' => d = .ref a ∧ S' = S, DX0, sl, so, ⟨_, hi, rfl, rfl⟩, fun v H1 d S1 e1 so1 r1 ⟨ed, es⟩ => ?_, KX.zero⟩
  subst ed es
  unfold Rep at r1
  refine ⟨r1, hcv, ?_⟩
  obtain ⟨vs, hp, fz, rs⟩ := so1.gh p n ds rfl
  obtain ⟨v', hl', r'⟩ := zip_get rs hl
  exact ⟨p, _, v', rfl, hp, hl', kq v' H1 x S1 e1 so1 r' h⟩
end
end DL

namespace DL
open PySem PySem.Spec PyProof.Rows L2
section
variable {P : Program} {w : World} {K : PySem.W.Frag} {A : Cla} {mg : Str → Option Value} {base : Heap} {N : List Str} {sc : Scope} {fo : Str → Bool} {lv : Nat} {X : Cx} {W : WX}
variable {e : Expr} {es : List Expr} {p pos pos' : Pos} {x : Str} {ta : DTA} {C : Addr} {n i : Nat}
theorem In.raise (h : In P w K mg base N sc fo lv X W) (n : Nat) (R : ErrR P w K mg base C (A.fl n)) (ecv : A.cv n = .ref C) (hg : glB sc x = true) (hm : mg x = some (.ref C)) (ha : DA X A W (e :: es) ta)
    (he : starEach (e :: es) X.env = (false, eval e X.env) :: starEach es X.env := by rfl) (hpl : (backTo pos (starEach es X.env)).any (·.1) = false := by rfl) :
    DStm X A W (.Raise (some (.Call (.Name x p) (e :: es) [] pos)) none pos') (sRaise n (A.fl n).length ta) := by
  have g := h.gl hg
  have := h.eM; subst this
  have := h.eP; subst this
  have := h.eW; subst this
  have := h.eK; subst this
  have := h.eB; subst this
  exact ds_raise h.calm h.tk R ecv h.rm.1 g hm ha (glB_ok hg).2.1 he hpl
/-- the little that holds in a suite, too -/
structure Is (N : List Str) (sc : Scope) (X : Cx) : Prop where
  eN : X.N = N
  eS : X.env.scope = sc
theorem Is.var {i : Nat} {x : Str} (h : Is N sc X) (ck : nmB N sc i x = true) : DE X A W (.Name x pos) (dVar i) := by
  obtain ⟨a, b, c, d⟩ := nmB_ok ck
  have := h.eN; subst this
  have := h.eS; subst this
  exact de_var a b c d
/-- in the suite: a the error, p its dict, n its number, ds its fields -/
structure Xs (K : PySem.W.Frag) (X' : Cx) (A : Cla) (a p : Addr) (n : Nat) (ds : List D) : Prop where
  ex : ∃ X oe pn, X' = Cx.suite X a ((a, oe) :: pn) ∧ X.K = K ∧ Zc (A.cv n) (some p) oe ∧ ∃ vs, oe.data = .fields vs
theorem Xs.fld {X' : Cx} {a q : Addr} {ds : List D} {f y : Str} {np : Pos} (hx : Xs K X' A a q n ds) (T : XfC K C) (hno : PySem.W.findIn K (.ref C) f = some none) (hcv : A.cv n = .ref C) (he : DE X' (A.hot q n ds) WF (.Name y np) (dVar i))
    (hb : attributeBase (.Name y np) f X'.env (eval (.Name y np) X'.env) = eval (.Name y np) X'.env := by rfl) : DE X' (A.hot q n ds) WF (.Attribute (.Name y np) f pos) (dXf i a f (A.fl n) ds) := by
  obtain ⟨X, oe, pn, rfl, rfl, hz, hv⟩ := hx.ex
  exact de_xf T hno hcv hz hv he hb
/-- a local name with a slot -/
def lcB (N : List Str) (sc : Scope) (i : Nat) (x : Str) : Bool := decide N.Nodup && decide (N[i]? = some x) && decide (sc.names.lookup x = some .local)
theorem In.tryAs {known : Nat → Bool} {tb : DTS} {th : Addr → List D → DTS} {body suite : List Stmt} {b₀ : Stmt} {y : Str} {np : Pos} (n : Nat) (h : In P w K mg base N sc fo lv X W) (hp : HPs X) (hgh : A.gh = none) (ck : lcB N sc i y = true) (hg : glB sc x = true) (hm : mg x = some (A.cv n))
    (hex : ∀ m, known m = true → PySem.W.exmOne K (A.cv m) (A.cv n) = some (decide (m = n)))
    (hb : ∀ (X' : Cx) (W' : WX), In P w K mg base N sc fo lv X' W' → HPs X' → DStms X' A W' body tb)
    (hsu : ∀ (X' : Cx) (a q : Addr) (ds : List D), Is N sc X' → Xs K X' A a q n ds → DStms X' (A.hot q n ds) WF (b₀ :: suite) (th a ds)) :
    DStm X A W (.Try body [.ExceptHandler (some (.Name x np)) (some y) (b₀ :: suite) pos'] [] [] pos) (sTry i n known tb th) := by
  have g := h.gl hg
  unfold lcB at ck
  obtain ⟨ck, c3⟩ := Bool.and_eq_true_iff.mp ck
  obtain ⟨c1, c2⟩ := Bool.and_eq_true_iff.mp ck
  have c1 := of_decide_eq_true c1
  have c2 := of_decide_eq_true c2
  have c3 := of_decide_eq_true c3
  have eM := h.eM
  have eP := h.eP
  have eW := h.eW
  have eK := h.eK
  have eB := h.eB
  have eN := h.eN
  have eS := h.eS
  refine ds_try hgh hp.stk hp.frm (by rw [eN]; exact c1) (by rw [eN]; exact c2) (by show X.env.scope.names.lookup y = _; rw [eS]; exact c3) ⟨g, (glB_ok hg).2.1, .inl (by rw [eM]; exact hm)⟩ h.tk (by rw [eK]; exact hex) (fun W' pn xe t po => ?_) fun a q oe ds pn hz hv => ?_
  · exact hb _ _ ⟨eP, eW, eK, eM, eB, eN, eS, h.eF, h.calm, h.rm, t⟩ ⟨po, hp.stk, hp.frm⟩
  · exact hsu _ a q ds ⟨eN, eS⟩ ⟨X, oe, pn, rfl, eK, hz, hv⟩
end
end DL

namespace DL
open PySem PySem.Spec PyProof.Rows L2
section
open PySem.AutoSeq1
theorem list_extend_tup (l : Addr) (items : Array Value) (n : Nat) (b : Addr) (items2 : Array Value) (n2 : Nat) (dct : Option Addr) (sls : Array (Option Value)) (hs0 : ¬(!items.isEmpty && Builtin.List.listTooLong (items.size + items2.size)) = true) (hs1 : items.size ≤ sizeLine) (hs2 : items.size + items2.size ≤ sizeLine + 1) :
    Meets (Builtin.«list.extend» ⟨[.ref l, .ref b], []⟩) (fun _ R s => s.heap.get? l = some { cls := .type "list", dict := none, data := .seq items n, slots := #[] } ∧ s.heap.get? b = some { cls := .type "tuple", dict := dct, data := .seq items2 n2, slots := sls } ∧ R (.ok (.ret Value.none)) { s with heap := s.heap.update l (Obj.mapSeq fun x => x ++ items2), toks := s.toks }) :=
  .of_wp fun prog w A R s h => by
    obtain ⟨hp, g, d, tk, os⟩ := s; obtain ⟨hl, hb, h⟩ := h; have f1 := idx_int; have f2 := AutoSeq1.sub_tuple_tuple; have f3 := AutoSeq1.sub_list_list; have f4 := AutoSeq1.sub_tuple_list; have f5 := AutoSeq1.sub_list_tuple;
    have hz' : (items ++ items2).size ≤ sizeLine + 1 := by rw [Array.size_append]; exact hs2
    wp_walk using (wpAny_updateSeq hl rfl (hz := hs1) (_hz' := hz')), wpAny_loadPart' hl, wpAny_loadPart' hb; exact ⟨_, rfl, h⟩
end
/-- xs.extend(t), t a tuple -/
def rExtendT (K : PySem.W.Frag) : V → List V → Hp → VK → Prop := fun x vs H Q => ∃ l b xs zs, x = .ref l ∧ vs = [.ref b] ∧ H l = some (.lst xs) ∧ SqT K H b zs ∧ xs.length + zs.length ≤ sizeLine ∧ Q .non (upd H l (.lst (xs ++ zs)))
theorem mt_extendT {X : Cx} : MtM X "list.extend" (rExtendT X.K) := by
  intro pins s σ H x vs v us Q I rx rv h
  obtain ⟨l, b, xs, zs, rfl, rfl, hH, hB, hz, q⟩ := h
  cases rx
  obtain ⟨u, rfl, ru⟩ := rv.one
  cases ru
  obtain ⟨z, its, n, r, hl, e⟩ := I.lstM hH
  obtain ⟨its2, r2, ⟨ob, eb, hc, n2, hd⟩, z2⟩ := I.tuple hB
  have hl2 := r2.length
  obtain ⟨oc, od, oda, osl⟩ := ob
  dsimp only at hc hd
  subst hc hd
  have hsz : its.toArray.size + its2.toArray.size ≤ sizeLine := by rw [List.size_toArray, List.size_toArray]; omega
  have hlong : ¬ (!its.toArray.isEmpty && Builtin.List.listTooLong (its.toArray.size + its2.toArray.size)) = true := by
    rw [notLongL hsz, Bool.and_false]
    exact Bool.false_ne_true
  refine call_meets F.slot_list_extend ⟨_, e, rfl⟩ F.entry_list_extend (F.args_list_extend_2 _ _)
    (list_extend_tup l its.toArray n b its2.toArray n2 od osl hlong (by rw [List.size_toArray]; omega) (by omega)) ⟨e, eb, ?_⟩
  refine ⟨.non, _, I.lset (its' := its ++ its2) hH e (by simp) (r.append r2) ?_, rfl, q⟩
  rw [List.length_append]
  omega
/-- xs.extend(ys), ys a list or a tuple -/
def mExtendA : DMt := fun x ds S Q => ∃ p xs y zs, x = .ref p ∧ ds = [y] ∧ S p = some (.lst xs) ∧ (seqM S y = some zs ∨ y = .tup zs) ∧ xs.length + zs.length ≤ sizeLine ∧ Q .non (S.set p (.lst (xs ++ zs)))
section
variable {X : Cx} {A : Cla} {W : WX} {e o : Expr} {es : List Expr} {pos apos : Pos} {t : DT} {ta : DTA}
theorem md_extendA : MtD X A "list.extend" mExtendA := fun pins s σ H x vs v us Q I rx rv ⟨S, L, dx, ds, Qd, so, r, rs, ⟨p, ys, y, zs, ex, ed, hs, hy, hz, q⟩, kq⟩ => by
  rcases hy with hy | hy
  · exact md_extend pins s σ H x vs v us Q I rx rv ⟨S, L, dx, ds, Qd, so, r, rs, ⟨p, ys, y, zs, ex, ed, hs, hy, hz, q⟩, kq⟩
  · subst ex ed hy
    unfold Rep at r
    obtain ⟨w, ew, r1⟩ := reps1 rs
    unfold Rep at r1
    obtain ⟨b, us2, eb, hb, rb⟩ := r1
    subst eb
    obtain ⟨⟨vs2, hh, rv2⟩, _⟩ := so.at_ p _ hs
    refine mt_extendT pins s σ H x vs v us Q I rx rv ⟨p, b, vs2, us2, r, ew, hh, ?_, by rw [rv2.length, rb.length]; exact hz, ?_⟩
    · exact hb.sq
    have x : Ext H S (upd H p (.lst (vs2 ++ us2))) (S.set p (.lst (ys ++ zs))) := Ext.write hs
    exact kq _ _ _ _ x (so.write hs ⟨_, upd_same, (rv2.append rb).ext x⟩) (by unfold Rep; rfl) q
theorem pExtendA (ho : DE X A W o t) (ha : DA X A W (e :: es) ta) (hbase : attributeBase o "extend" X.env (eval o X.env) = eval o X.env := by rfl)
    (hfew : ((backTo pos (starEach (e :: es) X.env)).all (fun x => !x.1) && (backToKw pos (keywordEach [] X.env)).all (fun x => x.1.isSome)
      && decide ((e :: es).length + ([] : List Keyword).length + (if ([] : List Keyword).isEmpty then 0 else 1) < 30)) = true := by rfl)
    (hline : (apos.endLine == pos.line) = true := by rfl) (hs : starEach (e :: es) X.env = (false, eval e X.env) :: starEach es X.env := by rfl) (hplain : (backTo pos (starEach es X.env)).any (·.1) = false := by rfl) :
    DE X A W (.Call (.Attribute o "extend" apos) (e :: es) [] pos) (dMt mExtendA t ta) := de_bm PySem.F.slot_list_extend PySem.F.type_list_extend md_extendA ho ha hbase hfew hline hs hplain
end
end DL

namespace DL
open PySem PySem.Spec PyProof.Rows L2
/-- the receiver alone is asked -/
def dRecv (C : Nat) (sp : DSp) (t : DT) : DT := fun ρ S Q E => t ρ S (fun d S1 => isC S1 C d ∧ sp [d] S1 Q E) E
def dCallO (C : Nat) (sp : DSp) (t : DT) (u : DTA) : DT := fun ρ S Q E => t ρ S (fun d S1 => isC S1 C d ∧ u ρ S1 (fun ds S2 => isC S2 C d ∧ sp (d :: ds) S2 Q E) E) E
section
variable {X : Cx} {A : Cla} {W : WX} {e o fe : Expr} {es : List Expr} {pos p : Pos} {t tf : DT} {ta : DTA} {f g q : Addr} {k C : Nat} {sp : DSp} {m x : Str}
theorem recv_run {pins : List (Addr × Obj)} {s : Shared} {σ : L2.St} {H : Hp} {Q : VK} {Post : Value → Shared → Prop} (he : DE X A W e t) (I : L2.Inv X pins σ H s) (h : liftE (cX X A) W (dRecv C sp t) σ H Q)
    (k : ∀ (p0 dx : Addr) (fs : List (Str × V)) s1 H1, L2.Inv X pins σ H1 s1 → H1 p0 = some (.ins (A.cA C) dx fs) → liftSp (cX X A) sp [V.ref p0] H1 Q (WE W σ) → Post (.ref p0) s1) :
    wpAny (model X.prog X.w) X.A (eval e X.env) Post X.xe s := by
  obtain ⟨ρ, S, L, Qd, Ed, sl, so, h, kq, kx⟩ := h
  refine thn (he.run pins s σ H (fun x H1 => ∃ S1 d, Ext H S H1 S1 ∧ StoR (cX X A) L H1 S1 ∧ Rep (cX X A) L H1 S1 d x ∧ isC S1 C d ∧ sp [d] S1 Qd Ed) I ⟨ρ, S, L, _, Ed, sl, so, h, fun v H1 d S1 e1 so1 r1 q1 => ⟨S1, d, e1, so1, r1, q1⟩, kx⟩) fun u s1 ⟨y, H1, I1, rx, S1, d, e1, so1, r1, ⟨xs, hi⟩, q1⟩ => ?_
  obtain ⟨p0, dx, vs, ev, hp, _⟩ := insOf_ok so1 r1 hi
  subst ev
  have eu : u = Value.ref p0 := rx
  subst eu
  exact k p0 dx _ s1 H1 I1 hp ⟨[d], S1, L, Qd, Ed, so1, .cons r1 .nil, q1, kq.ext e1, (kx.ext e1).slots⟩
def dProp (C : Nat) (sp : DSp) (t : DT) : DT := fun ρ S Q E => t ρ S (fun d S1 => isC S1 C d ∧ sp [d] S1 Q DX0) E
/-- e.f, a property that raises nothing -/
theorem de_prop (he : DE X A W e t) (c : Cls X.K (A.cA C)) (hp : PropOf X.K (A.cA C) m q g) (F : FnD X.prog X.w (cX X A) X.mg X.base k g sp) (hr : Rm (k + 1) X.A) (tk : Takes X W)
    (hab : attributeBase e m X.env (eval e X.env) = eval e X.env) : DE X A W (.Attribute e m pos) (dProp C sp t) := by
  refine ⟨fun pins s σ H Q I ⟨ρ, S, L, Qd, Ed, sl, so, h, kq, kx⟩ => ?_⟩
  refine attr_of hab (thn (he.run pins s σ H (fun x H1 => ∃ S1 d, Ext H S H1 S1 ∧ StoR (cX X A) L H1 S1 ∧ Rep (cX X A) L H1 S1 d x ∧ isC S1 C d ∧ sp [d] S1 Qd DX0) I ⟨ρ, S, L, _, Ed, sl, so, h, fun v H1 d S1 e1 so1 r1 q1 => ⟨S1, d, e1, so1, r1, q1⟩, kx⟩) fun u s1 ⟨y, H1, I1, rx, S1, d, e1, so1, r1, ⟨xs, hi⟩, q1⟩ => ?_)
  obtain ⟨p0, dx, vs, ev, ea, _⟩ := insOf_ok so1 r1 hi
  subst ev
  have eu : u = Value.ref p0 := rx
  subst eu
  have q1 : liftSp (cX X A) sp [V.ref p0] H1 Q (fun _ _ _ => False) := ⟨[d], S1, L, Qd, DX0, so1, .cons r1 .nil, q1, kq.ext e1, fun _ _ _ _ _ _ _ _ z => z.elim⟩
  obtain ⟨mA, O, _, _, _, _⟩ := ins_get I1.hok ea
  obtain ⟨od, J, _⟩ := O.look
  obtain ⟨rest, hrec⟩ := hp.rec_
  have I2 := I1.tok (s1.toks + 1)
  have hc : (PySem.W.clsIn X.K (A.cA C)).isSome = true := by
    obtain ⟨cd, hc, _⟩ := PySem.W.any_some c.hd
    rw [hc]
    rfl
  refine PySem.W.get_bind I1.kIn J (PySem.W.plainGet_of (c.get m)).1 (PySem.W.findObj_data hc hp.at_ hp.get hp.tak) (PySem.W.plainGet_of (c.get m)).2 (wpAny_call (PySem.W.prop_get (s := { s1 with toks := s1.toks + 1 }) I1.kIn hrec ?_))
  refine codeAny_mono (F X.A.in1 X.stack _ H1 [.ref p0] [.ref p0] Q _ hr.in1 I2.env0.in1 (.cons rfl .nil) q1) fun r s' hq => ?_
  match r, hq with
  | .error er, ⟨_, _, _, _, _, _, _, _, _, _, _, _, z⟩ => exact z.elim
  | .ok (.ret u), hq =>
    obtain ⟨v, H', I3, rv, q3⟩ := I2.after hq
    show wpAny _ _ (handedOut u) _ _ _
    rw [PySem.W.handedOut_of (handed_of rv)]
    exact wpAny_pure ⟨v, H', I3, rv, q3⟩
/-- -e, by the class's __neg__ -/
theorem de_negO (he : DE X A W e t) (d : Dn X.K (A.cA C) "__neg__" g) (F : FnD X.prog X.w (cX X A) X.mg X.base k g sp) (hr : Rm k X.A) (tk : Takes X W) : DE X A W (.UnaryOp .USub e pos) (dRecv C sp t) := by
  refine ⟨fun pins s σ H Q I h => ?_⟩
  refine wpAny_UnaryOp (recv_run he I h fun p0 dx fs s1 H1 I1 ea q1 => ?_)
  obtain ⟨ox, od, J⟩ := inst_of I1 ea
  unfold unaryOp
  refine wpAny_holding ?_
  refine wpAny_bind (PySem.W.special_fn I1.kIn J d.at_ (beq_iff_eq.mp d.fn) (wpAny_mono (run_at (us := [.ref p0]) (vs := [.ref p0]) rfl F hr tk I1 (.cons rfl .nil) q1) (fun _ _ z => wpAny_pure z) fun _ _ z => z))
/-- f(a, ..), f an instance of C -/
theorem de_callO (hf : DE X A W fe tf) (c : StX.CallO X.K (A.cA C) g) (F : FnD X.prog X.w (cX X A) X.mg X.base k g sp) (hr : Rm k X.A) (tk : Takes X W) (ha : DA X A W (e :: es) ta)
    (ht : eval (.Call fe (e :: es) [] pos) X.env = (do callWith pos (← eval fe X.env) [] (backTo pos (starEach (e :: es) X.env)) (backToKw pos (keywordEach [] X.env))))
    (he : starEach (e :: es) X.env = (false, eval e X.env) :: starEach es X.env) (hpl : (backTo pos (starEach es X.env)).any (·.1) = false) : DE X A W (.Call fe (e :: es) [] pos) (dCallO C sp tf ta) := by
  refine ⟨fun pins s σ H Q I ⟨ρ, S, L, Qd, Ed, sl, so, h, kq, kx⟩ => ?_⟩
  refine Call_ (thn (hf.run pins s σ H (fun x H1 => ∃ S1 d, Ext H S H1 S1 ∧ StoR (cX X A) L H1 S1 ∧ Rep (cX X A) L H1 S1 d x ∧ isC S1 C d ∧ ta ρ S1 (fun ds S2 => isC S2 C d ∧ sp (d :: ds) S2 Qd Ed) Ed) I ⟨ρ, S, L, _, Ed, sl, so, h, fun v H1 d S1 e1 so1 r1 q1 => ⟨S1, d, e1, so1, r1, q1⟩, kx⟩) fun u s1 ⟨y, H1, I1, rx, S1, d, e1, so1, r1, ⟨xs, hi⟩, q1⟩ => ?_) ht
  obtain ⟨p0, dx, vs0, ev, hp, _⟩ := insOf_ok so1 r1 hi
  subst ev
  have eu : u = Value.ref p0 := rx
  subst eu
  refine StX.callO_with (thn (ha.run pos pins s1 σ H1 (fun vs H2 => (∃ dx fs, H2 p0 = some (.ins (A.cA C) dx fs)) ∧ liftSp (cX X A) sp (V.ref p0 :: vs) H2 Q (WE W σ)) I1 ⟨ρ, S1, L, _, Ed, sl.ext e1, so1, q1, fun vs H2 ds S2 e2 so2 r2 ⟨⟨xs, hi⟩, q2⟩ => ⟨?_, d :: ds, S2, L, Qd, Ed, so2, .cons (r1.ext e2) r2, q2, kq.ext (e1.trans e2), (kx.ext (e1.trans e2)).slots⟩, kx.ext e1⟩) fun us s2 ⟨vs, H2, I2, r, ⟨dx2, fs2, hp2⟩, q2⟩ => ?_) he hpl
  · obtain ⟨p1, dx, vs0, ev, hp, _⟩ := insOf_ok so2 (r1.ext e2) hi
    cases ev
    exact ⟨_, _, hp⟩
  · obtain ⟨ox, od, J, hd⟩ := StX.insC_at I2 (.inr ⟨_, _, hp2⟩)
    exact ⟨⟨_, ox, od, J, hd⟩, wpAny_call (PySem.W.kco_code I2.kIn J hd c.at_ c.fn c.fi (run_code (us := .ref p0 :: us) (vs := .ref p0 :: vs) rfl F hr tk I2 (.cons rfl r) q2))⟩
end
end DL

namespace PySem.SeqAt
open PySem PySem.Spec
open MeetsSeq MeetsSeq2 MeetsSeq3 SeqRoads2
/-! ### the order of tuples -/
def LtAt (A : Around) (s : Shared) (y x : Value) (b : Bool) : Prop :=
  ∀ (prog : Program) (w : World) (E : Value → Shared → Prop) (Q : Value → Shared → Prop), Q (.bool b) s → wpAny (model prog w) A (richCompare .Lt y x) Q E s
/-- by the first pair that differs; z where none does -/
inductive Lx (A : Around) (s : Shared) (z : Bool) : List (Value × Value) → Bool → Prop
  | nil : Lx A s z [] z
  | yes {p q r b} : EqAt A s p q true → Lx A s z r b → Lx A s z ((p, q) :: r) b
  | no {p q r b} : EqAt A s p q false → LtAt A s p q b → Lx A s z ((p, q) :: r) b
theorem tuple_ltAt (l b : Addr) (items items2 : Array Value) (n n2 : Nat) (dd dd2 : Option Addr) (sl sl2 : Array (Option Value)) (k : Bool) :
    Meets (Builtin.«tuple.__lt__» ⟨[.ref l, .ref b], []⟩)
      (fun A R s => s.heap.get? l = some { cls := .type "tuple", dict := dd, data := .seq items n, slots := sl } ∧ s.heap.get? b = some { cls := .type "tuple", dict := dd2, data := .seq items2 n2, slots := sl2 } ∧
        Lx A.in1 s (decide (items.size < items2.size)) (items.toList.zip items2.toList) k ∧
        R (.ok (.ret (.bool k))) s) :=
  .of_wp fun prog w A R s h => by
    obtain ⟨hp, g, d, tk, os⟩ := s; obtain ⟨hl, hb, he, h⟩ := h
    have f2 := AutoSeq1.sub_tuple_tuple
    wp_walk using AutoSeq1.wpAny_loadPart' hl, AutoSeq1.wpAny_loadPart' hb, wpAny_forIn_list _ (fun rest b s' => b.1 = none ∧ s' = ⟨hp, g, d, tk, os⟩ ∧ Lx A.in1 ⟨hp, g, d, tk, os⟩ (decide (items.size < items2.size)) rest k) _
    case turn =>
      rintro ⟨y, x⟩ rest b s' ⟨hb', rfl, hL⟩
      cases hL with
      | yes e r =>
        refine wpAny_bind (e prog w _ _ ?_)
        wp_walk
        exact ⟨rfl, rfl, r⟩
      | no e r =>
        refine wpAny_bind (e prog w _ _ ?_)
        have hr := r prog w
        generalize richCompare CmpOp.Lt y x = m at hr ⊢
        wp_walk
        refine hr _ _ ?_
        wp_walk
        exact ⟨_, rfl, h⟩
    case fin =>
      rintro ⟨b1, b2⟩ s' ⟨hb', rfl, hL⟩
      simp only at hb'
      subst hb'
      cases hL
      wp_walk
      exact ⟨_, rfl, by simpa [Builtin.Tuple.tupleCompareSizes] using h⟩
    case h =>
      exact ⟨rfl, rfl, he⟩
theorem LtAt.tuples {A : Around} {s : Shared} {l b : Addr} {items items2 : Array Value} {k : Bool} (hl : s.heap.IsTuple l items) (hb : s.heap.IsTuple b items2) (hu : A.units < cLine)
    (he : Lx A.in1 s (decide (items.size < items2.size)) (items.toList.zip items2.toList) k) : LtAt A s (.ref l) (.ref b) k := fun prog w E Q h => by
  obtain ⟨⟨cls, dd, data, sl⟩, ho, hc, n, hd⟩ := id hl
  obtain ⟨⟨cls2, dd2, data2, sl2⟩, ho2, hc2, n2, hd2⟩ := id hb
  simp only at hc hd hc2 hd2
  subst hc hd hc2 hd2
  exact richCompare_meets_room (op := .Lt) ⟨_, ho, rfl⟩ ⟨_, ho2, rfl⟩ F.slot_tuple_lt F.entry_tuple_lt (F.args_tuple_lt_2 _ _) (tuple_ltAt l b items items2 n n2 dd dd2 sl sl2 k)
    ⟨ho, ho2, he, show Value.bool k ≠ Value.notImplemented ∧ Q (.bool k) s from ⟨(fun x => nomatch x), h⟩⟩ hu
end PySem.SeqAt

namespace PySem.SeqAt
open PySem PySem.Spec
open MeetsSeq MeetsSeq2 MeetsSeq3 SeqRoads2
mutual
def ltP : PyData → PyData → Option Bool
  | .int i, .int j => some (decide (i < j))
  | .str a, .str b => some (decide (a.cps.toList < b.cps.toList))
  | .tuple xs, .tuple ys => ltL xs ys
  | _, _ => none
def ltL : List PyData → List PyData → Option Bool
  | [], [] => some false
  | [], _ :: _ => some true
  | _ :: _, [] => some false
  | x :: xs, y :: ys => if PyData.eqv x y = true then ltL xs ys else ltP x y
end
mutual
theorem ltAt_reads : ∀ (da db : PyData) (A : Around) (s : Shared) (a b : Value) (as bs : List Addr) (k : Bool), Reads s.heap a da as → Reads s.heap b db bs → da.canLay0 = true → db.canLay0 = true →
    A.units + min da.depth db.depth < cLine → ltP da db = some k → LtAt A s a b k
  | .int i, db, A, s, a, b, as, bs, k, ra, rb, ha, hb, hu, h => by
    cases db <;> try (simp [ltP] at h)
    cases ra
    cases rb
    subst h
    intro prog w E Q hq
    exact PyProof.Rows.lt_int hq
  | .str x, db, A, s, a, b, as, bs, k, ra, rb, ha, hb, hu, h => by
    cases db with
    | str y =>
      have h : some (decide (x.cps.toList < y.cps.toList)) = some k := by unfold ltP at h; exact h
      have h := Option.some.inj h
      cases ra
      cases rb
      subst h
      intro prog w E Q hq
      exact PyProof.Rows.lt_str hq
    | _ => simp [ltP] at h
  | .tuple xs, db, A, s, a, b, as, bs, k, ra, rb, ha, hb, hu, h => by
    cases db with
    | tuple ys =>
      cases ra with
      | @tuple l o vs n _ as₁ h1 h2 h3 h4 =>
        cases rb with
        | @tuple l' o' vs' n' ys bs₁ k1 k2 k3 k4 =>
          have hl : s.heap.IsTuple l vs := ⟨_, h1, h2, _, h3⟩
          have hl' : s.heap.IsTuple l' vs' := ⟨_, k1, k2, _, k3⟩
          have h : ltL xs ys = some k := by simpa [ltP] using h
          refine LtAt.tuples hl hl' (room_here hu) ?_
          have := lx_reads xs ys A.in1 s vs.toList vs'.toList _ _ k h4 k4 ha hb (room_in hu) h
          simpa using this
    | _ => simp [ltP] at h
  | .none, db, _, _, _, _, _, _, _, _, _, _, _, _, h => by cases db <;> simp [ltP] at h
  | .bool _, db, _, _, _, _, _, _, _, _, _, _, _, _, h => by cases db <;> simp [ltP] at h
  | .list _, db, _, _, _, _, _, _, _, _, _, _, _, _, h => by cases db <;> simp [ltP] at h
  | .dict _, db, _, _, _, _, _, _, _, _, _, _, _, _, h => by cases db <;> simp [ltP] at h
theorem lx_reads : ∀ (xs ys : List PyData) (A : Around) (s : Shared) (vs ws : List Value) (as bs : List Addr) (k : Bool), ReadsAll s.heap vs xs as → ReadsAll s.heap ws ys bs → PyData.canLayAll0 xs = true → PyData.canLayAll0 ys = true →
    A.units + min (PyData.depthAll xs) (PyData.depthAll ys) < cLine → ltL xs ys = some k → Lx A s (decide (vs.length < ws.length)) (vs.zip ws) k
  | [], [], _, _, _, _, _, _, k, ra, rb, _, _, _, h => by
    cases ra
    cases rb
    have h : false = k := by simpa [ltL] using h
    subst h
    exact .nil
  | [], _ :: _, _, _, _, _, _, _, k, ra, rb, _, _, _, h => by
    cases ra
    cases rb
    have h : true = k := by simpa [ltL] using h
    subst h
    exact .nil
  | _ :: _, [], _, _, _, _, _, _, k, ra, rb, _, _, _, h => by
    cases ra
    cases rb
    have h : false = k := by simpa [ltL] using h
    subst h
    exact .nil
  | x :: xs, y :: ys, A, s, _, _, _, _, k, ra, rb, ha, hb, hu, h => by
    have ha' : x.canLay0 = true ∧ PyData.canLayAll0 xs = true := by simpa [PyData.canLayAll0] using ha
    have hb' : y.canLay0 = true ∧ PyData.canLayAll0 ys = true := by simpa [PyData.canLayAll0] using hb
    cases ra with
    | @cons v vs _ _ as1 bs1 r rs =>
      cases rb with
      | @cons v' vs' _ _ as2 bs2 r' rs' =>
        have e := eqAt_reads x y A s _ _ _ _ r r' ha'.1 hb'.1 (room_head hu)
        have z : decide ((v :: vs).length < (v' :: vs').length) = decide (vs.length < vs'.length) := by simp
        rw [z, List.zip_cons_cons]
        unfold ltL at h
        cases hq : PyData.eqv x y with
        | true =>
          rw [hq] at h e
          exact .yes e (lx_reads xs ys A s _ _ _ _ k rs rs' ha'.2 hb'.2 (room_tail hu) (by simpa using h))
        | false =>
          rw [hq] at h e
          exact .no e (ltAt_reads x y A s _ _ _ _ k r r' ha'.1 hb'.1 (room_head hu) (by simpa using h))
end
end PySem.SeqAt
namespace DL
open PySem PySem.Spec PyProof.Rows L2 PySem.SeqAt
def dLtT : DR2 := fun x y S Q _ => (view S x).dat 32 = true ∧ (view S y).dat 32 = true ∧ ∃ b, ltP (view S x).p (view S y).p = some b ∧ Q (.bl b) S
theorem opd_ltT {k : Nat} (m : Rm k X.A) : OpD X A (compareOp .Lt) dLtT := by
  intro pins s σ H x y v u Q I rx ry ⟨S, L, dx, dy, Qd, so, r1, r2, ⟨h1, h2, b, hb, h⟩, kq⟩
  have a := view_dp so r1 h1 (by decide)
  have c := view_dp so r2 h2 (by decide)
  have hu := m.r.un
  obtain ⟨as, ra⟩ := Dp.reads I _ x v a.1 rx
  obtain ⟨bs, rb⟩ := Dp.reads I _ y u c.1 ry
  exact ltAt_reads _ _ X.A s v u as bs b ra rb (SeqAt.canLay_of_shaped a.2) (SeqAt.canLay_of_shaped c.2) (SeqAt.room_of_shaped a.2 m.r.units) hb X.prog X.w X.xe _ ⟨.bl b, H, I, rfl, kq _ H _ S .refl so (by unfold Rep; rfl) h⟩
end DL

namespace DL
open PySem PySem.Spec PyProof.Rows L2

/-! ### slots over typed data -/
/-- a slot: a value; an object of one's own that may change; a bag of drawn numbers -/
inductive Sl where
  | v (d : D) | o (m : MO) | b
abbrev OSt := List (Option Sl)
def Sl.own : Sl → Bool
  | .v _ => false
  | _ => true
def IsBag (o : Option MO) : Prop := ∃ a b, BagOk a b ∧ o = some (.lst [.int a, .int b])
abbrev At (os : OSt) (i : Nat) (s : Sl) : Prop := os[i]? = some (some s)
abbrev Rf (ρ : DSt) (i : Nat) (p : Addr) : Prop := ρ[i]? = some (some (.ref p))
structure R (os : OSt) (ρ : DSt) (S : Sto) : Prop where
  len : os.length ≤ ρ.length
  vl : ∀ i d, At os i (.v d) → ρ[i]? = some (some d)
  ob : ∀ i m, At os i (.o m) → ∃ p, Rf ρ i p ∧ S p = some m
  bg : ∀ i, At os i .b → ∃ p, Rf ρ i p ∧ IsBag (S p)
  ne : ∀ i j m s p, i ≠ j → At os i (.o m) → At os j s → s.own = true → Rf ρ i p → ¬ Rf ρ j p
/-- the bags' places -/
def BgA (os : OSt) (ρ : DSt) (p : Addr) : Prop := ∃ i, At os i .b ∧ Rf ρ i p
/-- what an expression leaves alone -/
def Kp (os : OSt) (ρ : DSt) (S S' : Sto) : Prop := ∀ p, S p ≠ none → (BgA os ρ p → IsBag (S' p)) ∧ (¬ BgA os ρ p → S' p = S p)
theorem IsBag.some {o : Option MO} (h : IsBag o) : o ≠ none := fun e => by
  obtain ⟨_, _, _, z⟩ := h
  rw [e] at z
  cases z
section
variable {os os' : OSt} {ρ ρ' : DSt} {S S' S2 : Sto}
theorem Kp.refl (r : R os ρ S) : Kp os ρ S S := fun p hp => ⟨fun ⟨i, h1, h2⟩ => by
  obtain ⟨q, a, b⟩ := r.bg i h1
  have : some (some (D.ref q)) = some (some (D.ref p)) := a.symm.trans h2
  cases this
  exact b, fun _ => rfl⟩
theorem Kp.some {p : Addr} (h : Kp os ρ S S') (hp : S p ≠ none) : S' p ≠ none := by
  by_cases e : BgA os ρ p
  · exact ((h p hp).1 e).some
  · rw [(h p hp).2 e]; exact hp
theorem Kp.trans (h : Kp os ρ S S') (k : Kp os ρ S' S2) : Kp os ρ S S2 := fun p hp => ⟨fun e => (k p (h.some hp)).1 e, fun e => ((k p (h.some hp)).2 e).trans ((h p hp).2 e)⟩
theorem R.kp (r : R os ρ S) (h : Kp os ρ S S') : R os ρ S' where
  len := r.len
  vl := r.vl
  ob := fun i m a => by
    obtain ⟨p, b, c⟩ := r.ob i m a
    refine ⟨p, b, ?_⟩
    rw [(h p (by rw [c]; exact fun e => by cases e)).2 fun ⟨j, hj, hr⟩ => ?_]
    · exact c
    · by_cases e : i = j
      · subst e
        have := a.symm.trans hj
        cases this
      · exact r.ne i j m .b p e a hj rfl b hr
  bg := fun i a => by
    obtain ⟨p, b, c⟩ := r.bg i a
    exact ⟨p, b, (h p c.some).1 ⟨i, a, b⟩⟩
  ne := r.ne
theorem at_set {i j : Nat} {x : Option Sl} {s : Sl} (h : At (os.set i x) j s) : (j = i ∧ x = some s ∧ i < os.length) ∨ (j ≠ i ∧ At os j s) := by
  unfold At at h
  rw [List.getElem?_set] at h
  by_cases e : i = j
  · subst e
    rw [if_pos rfl] at h
    split at h
    · rename_i hl
      cases h
      exact .inl ⟨rfl, rfl, hl⟩
    · cases h
  · rw [if_neg e] at h
    exact .inr ⟨fun z => e z.symm, h⟩
theorem R.set {i : Nat} {d : D} (r : R os ρ S) : R (os.set i (some (.v d))) (ρ.set i (some d)) S where
  len := by rw [List.length_set, List.length_set]; exact r.len
  vl := fun j x h => by
    rcases at_set h with ⟨rfl, e, hl⟩ | ⟨n, h⟩
    · cases e
      exact List.getElem?_set_self (Nat.lt_of_lt_of_le hl r.len)
    · rw [List.getElem?_set_ne (Ne.symm n)]; exact r.vl j x h
  ob := fun j m h => by
    rcases at_set h with ⟨_, e, _⟩ | ⟨n, h⟩
    · cases e
    · obtain ⟨p, a, b⟩ := r.ob j m h
      exact ⟨p, by unfold Rf; rw [List.getElem?_set_ne (Ne.symm n)]; exact a, b⟩
  bg := fun j h => by
    rcases at_set h with ⟨_, e, _⟩ | ⟨n, h⟩
    · cases e
    · obtain ⟨p, a, b⟩ := r.bg j h
      exact ⟨p, by unfold Rf; rw [List.getElem?_set_ne (Ne.symm n)]; exact a, b⟩
  ne := fun j k m s p hjk h1 h2 hs h3 h4 => by
    rcases at_set h1 with ⟨_, e, _⟩ | ⟨n1, h1⟩
    · cases e
    rcases at_set h2 with ⟨_, e, _⟩ | ⟨n2, h2⟩
    · cases e
      cases hs
    unfold Rf at h3 h4
    rw [List.getElem?_set_ne (Ne.symm n1)] at h3
    rw [List.getElem?_set_ne (Ne.symm n2)] at h4
    exact r.ne j k m s p hjk h1 h2 hs h3 h4
/-- some slots are forgotten -/
inductive Le : OSt → OSt → Prop where
  | nil {a} : Le [] a
  | same {a b x} : Le a b → Le (x :: a) (x :: b)
  | drop {a b x} : Le a b → Le (none :: a) (x :: b)
theorem Le.at_ : ∀ {a b : OSt}, Le a b → ∀ {i s}, At a i s → At b i s
  | _, _, .nil, i, s, h => by unfold At at h; simp at h
  | _, _, .same l, 0, s, h => h
  | _, _, .same l, i + 1, s, h => l.at_ (i := i) h
  | _, _, .drop l, 0, s, h => by unfold At at h; simp at h
  | _, _, .drop l, i + 1, s, h => l.at_ (i := i) h
theorem Le.len : ∀ {a b : OSt}, Le a b → a.length ≤ b.length
  | _, _, .nil => Nat.zero_le _
  | _, _, .same l => Nat.succ_le_succ l.len
  | _, _, .drop l => Nat.succ_le_succ l.len
theorem Le.refl : ∀ {a : OSt}, Le a a
  | [] => .nil
  | _ :: _ => .same Le.refl
theorem Le.trans : ∀ {a b c : OSt}, Le a b → Le b c → Le a c
  | _, _, _, .nil, _ => .nil
  | _, _, _, .same l, .same m => .same (l.trans m)
  | _, _, _, .same l, .drop m => .drop (l.trans m)
  | _, _, _, .drop l, .same m => .drop (l.trans m)
  | _, _, _, .drop l, .drop m => .drop (l.trans m)
theorem R.le (l : Le os' os) (r : R os ρ S) : R os' ρ S where
  len := Nat.le_trans l.len r.len
  vl := fun i d h => r.vl i d (l.at_ h)
  ob := fun i m h => r.ob i m (l.at_ h)
  bg := fun i h => r.bg i (l.at_ h)
  ne := fun i j m s p n h1 h2 => r.ne i j m s p n (l.at_ h1) (l.at_ h2)
end

/-! ### wishes -/
abbrev XW := Nat → List D → Prop
abbrev W (α : Type) := (α → Prop) → XW → Prop
abbrev X0 : XW := fun _ _ => False
/-- a value that is had at once -/
def pu {α : Type} (a : α) : W α := fun q _ => q a
section
variable {α β γ δ : Type}
def mapW (m : W α) (g : α → β) : W β := fun q x => m (fun a => q (g a)) x
def unW (m : W α) (f : α → (γ → Prop) → Prop) : W γ := fun q x => m (fun a => f a q) x
def opW (m1 : W α) (m2 : W β) (f : α → β → (γ → Prop) → Prop) : W γ := fun q x => m1 (fun a => m2 (fun b => f a b q) x) x
def pairW (m1 : W α) (m2 : W β) : W (α × β) := fun q x => m1 (fun a => m2 (fun b => q (a, b)) x) x
def chW (m1 : W α) (m2 : W β) (m3 : W γ) (f : α → β → (Bool → Prop) → Prop) (g : β → γ → (Bool → Prop) → Prop) : W Bool :=
  fun q x => m1 (fun a => m2 (fun b => f a b (fun k => if k = true then m3 (fun c => g b c q) x else q false)) x) x
def andW (m1 m2 : W Bool) : W Bool := fun q x => m1 (fun a => if a = true then m2 q x else q false) x
def orW (m1 m2 : W Bool) : W Bool := fun q x => m1 (fun a => if a = true then q true else m2 q x) x
def ifW (mc : W Bool) (m1 m2 : W α) : W α := fun q x => mc (fun c => if c = true then m1 q x else m2 q x) x
def lenW (m1 : W α) (n : α → Nat) : W α := fun q x => m1 (fun a => n a ≤ sizeLine ∧ q a) x
end
section
variable {α β γ : Type}
/-- an expression's reading over typed data -/
def rdE (os : OSt) (e : α → D) (m : W α) : DT := fun ρ S Q E => ∃ q x, R os ρ S ∧ m q x ∧ (∀ v S', Kp os ρ S S' → q v → Q (e v) S') ∧ (∀ n ds S', Kp os ρ S S' → x n ds → E n ds S')
/-- arguments -/
def rdA (os : OSt) (e : α → List D) (m : W α) : DTA := fun ρ S Q E => ∃ q x, R os ρ S ∧ m q x ∧ (∀ v S', Kp os ρ S S' → q v → Q (e v) S') ∧ (∀ n ds S', Kp os ρ S S' → x n ds → E n ds S')
/-- what is walked -/
def rdI (os : OSt) (e : α → D) (m : W (List α)) : DTI := fun ρ S Q E => ∃ q x, R os ρ S ∧ m q x ∧ (∀ v S', Kp os ρ S S' → q v → Q (v.map e) noG S') ∧ (∀ n ds S', Kp os ρ S S' → x n ds → E n ds S')
/-- t' is stronger than t -/
abbrev Imp (t' t : DT) : Prop := ∀ ρ S Q E, t' ρ S Q E → t ρ S Q E
abbrev ImpA (t' t : DTA) : Prop := ∀ ρ S Q E, t' ρ S Q E → t ρ S Q E
abbrev ImpI (t' t : DTI) : Prop := ∀ ρ S Q E, t' ρ S Q E → t ρ S Q E
abbrev ImpS (t' t : DTS) : Prop := ∀ D ρ S, t' D ρ S → t D ρ S
theorem te {X : Cx} {A : Cla} {Wx : WX} {ex : Expr} {t t' : DT} (h : DE X A Wx ex t) (i : Imp t' t) : DE X A Wx ex t' := PE.mono h fun σ H Q ⟨ρ, S, L, Qd, Ed, sl, so, h, k⟩ => ⟨ρ, S, L, Qd, Ed, sl, so, i _ _ _ _ h, k⟩
theorem tsa {X : Cx} {A : Cla} {Wx : WX} {ex : List Expr} {t t' : DTA} (h : DA X A Wx ex t) (i : ImpA t' t) : DA X A Wx ex t' := PA.mono h fun σ H Q ⟨ρ, S, L, Qd, Ed, sl, so, h, k⟩ => ⟨ρ, S, L, Qd, Ed, sl, so, i _ _ _ _ h, k⟩
theorem tt {X : Cx} {A : Cla} {Wx : WX} {ex : Expr} {t t' : DT} (h : DTst X A Wx ex (dTst t)) (i : Imp t' t) : DTst X A Wx ex (dTst t') := PT.mono h fun σ H Q ⟨ρ, S, L, Qd, Ed, sl, so, h, k⟩ => ⟨ρ, S, L, Qd, Ed, sl, so, i _ _ _ _ h, k⟩
theorem tw {X : Cx} {A : Cla} {Wx : WX} {ex : Expr} {t t' : DT} (h : DWst X A Wx ex (dTst t)) (i : Imp t' t) : DWst X A Wx ex (dTst t') := PW.mono h fun σ H Q ⟨ρ, S, L, Qd, Ed, sl, so, h, k⟩ => ⟨ρ, S, L, Qd, Ed, sl, so, i _ _ _ _ h, k⟩
theorem ti {X : Cx} {A : Cla} {Wx : WX} {tg ex : Expr} {t t' : DTI} (h : DItr X A Wx tg ex t) (i : ImpI t' t) : DItr X A Wx tg ex t' := PI.mono h fun σ H Q ⟨ρ, S, L, Qd, Ed, sl, so, h, k⟩ => ⟨ρ, S, L, Qd, Ed, sl, so, i _ _ _ _ h, k⟩
theorem ts {X : Cx} {A : Cla} {Wx : WX} {st : Stmt} {t t' : DTS} (h : DStm X A Wx st t) (i : ImpS t' t) : DStm X A Wx st t' := PS.mono h fun D σ H ⟨ρ, S, L, DD, sl, so, h, k⟩ => ⟨ρ, S, L, DD, sl, so, i _ _ _ h, k⟩
theorem tss {X : Cx} {A : Cla} {Wx : WX} {st : List Stmt} {t t' : DTS} (h : DStms X A Wx st t) (i : ImpS t' t) : DStms X A Wx st t' := PSs.mono h fun D σ H ⟨ρ, S, L, DD, sl, so, h, k⟩ => ⟨ρ, S, L, DD, sl, so, i _ _ _ h, k⟩
theorem dsU {ι : Type} {X : Cx} {A : Cla} {Wx : WX} {st : List Stmt} {t : ι → DTS} (h : ∀ i, DStms X A Wx st (t i)) : DStms X A Wx st (fun D ρ S => ∃ i, t i D ρ S) := ⟨fun pins s σ H D I ⟨ρ, S, L, DD, sl, so, ⟨i, hi⟩, k⟩ => (h i).run pins s σ H D I ⟨ρ, S, L, DD, sl, so, hi, k⟩⟩
theorem deU {ι : Type} {X : Cx} {A : Cla} {Wx : WX} {ex : Expr} {t : ι → DT} (h : ∀ i, DE X A Wx ex (t i)) : DE X A Wx ex (fun ρ S Q E => ∃ i, t i ρ S Q E) := ⟨fun pins s σ H Q I ⟨ρ, S, L, Qd, Ed, sl, so, ⟨i, hi⟩, k⟩ => (h i).run pins s σ H Q I ⟨ρ, S, L, Qd, Ed, sl, so, hi, k⟩⟩
theorem dtU {ι : Type} {X : Cx} {A : Cla} {Wx : WX} {ex : Expr} {t : ι → DT} (h : ∀ i, DTst X A Wx ex (dTst (t i))) : DTst X A Wx ex (dTst (fun ρ S Q E => ∃ i, t i ρ S Q E)) := ⟨fun pins s σ H Q I ⟨ρ, S, L, Qd, Ed, sl, so, ⟨i, hi⟩, k⟩ => (h i).run pins s σ H Q I ⟨ρ, S, L, Qd, Ed, sl, so, hi, k⟩⟩

/-! ### names, constants, operators -/
variable {os : OSt} {e e1 e2 e3 : α → D} {t u : DT}
theorem i_var {i : Nat} {e : α → D} {a : α} (h : At os i (.v (e a))) : Imp (rdE os e (pu a)) (dVar i) := fun ρ S Q E ⟨q, x, r, hq, k, _⟩ => ⟨_, r.vl i _ h, k _ S (.refl r) hq⟩
theorem i_cst {e : α → D} {a : α} : Imp (rdE os e (pu a)) (dCst (e a)) := fun ρ S Q E ⟨q, x, r, hq, k, _⟩ => k _ S (.refl r) hq
theorem i_as {e : α → D} {e' : β → D} {m : W α} (f : α → β) (h : ∀ a, e a = e' (f a)) : Imp (rdE os e' (mapW m f)) (rdE os e m) := fun ρ S Q E ⟨q, x, r, hm, k, kx⟩ => ⟨_, x, r, hm, fun v S' kp hq => by rw [h]; exact k _ S' kp hq, kx⟩
/-- a binary operator over typed data -/
def Op2 (R : DR2) (e1 : α → D) (e2 : β → D) (e : γ → D) (f : α → β → (γ → Prop) → Prop) : Prop := ∀ a b q S Q E, f a b q → (∀ v, q v → Q (e v) S) → R (e1 a) (e2 b) S Q E
def Op1 (R : DR1) (e1 : α → D) (e : γ → D) (f : α → (γ → Prop) → Prop) : Prop := ∀ a q S Q E, f a q → (∀ v, q v → Q (e v) S) → R (e1 a) S Q E
def OpA (R : DRA) (e1 : α → List D) (e : γ → D) (f : α → (γ → Prop) → Prop) : Prop := ∀ a q S Q E, f a q → (∀ v, q v → Q (e v) S) → R (e1 a) S Q E
end
section
variable {α β γ δ : Type} {os : OSt} {t u : DT}
theorem i_op {R2 : DR2} {e1 : α → D} {e2 : β → D} {e : γ → D} {f : α → β → (γ → Prop) → Prop} {m1 : W α} {m2 : W β} (o : Op2 R2 e1 e2 e f) :
    Imp (rdE os e (opW m1 m2 f)) (dOp R2 (rdE os e1 m1) (rdE os e2 m2)) := fun ρ S Q E ⟨q, x, r, hm, k, kx⟩ =>
  ⟨_, x, r, hm, fun a S1 k1 h1 => ⟨_, x, r.kp k1, h1, fun b S2 k2 h2 => o a b q S2 Q _ h2 fun v hv => k v S2 (k1.trans k2) hv, fun n ds S2 k2 hx => kx n ds S2 (k1.trans k2) hx⟩, kx⟩
theorem i_un {R1 : DR1} {e1 : α → D} {e : γ → D} {f : α → (γ → Prop) → Prop} {m1 : W α} (o : Op1 R1 e1 e f) :
    Imp (rdE os e (unW m1 f)) (dUn R1 (rdE os e1 m1)) := fun ρ S Q E ⟨q, x, r, hm, k, kx⟩ =>
  ⟨_, x, r, hm, fun a S1 k1 h1 => o a q S1 Q _ h1 fun v hv => k v S1 k1 hv, kx⟩
theorem i_cb {RA : DRA} {e1 : α → List D} {e : γ → D} {f : α → (γ → Prop) → Prop} {m1 : W α} (o : OpA RA e1 e f) :
    Imp (rdE os e (unW m1 f)) (dCB RA (rdA os e1 m1)) := fun ρ S Q E ⟨q, x, r, hm, k, kx⟩ =>
  ⟨_, x, r, hm, fun a S1 k1 h1 => o a q S1 Q _ h1 fun v hv => k v S1 k1 hv, kx⟩
theorem i_nil : ImpA (rdA os (fun (_ : Unit) => []) (pu ())) dNil := fun ρ S Q E ⟨q, x, r, hm, k, kx⟩ => k () S (.refl r) hm
theorem i_cons {e1 : α → D} {e2 : β → List D} {m1 : W α} {m2 : W β} : ImpA (rdA os (fun (a : α × β) => e1 a.1 :: e2 a.2) (pairW m1 m2)) (dCons (rdE os e1 m1) (rdA os e2 m2)) := fun ρ S Q E ⟨q, x, r, hm, k, kx⟩ =>
  ⟨_, x, r, hm, fun a S1 k1 h1 => ⟨_, x, r.kp k1, h1, fun b S2 k2 h2 => k (a, b) S2 (k1.trans k2) h2, fun n ds S2 k2 hx => kx n ds S2 (k1.trans k2) hx⟩, kx⟩
/-- a chain of two comparisons -/
theorem i_chain {R1 R2 : DR2} {e1 : α → D} {e2 : β → D} {e3 : γ → D} {f : α → β → (Bool → Prop) → Prop} {g : β → γ → (Bool → Prop) → Prop} {m1 : W α} {m2 : W β} {m3 : W γ} (o1 : Op2 R1 e1 e2 D.bl f) (o2 : Op2 R2 e2 e3 D.bl g) :
    Imp (rdE os D.bl (chW m1 m2 m3 f g)) (dChain R1 R2 (rdE os e1 m1) (rdE os e2 m2) (rdE os e3 m3)) := fun ρ S Q E ⟨q, x, r, hm, k, kx⟩ =>
  ⟨_, x, r, hm, fun a S1 k1 h1 => ⟨_, x, r.kp k1, h1, fun b S2 k2 h2 => o1 a b _ S2 _ _ h2 fun z hz => ⟨z, rfl, by
    cases z with
    | true =>
      rw [if_pos rfl] at hz ⊢
      have k3 := k1.trans k2
      exact ⟨_, x, r.kp k3, hz, fun c S3 k4 h3 => o2 b c q S3 Q _ h3 fun v hv => k v S3 (k3.trans k4) hv, fun n ds S3 k4 hx => kx n ds S3 (k3.trans k4) hx⟩
    | false =>
      rw [if_neg Bool.false_ne_true] at hz ⊢
      exact k false S2 (k1.trans k2) hz⟩, fun n ds S2 k2 hx => kx n ds S2 (k1.trans k2) hx⟩, kx⟩

/-! ### truths -/
/-- the truth of typed data -/
def Tru (e : α → D) (f : α → Bool) : Prop := ∀ a S, truth S (e a) = some (f a)
theorem tru_bl : Tru D.bl id := fun _ _ => rfl
theorem i_not {e1 : α → D} {f : α → Bool} {m1 : W α} (tr : Tru e1 f) : Imp (rdE os D.bl (mapW m1 (fun a => !f a))) (dNot (rdE os e1 m1)) := fun ρ S Q E ⟨q, x, r, hm, k, kx⟩ =>
  ⟨_, x, r, hm, fun a S1 k1 h1 => ⟨_, tr a S1, k _ S1 k1 h1⟩, kx⟩
theorem i_and {m1 m2 : W Bool} : Imp (rdE os D.bl (andW m1 m2)) (dAnd (rdE os D.bl m1) (rdE os D.bl m2)) := fun ρ S Q E ⟨q, x, r, hm, k, kx⟩ =>
  ⟨_, x, r, hm, fun a S1 k1 h1 => ⟨a, rfl, by
    cases a with
    | true =>
      rw [if_pos rfl] at h1 ⊢
      exact ⟨q, x, r.kp k1, h1, fun v S2 k2 h2 => k v S2 (k1.trans k2) h2, fun n ds S2 k2 hx => kx n ds S2 (k1.trans k2) hx⟩
    | false => exact k _ S1 k1 h1⟩, kx⟩
theorem i_or {m1 m2 : W Bool} : Imp (rdE os D.bl (orW m1 m2)) (dOr (rdE os D.bl m1) (rdE os D.bl m2)) := fun ρ S Q E ⟨q, x, r, hm, k, kx⟩ =>
  ⟨_, x, r, hm, fun a S1 k1 h1 => ⟨a, rfl, by
    cases a with
    | false =>
      rw [if_neg Bool.false_ne_true] at h1 ⊢
      exact ⟨q, x, r.kp k1, h1, fun v S2 k2 h2 => k v S2 (k1.trans k2) h2, fun n ds S2 k2 hx => kx n ds S2 (k1.trans k2) hx⟩
    | true => exact k _ S1 k1 h1⟩, kx⟩
/-- a value by its truth -/
theorem i_tru {e1 : α → D} {f : α → Bool} {m1 : W α} (tr : Tru e1 f) {Q : Bool → Sto → Prop} {ρ : DSt} {S : Sto} {E : DX} (h : dTst (rdE os D.bl (mapW m1 f)) ρ S Q E) : dTst (rdE os e1 m1) ρ S Q E := by
  obtain ⟨q, x, r, hm, k, kx⟩ := h
  refine ⟨_, x, r, hm, fun a S1 k1 h1 => ?_, kx⟩
  obtain ⟨b, e, h⟩ := k (f a) S1 k1 h1
  cases e
  exact ⟨_, tr a S1, h⟩
theorem ttr {X : Cx} {A : Cla} {Wx : WX} {ex : Expr} {e1 : α → D} {f : α → Bool} {m1 : W α} (h : DTst X A Wx ex (dTst (rdE os e1 m1))) (tr : Tru e1 f) : DTst X A Wx ex (dTst (rdE os D.bl (mapW m1 f))) :=
  PT.mono h fun σ H Q ⟨ρ, S, L, Qd, Ed, sl, so, h, k⟩ => ⟨ρ, S, L, Qd, Ed, sl, so, i_tru tr h, k⟩
theorem i_if {mc : W Bool} {e : α → D} {m1 m2 : W α} : Imp (rdE os e (ifW mc m1 m2)) (dIf (rdE os D.bl mc) (rdE os e m1) (rdE os e m2)) := fun ρ S Q E ⟨q, x, r, hm, k, kx⟩ =>
  ⟨_, x, r, hm, fun a S1 k1 h1 => ⟨a, rfl, by
    cases a with
    | true =>
      rw [if_pos rfl] at h1 ⊢
      exact ⟨q, x, r.kp k1, h1, fun v S2 k2 h2 => k v S2 (k1.trans k2) h2, fun n ds S2 k2 hx => kx n ds S2 (k1.trans k2) hx⟩
    | false =>
      rw [if_neg Bool.false_ne_true] at h1 ⊢
      exact ⟨q, x, r.kp k1, h1, fun v S2 k2 h2 => k v S2 (k1.trans k2) h2, fun n ds S2 k2 hx => kx n ds S2 (k1.trans k2) hx⟩⟩, kx⟩
/-- displays -/
theorem i_lst {e1 : α → List D} {m1 : W α} : Imp (rdE os (fun a => D.lst (e1 a)) (lenW m1 (fun a => (e1 a).length))) (dLst false (rdA os e1 m1)) := fun ρ S Q E ⟨q, x, r, hm, k, kx⟩ =>
  ⟨_, x, r, hm, fun a S1 k1 ⟨hl, h1⟩ => ⟨hl, k a S1 k1 h1⟩, kx⟩
theorem i_tup {e1 : α → List D} {m1 : W α} : Imp (rdE os (fun a => D.tup (e1 a)) (lenW m1 (fun a => (e1 a).length))) (dTup (rdA os e1 m1)) := fun ρ S Q E ⟨q, x, r, hm, k, kx⟩ =>
  ⟨_, x, r, hm, fun a S1 k1 ⟨hl, h1⟩ => ⟨hl, k a S1 k1 h1⟩, kx⟩
end
end DL

namespace DL
open PySem PySem.Spec PyProof.Rows L2

/-! ### statements over typed data -/
structure K (β κ : Type) where
  rt : β → Prop
  bk : κ → Prop
  ct : κ → Prop
  xx : XW
/-- a block's mirror: what is wanted behind it, at its other ends -/
abbrev M (α β κ : Type) := (α → Prop) → K β κ → Prop
section
variable {α β κ γ σ τ : Type}
def sqK {α1 : Type} (m1 : M α1 β κ) (m2 : α1 → M α β κ) : M α β κ := fun nx k => m1 (fun a => m2 a nx k) k
def endK (a : α) : M α β κ := fun nx _ => nx a
def bkK (a : κ) : M α β κ := fun _ k => k.bk a
def ctK (a : κ) : M α β κ := fun _ k => k.ct a
def noK : M α β κ := fun _ _ => False
def ifK (mc : W Bool) (m1 m2 : M α β κ) : M α β κ := fun nx k => mc (fun c => if c = true then m1 nx k else m2 nx k) k.xx
def setK (m : W α) : M α β κ := fun nx k => m nx k.xx
def dropK (m : W γ) : M Unit β κ := fun nx k => m (fun _ => nx ()) k.xx
def retK (m : W β) : M α β κ := fun _ k => m k.rt k.xx
def rtK (b : β) : M α β κ := fun _ k => k.rt b
def forK (xs : List τ) (a : σ) (body : τ → σ → M σ β σ) (nx : σ → Prop) (k : K β κ) : Prop := match xs with
  | [] => nx a
  | x :: xs => body x a (fun a' => forK xs a' body nx k) ⟨k.rt, nx, fun a' => forK xs a' body nx k, k.xx⟩
def forM (mi : W (List τ)) (a : σ) (body : τ → σ → M σ β σ) : M σ β κ := fun nx k => mi (fun xs => forK xs a body nx k) k.xx
end
/-- what stood ahead of the def; the bags; the object that is changed for the caller -/
structure Fr where
  S0 : Sto
  B0 : Addr → Prop
  pin : Option Addr
def FrR (F : Fr) (S : Sto) : Prop := ∀ p, F.S0 p ≠ none → (F.B0 p → IsBag (S p)) ∧ (¬ F.B0 p → S p = F.S0 p)
structure G (F : Fr) (os : OSt) (ρ : DSt) (S : Sto) : Prop where
  env : R os ρ S
  fr : FrR F S
  own : ∀ i m p, At os i (.o m) → Rf ρ i p → F.S0 p = none
  bgs : ∀ i p, At os i .b → Rf ρ i p → F.B0 p ∨ F.S0 p = none
  pin : ∀ p, F.pin = some p → Rf ρ 0 p ∧ F.S0 p = none
structure Sig (β κ : Type) where
  eb : β → D
  rr : β → Option MO := fun _ => none
  rl : κ → OSt
  osx : OSt := []
  pz : Bool := false
section
variable {α β κ : Type} {F : Fr} {os os' : OSt} {ρ : DSt} {S S' : Sto}
theorem G.kp (g : G F os ρ S) (k : Kp os ρ S S') : G F os ρ S' where
  env := g.env.kp k
  fr := fun p hp => by
    obtain ⟨h1, h2⟩ := g.fr p hp
    by_cases hb : BgA os ρ p
    · obtain ⟨i, a, b⟩ := hb
      have s : S p ≠ none := by
        obtain ⟨q, c, d⟩ := g.env.bg i a
        have : some (some (D.ref q)) = some (some (D.ref p)) := c.symm.trans b
        cases this
        exact d.some
      refine ⟨fun _ => (k p s).1 ⟨i, a, b⟩, fun n => ?_⟩
      rcases g.bgs i p a b with z | z
      · exact absurd z n
      · exact absurd z hp
    · refine ⟨fun z => ?_, fun z => ?_⟩
      · rw [(k p (h1 z).some).2 hb]; exact h1 z
      · have e := h2 z
        rw [(k p (by rw [e]; exact hp)).2 hb]; exact e
  own := g.own
  bgs := g.bgs
  pin := g.pin
theorem G.le (l : Le os' os) (g : G F os ρ S) : G F os' ρ S where
  env := g.env.le l
  fr := g.fr
  own := fun i m p h => g.own i m p (l.at_ h)
  bgs := fun i p h => g.bgs i p (l.at_ h)
  pin := g.pin
theorem G.set {i : Nat} {d : D} (g : G F os ρ S) (h : i = 0 → F.pin = none) : G F (os.set i (some (.v d))) (ρ.set i (some d)) S where
  env := g.env.set
  fr := g.fr
  own := fun j m p a b => by
    rcases at_set a with ⟨_, e, _⟩ | ⟨n, a⟩
    · cases e
    · unfold Rf at b
      rw [List.getElem?_set_ne (Ne.symm n)] at b
      exact g.own j m p a b
  bgs := fun j p a b => by
    rcases at_set a with ⟨_, e, _⟩ | ⟨n, a⟩
    · cases e
    · unfold Rf at b
      rw [List.getElem?_set_ne (Ne.symm n)] at b
      exact g.bgs j p a b
  pin := fun p hp => by
    have n : i ≠ 0 := fun e => by rw [h e] at hp; cases hp
    unfold Rf
    rw [List.getElem?_set_ne n]
    exact g.pin p hp
/-- a new object at a slot -/
theorem G.new {i : Nat} {m : MO} {p : Addr} (g : G F os ρ S) (h : i = 0 → F.pin = none) (hp : S p = none) : G F (os.set i (some (.o m))) (ρ.set i (some (.ref p))) (S.set p m) := by
  have off : ∀ q, S q ≠ none → (S.set p m) q = S q := fun q hq => Sto.set_ne fun e => hq (by rw [e]; exact hp)
  have hF : F.S0 p = none := by
    cases e : F.S0 p with
    | none => rfl
    | some o =>
      have hn : F.S0 p ≠ none := by rw [e]; exact fun z => by cases z
      obtain ⟨h1, h2⟩ := g.fr p hn
      by_cases hb : F.B0 p
      · exact absurd hp (h1 hb).some
      · rw [h2 hb] at hp; exact absurd hp hn
  refine ⟨⟨?_, fun j x a => ?_, fun j m' a => ?_, fun j a => ?_, fun j k m' s q hjk a b hs c d => ?_⟩, fun q hq => ?_, fun j m' q a b => ?_, fun j q a b => ?_, fun q hq => ?_⟩
  · rw [List.length_set, List.length_set]; exact g.env.len
  · rcases at_set a with ⟨_, e, _⟩ | ⟨n, a⟩
    · cases e
    · rw [List.getElem?_set_ne (Ne.symm n)]; exact g.env.vl j x a
  · rcases at_set a with ⟨rfl, e, hl⟩ | ⟨n, a⟩
    · cases e
      exact ⟨p, List.getElem?_set_self (Nat.lt_of_lt_of_le hl g.env.len), Sto.set_same⟩
    · obtain ⟨q, b, c⟩ := g.env.ob j m' a
      exact ⟨q, by unfold Rf; rw [List.getElem?_set_ne (Ne.symm n)]; exact b, by rw [off q (by rw [c]; exact fun z => by cases z)]; exact c⟩
  · rcases at_set a with ⟨_, e, _⟩ | ⟨n, a⟩
    · cases e
    · obtain ⟨q, b, c⟩ := g.env.bg j a
      exact ⟨q, by unfold Rf; rw [List.getElem?_set_ne (Ne.symm n)]; exact b, by rw [off q c.some]; exact c⟩
  · show False
    have live : ∀ (l : Nat) (s : Sl) (q : Addr), At os l s → s.own = true → Rf ρ l q → S q ≠ none := fun l s q a hs c => by
      cases s with
      | v d => cases hs
      | o mm =>
        obtain ⟨q', b, z⟩ := g.env.ob l mm a
        have : some (some (D.ref q')) = some (some (D.ref q)) := b.symm.trans c
        cases this
        rw [z]; exact fun z => by cases z
      | b =>
        obtain ⟨q', b, z⟩ := g.env.bg l a
        have : some (some (D.ref q')) = some (some (D.ref q)) := b.symm.trans c
        cases this
        exact z.some
    unfold Rf at c d
    rcases at_set a with ⟨rfl, e, hl⟩ | ⟨n, a⟩
    · rw [List.getElem?_set_self (Nat.lt_of_lt_of_le hl g.env.len)] at c
      cases c
      rcases at_set b with ⟨e2, _, _⟩ | ⟨n2, b⟩
      · exact hjk e2.symm
      · rw [List.getElem?_set_ne (Ne.symm n2)] at d
        exact live k s p b hs d hp
    · rw [List.getElem?_set_ne (Ne.symm n)] at c
      rcases at_set b with ⟨e2, _, hl⟩ | ⟨n2, b⟩
      · rw [e2, List.getElem?_set_self (Nat.lt_of_lt_of_le hl g.env.len)] at d
        cases d
        exact live j (.o m') p a rfl c hp
      · rw [List.getElem?_set_ne (Ne.symm n2)] at d
        exact g.env.ne j k m' s q hjk a b hs c d
  · obtain ⟨h1, h2⟩ := g.fr q hq
    have : q ≠ p := fun e => hq (by rw [e]; exact hF)
    exact ⟨fun z => by rw [Sto.set_ne this]; exact h1 z, fun z => by rw [Sto.set_ne this]; exact h2 z⟩
  · unfold Rf at b
    rcases at_set a with ⟨rfl, e, hl⟩ | ⟨n, a⟩
    · rw [List.getElem?_set_self (Nat.lt_of_lt_of_le hl g.env.len)] at b
      cases b
      exact hF
    · rw [List.getElem?_set_ne (Ne.symm n)] at b
      exact g.own j m' q a b
  · unfold Rf at b
    rcases at_set a with ⟨_, e, _⟩ | ⟨n, a⟩
    · cases e
    · rw [List.getElem?_set_ne (Ne.symm n)] at b
      exact g.bgs j q a b
  · have n : i ≠ 0 := fun e => by rw [h e] at hq; cases hq
    unfold Rf
    rw [List.getElem?_set_ne n]
    exact g.pin q hq
/-- the object of a slot is changed -/
theorem G.write {i : Nat} {m m' : MO} {p : Addr} (g : G F os ρ S) (hi : At os i (.o m)) (hr : Rf ρ i p) : G F (os.set i (some (.o m'))) ρ (S.set p m') := by
  have hF := g.own i m p hi hr
  have off : ∀ j s q, j ≠ i → At os j s → s.own = true → Rf ρ j q → (S.set p m') q = S q := fun j s q n a hs b => Sto.set_ne fun e => g.env.ne i j m s q (Ne.symm n) hi a hs (e ▸ hr) b
  refine ⟨⟨?_, fun j x a => ?_, fun j m2 a => ?_, fun j a => ?_, fun j k m2 s q hjk a b hs c d => ?_⟩, fun q hq => ?_, fun j m2 q a b => ?_, fun j q a b => ?_, g.pin⟩
  · rw [List.length_set]; exact g.env.len
  · rcases at_set a with ⟨_, e, _⟩ | ⟨n, a⟩
    · cases e
    · exact g.env.vl j x a
  · rcases at_set a with ⟨rfl, e, hl⟩ | ⟨n, a⟩
    · cases e
      exact ⟨p, hr, Sto.set_same⟩
    · obtain ⟨q, b, c⟩ := g.env.ob j m2 a
      exact ⟨q, b, by rw [off j _ q n a rfl b]; exact c⟩
  · rcases at_set a with ⟨_, e, _⟩ | ⟨n, a⟩
    · cases e
    · obtain ⟨q, b, c⟩ := g.env.bg j a
      exact ⟨q, b, by rw [off j _ q n a rfl b]; exact c⟩
  · have old : ∀ l s, At (os.set i (some (.o m'))) l s → s.own = true → ∃ s', At os l s' ∧ s'.own = true := fun l s a hs => by
      rcases at_set a with ⟨rfl, _, _⟩ | ⟨_, a⟩
      · exact ⟨_, hi, rfl⟩
      · exact ⟨s, a, hs⟩
    have ow : ∃ m3, At os j (.o m3) := by
      rcases at_set a with ⟨rfl, _, _⟩ | ⟨_, a⟩
      · exact ⟨_, hi⟩
      · exact ⟨_, a⟩
    obtain ⟨m3, a⟩ := ow
    obtain ⟨s', b, hs⟩ := old k s b hs
    exact g.env.ne j k m3 s' q hjk a b hs c d
  · obtain ⟨h1, h2⟩ := g.fr q hq
    have : q ≠ p := fun e => hq (by rw [e]; exact hF)
    exact ⟨fun z => by rw [Sto.set_ne this]; exact h1 z, fun z => by rw [Sto.set_ne this]; exact h2 z⟩
  · rcases at_set a with ⟨rfl, e, hl⟩ | ⟨n, a⟩
    · exact g.own j m q hi b
    · exact g.own j m2 q a b
  · rcases at_set a with ⟨_, e, _⟩ | ⟨n, a⟩
    · cases e
    · exact g.bgs j q a b
end
section
variable {α β κ α1 : Type}
structure Kont (F : Fr) (sg : Sig β κ) (res : α → OSt) (nx : α → Prop) (k : K β κ) (DD : DEnds) : Prop where
  nx : ∀ a ρ S, G F (res a) ρ S → nx a → DD.nx ρ S
  rt : ∀ b S, FrR F S → (∀ p m, F.pin = some p → sg.rr b = some m → S p = some m) → k.rt b → DD.rt (sg.eb b) S
  bk : ∀ l ρ S, G F (sg.rl l) ρ S → k.bk l → DD.bk ρ S
  ct : ∀ l ρ S, G F (sg.rl l) ρ S → k.ct l → DD.ct ρ S
  xx : ∀ n ds ρ S, G F sg.osx ρ S → k.xx n ds → DD.xx ρ n ds S
/-- a block's reading over typed data -/
def rdS (sg : Sig β κ) (os : OSt) (res : α → OSt) (m : M α β κ) : DTS := fun DD ρ S => ∃ nx k F, G F os ρ S ∧ (sg.pz = false → F.pin = none) ∧ m nx k ∧ Kont F sg res nx k DD
variable {sg : Sig β κ} {os : OSt} {res : α → OSt} {res1 : α1 → OSt}
theorem s_end {a : α} (l : Le (res a) os) : ImpS (rdS sg os res (endK a)) sNext := fun DD ρ S ⟨nx, k, F, g, _, h, kk⟩ => kk.nx a ρ S (g.le l) h
theorem s_seq {m1 : M α1 β κ} {m2 : α1 → M α β κ} : ImpS (rdS sg os res (sqK m1 m2)) (sSeq (rdS sg os res1 m1) (fun DD ρ S => ∃ a, rdS sg (res1 a) res (m2 a) DD ρ S)) :=
  fun DD ρ S ⟨nx, k, F, g, z, h, kk⟩ => ⟨_, k, F, g, z, h, ⟨fun a ρ' S' g' h' => ⟨a, nx, k, F, g', z, h', kk⟩, kk.rt, kk.bk, kk.ct, kk.xx⟩⟩
theorem s_break {a : κ} (l : Le (sg.rl a) os) : ImpS (rdS sg os res (bkK a)) sBreak := fun DD ρ S ⟨nx, k, F, g, _, h, kk⟩ => kk.bk a ρ S (g.le l) h
theorem s_cont {a : κ} (l : Le (sg.rl a) os) : ImpS (rdS sg os res (ctK a)) sCont := fun DD ρ S ⟨nx, k, F, g, _, h, kk⟩ => kk.ct a ρ S (g.le l) h
theorem s_never : ImpS (rdS sg os res noK) sNever := fun DD ρ S ⟨_, _, _, _, _, h, _⟩ => h
theorem s_if {mc : W Bool} {m1 m2 : M α β κ} (hx : Le sg.osx os) : ImpS (rdS sg os res (ifK mc m1 m2)) (sIf (rdE os D.bl mc) (rdS sg os res m1) (rdS sg os res m2)) :=
  fun DD ρ S ⟨nx, k, F, g, z, h, kk⟩ => ⟨_, k.xx, g.env, h, fun c S1 k1 h1 => ⟨c, rfl, by
    cases c with
    | true => rw [if_pos rfl] at h1 ⊢; exact ⟨nx, k, F, g.kp k1, z, h1, kk⟩
    | false => rw [if_neg Bool.false_ne_true] at h1 ⊢; exact ⟨nx, k, F, g.kp k1, z, h1, kk⟩⟩, fun n ds S1 k1 h1 => kk.xx n ds ρ S1 ((g.kp k1).le hx) h1⟩
theorem s_set {γ : Type} {e : γ → D} {m : W γ} {i : Nat} (hx : Le sg.osx os) (hp : (i != 0 || !sg.pz) = true) : ImpS (rdS sg os (fun v => os.set i (some (.v (e v)))) (setK m)) (sAsg (rdE os e m) (gNm i)) :=
  fun DD ρ S ⟨nx, k, F, g, z, h, kk⟩ => ⟨_, k.xx, g.env, h, fun v S1 k1 h1 => kk.nx v _ S1 ((g.kp k1).set fun ei => z (by
    subst ei
    cases e : sg.pz with
    | false => rfl
    | true => rw [e] at hp; cases hp)) h1, fun n ds S1 k1 h1 => kk.xx n ds ρ S1 ((g.kp k1).le hx) h1⟩
theorem pz_of {i : Nat} {F : Fr} (hp : (i != 0 || !sg.pz) = true) (z : sg.pz = false → F.pin = none) : i = 0 → F.pin = none := fun ei => z (by
    subst ei
    cases e : sg.pz with
    | false => rfl
    | true => rw [e] at hp; cases hp)
theorem s_drop {γ : Type} {e : γ → D} {m : W γ} (hx : Le sg.osx os) : ImpS (rdS sg os (fun (_ : Unit) => os) (dropK m)) (sDrop (rdE os e m)) :=
  fun DD ρ S ⟨nx, k, F, g, z, h, kk⟩ => ⟨_, k.xx, g.env, h, fun v S1 k1 h1 => kk.nx () _ S1 (g.kp k1) h1, fun n ds S1 k1 h1 => kk.xx n ds ρ S1 ((g.kp k1).le hx) h1⟩
/-- what a def of a changed object hands back -/
def RrOk (sg : Sig β κ) (os : OSt) (b : β) : Prop := sg.pz = true → ∀ m, sg.rr b = some m → At os 0 (.o m)
theorem pin_of {F : Fr} {b : β} {ρ : DSt} {S : Sto} (g : G F os ρ S) (z : sg.pz = false → F.pin = none) (rr : RrOk sg os b) : ∀ p m, F.pin = some p → sg.rr b = some m → S p = some m := fun p m hp hm => by
  have e : sg.pz = true := by
    cases e : sg.pz with
    | false => rw [z e] at hp; cases hp
    | true => rfl
  obtain ⟨q, a, c⟩ := g.env.ob 0 m (rr e m hm)
  have : some (some (D.ref q)) = some (some (D.ref p)) := a.symm.trans (g.pin p hp).1
  cases this
  exact c
theorem s_ret {m : W β} (hx : Le sg.osx os) (hr : ∀ b, RrOk sg os b) : ImpS (rdS sg os res (retK m)) (sRet (rdE os sg.eb m)) :=
  fun DD ρ S ⟨nx, k, F, g, z, h, kk⟩ => ⟨_, k.xx, g.env, h, fun v S1 k1 h1 => kk.rt v S1 (g.kp k1).fr (pin_of (g.kp k1) z (hr v)) h1, fun n ds S1 k1 h1 => kk.xx n ds ρ S1 ((g.kp k1).le hx) h1⟩
theorem s_retN {b : β} (hb : sg.eb b = .non) (hr : RrOk sg os b) : ImpS (rdS sg os res (rtK b)) sRetN :=
  fun DD ρ S ⟨nx, k, F, g, z, h, kk⟩ => by
    have := kk.rt b S g.fr (pin_of g z hr) h
    rw [hb] at this
    exact this
end

/-! ### targets -/
/-- the objects of the slots are old ones -/
def Sub (os : OSt) (ρ : DSt) (os' : OSt) (ρ' : DSt) : Prop := ∀ i s, s.own = true → At os' i s → At os i s ∧ ρ'[i]? = ρ[i]?
theorem Sub.trans {os os1 os2 : OSt} {ρ ρ1 ρ2 : DSt} (h : Sub os ρ os1 ρ1) (k : Sub os1 ρ1 os2 ρ2) : Sub os ρ os2 ρ2 := fun i s hs a => by
  obtain ⟨b, c⟩ := k i s hs a
  obtain ⟨d, e⟩ := h i s hs b
  exact ⟨d, c.trans e⟩
theorem Sub.bg {os os' : OSt} {ρ ρ' : DSt} {p : Addr} (h : Sub os ρ os' ρ') : BgA os' ρ' p → BgA os ρ p := fun ⟨i, a, b⟩ => by
  obtain ⟨c, d⟩ := h i .b rfl a
  exact ⟨i, c, by unfold Rf at b ⊢; rw [← d]; exact b⟩
theorem Kp.sub {os os' : OSt} {ρ ρ' : DSt} {S S' : Sto} (r : R os ρ S) (h : Sub os ρ os' ρ') (k : Kp os' ρ' S S') : Kp os ρ S S' := fun p hp => by
  obtain ⟨k1, k2⟩ := k p hp
  refine ⟨fun b => ?_, fun n => k2 fun z => n (h.bg z)⟩
  by_cases e : BgA os' ρ' p
  · exact k1 e
  · rw [k2 e]
    exact (Kp.refl r p hp).1 b
def TgOk (g : Tg) (d : D) (os os' : OSt) : Prop := ∀ F ρ S (Q : DP), G F os ρ S → F.pin = none ∨ (0 ∉ g.slots) → (∀ ρ', G F os' ρ' S → Sub os ρ os' ρ' → Q ρ' S) → g.d d ρ Q S
def TgsOk (gs : List Tg) (ds : List D) (os os' : OSt) : Prop := ∀ F ρ S (Q : DP), G F os ρ S → F.pin = none ∨ (0 ∉ Tg.slotss gs) → (∀ ρ', G F os' ρ' S → Sub os ρ os' ρ' → Q ρ' S) → Tg.ds gs ds ρ Q S
theorem tg_nm {i : Nat} {d : D} {os : OSt} : TgOk (.nm i) d os (os.set i (some (.v d))) := fun F ρ S Q g hp k => by
  unfold Tg.d
  refine k _ (g.set fun e => hp.elim id fun n => absurd (by unfold Tg.slots; rw [e]; exact List.mem_singleton.mpr rfl) n) fun j s hs a => ?_
  rcases at_set a with ⟨_, e, _⟩ | ⟨n, a⟩
  · cases e
    cases hs
  · exact ⟨a, List.getElem?_set_ne (Ne.symm n)⟩
theorem tg_tup {gs : List Tg} {ds : List D} {os os' : OSt} (h : TgsOk gs ds os os') : TgOk (.tup gs) (.tup ds) os os' := fun F ρ S Q g hp k => by
  unfold Tg.d
  exact ⟨ds, rfl, h F ρ S Q g (by unfold Tg.slots at hp; exact hp) k⟩
theorem tgs_nil {os : OSt} : TgsOk [] [] os os := fun F ρ S Q g hp k => by
  unfold Tg.ds
  exact ⟨rfl, k ρ g fun _ _ _ a => ⟨a, rfl⟩⟩
theorem tgs_cons {g : Tg} {gs : List Tg} {d : D} {ds : List D} {os os1 os' : OSt} (h : TgOk g d os os1) (hs : TgsOk gs ds os1 os') : TgsOk (g :: gs) (d :: ds) os os' := fun F ρ S Q gg hp k => by
  unfold Tg.ds
  refine ⟨d, ds, rfl, h F ρ S _ gg ?_ fun ρ1 g1 s1 => hs F ρ1 S Q g1 ?_ fun ρ2 g2 s2 => k ρ2 g2 (s1.trans s2)⟩
  · exact hp.imp id fun n z => n (by unfold Tg.slotss; exact List.mem_append_left _ z)
  · exact hp.imp id fun n z => n (by unfold Tg.slotss; exact List.mem_append_right _ z)
section
variable {α β κ τ σ : Type} {sg : Sig β κ} {os : OSt}
theorem pz_tg {g : Tg} {F : Fr} (hp : (!sg.pz || !(g.slots.contains 0)) = true) (z : sg.pz = false → F.pin = none) : F.pin = none ∨ 0 ∉ g.slots := by
  cases e : sg.pz with
  | false => exact .inl (z e)
  | true =>
    rw [e] at hp
    refine .inr fun m => ?_
    have : g.slots.contains 0 = true := List.contains_iff_mem.mpr m
    rw [this] at hp
    cases hp
theorem s_asg {γ : Type} {e : γ → D} {m : W γ} {g : Tg} {os' : γ → OSt} (ht : ∀ v, TgOk g (e v) os (os' v)) (hx : Le sg.osx os) (hp : (!sg.pz || !(g.slots.contains 0)) = true) :
    ImpS (rdS sg os os' (setK m)) (sAsg (rdE os e m) (gOf g)) :=
  fun DD ρ S ⟨nx, k, F, gg, z, h, kk⟩ => ⟨_, k.xx, gg.env, h, fun v S1 k1 h1 => ht v F ρ S1 _ (gg.kp k1) (pz_tg hp z) fun ρ' g' _ => kk.nx v ρ' S1 g' h1, fun n ds S1 k1 h1 => kk.xx n ds ρ S1 ((gg.kp k1).le hx) h1⟩

/-! ### loops -/
theorem s_for {e : τ → D} {mi : W (List τ)} {rs : σ → OSt} {a0 : σ} {mb : τ → σ → M σ β σ} {g : Tg} {osb : τ → σ → OSt}
    (l0 : Le (rs a0) os) (ht : ∀ x a, TgOk g (e x) (rs a) (osb x a)) (hx : Le sg.osx os) (hx2 : ∀ a, Le sg.osx (rs a)) (hp : (!sg.pz || !(g.slots.contains 0)) = true) :
    ImpS (rdS sg os rs (forM mi a0 mb))
      (sFor (rdI os e mi) (gOf g) (fun DD ρ S => ∃ y a, rdS (⟨sg.eb, sg.rr, rs, sg.osx, sg.pz⟩ : Sig β σ) (osb y a) rs (mb y a) DD ρ S)) :=
  fun DD ρ S ⟨nx, k, F, gg, z, h, kk⟩ => by
    refine ⟨_, k.xx, gg.env, h, fun xs S1 k1 h1 => ?_, fun n ds S1 k1 h1 => kk.xx n ds ρ S1 ((gg.kp k1).le hx) h1⟩
    have g1 := (gg.kp k1).le l0
    clear h k1 gg
    revert h1 g1
    generalize a0 = a
    generalize S1 = S1
    generalize ρ = ρ
    induction xs generalizing a S1 ρ with
    | nil => exact fun h1 g1 => ⟨trivial, kk.nx a ρ S1 g1 h1⟩
    | cons y xs ih =>
      intro h1 g1
      refine ⟨trivial, ht y a F ρ S1 _ g1 (pz_tg hp z) fun ρ1 g2 _ => ?_⟩
      exact ⟨y, a, _, _, F, g2, z, h1, ⟨fun a' ρ' S' g' h' => ih a' S' ρ' h' g', kk.rt, fun a' ρ' S' g' h' => kk.nx a' ρ' S' g' h', fun a' ρ' S' g' h' => ih a' S' ρ' h' g', kk.xx⟩⟩
/-- the walks -/
theorem i_seq {e : τ → D} {en : α → D} {f : α → List τ} {m : W α} (h : ∀ a S, seqI S (en a) = some ((f a).map e, noG)) : ImpI (rdI os e (mapW m f)) (iSeqD (rdE os en m)) :=
  fun ρ S Q E ⟨q, x, r, hm, k, kx⟩ => ⟨_, x, r, hm, fun a S1 k1 h1 => ⟨_, _, h a S1, k _ S1 k1 h1⟩, kx⟩
def rng (lo : Int) (n : Nat) : List Int := (List.range n).map fun (i : Nat) => lo + (i : Int)
theorem rng_map {lo : Int} {n : Nat} : (rng lo n).map D.int = rngD lo n := by
  unfold rng rngD
  rw [List.map_map]
  rfl
def rng1W (m : W Int) : W (List Int) := fun q x => m (fun j => (-(2 ^ 62) ≤ j ∧ j < 2 ^ 62) ∧ q (rng 0 j.toNat)) x
def rng2W (m : W (Int × Int × Unit)) : W (List Int) := fun q x => m (fun j => (-(2 ^ 62) ≤ j.1 ∧ j.1 < 2 ^ 62 ∧ -(2 ^ 62) ≤ j.2.1 ∧ j.2.1 < 2 ^ 62) ∧ q (rng j.1 (j.2.1 - j.1).toNat)) x
def oneW {α : Type} (m : W α) : W (α × Unit) := fun q x => m (fun a => q (a, ())) x
theorem i_rng1 {m : W Int} : ImpI (rdI os D.int (rng1W m)) (iRng1D (rdA os (fun (a : Int × Unit) => [D.int a.1]) (oneW m))) :=
  fun ρ S Q E ⟨q, x, r, hm, k, kx⟩ => ⟨fun a => (-(2 ^ 62) ≤ a.1 ∧ a.1 < 2 ^ 62) ∧ q (rng 0 a.1.toNat), x, r, hm, fun a S1 k1 ⟨⟨h0, h1⟩, h2⟩ => ⟨a.1, rfl, h0, h1, by
    have := k _ S1 k1 h2
    rw [rng_map] at this
    exact this⟩, kx⟩
theorem i_rng2 {m : W (Int × Int × Unit)} : ImpI (rdI os D.int (rng2W m)) (iRng2D (rdA os (fun (a : Int × Int × Unit) => [D.int a.1, D.int a.2.1]) m)) :=
  fun ρ S Q E ⟨q, x, r, hm, k, kx⟩ => ⟨_, x, r, hm, fun a S1 k1 ⟨h0, h2⟩ => ⟨a.1, a.2.1, rfl, h0, by
    have := k _ S1 k1 h2
    rw [rng_map] at this
    exact this⟩, kx⟩
def enumT (i : Nat) : List τ → List (Int × τ)
  | [] => []
  | x :: xs => ((i : Nat), x) :: enumT (i + 1) xs
def eP (e1 : α → D) (e2 : β → D) (a : α × β) : D := .tup [e1 a.1, e2 a.2]
def eP3 {γ : Type} (e1 : α → D) (e2 : β → D) (e3 : γ → D) (a : α × β × γ) : D := .tup [e1 a.1, e2 a.2.1, e3 a.2.2]
def eP4 {γ δ : Type} (e1 : α → D) (e2 : β → D) (e3 : γ → D) (e4 : δ → D) (a : α × β × γ × δ) : D := .tup [e1 a.1, e2 a.2.1, e3 a.2.2.1, e4 a.2.2.2]
def eL (e : α → D) (xs : List α) : D := .lst (xs.map e)
def eT (e : α → D) (xs : List α) : D := .tup (xs.map e)
def eC (xs : List Int) : D := .cst (xs.map D.int)
def eN (_ : Unit) : D := .non
def eD (d : D) : D := d
def eO (e : α → D) : Option α → D
  | none => .non
  | some a => e a
def eLo (e : α → D) (xs : List α) : MO := .lst (xs.map e)
theorem enumT_map {e : τ → D} : ∀ (xs : List τ) (i : Nat), (enumT i xs).map (eP D.int e) = enumL i (xs.map e)
  | [], _ => rfl
  | x :: xs, i => by
    show D.tup [D.int (i : Nat), e x] :: (enumT (i + 1) xs).map (eP D.int e) = _
    rw [enumT_map xs (i + 1)]
    rfl
theorem i_enum {e : τ → D} {en : α → D} {f : α → List τ} {m : W α} (h : ∀ a S, seqI S (en a) = some ((f a).map e, noG) ∧ (match en a with | .str _ => False | _ => True)) :
    ImpI (rdI os (eP D.int e) (mapW m (fun a => enumT 0 (f a)))) (iEnumD (rdA os (fun (a : α × Unit) => [en a.1]) (oneW m))) :=
  fun ρ S Q E ⟨q, x, r, hm, k, kx⟩ => ⟨fun a => q (enumT 0 (f a.1)), x, r, hm, fun a S1 k1 h1 => ⟨_, _, _, rfl, (h a.1 S1).1, (h a.1 S1).2, by
    have := k _ S1 k1 h1
    rw [enumT_map] at this
    exact this⟩, kx⟩
theorem sq_lst {e : τ → D} (a : List τ) (S : Sto) : seqI S (eL e a) = some (a.map e, noG) := rfl
theorem sq_tup {e : τ → D} (a : List τ) (S : Sto) : seqI S (eT e a) = some (a.map e, noG) := rfl
theorem sq_cst (a : List Int) (S : Sto) : seqI S (eC a) = some (a.map D.int, noG) := rfl
end
end DL

namespace DL
open PySem PySem.Spec PyProof.Rows L2

/-! ### comprehensions -/
def wipeO (os : OSt) : List Nat → OSt
  | [] => os
  | v :: vs => (wipeO os vs).set v none
theorem at_wipe1 {os : OSt} {i j : Nat} {s : Sl} (h : At (os.set i none) j s) : j ≠ i ∧ At os j s := by
  rcases at_set h with ⟨_, e, _⟩ | h
  · cases e
  · exact h
theorem R.wipe1 {os : OSt} {ρ : DSt} {S : Sto} {i : Nat} (r : R os ρ S) : R (os.set i none) (ρ.set i none) S where
  len := by rw [List.length_set, List.length_set]; exact r.len
  vl := fun j d a => by
    obtain ⟨n, a⟩ := at_wipe1 a
    rw [List.getElem?_set_ne (Ne.symm n)]; exact r.vl j d a
  ob := fun j d a => by
    obtain ⟨n, a⟩ := at_wipe1 a
    obtain ⟨p, b, c⟩ := r.ob j d a
    exact ⟨p, by unfold Rf; rw [List.getElem?_set_ne (Ne.symm n)]; exact b, c⟩
  bg := fun j a => by
    obtain ⟨n, a⟩ := at_wipe1 a
    obtain ⟨p, b, c⟩ := r.bg j a
    exact ⟨p, by unfold Rf; rw [List.getElem?_set_ne (Ne.symm n)]; exact b, c⟩
  ne := fun j k m s p hjk a b hs c d => by
    obtain ⟨n, a⟩ := at_wipe1 a
    obtain ⟨n2, b⟩ := at_wipe1 b
    unfold Rf at c d
    rw [List.getElem?_set_ne (Ne.symm n)] at c
    rw [List.getElem?_set_ne (Ne.symm n2)] at d
    exact r.ne j k m s p hjk a b hs c d
theorem R.wipe {os : OSt} {ρ : DSt} {S : Sto} (r : R os ρ S) : ∀ vs : List Nat, R (wipeO os vs) (wipeD ρ vs) S ∧ Sub os ρ (wipeO os vs) (wipeD ρ vs)
  | [] => ⟨r, fun _ _ _ a => ⟨a, rfl⟩⟩
  | v :: vs => by
    obtain ⟨r1, s1⟩ := r.wipe vs
    refine ⟨r1.wipe1, s1.trans fun i s hs a => ?_⟩
    obtain ⟨n, a⟩ := at_wipe1 a
    exact ⟨a, List.getElem?_set_ne (Ne.symm n)⟩
/-- no frame -/
abbrev F0 : Fr := ⟨fun _ => none, fun _ => False, none⟩
theorem R.g0 {os : OSt} {ρ : DSt} {S : Sto} (r : R os ρ S) : G F0 os ρ S := ⟨r, fun p h => absurd rfl h, fun _ _ _ _ _ => rfl, fun _ _ _ _ => .inr rfl, fun p h => by cases h⟩
def compK {τ β : Type} (xs : List τ) (c : τ → (Bool → Prop) → Prop) (f : τ → (β → Prop) → Prop) (q : List β → Prop) : Prop := match xs with
  | [] => q []
  | x :: xs => c x (fun b => if b = true then f x (fun y => compK xs c f (fun ys => q (y :: ys))) else compK xs c f q)
def mapK {τ β : Type} (xs : List τ) (f : τ → (β → Prop) → Prop) (q : List β → Prop) : Prop := match xs with
  | [] => q []
  | x :: xs => f x (fun y => mapK xs f (fun ys => q (y :: ys)))
theorem compK_yes {τ β : Type} {f : τ → (β → Prop) → Prop} : ∀ {xs : List τ} {q : List β → Prop}, compK xs (fun _ k => k true) f q = mapK xs f q
  | [], q => rfl
  | x :: xs, q => by
    unfold compK mapK
    simp only [if_true]
    congr 1
    funext y
    exact compK_yes
def lcW {τ β : Type} (mi : W (List τ)) (mc : τ → W Bool) (mf : τ → W β) : W (List β) := fun q x => mi (fun xs => xs.length ≤ sizeLine ∧ compK xs (fun x k => mc x k X0) (fun x k => mf x k X0) q) x
def lcyW {τ β : Type} (mi : W (List τ)) (mf : τ → W β) : W (List β) := fun q x => mi (fun xs => xs.length ≤ sizeLine ∧ mapK xs (fun x k => mf x k X0) q) x
section
variable {α β γ τ σ : Type} {os : OSt}
theorem lc_go {e : τ → D} {e2 : β → D} {mc : τ → W Bool} {mf : τ → W β} {g : Tg} {vs : List Nat} {osb : τ → OSt} {ρ : DSt} {Q : List D → Sto → Prop} {q : List β → Prop}
    (ht : ∀ x, TgOk g (e x) (wipeO os vs) (osb x)) : ∀ (xs : List τ) (acc : List D) (S : Sto), R os ρ S → compK xs (fun x k => mc x k X0) (fun x k => mf x k X0) q →
    (∀ ys S', Kp os ρ S S' → q ys → Q (acc ++ ys.map e2) S') →
    lcGo g noG (dTst (fun ρ S Q E => ∃ x, rdE (osb x) D.bl (mc x) ρ S Q E)) (fun ρ S Q E => ∃ x, rdE (osb x) e2 (mf x) ρ S Q E) (wipeD ρ vs) Q (xs.map e) acc S := by
  intro xs
  induction xs generalizing q with
  | nil =>
    intro acc S r h k
    unfold compK at h
    refine ⟨trivial, ?_⟩
    have := k [] S (.refl r) h
    rw [List.map_nil, List.append_nil] at this
    exact this
  | cons x xs ih =>
    intro acc S r h k
    unfold compK at h
    refine ⟨trivial, ?_⟩
    obtain ⟨r1, s1⟩ := r.wipe vs
    refine ht x F0 (wipeD ρ vs) S _ r1.g0 (.inl rfl) fun ρ1 g1 s2 => ?_
    have sub := s1.trans s2
    refine ⟨x, _, X0, g1.env, h, fun b S1 k1 hb => ⟨b, rfl, ?_⟩, fun _ _ _ _ z => z.elim⟩
    have kk1 := k1.sub r sub
    cases b with
    | true =>
      rw [if_pos rfl] at hb
      dsimp only
      rw [if_pos rfl]
      refine ⟨x, _, X0, g1.env.kp k1, hb, fun y S2 k2 hy => ?_, fun _ _ _ _ z => z.elim⟩
      have kk2 := kk1.trans (k2.sub (r.kp kk1) sub)
      refine ih (acc ++ [e2 y]) S2 (r.kp kk2) hy fun ys S' k3 hq => ?_
      have := k (y :: ys) S' (kk2.trans k3) hq
      rw [List.append_assoc]
      exact this
    | false =>
      rw [if_neg Bool.false_ne_true] at hb
      dsimp only
      rw [if_neg Bool.false_ne_true]
      exact ih acc S1 (r.kp kk1) hb fun ys S' k3 hq => k ys S' (kk1.trans k3) hq
theorem lc_goY {e : τ → D} {e2 : β → D} {mf : τ → W β} {g : Tg} {vs : List Nat} {osb : τ → OSt} {ρ : DSt} {Q : List D → Sto → Prop} {q : List β → Prop}
    (ht : ∀ x, TgOk g (e x) (wipeO os vs) (osb x)) : ∀ (xs : List τ) (acc : List D) (S : Sto), R os ρ S → mapK xs (fun x k => mf x k X0) q →
    (∀ ys S', Kp os ρ S S' → q ys → Q (acc ++ ys.map e2) S') →
    lcGo g noG dYes (fun ρ S Q E => ∃ x, rdE (osb x) e2 (mf x) ρ S Q E) (wipeD ρ vs) Q (xs.map e) acc S := by
  intro xs
  induction xs generalizing q with
  | nil =>
    intro acc S r h k
    unfold mapK at h
    refine ⟨trivial, ?_⟩
    have := k [] S (.refl r) h
    rw [List.map_nil, List.append_nil] at this
    exact this
  | cons x xs ih =>
    intro acc S r h k
    unfold mapK at h
    refine ⟨trivial, ?_⟩
    obtain ⟨r1, s1⟩ := r.wipe vs
    refine ht x F0 (wipeD ρ vs) S _ r1.g0 (.inl rfl) fun ρ1 g1 s2 => ?_
    have sub := s1.trans s2
    unfold dYes
    dsimp only
    rw [if_pos rfl]
    refine ⟨x, _, X0, g1.env, h, fun y S2 k2 hy => ?_, fun _ _ _ _ z => z.elim⟩
    have kk2 := k2.sub r sub
    refine ih (acc ++ [e2 y]) S2 (r.kp kk2) hy fun ys S' k3 hq => ?_
    have := k (y :: ys) S' (kk2.trans k3) hq
    rw [List.append_assoc]
    exact this
/-- a new object of one's own is handed on -/
def rdN (os : OSt) (e : α → MO) (m : W α) : DT := fun ρ S Q E => ∃ q x, R os ρ S ∧ m q x ∧ (∀ v S' p, Kp os ρ S S' → S' p = none → q v → Q (.ref p) (S'.set p (e v))) ∧ (∀ n ds S', Kp os ρ S S' → x n ds → E n ds S')
theorem i_lc {e : τ → D} {e2 : β → D} {mi : W (List τ)} {mc : τ → W Bool} {mf : τ → W β} {g : Tg} {vs : List Nat} {osb : τ → OSt} (ht : ∀ x, TgOk g (e x) (wipeO os vs) (osb x)) :
    Imp (rdE os (eL e2) (lcW mi mc mf))
      (dLc false (rdI os e mi) g (dTst (fun ρ S Q E => ∃ x, rdE (osb x) D.bl (mc x) ρ S Q E)) (fun ρ S Q E => ∃ x, rdE (osb x) e2 (mf x) ρ S Q E) vs) := fun ρ S Q E ⟨q, x, r, hm, k, kx⟩ =>
  ⟨_, x, r, hm, fun xs S1 k1 ⟨hl, h1⟩ => ⟨by rw [List.length_map]; exact hl, lc_go ht xs [] S1 (r.kp k1) h1 fun ys S' k2 hq => k ys S' (k1.trans k2) hq⟩, kx⟩
theorem i_lcY {e : τ → D} {e2 : β → D} {mi : W (List τ)} {mf : τ → W β} {g : Tg} {vs : List Nat} {osb : τ → OSt} (ht : ∀ x, TgOk g (e x) (wipeO os vs) (osb x)) :
    Imp (rdE os (eL e2) (lcyW mi mf))
      (dLc false (rdI os e mi) g dYes (fun ρ S Q E => ∃ x, rdE (osb x) e2 (mf x) ρ S Q E) vs) := fun ρ S Q E ⟨q, x, r, hm, k, kx⟩ =>
  ⟨_, x, r, hm, fun xs S1 k1 ⟨hl, h1⟩ => ⟨by rw [List.length_map]; exact hl, lc_goY ht xs [] S1 (r.kp k1) h1 fun ys S' k2 hq => k ys S' (k1.trans k2) hq⟩, kx⟩
theorem n_lc {e : τ → D} {e2 : β → D} {mi : W (List τ)} {mc : τ → W Bool} {mf : τ → W β} {g : Tg} {vs : List Nat} {osb : τ → OSt} (ht : ∀ x, TgOk g (e x) (wipeO os vs) (osb x)) :
    Imp (rdN os (eLo e2) (lcW mi mc mf))
      (dLc true (rdI os e mi) g (dTst (fun ρ S Q E => ∃ x, rdE (osb x) D.bl (mc x) ρ S Q E)) (fun ρ S Q E => ∃ x, rdE (osb x) e2 (mf x) ρ S Q E) vs) := fun ρ S Q E ⟨q, x, r, hm, k, kx⟩ =>
  ⟨_, x, r, hm, fun xs S1 k1 ⟨hl, h1⟩ => ⟨by rw [List.length_map]; exact hl, lc_go ht xs [] S1 (r.kp k1) h1 fun ys S' k2 hq => fun p hp => k ys S' p (k1.trans k2) hp hq⟩, kx⟩
theorem n_lcY {e : τ → D} {e2 : β → D} {mi : W (List τ)} {mf : τ → W β} {g : Tg} {vs : List Nat} {osb : τ → OSt} (ht : ∀ x, TgOk g (e x) (wipeO os vs) (osb x)) :
    Imp (rdN os (eLo e2) (lcyW mi mf))
      (dLc true (rdI os e mi) g dYes (fun ρ S Q E => ∃ x, rdE (osb x) e2 (mf x) ρ S Q E) vs) := fun ρ S Q E ⟨q, x, r, hm, k, kx⟩ =>
  ⟨_, x, r, hm, fun xs S1 k1 ⟨hl, h1⟩ => ⟨by rw [List.length_map]; exact hl, lc_goY ht xs [] S1 (r.kp k1) h1 fun ys S' k2 hq => fun p hp => k ys S' p (k1.trans k2) hp hq⟩, kx⟩
theorem n_lst {e1 : α → List D} {m1 : W α} : Imp (rdN os (fun a => .lst (e1 a)) (lenW m1 (fun a => (e1 a).length))) (dLst true (rdA os e1 m1)) := fun ρ S Q E ⟨q, x, r, hm, k, kx⟩ =>
  ⟨_, x, r, hm, fun a S1 k1 ⟨hl, h1⟩ => ⟨hl, fun p hp => k a S1 p k1 hp h1⟩, kx⟩
theorem n_as {e : α → MO} {e' : β → MO} {m : W α} (f : α → β) (h : ∀ a, e a = e' (f a)) : Imp (rdN os e' (mapW m f)) (rdN os e m) := fun ρ S Q E ⟨q, x, r, hm, k, kx⟩ => ⟨_, x, r, hm, fun v S' p kp hp hq => by rw [h]; exact k _ S' p kp hp hq, kx⟩
end

/-! ### objects of one's own at slots -/
section
variable {α β κ γ τ : Type} {sg : Sig β κ} {os : OSt}
theorem s_new {e : γ → MO} {m : W γ} {i : Nat} (hx : Le sg.osx os) (hp : (i != 0 || !sg.pz) = true) : ImpS (rdS sg os (fun v => os.set i (some (.o (e v)))) (setK m)) (sAsg (rdN os e m) (gNm i)) :=
  fun DD ρ S ⟨nx, k, F, g, z, h, kk⟩ => ⟨_, k.xx, g.env, h, fun v S1 p k1 hp1 h1 => kk.nx v _ _ ((g.kp k1).new (pz_of hp z) hp1) h1, fun n ds S1 k1 h1 => kk.xx n ds ρ S1 ((g.kp k1).le hx) h1⟩
def appK (m : W γ) (n : Nat) : M γ β κ := fun nx k => m (fun v => n < sizeLine ∧ nx v) k.xx
def extK (m : W γ) (n : Nat) (f : γ → Nat) : M γ β κ := fun nx k => m (fun v => n + f v ≤ sizeLine ∧ nx v) k.xx
theorem s_append {e : τ → D} {xs : List τ} {m : W τ} {i : Nat} (hi : At os i (.o (eLo e xs))) (hx : Le sg.osx os) :
    ImpS (rdS sg os (fun v => os.set i (some (.o (eLo e (xs ++ [v]))))) (appK m xs.length)) (sDrop (dMt mAppend (dVar i) (dCons (rdE os e m) dNil))) :=
  fun DD ρ S ⟨nx, k, F, g, z, h, kk⟩ => by
    obtain ⟨p, hr, hs⟩ := g.env.ob i _ hi
    refine ⟨_, hr, ⟨p, _, rfl, hs⟩, _, k.xx, g.env, h, fun v S1 k1 ⟨hl, h1⟩ => ?_, fun n ds S1 k1 h1 => kk.xx n ds ρ S1 ((g.kp k1).le hx) h1⟩
    obtain ⟨p', hr', hs'⟩ := (g.kp k1).env.ob i _ hi
    have : some (some (D.ref p)) = some (some (D.ref p')) := hr.symm.trans hr'
    cases this
    refine ⟨p, _, _, rfl, rfl, hs', by rw [List.length_map]; exact hl, ?_⟩
    have e2 : (MO.lst (xs.map e ++ [e v])) = eLo e (xs ++ [v]) := by unfold eLo; rw [List.map_append]; rfl
    rw [e2]
    exact kk.nx v ρ _ ((g.kp k1).write hi hr) h1
theorem s_extend {e : τ → D} {en : α → D} {f : α → List τ} {xs : List τ} {m : W α} {i : Nat} (hf : ∀ a S, seqM S (en a) = some ((f a).map e)) (hi : At os i (.o (eLo e xs))) (hx : Le sg.osx os) :
    ImpS (rdS sg os (fun v => os.set i (some (.o (eLo e (xs ++ f v))))) (extK m xs.length (fun v => (f v).length))) (sDrop (dMt mExtend (dVar i) (dCons (rdE os en m) dNil))) :=
  fun DD ρ S ⟨nx, k, F, g, z, h, kk⟩ => by
    obtain ⟨p, hr, hs⟩ := g.env.ob i _ hi
    refine ⟨_, hr, ⟨p, _, rfl, hs⟩, _, k.xx, g.env, h, fun v S1 k1 ⟨hl, h1⟩ => ?_, fun n ds S1 k1 h1 => kk.xx n ds ρ S1 ((g.kp k1).le hx) h1⟩
    obtain ⟨p', hr', hs'⟩ := (g.kp k1).env.ob i _ hi
    have : some (some (D.ref p)) = some (some (D.ref p')) := hr.symm.trans hr'
    cases this
    refine ⟨p, _, _, _, rfl, rfl, hs', hf v S1, by rw [List.length_map, List.length_map]; exact hl, ?_⟩
    have e2 : (MO.lst (xs.map e ++ (f v).map e)) = eLo e (xs ++ f v) := by unfold eLo; rw [List.map_append]
    rw [e2]
    exact kk.nx v ρ _ ((g.kp k1).write hi hr) h1
/-- an object is let stand -/
def frzM : MO → D
  | .lst xs => .lst xs
  | .ins C xs => .ins C xs
theorem frz_eq {p : Addr} {m : MO} : freezeD p m = frzM m := by cases m <;> rfl
theorem ds_frz {X : Cx} {A : Cla} {Wx : WX} {sts : List Stmt} {t : DTS} (i : Nat) (h : DStms X A Wx sts t) : DStms X A Wx sts (fun DD ρ S => ∃ p m, Rf ρ i p ∧ S p = some m ∧ t DD (ρ.set i (some (frzM m))) (S.del p)) :=
  PSs.mono h fun D σ H ⟨ρ, S, L, DD, sl, so, ⟨p, m, hr, hs, ht⟩, ks⟩ => by
    have e : Ext H S H (S.del p) := Ext.refl.del
    refine ⟨_, _, L, DD, ⟨?_, fun j d hj => ?_⟩, so.del p, ht, ks.ext e⟩
    · rw [List.length_set]; exact sl.len
    · by_cases ej : i = j
      · subst ej
        have hl := (List.getElem?_eq_some_iff.mp hj).1
        rw [List.length_set] at hl
        rw [List.getElem?_set_self hl] at hj
        cases hj
        obtain ⟨v, ev, rv⟩ := sl.at_ i _ hr
        unfold Rep at rv
        subst rv
        refine ⟨_, ev, ?_⟩
        have := so.frz hs
        rw [frz_eq] at this
        exact this
      · rw [List.getElem?_set_ne ej] at hj
        exact (sl.ext e).at_ j d hj
theorem G.frz {F : Fr} {ρ : DSt} {S : Sto} {i : Nat} {m : MO} {p : Addr} (g : G F os ρ S) (h : i = 0 → F.pin = none) (hi : At os i (.o m)) (hr : Rf ρ i p) : G F (os.set i (some (.v (frzM m)))) (ρ.set i (some (frzM m))) (S.del p) := by
  have g2 := g.set (d := frzM m) h
  have hF := g.own i m p hi hr
  have off : ∀ j s q, j ≠ i → At os j s → s.own = true → Rf ρ j q → (S.del p) q = S q := fun j s q n a hs b => by
    have : q ≠ p := fun e => g.env.ne i j m s q (Ne.symm n) hi a hs (e ▸ hr) b
    unfold Sto.del
    rw [if_neg this]
  refine ⟨⟨g2.env.len, g2.env.vl, fun j m2 a => ?_, fun j a => ?_, g2.env.ne⟩, fun q hq => ?_, g2.own, g2.bgs, g2.pin⟩
  · obtain ⟨q, b, c⟩ := g2.env.ob j m2 a
    rcases at_set a with ⟨_, e, _⟩ | ⟨n, a⟩
    · cases e
    · refine ⟨q, b, ?_⟩
      unfold Rf at b
      rw [List.getElem?_set_ne (Ne.symm n)] at b
      rw [off j _ q n a rfl b]
      exact c
  · obtain ⟨q, b, c⟩ := g2.env.bg j a
    rcases at_set a with ⟨_, e, _⟩ | ⟨n, a⟩
    · cases e
    · refine ⟨q, b, ?_⟩
      unfold Rf at b
      rw [List.getElem?_set_ne (Ne.symm n)] at b
      rw [off j _ q n a rfl b]
      exact c
  · obtain ⟨h1, h2⟩ := g.fr q hq
    have : (S.del p) q = S q := by
      unfold Sto.del
      rw [if_neg fun e => hq (by rw [e]; exact hF)]
    rw [this]
    exact ⟨h1, h2⟩
theorem t_frz {res : α → OSt} {X : Cx} {A : Cla} {Wx : WX} {sts : List Stmt} {m0 : MO} {m : M α β κ} (i : Nat) (hi : At os i (.o m0)) (hp : (i != 0 || !sg.pz) = true) (h : DStms X A Wx sts (rdS sg (os.set i (some (.v (frzM m0)))) res m)) :
    DStms X A Wx sts (rdS sg os res m) := tss (ds_frz i h) fun DD ρ S ⟨nx, k, F, g, z, hm, kk⟩ => by
  obtain ⟨p, hr, hs⟩ := g.env.ob i _ hi
  exact ⟨p, m0, hr, hs, nx, k, F, g.frz (pz_of hp z) hi hr, z, hm, kk⟩
/-- reads of one's own list -/
theorem i_lenO {e : τ → D} {xs : List τ} {i : Nat} (hi : At os i (.o (eLo e xs))) : Imp (rdE os D.int (pu (xs.length : Int))) (dCB rLen (dCons (dVar i) dNil)) := fun ρ S Q E ⟨q, x, r, hm, k, kx⟩ => by
  obtain ⟨p, hr, hs⟩ := r.ob i _ hi
  refine ⟨_, hr, _, xs.length, rfl, ?_, k _ S (.refl r) hm⟩
  have := len_ref (S := S) (p := p) (xs := xs.map e) hs
  rw [this, List.length_map]
theorem i_truO {e : τ → D} {xs : List τ} {i : Nat} (hi : At os i (.o (eLo e xs))) {Q : Bool → Sto → Prop} {ρ : DSt} {S : Sto} {E : DX} (h : dTst (rdE os D.bl (pu (!xs.isEmpty))) ρ S Q E) : dTst (dVar i) ρ S Q E := by
  obtain ⟨q, x, r, hm, k, kx⟩ := h
  obtain ⟨p, hr, hs⟩ := r.ob i _ hi
  obtain ⟨b, eb, hq⟩ := k _ S (.refl r) hm
  refine ⟨_, hr, b, ?_, hq⟩
  show (match S p with | some (.lst xs) => some (!xs.isEmpty) | _ => none) = some b
  rw [hs]
  show some (!(xs.map e).isEmpty) = some b
  rw [List.isEmpty_map]
  exact eb
end
end DL

namespace DL
open PySem PySem.Spec PyProof.Rows L2

/-! ### promises over typed data -/
/-- the places of one's own objects -/
def OwA (os : OSt) (ρ : DSt) (p : Addr) : Prop := ∃ i m, At os i (.o m) ∧ Rf ρ i p
/-- what a call leaves alone; the changed object behind it -/
def KpG (os : OSt) (ρ : DSt) (S S' : Sto) (om : Option MO) : Prop :=
  (∀ p, S p ≠ none → ¬ OwA os ρ p → (BgA os ρ p → IsBag (S' p)) ∧ (¬ BgA os ρ p → S' p = S p)) ∧ (∀ p m, OwA os ρ p → om = some m → S' p = some m)
section
variable {α β γ κ : Type}
/-- slots, the rest of the arguments, the changed object, the value, the wish -/
def spG (sl : α → List Sl) (rest : α → List D) (rr : β → Option MO) (eb : β → D) (m : α → W β) : DSp := fun ds S Q E => ∃ a q x pre, ds = pre ++ rest a ∧ pre.length = (sl a).length ∧ R ((sl a).map some) (pre.map some) S ∧ m a q x ∧
  (∀ v S', KpG ((sl a).map some) (pre.map some) S S' (rr v) → q v → Q (eb v) S') ∧ (∀ n xs S', KpG ((sl a).map some) (pre.map some) S S' none → x n xs → E n xs S')
abbrev spT (sl : α → List Sl) (eb : β → D) (m : α → W β) : DSp := spG sl (fun _ => []) (fun _ => none) eb m
/-- the arguments: values, bags -/
def ArR (os : OSt) (ρ : DSt) : List Sl → List D → Prop
  | [], ds => ds = []
  | .v d :: ss, ds => ∃ r, ds = d :: r ∧ ArR os ρ ss r
  | .b :: ss, ds => ∃ i p r, ds = .ref p :: r ∧ At os i .b ∧ Rf ρ i p ∧ ArR os ρ ss r
  | .o m :: ss, ds => ∃ i p r, ds = .ref p :: r ∧ At os i (.o m) ∧ Rf ρ i p ∧ ArR os ρ ss r
def Sl.vb : Sl → Bool
  | .o _ => false
  | _ => true
theorem ArR.len {os : OSt} {ρ : DSt} : ∀ {ss : List Sl} {ds : List D}, ArR os ρ ss ds → ds.length = ss.length
  | [], ds, h => by
    have h : ds = [] := h
    rw [h]; rfl
  | .v d :: ss, ds, ⟨r, e, h⟩ => by rw [e]; simp [h.len]
  | .b :: ss, ds, ⟨_, _, r, e, _, _, h⟩ => by rw [e]; simp [h.len]
  | .o m :: ss, ds, ⟨_, _, r, e, _, _, h⟩ => by rw [e]; simp [h.len]
theorem ArR.at_ {os : OSt} {ρ : DSt} : ∀ {ss : List Sl} {ds : List D} {i : Nat} {s : Sl}, ArR os ρ ss ds → ss[i]? = some s → ∃ d, ds[i]? = some d ∧ ((∃ d', s = .v d' ∧ d = d') ∨ (s.own = true ∧ ∃ j p, d = .ref p ∧ At os j s ∧ Rf ρ j p))
  | [], ds, i, s, h, e => by simp at e
  | .v d :: ss, ds, 0, s, ⟨r, ed, h⟩, e => by
    simp at e
    subst e ed
    exact ⟨d, rfl, .inl ⟨d, rfl, rfl⟩⟩
  | .b :: ss, ds, 0, s, ⟨j, p, r, ed, a, b, h⟩, e => by
    simp at e
    subst e ed
    exact ⟨_, rfl, .inr ⟨rfl, j, p, rfl, a, b⟩⟩
  | .o m :: ss, ds, 0, s, ⟨j, p, r, ed, a, b, h⟩, e => by
    simp at e
    subst e ed
    exact ⟨_, rfl, .inr ⟨rfl, j, p, rfl, a, b⟩⟩
  | .v d :: ss, ds, i + 1, s, ⟨r, ed, h⟩, e => by
    subst ed
    simpa using h.at_ (i := i) (by simpa using e)
  | .b :: ss, ds, i + 1, s, ⟨_, _, r, ed, _, _, h⟩, e => by
    subst ed
    simpa using h.at_ (i := i) (by simpa using e)
  | .o m :: ss, ds, i + 1, s, ⟨_, _, r, ed, _, _, h⟩, e => by
    subst ed
    simpa using h.at_ (i := i) (by simpa using e)
theorem at_map {ss : List Sl} {i : Nat} {s : Sl} (h : At (ss.map some) i s) : ss[i]? = some s := by
  unfold At at h
  rw [List.getElem?_map] at h
  cases e : ss[i]? with
  | none => rw [e] at h; cases h
  | some x => rw [e] at h; cases h; rfl
theorem rf_map {ds : List D} {i : Nat} {d : D} (h : ds[i]? = some d) : (ds.map some)[i]? = some (some d) := by rw [List.getElem?_map, h]; rfl
theorem vb_o {ss : List Sl} (h : ss.all Sl.vb = true) {i : Nat} {m : MO} : ¬ At (ss.map some) i (.o m) := fun a => by
  have := List.all_eq_true.mp h _ (List.mem_of_getElem? (at_map a))
  cases this
/-- values and bags for a callee -/
theorem ArR.R {os : OSt} {ρ : DSt} {S : Sto} {ss : List Sl} {ds : List D} (h : ArR os ρ ss ds) (r : R os ρ S) (vb : ss.all Sl.vb = true) : R (ss.map some) (ds.map some) S where
  len := by rw [List.length_map, List.length_map, h.len]; exact Nat.le_refl _
  vl := fun i d a => by
    obtain ⟨d', e, k⟩ := h.at_ (at_map a)
    rcases k with ⟨d2, e1, e2⟩ | ⟨z, _⟩
    · cases e1
      rw [e2] at e
      exact rf_map e
    · cases z
  ob := fun i m a => absurd a (vb_o vb)
  bg := fun i a => by
    obtain ⟨d', e, k⟩ := h.at_ (at_map a)
    rcases k with ⟨d2, e1, _⟩ | ⟨_, j, p, ed, b, c⟩
    · cases e1
    · subst ed
      obtain ⟨q, x, y⟩ := r.bg j b
      have : some (some (D.ref q)) = some (some (D.ref p)) := x.symm.trans c
      cases this
      exact ⟨_, rf_map e, y⟩
  ne := fun i j m s p _ a => absurd a (vb_o vb)
theorem ArR.bg {os : OSt} {ρ : DSt} {ss : List Sl} {ds : List D} {p : Addr} (h : ArR os ρ ss ds) : BgA (ss.map some) (ds.map some) p → BgA os ρ p := fun ⟨i, a, b⟩ => by
  obtain ⟨d', e, k⟩ := h.at_ (at_map a)
  rcases k with ⟨d2, e1, _⟩ | ⟨_, j, q, ed, x, y⟩
  · cases e1
  · have := (rf_map e).symm.trans b
    subst ed
    cases this
    exact ⟨j, x, y⟩
theorem KpG.kp {os : OSt} {ρ : DSt} {S S' : Sto} {ss : List Sl} {ds : List D} {om : Option MO} (h : ArR os ρ ss ds) (r : DL.R os ρ S) (vb : ss.all Sl.vb = true) (k : KpG (ss.map some) (ds.map some) S S' om) : Kp os ρ S S' := fun p hp => by
  have no : ¬ OwA (ss.map some) (ds.map some) p := fun ⟨i, m, a, _⟩ => vb_o vb a
  obtain ⟨k1, k2⟩ := k.1 p hp no
  refine ⟨fun b => ?_, fun n => k2 fun z => n (h.bg z)⟩
  by_cases e : BgA (ss.map some) (ds.map some) p
  · exact k1 e
  · rw [k2 e]
    exact (Kp.refl r p hp).1 b
def callW {δ : Type} (ma : W δ) (m : α → W β) (c : δ → α) : W β := fun q x => ma (fun d => m (c d) q x) x
def methW {δ ω : Type} (mo : W ω) (ma : W δ) (m : α → W β) (c : ω → δ → α) : W β := fun q x => mo (fun o => ma (fun d => m (c o d) q x) x) x
/-- arguments: values and bags -/
def rdB (os : OSt) (sl : α → List Sl) (m : W α) : DTA := fun ρ S Q E => ∃ q x, R os ρ S ∧ m q x ∧ (∀ v ds S', Kp os ρ S S' → ArR os ρ (sl v) ds → q v → Q ds S') ∧ (∀ n ds S', Kp os ρ S S' → x n ds → E n ds S')
variable {os : OSt} {sg : Sig β κ}
theorem b_nil : ImpA (rdB os (fun (_ : Unit) => []) (pu ())) dNil := fun ρ S Q E ⟨q, x, r, hm, k, kx⟩ => k () [] S (.refl r) rfl hm
theorem b_consV {e1 : α → D} {sl : γ → List Sl} {m1 : W α} {m2 : W γ} : ImpA (rdB os (fun (a : α × γ) => .v (e1 a.1) :: sl a.2) (pairW m1 m2)) (dCons (rdE os e1 m1) (rdB os sl m2)) := fun ρ S Q E ⟨q, x, r, hm, k, kx⟩ =>
  ⟨_, x, r, hm, fun a S1 k1 h1 => ⟨_, x, r.kp k1, h1, fun b ds S2 k2 hr h2 => k (a, b) _ S2 (k1.trans k2) ⟨ds, rfl, hr⟩ h2, fun n ds S2 k2 hx => kx n ds S2 (k1.trans k2) hx⟩, kx⟩
theorem b_consB {sl : γ → List Sl} {m2 : W γ} {i : Nat} (hi : At os i .b) : ImpA (rdB os (fun (a : γ) => .b :: sl a) m2) (dCons (dVar i) (rdB os sl m2)) := fun ρ S Q E ⟨q, x, r, hm, k, kx⟩ => by
  obtain ⟨p, hr, _⟩ := r.bg i hi
  exact ⟨_, hr, q, x, r, hm, fun b ds S2 k2 ha h2 => k b _ S2 k2 ⟨i, p, ds, rfl, hi, hr, ha⟩ h2, kx⟩
theorem ArR.split {ρ : DSt} : ∀ {s1 s2 : List Sl} {ds : List D}, ArR os ρ (s1 ++ s2) ds → ∃ d1 d2, ds = d1 ++ d2 ∧ ArR os ρ s1 d1 ∧ ArR os ρ s2 d2
  | [], s2, ds, h => ⟨[], ds, rfl, rfl, h⟩
  | .v d :: s1, s2, ds, ⟨r, e, h⟩ => by
    obtain ⟨d1, d2, e2, a, b⟩ := ArR.split (s1 := s1) h
    exact ⟨d :: d1, d2, by rw [e, e2]; rfl, ⟨d1, rfl, a⟩, b⟩
  | .b :: s1, s2, ds, ⟨i, p, r, e, x, y, h⟩ => by
    obtain ⟨d1, d2, e2, a, b⟩ := ArR.split (s1 := s1) h
    exact ⟨.ref p :: d1, d2, by rw [e, e2]; rfl, ⟨i, p, d1, rfl, x, y, a⟩, b⟩
  | .o m :: s1, s2, ds, ⟨i, p, r, e, x, y, h⟩ => by
    obtain ⟨d1, d2, e2, a, b⟩ := ArR.split (s1 := s1) h
    exact ⟨.ref p :: d1, d2, by rw [e, e2]; rfl, ⟨i, p, d1, rfl, x, y, a⟩, b⟩
theorem ArR.vals {ρ : DSt} : ∀ {ds es : List D}, ArR os ρ (ds.map Sl.v) es → es = ds
  | [], es, h => h
  | d :: ds, es, ⟨r, e, h⟩ => by rw [e, ArR.vals h]
theorem ArR.of_vals {ρ : DSt} : ∀ {ds : List D}, ArR os ρ (ds.map Sl.v) ds
  | [] => rfl
  | d :: ds => ⟨ds, rfl, ArR.of_vals⟩
/-- a promise is asked -/
theorem spG_ask {δ : Type} {sl : α → List Sl} {rest : α → List D} {rr : β → Option MO} {eb : β → D} {m : α → W β} {cl : δ → List Sl} (c : δ → α) (hc : ∀ d, cl d = sl (c d) ++ (rest (c d)).map Sl.v) (vb : ∀ d, (sl (c d)).all Sl.vb = true)
    {ρ : DSt} {S : Sto} {Q : DQ} {E : DX} {d : δ} {ds : List D} {q : β → Prop} {x : XW} (r : R os ρ S) (ha : ArR os ρ (cl d) ds) (hm : m (c d) q x) (k : ∀ v S', Kp os ρ S S' → q v → Q (eb v) S') (kx : ∀ n xs S', Kp os ρ S S' → x n xs → E n xs S') :
    spG sl rest rr eb m ds S Q E := by
  rw [hc] at ha
  obtain ⟨d1, d2, e, h1, h2⟩ := ha.split
  have e2 := h2.vals
  subst e2
  exact ⟨c d, q, x, d1, e, h1.len, h1.R r (vb d), hm, fun v S' kp hv => k v S' (kp.kp h1 r (vb d)) hv, fun n xs S' kp hx => kx n xs S' (kp.kp h1 r (vb d)) hx⟩
theorem i_call {δ : Type} {sl : α → List Sl} {rest : α → List D} {rr : β → Option MO} {eb : β → D} {m : α → W β} {cl : δ → List Sl} {ma : W δ} (c : δ → α) (hc : ∀ d, cl d = sl (c d) ++ (rest (c d)).map Sl.v) (vb : ∀ d, (sl (c d)).all Sl.vb = true) :
    Imp (rdE os eb (callW ma m c)) (dCall (spG sl rest rr eb m) (rdB os cl ma)) := fun ρ S Q E ⟨q, x, r, hm, k, kx⟩ =>
  ⟨_, x, r, hm, fun d ds S1 k1 ha h1 => spG_ask c hc vb (r.kp k1) ha h1 (fun v S' kp hv => k v S' (k1.trans kp) hv) (fun n xs S' kp hx => kx n xs S' (k1.trans kp) hx), kx⟩
/-- a method; a method of a class -/
theorem i_meth {δ ω : Type} {C : Nat} {eo : ω → D} {mo : W ω} {sl : α → List Sl} {rest : α → List D} {rr : β → Option MO} {eb : β → D} {m : α → W β} {cl : δ → List Sl} {ma : W δ} (c : ω → δ → α) (hi : ∀ o, ∃ xs, eo o = .ins C xs) (hc : ∀ o d, .v (eo o) :: cl d = sl (c o d) ++ (rest (c o d)).map Sl.v) (vb : ∀ o d, (sl (c o d)).all Sl.vb = true) :
    Imp (rdE os eb (methW mo ma m c)) (dMeth C (spG sl rest rr eb m) (rdE os eo mo) (rdB os cl ma)) := fun ρ S Q E ⟨q, x, r, hm, k, kx⟩ =>
  ⟨_, x, r, hm, fun o S1 k1 h1 => ⟨by obtain ⟨xs, e⟩ := hi o; rw [e]; exact ⟨xs, rfl⟩, _, x, r.kp k1, h1, fun d ds S2 k2 ha h2 => by
    have k3 := k1.trans k2
    refine spG_ask (cl := fun d => .v (eo o) :: cl d) (c o) (hc o) (vb o) (r.kp k3) (d := d) ⟨ds, rfl, ha⟩ h2 (fun v S' kp hv => k v S' (k3.trans kp) hv) (fun n xs S' kp hx => kx n xs S' (k3.trans kp) hx), fun n ds S2 k2 hx => kx n ds S2 (k1.trans k2) hx⟩, kx⟩
theorem i_cmet {δ : Type} {C : Nat} {sl : α → List Sl} {rest : α → List D} {rr : β → Option MO} {eb : β → D} {m : α → W β} {cl : δ → List Sl} {ma : W δ} (c : δ → α) (hc : ∀ d, .v (.ty (.own C)) :: cl d = sl (c d) ++ (rest (c d)).map Sl.v) (vb : ∀ d, (sl (c d)).all Sl.vb = true) :
    Imp (rdE os eb (callW ma m c)) (dCMet C (spG sl rest rr eb m) (rdB os cl ma)) := fun ρ S Q E ⟨q, x, r, hm, k, kx⟩ =>
  ⟨_, x, r, hm, fun d ds S2 k1 ha h2 => spG_ask (cl := fun d => .v (.ty (.own C)) :: cl d) c hc vb (r.kp k1) (d := d) ⟨ds, rfl, ha⟩ h2 (fun v S' kp hv => k v S' (k1.trans kp) hv) (fun n xs S' kp hx => kx n xs S' (k1.trans kp) hx), kx⟩

/-! ### instances are made -/
theorem kp_made {ρ : DSt} {S S2 : Sto} {p : Addr} {m : MO} {ss : List Sl} {ds : List D} {om : Option MO} (r : R os ρ S) (hp : S p = none) (h : ArR os ρ ss ds) (vb : ss.all Sl.vb = true)
    (k : KpG ((.o m :: ss).map some) ((.ref p :: ds).map some) (S.set p m) S2 om) : Kp os ρ S (S2.del p) := fun q hq => by
  have ne : q ≠ p := fun e => hq (by rw [e]; exact hp)
  have e1 : (S.set p m) q = S q := Sto.set_ne ne
  have e2 : (S2.del p) q = S2 q := by unfold Sto.del; rw [if_neg ne]
  have no : ¬ OwA ((.o m :: ss).map some) ((.ref p :: ds).map some) q := fun ⟨i, m', a, b⟩ => by
    cases i with
    | zero =>
      have b : some (some (D.ref p)) = some (some (D.ref q)) := b
      cases b
      exact ne rfl
    | succ i => exact vb_o vb (i := i) (m := m') a
  obtain ⟨k1, k2⟩ := k.1 q (by rw [e1]; exact hq) no
  rw [e1] at k2
  rw [e2]
  have bsub : BgA ((.o m :: ss).map some) ((.ref p :: ds).map some) q → BgA os ρ q := fun ⟨i, a, b⟩ => by
    cases i with
    | zero => cases a
    | succ i => exact h.bg ⟨i, a, b⟩
  refine ⟨fun b => ?_, fun n => k2 fun z => n (bsub z)⟩
  by_cases e : BgA ((.o m :: ss).map some) ((.ref p :: ds).map some) q
  · exact k1 e
  · rw [k2 e]
    exact (Kp.refl r q hq).1 b
theorem r_made {ρ : DSt} {S : Sto} {p : Addr} {m : MO} {ss : List Sl} {ds : List D} (r : R os ρ S) (hp : S p = none) (h : ArR os ρ ss ds) (vb : ss.all Sl.vb = true) : R ((.o m :: ss).map some) ((.ref p :: ds).map some) (S.set p m) := by
  have r2 := h.R r vb
  have off : ∀ q, S q ≠ none → (S.set p m) q = S q := fun q hq => Sto.set_ne fun e => hq (by rw [e]; exact hp)
  refine ⟨?_, fun i d a => ?_, fun i m' a => ?_, fun i a => ?_, fun i j m' s q hij a b hs c d => ?_⟩
  · have := r2.len
    simp only [List.map_cons, List.length_cons]
    omega
  · cases i with
    | zero => cases a
    | succ i => exact r2.vl i d a
  · cases i with
    | zero =>
      have a : some (some (Sl.o m)) = some (some (Sl.o m')) := a
      cases a
      exact ⟨p, rfl, Sto.set_same⟩
    | succ i => exact absurd a (vb_o vb (i := i))
  · cases i with
    | zero => cases a
    | succ i =>
      obtain ⟨q, b, c⟩ := r2.bg i a
      exact ⟨q, b, by rw [off q c.some]; exact c⟩
  · cases i with
    | succ i => exact vb_o vb (i := i) a
    | zero =>
      have c : some (some (D.ref p)) = some (some (D.ref q)) := c
      cases c
      cases j with
      | zero => exact hij rfl
      | succ j =>
        cases s with
        | v d => cases hs
        | o m2 => exact vb_o vb (i := j) b
        | b =>
          obtain ⟨q2, x, y⟩ := r2.bg j b
          have : some (some (D.ref q2)) = some (some (D.ref p)) := x.symm.trans d
          cases this
          exact y.some hp
theorem mk_ask {δ : Type} {C : Nat} {sl : α → List Sl} {rest : α → List D} {fs : β → List D} {eb : β → D} {m : α → W β} {cl : δ → List Sl} (c : δ → α) (s1 : δ → List Sl) (hs : ∀ d, sl (c d) = .o (.ins C []) :: s1 d) (hc : ∀ d, cl d = s1 d ++ (rest (c d)).map Sl.v) (vb : ∀ d, (s1 d).all Sl.vb = true) (hn : ∀ b, eb b = .non)
    {ρ : DSt} {S : Sto} {Q : DQ} {E : DX} {d : δ} {ds : List D} {q : β → Prop} {x : XW} {p : Addr} (r : R os ρ S) (hp : S p = none) (ha : ArR os ρ (cl d) ds) (hm : m (c d) q x) (k : ∀ v S', Kp os ρ S S' → q v → Q (.ins C (fs v)) S') (kx : ∀ n xs S', Kp os ρ S S' → x n xs → E n xs S') :
    spG sl rest (fun b => some (.ins C (fs b))) eb m (.ref p :: ds) (S.set p (.ins C [])) (fun r S2 => r = .non ∧ mkI false C p S2 Q) (fun n xs S2 => E n xs (S2.del p)) := by
  rw [hc] at ha
  obtain ⟨d1, d2, e, h1, h2⟩ := ha.split
  have e2 := h2.vals
  subst e2
  refine ⟨c d, q, x, .ref p :: d1, by rw [e]; rfl, by rw [hs]; simp [h1.len], by rw [hs]; exact r_made r hp h1 (vb d), hm, fun v S' kp hv => ?_, fun n xs S' kp hx => ?_⟩
  · rw [hs] at kp
    refine ⟨hn v, ?_⟩
    unfold mkI
    rw [if_neg Bool.false_ne_true]
    exact ⟨fs v, kp.2 p _ ⟨0, _, rfl, rfl⟩ rfl, k v _ (kp_made r hp h1 (vb d) kp) hv⟩
  · rw [hs] at kp
    exact kx n xs _ (kp_made r hp h1 (vb d) kp) hx
/-- C(a, b) -/
theorem i_make {δ : Type} {C : Nat} {sl : α → List Sl} {rest : α → List D} {fs : β → List D} {eb : β → D} {m : α → W β} {cl : δ → List Sl} {ma : W δ} (c : δ → α) (s1 : δ → List Sl) (hs : ∀ d, sl (c d) = .o (.ins C []) :: s1 d) (hc : ∀ d, cl d = s1 d ++ (rest (c d)).map Sl.v) (vb : ∀ d, (s1 d).all Sl.vb = true) (hn : ∀ b, eb b = .non) :
    Imp (rdE os (fun b => .ins C (fs b)) (callW ma m c)) (dMake C false (spG sl rest (fun b => some (.ins C (fs b))) eb m) (rdB os cl ma)) := fun ρ S Q E ⟨q, x, r, hm, k, kx⟩ =>
  ⟨_, x, r, hm, fun d ds S1 k1 ha h1 p hp => mk_ask c s1 hs hc vb hn (r.kp k1) hp ha h1 (fun v S' kp hv => k v S' (k1.trans kp) hv) (fun n xs S' kp hx => kx n xs S' (k1.trans kp) hx), kx⟩
/-- C(*y) -/
theorem i_makeS {δ : Type} {C : Nat} {sl : α → List Sl} {rest : α → List D} {fs : β → List D} {eb : β → D} {m : α → W β} {ey : δ → D} {my : W δ} {tf : DT} (htf : Imp (rdE os (fun (_ : Unit) => .ty (.own C)) (pu ())) tf) (c : δ → α) (hs : ∀ d, sl (c d) = [.o (.ins C [])]) (hy : ∀ d S, seqA S (ey d) = some (rest (c d))) (hn : ∀ b, eb b = .non) :
    Imp (rdE os (fun b => .ins C (fs b)) (callW my m c)) (dMakeS C false (spG sl rest (fun b => some (.ins C (fs b))) eb m) tf (rdE os ey my)) := fun ρ S Q E ⟨q, x, r, hm, k, kx⟩ =>
  htf ρ S _ _ ⟨fun _ => True, X0, r, trivial, fun _ S0 k0 _ => ⟨rfl, _, x, r.kp k0, hm, fun d S1 k1 h1 => ⟨_, hy d S1, fun p hp =>
    mk_ask (cl := fun d => (rest (c d)).map Sl.v) c (fun _ => []) hs (fun d => rfl) (fun _ => rfl) hn (r.kp (k0.trans k1)) hp ArR.of_vals h1 (fun v S' kp hv => k v S' ((k0.trans k1).trans kp) hv) (fun n xs S' kp hx => kx n xs S' ((k0.trans k1).trans kp) hx)⟩, fun n ds S1 k1 hx => kx n ds S1 (k0.trans k1) hx⟩, fun _ _ _ _ z => z.elim⟩
/-- the field of an instance -/
theorem i_fld {fl : Nat → List Str} {f : Str} {e : α → D} {e2 : β → D} {g : α → β} {m : W α} (h : ∀ a, ∃ C xs, e a = .ins C xs ∧ ((fl C).zip xs).lookup f = some (e2 (g a))) : Imp (rdE os e2 (mapW m g)) (dFld fl f (rdE os e m)) := fun ρ S Q E ⟨q, x, r, hm, k, kx⟩ =>
  ⟨_, x, r, hm, fun a S1 k1 h1 => by
    obtain ⟨C, xs, e1, l⟩ := h a
    exact ⟨C, xs, e2 (g a), by rw [e1]; rfl, l, k _ S1 k1 h1⟩, kx⟩
/-- a field of one's own object is stored -/
theorem s_fld {C : Nat} {fl : Nat → List Str} {f : Str} {xs : List D} {ys : γ → List D} {e : γ → D} {m : W γ} {i : Nat} (hi : At os i (.o (.ins C xs))) (hf : ∀ v, fput f (e v) (fl C) xs = some (ys v)) (hx : Le sg.osx os) :
    ImpS (rdS sg os (fun v => os.set i (some (.o (.ins C (ys v))))) (setK m)) (sFldD fl f (dVar i) (rdE os e m)) := fun DD ρ S ⟨nx, k, F, g, z, h, kk⟩ =>
  ⟨_, k.xx, g.env, h, fun v S1 k1 h1 => by
    obtain ⟨p, hr, hs⟩ := (g.kp k1).env.ob i _ hi
    exact ⟨_, hr, p, C, xs, ys v, rfl, hs, hf v, kk.nx v ρ _ ((g.kp k1).write hi hr) h1⟩, fun n ds S1 k1 h1 => kk.xx n ds ρ S1 ((g.kp k1).le hx) h1⟩
/-- the field of one's own object -/
theorem i_fldO {C : Nat} {fl : Nat → List Str} {f : Str} {xs : List D} {e : γ → D} {a : γ} {i : Nat} (hi : At os i (.o (.ins C xs))) (hf : ((fl C).zip xs).lookup f = some (e a)) : Imp (rdE os e (pu a)) (dFld fl f (dVar i)) := fun ρ S Q E ⟨q, x, r, hm, k, kx⟩ => by
  obtain ⟨p, hr, hs⟩ := r.ob i _ hi
  refine ⟨_, hr, C, xs, e a, ?_, hf, k _ S (.refl r) hm⟩
  show (match S p with | some (.ins C xs) => some (C, xs) | _ => none) = some (C, xs)
  rw [hs]

/-! ### defs -/
theorem pad_env {ss : List Sl} {ds : List D} {S : Sto} {n : Nat} (hl : ds.length = ss.length) (r : R (ss.map some) (ds.map some) S) : R (ss.map some ++ List.replicate (n - ss.length) none) (startD n ds) S := by
  unfold startD
  rw [hl]
  have at_ : ∀ {i s}, At (ss.map some ++ List.replicate (n - ss.length) none) i s → At (ss.map some) i s := fun {i s} a => by
    unfold At at a ⊢
    by_cases h : i < (ss.map some).length
    · rwa [List.getElem?_append_left h] at a
    · rw [List.getElem?_append_right (Nat.le_of_not_lt h), List.getElem?_replicate] at a
      split at a <;> cases a
  have rf : ∀ {i : Nat} {x : Option D}, (ds.map some)[i]? = some x → (ds.map some ++ List.replicate (n - ss.length) none)[i]? = some x := fun {i x} a => by
    rw [List.getElem?_append_left (List.getElem?_eq_some_iff.mp a).1]
    exact a
  have fr : ∀ {i : Nat} {p : Addr}, Rf (ds.map some ++ List.replicate (n - ss.length) none) i p → Rf (ds.map some) i p := fun {i p} a => by
    unfold Rf at a ⊢
    by_cases h : i < (ds.map some).length
    · rwa [List.getElem?_append_left h] at a
    · rw [List.getElem?_append_right (Nat.le_of_not_lt h), List.getElem?_replicate] at a
      split at a <;> cases a
  refine ⟨?_, fun i d a => rf (r.vl i d (at_ a)), fun i m a => ?_, fun i a => ?_, fun i j m s p n a b hs c d => r.ne i j m s p n (at_ a) (at_ b) hs (fr c) (fr d)⟩
  · simp [hl]
  · obtain ⟨p, x, y⟩ := r.ob i m (at_ a)
    exact ⟨p, rf x, y⟩
  · obtain ⟨p, x, y⟩ := r.bg i (at_ a)
    exact ⟨p, rf x, y⟩
/-- an own object at most at the first slot -/
def Sl.ok : List Sl → Bool
  | [] => true
  | .o _ :: ss => ss.all Sl.vb
  | s :: ss => ss.all Sl.vb
def Sl.pin : List Sl → Bool
  | .o _ :: _ => true
  | _ => false
theorem ok_o {ss : List Sl} (h : Sl.ok ss = true) {i : Nat} {m : MO} (a : At (ss.map some) i (.o m)) : i = 0 ∧ Sl.pin ss = true := by
  cases ss with
  | nil => cases a
  | cons s ss =>
    have h : ss.all Sl.vb = true := by cases s <;> exact h
    cases i with
    | zero =>
      have a : some (some s) = some (some (Sl.o m)) := a
      cases a
      exact ⟨rfl, rfl⟩
    | succ i => exact absurd a (vb_o h (i := i))
/-- the body at the entry -/
theorem ent {n : Nat} {sl : α → List Sl} {rest : α → List D} {m : α → W β} {osf : α → OSt} {δ : Type} {res : δ → OSt} {mb : α → M δ β κ} {fin : δ → β} (bound : List D → List D → List D) (sl2 : α → List Sl)
    (hb : ∀ a pre, pre.length = (sl a).length → ∀ S, R ((sl a).map some) (pre.map some) S → R ((sl2 a).map some) ((bound pre (rest a)).map some) S ∧ (bound pre (rest a)).length = (sl2 a).length ∧ (∀ p, (BgA ((sl2 a).map some) ((bound pre (rest a)).map some) p ↔ BgA ((sl a).map some) (pre.map some) p) ∧ (OwA ((sl2 a).map some) ((bound pre (rest a)).map some) p ↔ OwA ((sl a).map some) (pre.map some) p)))
    (hok : ∀ a, Sl.ok (sl2 a) = true ∧ Sl.pin (sl2 a) = sg.pz) (hos : ∀ a, osf a = (sl2 a).map some ++ List.replicate (n - (sl2 a).length) none) (hm : ∀ a q x, m a q x → mb a (fun r => q (fin r)) ⟨q, fun _ => False, fun _ => False, x⟩)
    (hfin : ∀ r, sg.eb (fin r) = .non) (hrr : ∀ r, RrOk sg (res r) (fin r)) (hx : sg.osx = []) {ds : List D} {S : Sto} {Q : DQ} {E : DX} (h : spG sl rest sg.rr sg.eb m ds S Q E) :
    ∃ a pre, ds = pre ++ rest a ∧ pre.length = (sl a).length ∧ ∃ b, rdS sg (osf b) res (mb b) { nx := fun _ S' => Q .non S', rt := Q, xx := fun _ => E } (startD n (bound pre (rest a))) S := by
  obtain ⟨a, q, x, pre, ed, hl, r, h, kq, kx⟩ := h
  refine ⟨a, pre, ed, hl, a, ?_⟩
  obtain ⟨r2, hl2, hbo⟩ := hb a pre hl S r
  have pin : sg.pz = true → ∃ p m0, At ((sl2 a).map some) 0 (.o m0) ∧ Rf ((bound pre (rest a)).map some) 0 p := fun e => by
    have := (hok a).2
    rw [e] at this
    cases es : sl2 a with
    | nil => rw [es] at this; cases this
    | cons s ss =>
      rw [es] at this
      cases s with
      | o m0 =>
        have a0 : At ((sl2 a).map some) 0 (.o m0) := by rw [es]; rfl
        obtain ⟨p, hp, _⟩ := r2.ob 0 m0 a0
        rw [es] at a0
        exact ⟨p, m0, a0, hp⟩
      | v d => cases this
      | b => cases this
  have own1 : ∀ {p p' : Addr}, OwA ((sl2 a).map some) ((bound pre (rest a)).map some) p → OwA ((sl2 a).map some) ((bound pre (rest a)).map some) p' → p = p' := fun {p p'} ⟨i, m1, x1, y1⟩ ⟨j, m2, x2, y2⟩ => by
    have := (ok_o (hok a).1 x1).1
    subst this
    have := (ok_o (hok a).1 x2).1
    subst this
    have := y1.symm.trans y2
    cases this
    rfl
  classical
  have hpz : ∃ po : Option Addr, (sg.pz = false → po = none) ∧ (∀ p, po = some p → Rf ((bound pre (rest a)).map some) 0 p ∧ OwA ((sl2 a).map some) ((bound pre (rest a)).map some) p) ∧ (∀ p, OwA ((sl2 a).map some) ((bound pre (rest a)).map some) p → po = some p) := by
    cases e : sg.pz with
    | false =>
      refine ⟨none, fun _ => rfl, (fun p z => by cases z), fun p ⟨i, m1, x1, y1⟩ => ?_⟩
      have := (ok_o (hok a).1 x1).2
      rw [(hok a).2, e] at this
      cases this
    | true =>
      obtain ⟨p, m0, x1, y1⟩ := pin e
      exact ⟨some p, (fun z => by cases z), (fun p' z => by cases z; exact ⟨y1, 0, m0, x1, y1⟩), fun p' ho => by rw [own1 ho ⟨0, m0, x1, y1⟩]⟩
  obtain ⟨po, pz0, po1, po2⟩ := hpz
  let F : Fr := ⟨fun p => if OwA ((sl2 a).map some) ((bound pre (rest a)).map some) p then none else S p, BgA ((sl2 a).map some) ((bound pre (rest a)).map some), po⟩
  have re := pad_env (n := n) hl2 r2
  have at_ : ∀ {i s}, At ((sl2 a).map some ++ List.replicate (n - (sl2 a).length) none) i s → At ((sl2 a).map some) i s := fun {i s} h0 => by
    unfold At at h0 ⊢
    by_cases h : i < ((sl2 a).map some).length
    · rwa [List.getElem?_append_left h] at h0
    · rw [List.getElem?_append_right (Nat.le_of_not_lt h), List.getElem?_replicate] at h0
      split at h0 <;> cases h0
  have fr : ∀ {i : Nat} {p : Addr}, i < (sl2 a).length → Rf (startD n (bound pre (rest a))) i p → Rf ((bound pre (rest a)).map some) i p := fun {i p} hi h0 => by
    unfold Rf startD at h0
    unfold Rf
    rwa [List.getElem?_append_left (by rw [List.length_map, hl2]; exact hi)] at h0
  have lt : ∀ {i s}, At ((sl2 a).map some) i s → i < (sl2 a).length := fun {i s} h0 => by
    have := (List.getElem?_eq_some_iff.mp h0).1
    rwa [List.length_map] at this
  refine ⟨_, _, F, ⟨by rw [hos]; exact re, fun p hp => ?_, fun i m1 p x1 y1 => ?_, fun i p x1 y1 => ?_, fun p hp => ?_⟩, fun z => pz0 z, hm a q x h, ⟨fun a' ρ' S' g' h' => ?_, fun b S' f' pk h' => ?_, fun _ _ _ _ z => z.elim, fun _ _ _ _ z => z.elim, fun n ds ρ' S' g' h' => ?_⟩⟩
  · have hn : ¬ OwA ((sl2 a).map some) ((bound pre (rest a)).map some) p := fun o => hp (if_pos o)
    have eS : F.S0 p = S p := if_neg hn
    rw [eS] at hp ⊢
    refine ⟨fun ⟨i, x1, y1⟩ => ?_, fun _ => rfl⟩
    obtain ⟨p', x2, y2⟩ := r2.bg i x1
    have := x2.symm.trans y1
    cases this
    exact y2
  · rw [hos] at x1
    have x1 := at_ x1
    exact if_pos ⟨i, m1, x1, fr (lt x1) y1⟩
  · rw [hos] at x1
    have x1 := at_ x1
    exact .inl ⟨i, x1, fr (lt x1) y1⟩
  · obtain ⟨y1, o1⟩ := po1 p hp
    refine ⟨?_, if_pos o1⟩
    unfold Rf startD
    unfold Rf at y1
    rw [List.getElem?_append_left (List.getElem?_eq_some_iff.mp y1).1]
    exact y1
  all_goals skip
  · have kp : KpG ((sl a).map some) (pre.map some) S S' (sg.rr (fin a')) := by
      refine ⟨fun p hp no => ?_, fun p m1 ho hm1 => ?_⟩
      · have no2 : ¬ OwA ((sl2 a).map some) ((bound pre (rest a)).map some) p := fun z => no ((hbo p).2.mp z)
        have eS : F.S0 p = S p := if_neg no2
        obtain ⟨f1, f2⟩ := g'.fr p (by rw [eS]; exact hp)
        rw [eS] at f2
        exact ⟨fun z => f1 ((hbo p).1.mpr z), fun z => f2 fun y => z ((hbo p).1.mp y)⟩
      · exact pin_of g' (fun z => pz0 z) (hrr a') p m1 (po2 p ((hbo p).2.mpr ho)) hm1
    have := kq (fin a') S' kp h'
    rw [hfin] at this
    exact this
  · refine kq b S' ⟨fun p hp no => ?_, fun p m1 ho hm1 => pk p m1 (po2 p ((hbo p).2.mpr ho)) hm1⟩ h'
    have no2 : ¬ OwA ((sl2 a).map some) ((bound pre (rest a)).map some) p := fun z => no ((hbo p).2.mp z)
    have eS : F.S0 p = S p := if_neg no2
    obtain ⟨f1, f2⟩ := f' p (by rw [eS]; exact hp)
    rw [eS] at f2
    exact ⟨fun z => f1 ((hbo p).1.mpr z), fun z => f2 fun y => z ((hbo p).1.mp y)⟩
  · refine kx n ds S' ⟨fun p hp no => ?_, fun p m1 ho hm1 => by cases hm1⟩ h'
    have no2 : ¬ OwA ((sl2 a).map some) ((bound pre (rest a)).map some) p := fun z => no ((hbo p).2.mp z)
    have eS : F.S0 p = S p := if_neg no2
    obtain ⟨f1, f2⟩ := g'.fr p (by rw [eS]; exact hp)
    rw [eS] at f2
    exact ⟨fun z => f1 ((hbo p).1.mpr z), fun z => f2 fun y => z ((hbo p).1.mp y)⟩
end
end DL

namespace DL
open PySem PySem.Spec PyProof.Rows L2

/-! ### plain data that compare -/
/-- data of a depth, equal as Python says exactly if they are equal -/
class EqE {α : Type} (e : α → D) (n : outParam Nat) : Prop where
  eq : ∀ a b, PyData.eqv (e a).p (e b).p = true ↔ a = b
  dat : ∀ a, (e a).dat n = true
theorem dat_up : ∀ {n m : Nat}, n ≤ m → ∀ {d : D}, d.dat n = true → d.dat m = true := by
  intro n
  induction n with
  | zero => intro m _ d h; cases d <;> cases m <;> first | rfl | cases h
  | succ n ih =>
    intro m hm d h
    obtain ⟨m, rfl⟩ : ∃ k, m = k + 1 := ⟨m - 1, by omega⟩
    have hm : n ≤ m := by omega
    cases d with
    | tup xs => exact List.all_eq_true.mpr fun x hx => ih hm (List.all_eq_true.mp h x hx)
    | lst xs => exact List.all_eq_true.mpr fun x hx => ih hm (List.all_eq_true.mp h x hx)
    | cst xs => exact List.all_eq_true.mpr fun x hx => ih hm (List.all_eq_true.mp h x hx)
    | _ => first | rfl | cases h
theorem dat_view {d : D} {n : Nat} (h : d.dat n = true) (S : Sto) : view S d = d := by cases d <;> first | rfl | (cases n <;> cases h)
instance : EqE D.int 0 := ⟨fun a b => by unfold D.p PyData.eqv; exact beq_iff_eq, fun _ => rfl⟩
instance : EqE D.bl 0 := ⟨fun a b => by unfold D.p PyData.eqv; exact beq_iff_eq, fun _ => rfl⟩
instance : EqE D.str 0 := ⟨fun a b => by unfold D.p PyData.eqv; exact beq_iff_eq, fun _ => rfl⟩
instance : EqE eN 0 := ⟨fun a b => by unfold eN D.p PyData.eqv; exact ⟨fun _ => rfl, fun _ => rfl⟩, fun _ => rfl⟩
theorem eqvAll_map {α : Type} {e : α → D} {n : Nat} [E : EqE e n] : ∀ xs ys : List α, PyData.eqvAll (D.ps (xs.map e)) (D.ps (ys.map e)) = true ↔ xs = ys
  | [], [] => by unfold List.map D.ps PyData.eqvAll; simp
  | [], y :: ys => by unfold List.map D.ps PyData.eqvAll; simp
  | x :: xs, [] => by unfold List.map D.ps PyData.eqvAll; simp
  | x :: xs, y :: ys => by
    rw [List.map_cons, List.map_cons]
    unfold D.ps PyData.eqvAll
    rw [Bool.and_eq_true, E.eq, eqvAll_map xs ys]
    simp
instance {α : Type} {e : α → D} {n : Nat} [E : EqE e n] : EqE (eL e) (n + 1) := ⟨fun a b => by unfold eL D.p PyData.eqv; exact eqvAll_map a b, fun a => List.all_eq_true.mpr fun x hx => by
  obtain ⟨y, _, e⟩ := List.mem_map.mp hx
  subst e
  exact E.dat y⟩
instance {α : Type} {e : α → D} {n : Nat} [E : EqE e n] : EqE (eT e) (n + 1) := ⟨fun a b => by unfold eT D.p PyData.eqv; exact eqvAll_map a b, fun a => List.all_eq_true.mpr fun x hx => by
  obtain ⟨y, _, e⟩ := List.mem_map.mp hx
  subst e
  exact E.dat y⟩
instance {α β : Type} {e1 : α → D} {e2 : β → D} {n m : Nat} [E1 : EqE e1 n] [E2 : EqE e2 m] : EqE (eP e1 e2) (max n m + 1) := ⟨fun a b => by
  unfold eP D.p PyData.eqv D.ps PyData.eqvAll D.ps PyData.eqvAll D.ps PyData.eqvAll
  rw [Bool.and_eq_true, Bool.and_true, E1.eq, E2.eq]
  exact Prod.ext_iff.symm, fun a => by
  show ((e1 a.1).dat (max n m) && ((e2 a.2).dat (max n m) && true)) = true
  rw [dat_up (Nat.le_max_left ..) (E1.dat _), dat_up (Nat.le_max_right ..) (E2.dat _)]
  rfl⟩
instance {α β γ : Type} {e1 : α → D} {e2 : β → D} {e3 : γ → D} {n m k : Nat} [E1 : EqE e1 n] [E2 : EqE e2 m] [E3 : EqE e3 k] : EqE (eP3 e1 e2 e3) (max n (max m k) + 1) := ⟨fun a b => by
  unfold eP3 D.p PyData.eqv D.ps PyData.eqvAll D.ps PyData.eqvAll D.ps PyData.eqvAll D.ps PyData.eqvAll
  rw [Bool.and_eq_true, Bool.and_eq_true, Bool.and_true, E1.eq, E2.eq, E3.eq]
  exact ⟨fun ⟨x, y, z⟩ => Prod.ext x (Prod.ext y z), fun h => by rw [h]; exact ⟨rfl, rfl, rfl⟩⟩, fun a => by
  show ((e1 a.1).dat (max n (max m k)) && ((e2 a.2.1).dat (max n (max m k)) && ((e3 a.2.2).dat (max n (max m k)) && true))) = true
  rw [dat_up (by omega) (E1.dat _), dat_up (by omega) (E2.dat _), dat_up (by omega) (E3.dat _)]
  rfl⟩
instance {α β γ δ : Type} {e1 : α → D} {e2 : β → D} {e3 : γ → D} {e4 : δ → D} {n m k l : Nat} [E1 : EqE e1 n] [E2 : EqE e2 m] [E3 : EqE e3 k] [E4 : EqE e4 l] : EqE (eP4 e1 e2 e3 e4) (max n (max m (max k l)) + 1) := ⟨fun a b => by
  unfold eP4 D.p PyData.eqv D.ps PyData.eqvAll D.ps PyData.eqvAll D.ps PyData.eqvAll D.ps PyData.eqvAll D.ps PyData.eqvAll
  rw [Bool.and_eq_true, Bool.and_eq_true, Bool.and_eq_true, Bool.and_true, E1.eq, E2.eq, E3.eq, E4.eq]
  exact ⟨fun ⟨x, y, z, w⟩ => Prod.ext x (Prod.ext y (Prod.ext z w)), fun h => by rw [h]; exact ⟨rfl, rfl, rfl, rfl⟩⟩, fun a => by
  show ((e1 a.1).dat (max n (max m (max k l))) && ((e2 a.2.1).dat (max n (max m (max k l))) && ((e3 a.2.2.1).dat (max n (max m (max k l))) && ((e4 a.2.2.2).dat (max n (max m (max k l))) && true)))) = true
  rw [dat_up (by omega) (E1.dat _), dat_up (by omega) (E2.dat _), dat_up (by omega) (E3.dat _), dat_up (by omega) (E4.dat _)]
  rfl⟩
/-- never None -/
class NnE {α : Type} (e : α → D) : Prop where
  nn : ∀ a, (e a).isN = false ∧ PyData.eqv .none (e a).p = false ∧ PyData.eqv (e a).p .none = false
instance : NnE D.int := ⟨fun _ => ⟨rfl, by unfold D.p PyData.eqv; rfl, by unfold D.p PyData.eqv; rfl⟩⟩
instance : NnE D.bl := ⟨fun _ => ⟨rfl, by unfold D.p PyData.eqv; rfl, by unfold D.p PyData.eqv; rfl⟩⟩
instance : NnE D.str := ⟨fun _ => ⟨rfl, by unfold D.p PyData.eqv; rfl, by unfold D.p PyData.eqv; rfl⟩⟩
instance {α : Type} {e : α → D} : NnE (eL e) := ⟨fun _ => ⟨rfl, by unfold eL D.p PyData.eqv; rfl, by unfold eL D.p PyData.eqv; rfl⟩⟩
instance {α : Type} {e : α → D} : NnE (eT e) := ⟨fun _ => ⟨rfl, by unfold eT D.p PyData.eqv; rfl, by unfold eT D.p PyData.eqv; rfl⟩⟩
instance {α β : Type} {e1 : α → D} {e2 : β → D} : NnE (eP e1 e2) := ⟨fun _ => ⟨rfl, by unfold eP D.p PyData.eqv; rfl, by unfold eP D.p PyData.eqv; rfl⟩⟩
instance {α β γ : Type} {e1 : α → D} {e2 : β → D} {e3 : γ → D} : NnE (eP3 e1 e2 e3) := ⟨fun _ => ⟨rfl, by unfold eP3 D.p PyData.eqv; rfl, by unfold eP3 D.p PyData.eqv; rfl⟩⟩
instance {α β γ δ : Type} {e1 : α → D} {e2 : β → D} {e3 : γ → D} {e4 : δ → D} : NnE (eP4 e1 e2 e3 e4) := ⟨fun _ => ⟨rfl, by unfold eP4 D.p PyData.eqv; rfl, by unfold eP4 D.p PyData.eqv; rfl⟩⟩
instance {α : Type} {e : α → D} {n : Nat} [E : EqE e n] [N : NnE e] : EqE (eO e) n := ⟨fun a b => by
  have n1 : D.non.p = .none := by unfold D.p; rfl
  cases a <;> cases b
  · exact ⟨fun _ => rfl, fun _ => by unfold eO; rw [n1]; unfold PyData.eqv; rfl⟩
  · show PyData.eqv D.non.p _ = true ↔ _
    rw [n1, (show PyData.eqv .none (eO e (some _)).p = false from (N.nn _).2.1)]
    simp
  · show PyData.eqv _ D.non.p = true ↔ _
    rw [n1, (show PyData.eqv (eO e (some _)).p .none = false from (N.nn _).2.2)]
    simp
  · show PyData.eqv (e _).p (e _).p = true ↔ _
    rw [E.eq]
    simp, fun a => by
  cases a with
  | none => cases n <;> rfl
  | some a => exact E.dat a⟩
section
variable {α β γ τ : Type} {e : α → D} {n : Nat}
theorem eqv_dec [E : EqE e n] [DecidableEq α] (a b : α) : PyData.eqv (e a).p (e b).p = decide (a = b) := by
  by_cases h : a = b
  · rw [decide_eq_true h, (E.eq a b).mpr h]
  · rw [decide_eq_false h]
    exact Bool.eq_false_iff.mpr fun z => h ((E.eq a b).mp z)
theorem eqR_of [E : EqE e n] [DecidableEq α] (hn : n ≤ 32) {a b : α} {S : Sto} {Q : Bool → Prop} (h : Q (decide (a = b))) : rEqR (e a) (e b) S Q := by
  have da := E.dat a
  have db := E.dat b
  have h2 : rEqD (e a) (e b) S Q := by
    unfold rEqD
    rw [dat_view da, dat_view db, eqv_dec]
    exact ⟨dat_up hn da, dat_up hn db, h⟩
  unfold rEqR
  split
  · rename_i e1 _; rw [e1] at da; cases n <;> cases da
  · rename_i e1 _; rw [e1] at da; cases n <;> cases da
  · rename_i e1; rw [e1] at db; cases n <;> cases db
  · exact h2
theorem op_eq [EqE e n] [DecidableEq α] (hn : n ≤ 32 := by decide) : Op2 (rCmp .Eq) e e D.bl (fun a b q => q (decide (a = b))) := fun a b q S Q E h k => eqR_of hn (Q := fun b => Q (.bl b) S) (k _ h)
theorem op_ne [EqE e n] [DecidableEq α] (hn : n ≤ 32 := by decide) : Op2 (rCmp .NotEq) e e D.bl (fun a b q => q (!decide (a = b))) := fun a b q S Q E h k => eqR_of hn (Q := fun b => Q (.bl (!b)) S) (k _ h)
theorem op_lt : Op2 (rCmp .Lt) D.int D.int D.bl (fun a b q => q (decide (a < b))) := fun a b q S Q E h k => k _ h
theorem op_le : Op2 (rCmp .LtE) D.int D.int D.bl (fun a b q => q (decide (a ≤ b))) := fun a b q S Q E h k => k _ h
theorem op_gt : Op2 (rCmp .Gt) D.int D.int D.bl (fun a b q => q (decide (b < a))) := fun a b q S Q E h k => k _ h
theorem op_ge : Op2 (rCmp .GtE) D.int D.int D.bl (fun a b q => q (decide (b ≤ a))) := fun a b q S Q E h k => k _ h
theorem op_ltS : Op2 (rCmp .Lt) D.str D.str D.bl (fun a b q => q (strLt a b)) := fun a b q S Q E h k => k _ h
theorem op_leS : Op2 (rCmp .LtE) D.str D.str D.bl (fun a b q => q (!strLt b a)) := fun a b q S Q E h k => k _ h
theorem op_gtS : Op2 (rCmp .Gt) D.str D.str D.bl (fun a b q => q (strLt b a)) := fun a b q S Q E h k => k _ h
theorem op_geS : Op2 (rCmp .GtE) D.str D.str D.bl (fun a b q => q (!strLt a b)) := fun a b q S Q E h k => k _ h
theorem op_inS : Op2 (rCmp .In) D.str D.str D.bl (fun a b q => q (inStr a b)) := fun a b q S Q E h k => k _ h
theorem op_ninS : Op2 (rCmp .NotIn) D.str D.str D.bl (fun a b q => q (!inStr a b)) := fun a b q S Q E h k => k _ h
theorem inD_map [E : EqE e n] [DecidableEq α] (a : α) (xs : List α) (S : Sto) : inData S (e a) (xs.map e) = decide (a ∈ xs) := by
  unfold inData
  rw [dat_view (E.dat a)]
  by_cases h : a ∈ xs
  · rw [decide_eq_true h, List.any_eq_true]
    exact ⟨e a, List.mem_map_of_mem h, (E.eq a a).mpr rfl⟩
  · rw [decide_eq_false h, List.any_eq_false]
    intro x hx
    obtain ⟨y, hy, ey⟩ := List.mem_map.mp hx
    subst ey
    intro z
    exact h ((E.eq y a).mp z ▸ hy)
theorem in_of (f : Bool → Bool) [E : EqE e n] [DecidableEq α] (hn : n ≤ 16) {a : α} {xs : List α} {c : D} {S : Sto} {Q : DQ} {Ed : DX} (hs : ∀ z, c ≠ .str z) (hc : seqA S c = some (xs.map e)) (h : Q (.bl (f (decide (a ∈ xs)))) S) : rIn f (e a) c S Q Ed := by
  have da := E.dat a
  have h2 : ∃ ds, seqA S c = some ds ∧ (view S (e a)).dat 16 = true ∧ ds.all (D.dat 16) = true ∧ Q (.bl (f (inData S (e a) ds))) S := by
    refine ⟨_, hc, by rw [dat_view da]; exact dat_up hn da, List.all_eq_true.mpr fun x hx => ?_, by rw [inD_map]; exact h⟩
    obtain ⟨y, _, e1⟩ := List.mem_map.mp hx
    subst e1
    exact dat_up hn (E.dat y)
  unfold rIn
  split
  · exact absurd rfl (hs _)
  · exact h2
theorem op_inL [E : EqE e n] [DecidableEq α] (hn : n ≤ 16 := by decide) : Op2 (rCmp .In) e (eL e) D.bl (fun a b q => q (decide (a ∈ b))) := fun a b q S Q Ed h k => in_of (Ed := Ed) id hn (fun _ z => by cases z) rfl (k _ h)
theorem op_inT [E : EqE e n] [DecidableEq α] (hn : n ≤ 16 := by decide) : Op2 (rCmp .In) e (eT e) D.bl (fun a b q => q (decide (a ∈ b))) := fun a b q S Q Ed h k => in_of (Ed := Ed) id hn (fun _ z => by cases z) rfl (k _ h)
theorem op_ninL [E : EqE e n] [DecidableEq α] (hn : n ≤ 16 := by decide) : Op2 (rCmp .NotIn) e (eL e) D.bl (fun a b q => q (!decide (a ∈ b))) := fun a b q S Q Ed h k => in_of (Ed := Ed) not hn (fun _ z => by cases z) rfl (k _ h)
theorem op_ninT [E : EqE e n] [DecidableEq α] (hn : n ≤ 16 := by decide) : Op2 (rCmp .NotIn) e (eT e) D.bl (fun a b q => q (!decide (a ∈ b))) := fun a b q S Q Ed h k => in_of (Ed := Ed) not hn (fun _ z => by cases z) rfl (k _ h)
theorem op_isN [N : NnE e] : Op2 (rCmp .Is) (eO e) eN D.bl (fun a _ q => q a.isNone) := fun a b q S Q E h k => ⟨rfl, by
  have := k _ h
  cases a with
  | none => exact this
  | some a => show Q (.bl (e a).isN) S; rw [(N.nn a).1]; exact this⟩
theorem op_isnN [N : NnE e] : Op2 (rCmp .IsNot) (eO e) eN D.bl (fun a _ q => q a.isSome) := fun a b q S Q E h k => ⟨rfl, by
  have := k _ h
  cases a with
  | none => exact this
  | some a => show Q (.bl (!(e a).isN)) S; rw [(N.nn a).1]; exact this⟩
theorem op_isD : Op2 (rCmp .Is) eD eN D.bl (fun a _ q => q a.isN) := fun a b q S Q E h k => ⟨rfl, k _ h⟩
theorem op_isnD : Op2 (rCmp .IsNot) eD eN D.bl (fun a _ q => q (!a.isN)) := fun a b q S Q E h k => ⟨rfl, k _ h⟩

/-! ### arithmetic, texts, sequences -/
theorem op_add {m : Bool} : Op2 (rBin m .Add) D.int D.int D.int (fun a b q => q (a + b)) := fun a b q S Q E h k => k _ h
theorem op_sub {m : Bool} : Op2 (rBin m .Sub) D.int D.int D.int (fun a b q => q (a - b)) := fun a b q S Q E h k => ⟨a, b, rfl, rfl, k _ h⟩
theorem op_mul {m : Bool} : Op2 (rBin m .Mult) D.int D.int D.int (fun a b q => MulOk a b ∧ q (a * b)) := fun a b q S Q E h k => ⟨h.1, k _ h.2⟩
theorem op_div {m : Bool} : Op2 (rBin m .FloorDiv) D.int D.int D.int (fun a b q => DivOk b ∧ q (a / b)) := fun a b q S Q E h k => ⟨a, b, rfl, rfl, h.1, k _ h.2⟩
theorem op_mod {m : Bool} : Op2 (rBin m .Mod) D.int D.int D.int (fun a b q => 0 < b ∧ q (a % b)) := fun a b q S Q E h k => ⟨a, b, rfl, rfl, h.1, k _ h.2⟩
theorem op_pow {m : Bool} : Op2 (rBin m .Pow) D.int D.int D.int (fun a b q => (0 ≤ b ∧ b ≤ 1000000 ∧ a.natAbs < 2 ^ 64) ∧ q (a ^ b.toNat)) := fun a b q S Q E h k => ⟨a, b, rfl, rfl, h.1, k _ h.2⟩
theorem op_addS {m : Bool} : Op2 (rBin m .Add) D.str D.str D.str (fun a b q => a.length + b.length ≤ sizeLine ∧ q (a ++ b)) := fun a b q S Q E h k => ⟨h.1, k _ h.2⟩
theorem op_addL : Op2 (rBin false .Add) (eL e) (eL e) (eL e) (fun a b q => a.length + b.length ≤ sizeLine ∧ q (a ++ b)) := fun a b q S Q E h k => by
  refine ⟨_, _, rfl, rfl, by rw [List.length_map, List.length_map]; exact h.1, ?_⟩
  have := k _ h.2
  unfold eL at this
  rw [List.map_append] at this
  exact this
theorem op_addT {m : Bool} : Op2 (rBin m .Add) (eT e) (eT e) (eT e) (fun a b q => a.length + b.length ≤ sizeLine ∧ q (a ++ b)) := fun a b q S Q E h k => by
  refine ⟨by rw [List.length_map, List.length_map]; exact h.1, ?_⟩
  have := k _ h.2
  unfold eT at this
  rw [List.map_append] at this
  exact this
theorem flat_map (xs : List α) : ∀ k : Nat, (List.replicate k (xs.map e)).flatten = ((List.replicate k xs).flatten).map e
  | 0 => rfl
  | k + 1 => by rw [List.replicate_succ, List.replicate_succ, List.flatten_cons, List.flatten_cons, List.map_append, flat_map xs k]
theorem op_mulL : Op2 (rBin false .Mult) (eL e) D.int (eL e) (fun a b q => (-(2 ^ 63) ≤ b ∧ b < 2 ^ 63 ∧ a.length * b.toNat ≤ sizeLine) ∧ q (List.replicate b.toNat a).flatten) := fun a b q S Q E h k => by
  refine ⟨_, b, rfl, rfl, h.1.1, h.1.2.1, by rw [List.length_map]; exact h.1.2.2, ?_⟩
  have := k _ h.2
  unfold eL at this
  rw [← flat_map] at this
  exact this
theorem op_neg : Op1 rNeg D.int D.int (fun a q => q (-a)) := fun a q S Q E h k => ⟨a, rfl, k _ h⟩
/-- an item of a sequence -/
def idxK (xs : List α) (i : Int) (q : α → Prop) : Prop := ∃ a, atI xs i = some a ∧ q a
theorem atI_map {xs : List α} {i : Int} {f : α → β} {a : α} (h : atI xs i = some a) : atI (xs.map f) i = some (f a) := by
  unfold atI at h ⊢
  rw [List.length_map]
  cases q : ixN xs.length i with
  | none => rw [q] at h; cases h
  | some j =>
    rw [q] at h
    show (xs.map f)[j]? = _
    have h : xs[j]? = some a := h
    rw [List.getElem?_map, h]
    rfl
theorem op_idxL : Op2 rIdx (eL e) D.int e (fun xs i q => idxK xs i q) := fun xs i q S Q E ⟨a, h, hq⟩ k => ⟨_, i, e a, rfl, rfl, atI_map h, k _ hq⟩
theorem op_idxT : Op2 rIdx (eT e) D.int e (fun xs i q => idxK xs i q) := fun xs i q S Q E ⟨a, h, hq⟩ k => ⟨_, i, e a, rfl, rfl, atI_map h, k _ hq⟩
theorem op_idxC : Op2 rIdx eC D.int D.int (fun xs i q => idxK xs i q) := fun xs i q S Q E ⟨a, h, hq⟩ k => ⟨_, i, .int a, rfl, rfl, atI_map h, k _ hq⟩
theorem op_idxS : Op2 rIdx D.str D.int D.str (fun z i q => idxK z.cps.toList i (fun k => q ⟨#[k]⟩)) := fun z i q S Q E ⟨a, h, hq⟩ k => ⟨i, a, rfl, h, k _ hq⟩
/-- an item of a tuple by its place -/
theorem i_item {os : OSt} {δ : Type} {ds : δ → List D} {e2 : β → D} {f : δ → β} {m : W δ} (j : Nat) (h : ∀ a, atI (ds a) (j : Nat) = some (e2 (f a))) : Imp (rdE os e2 (mapW m f)) (dOp rIdx (rdE os (fun a => D.tup (ds a)) m) (rdE os D.int (pu ((j : Nat) : Int)))) := fun ρ S Q E ⟨q, x, r, hm, k, kx⟩ =>
  ⟨_, x, r, hm, fun a S1 k1 h1 => ⟨fun v => v = ((j : Nat) : Int), X0, r.kp k1, rfl, fun v S2 k2 hv => by
    subst hv
    exact ⟨_, _, _, rfl, rfl, h a, k _ S2 (k1.trans k2) h1⟩, fun _ _ _ _ z => z.elim⟩, kx⟩
/-- slices -/
def partW : Option (W Int) → W (Option Int)
  | none => fun q _ => q none
  | some m => fun q x => m (fun i => q (some i)) x
def rdO (os : OSt) : Option (W Int) → Option DT := Option.map (rdE os D.int)
theorem o_part {os : OSt} {o : Option (W Int)} {ρ : DSt} {S : Sto} {Q : Option Int → Sto → Prop} {E : DX} {q : Option Int → Prop} {x : XW} (r : R os ρ S) (h : partW o q x) (k : ∀ v S', Kp os ρ S S' → q v → Q v S') (kx : ∀ n ds S', Kp os ρ S S' → x n ds → E n ds S') : dPart (rdO os o) ρ S Q E := by
  cases o with
  | none => exact k none S (.refl r) h
  | some m => exact ⟨_, x, r, h, fun v S' kp hv => ⟨v, rfl, k _ S' kp hv⟩, kx⟩
theorem cutD_map {f : α → β} (xs : List α) (lo hi : Option Int) : cutD (xs.map f) lo hi = (cutD xs lo hi).map f := by
  unfold cutD
  rw [List.length_map, List.map_take, List.map_drop]
def slcW (m : W α) (lo hi : Option (W Int)) (g : α → Option Int → Option Int → γ) : W γ := fun q x => m (fun a => partW lo (fun l => partW hi (fun h => q (g a l h)) x) x) x
theorem i_slc {os : OSt} {e1 : α → D} {e2 : γ → D} {g : α → Option Int → Option Int → γ} {m : W α} {lo hi : Option (W Int)} (hg : ∀ a l h S (Q : DQ), Q (e2 (g a l h)) S → rSlc false (e1 a) l h S Q) :
    Imp (rdE os e2 (slcW m lo hi g)) (dSlc false (rdE os e1 m) (rdO os lo) (rdO os hi)) := fun ρ S Q E ⟨q, x, r, hm, k, kx⟩ =>
  ⟨_, x, r, hm, fun a S1 k1 h1 => o_part (r.kp k1) h1 (fun l S2 k2 h2 => o_part ((r.kp k1).kp k2) h2 (fun h S3 k3 h3 => hg a l h S3 Q (k _ S3 ((k1.trans k2).trans k3) h3)) fun n ds S3 k3 hx => kx n ds S3 ((k1.trans k2).trans k3) hx) fun n ds S2 k2 hx => kx n ds S2 (k1.trans k2) hx, kx⟩
theorem sl_L : ∀ (a : List α) l h S (Q : DQ), Q (eL e (cutD a l h)) S → rSlc false (eL e a) l h S Q := fun a l h S Q q => ⟨_, rfl, by
  unfold eL at q
  rw [← cutD_map] at q
  exact q⟩
theorem sl_T : ∀ (a : List α) l h S (Q : DQ), Q (eT e (cutD a l h)) S → rSlc false (eT e a) l h S Q := fun a l h S Q q => by
  unfold eT at q
  rw [← cutD_map] at q
  exact q
theorem sl_C : ∀ (a : List Int) l h S (Q : DQ), Q (eL D.int (cutD a l h)) S → rSlc false (eC a) l h S Q := fun a l h S Q q => ⟨_, rfl, by
  unfold eL at q
  rw [← cutD_map] at q
  exact q⟩
theorem sl_S : ∀ (a : Str) l h S (Q : DQ), Q (.str (cutS a l h)) S → rSlc false (.str a) l h S Q := fun a l h S Q q => q
/-- built-in functions -/
abbrev a1 (e1 : α → D) (a : α × Unit) : List D := [e1 a.1]
abbrev a2 (e1 : α → D) (e2 : β → D) (a : α × β × Unit) : List D := [e1 a.1, e2 a.2.1]
theorem f_lenL : OpA rLen (a1 (eL e)) D.int (fun a q => q (a.1.length : Int)) := fun a q S Q E h k => ⟨_, _, rfl, rfl, by rw [List.length_map]; exact k _ h⟩
theorem f_lenT : OpA rLen (a1 (eT e)) D.int (fun a q => q (a.1.length : Int)) := fun a q S Q E h k => ⟨_, _, rfl, rfl, by rw [List.length_map]; exact k _ h⟩
theorem f_lenC : OpA rLen (a1 eC) D.int (fun a q => q (a.1.length : Int)) := fun a q S Q E h k => ⟨_, _, rfl, rfl, by rw [List.length_map]; exact k _ h⟩
theorem f_lenS : OpA rLen (a1 D.str) D.int (fun a q => q (a.1.length : Int)) := fun a q S Q E h k => ⟨_, _, rfl, rfl, k _ h⟩
theorem f_abs : OpA rAbs (a1 D.int) D.int (fun a q => q (if a.1 < 0 then -a.1 else a.1)) := fun a q S Q E h k => ⟨_, rfl, k _ h⟩
theorem f_max : OpA rMax (a2 D.int D.int) D.int (fun a q => q (if a.2.1 > a.1 then a.2.1 else a.1)) := fun a q S Q E h k => ⟨_, _, rfl, k _ h⟩
theorem f_min : OpA rMin (a2 D.int D.int) D.int (fun a q => q (if a.2.1 < a.1 then a.2.1 else a.1)) := fun a q S Q E h k => ⟨_, _, rfl, k _ h⟩
theorem f_int : OpA rInt (a1 D.int) D.int (fun a q => q a.1) := fun a q S Q E h k => ⟨_, _, rfl, rfl, k _ h⟩
theorem f_intB : OpA rInt (a1 D.bl) D.int (fun a q => q (if a.1 then 1 else 0)) := fun a q S Q E h k => ⟨_, _, rfl, rfl, k _ h⟩
theorem f_all : OpA rAllD (a1 (eL D.bl)) D.bl (fun a q => q (a.1.all id)) := fun a q S Q E h k => ⟨_, a.1, rfl, rfl, k _ h⟩
theorem f_any : OpA rAnyD (a1 (eL D.bl)) D.bl (fun a q => q (a.1.any id)) := fun a q S Q E h k => ⟨_, a.1, rfl, rfl, k _ h⟩
theorem f_sum : OpA rSumD (a1 (eL D.int)) D.int (fun a q => q a.1.sum) := fun a q S Q E h k => ⟨_, a.1, rfl, rfl, k _ h⟩
theorem f_listL : OpA (rListS false) (a1 (eL e)) (eL e) (fun a q => q a.1) := fun a q S Q E h k => ⟨_, _, rfl, rfl, k _ h⟩
theorem f_listT : OpA (rListS false) (a1 (eT e)) (eL e) (fun a q => q a.1) := fun a q S Q E h k => ⟨_, _, rfl, rfl, k _ h⟩
theorem f_tupL : OpA rTupD (a1 (eL e)) (eT e) (fun a q => q a.1) := fun a q S Q E h k => ⟨_, _, rfl, rfl, k _ h⟩
theorem f_tupT : OpA rTupD (a1 (eT e)) (eT e) (fun a q => q a.1) := fun a q S Q E h k => ⟨_, _, rfl, rfl, k _ h⟩
/-- list(x) of one's own -/
theorem n_cb {os : OSt} {RA : DRA} {δ : Type} {e1 : δ → List D} {eo : γ → MO} {f : δ → (γ → Prop) → Prop} {m1 : W δ} (o : ∀ a q S (Q : DQ), f a q → (∀ v p, q v → S p = none → Q (.ref p) (S.set p (eo v))) → RA (e1 a) S Q DX0) : Imp (rdN os eo (unW m1 f)) (dCB RA (rdA os e1 m1)) := fun ρ S Q E ⟨q, x, r, hm, k, kx⟩ =>
  ⟨_, x, r, hm, fun a S1 k1 h1 => o a q S1 Q h1 fun v p hv hp => k v S1 p k1 hp hv, kx⟩
theorem nf_listL : ∀ (a : List α × Unit) (q : List α → Prop) S (Q : DQ), q a.1 → (∀ v p, q v → S p = none → Q (.ref p) (S.set p (eLo e v))) → rListS true (a1 (eL e) a) S Q DX0 := fun a q S Q h k => ⟨_, _, rfl, rfl, fun p hp => k _ p h hp⟩
theorem nf_listT : ∀ (a : List α × Unit) (q : List α → Prop) S (Q : DQ), q a.1 → (∀ v p, q v → S p = none → Q (.ref p) (S.set p (eLo e v))) → rListS true (a1 (eT e) a) S Q DX0 := fun a q S Q h k => ⟨_, _, rfl, rfl, fun p hp => k _ p h hp⟩
theorem n_op {os : OSt} {R2 : DR2} {e1 : α → D} {e2 : β → D} {eo : γ → MO} {f : α → β → (γ → Prop) → Prop} {m1 : W α} {m2 : W β} (o : ∀ a b q S (Q : DQ), f a b q → (∀ v p, q v → S p = none → Q (.ref p) (S.set p (eo v))) → R2 (e1 a) (e2 b) S Q DX0) :
    Imp (rdN os eo (opW m1 m2 f)) (dOp R2 (rdE os e1 m1) (rdE os e2 m2)) := fun ρ S Q E ⟨q, x, r, hm, k, kx⟩ =>
  ⟨_, x, r, hm, fun a S1 k1 h1 => ⟨_, x, r.kp k1, h1, fun b S2 k2 h2 => o a b q S2 Q h2 fun v p hv hp => k v S2 p (k1.trans k2) hp hv, fun n ds S2 k2 hx => kx n ds S2 (k1.trans k2) hx⟩, kx⟩
theorem no_addL : ∀ (a b : List α) (q : List α → Prop) S (Q : DQ), (a.length + b.length ≤ sizeLine ∧ q (a ++ b)) → (∀ v p, q v → S p = none → Q (.ref p) (S.set p (eLo e v))) → rBin true .Add (eL e a) (eL e b) S Q DX0 := fun a b q S Q h k => by
  refine ⟨_, _, rfl, rfl, by rw [List.length_map, List.length_map]; exact h.1, fun p hp => ?_⟩
  have := k _ p h.2 hp
  unfold eLo at this
  rw [List.map_append] at this
  exact this
/-- truths -/
theorem tru_L : Tru (eL e) (fun a => !a.isEmpty) := fun a S => by show some (!(a.map e).isEmpty) = _; rw [List.isEmpty_map]
theorem tru_T : Tru (eT e) (fun a => !a.isEmpty) := fun a S => by show some (!(a.map e).isEmpty) = _; rw [List.isEmpty_map]
theorem tru_S : Tru D.str (fun a => (a.length : Int) != 0) := fun a S => rfl
theorem tru_I : Tru D.int (fun a => a != 0) := fun a S => rfl
/-- texts -/
def chS (z : Str) : List Str := z.cps.toList.map fun k => ⟨#[k]⟩
theorem sq_str (a : Str) (S : Sto) : seqI S (.str a) = some ((chS a).map D.str, noG) := by
  show some (a.cps.toList.map chD, noG) = _
  unfold chS
  rw [List.map_map]
  rfl
theorem i_m1 {os : OSt} {R2 : DR2} {e2 : β → D} {e : γ → D} {f : Str → β → (γ → Prop) → Prop} {m1 : W Str} {m2 : W β} (o : Op2 R2 D.str e2 e f) : Imp (rdE os e (opW m1 m2 f)) (dM1 R2 (rdE os D.str m1) (rdE os e2 m2)) := fun ρ S Q E ⟨q, x, r, hm, k, kx⟩ =>
  ⟨_, x, r, hm, fun a S1 k1 h1 => ⟨⟨a, rfl⟩, _, x, r.kp k1, h1, fun b S2 k2 h2 => o a b q S2 Q _ h2 fun v hv => k v S2 (k1.trans k2) hv, fun n ds S2 k2 hx => kx n ds S2 (k1.trans k2) hx⟩, kx⟩
theorem ms_startsT : Op2 mStarts D.str D.str D.bl (fun a b q => q (Txt.startswith a b)) := fun a b q S Q E h k => ⟨a, b, rfl, rfl, k _ h⟩
theorem ms_endsT : Op2 mEnds D.str D.str D.bl (fun a b q => q (Txt.endswith a b)) := fun a b q S Q E h k => ⟨a, b, rfl, rfl, k _ h⟩
theorem strs_map : ∀ xs : List Str, strsD (xs.map D.str) = some xs
  | [] => rfl
  | x :: xs => by show (strsD (xs.map D.str)).map _ = _; rw [strs_map xs]; rfl
theorem ms_joinL : Op2 mJoin D.str (eL D.str) D.str (fun a ys q => (ys.map (·.length)).sum + ys.length * a.length ≤ 16777216 ∧ q (Txt.join a ys)) := fun a ys q S Q E h k => ⟨a, _, ys, rfl, rfl, strs_map ys, h.1, k _ h.2⟩
theorem ms_joinT : Op2 mJoin D.str (eT D.str) D.str (fun a ys q => (ys.map (·.length)).sum + ys.length * a.length ≤ 16777216 ∧ q (Txt.join a ys)) := fun a ys q S Q E h k => ⟨a, _, ys, rfl, rfl, strs_map ys, h.1, k _ h.2⟩
/-- repr -/
def Shw (d : D) : Prop := d.dat 16 = true ∧ d.p.showable = true ∧ d.p.shown.length ≤ sizeLine
theorem f_reprL {e1 : α → D} (h : ∀ a, ∃ xs, e1 a = .lst xs ∨ e1 a = .tup xs) : OpA rReprD (a1 e1) D.rp (fun a q => Shw (e1 a.1) ∧ q (e1 a.1).p) := fun a q S Q E ⟨⟨h1, h2, h3⟩, hq⟩ k => by
  have k := k _ hq
  obtain ⟨xs, e | e⟩ := h a.1
  · unfold a1
    rw [e] at h1 h2 h3 k ⊢
    exact ⟨_, rfl, .inr (.inl ⟨xs, rfl, h1, h2, h3, k⟩)⟩
  · unfold a1
    rw [e] at h1 h2 h3 k ⊢
    exact ⟨_, rfl, .inr (.inl ⟨xs, rfl, h1, h2, h3, k⟩)⟩
theorem f_reprX {e1 : α → D} (h : ∀ a, isSc (e1 a) = true) : OpA rReprD (a1 e1) D.rp (fun a q => (e1 a.1).p.shown.length ≤ sizeLine ∧ q (e1 a.1).p) := fun a q S Q E ⟨h1, hq⟩ k => ⟨_, rfl, .inr (.inr ⟨h a.1, h1, k _ hq⟩)⟩
theorem f_reprI : OpA rReprD (a1 D.int) D.rp (fun a q => (a.1.natAbs.log2 < 1920 ∧ (PyData.shown (.int a.1)).length ≤ sizeLine) ∧ q (.int a.1)) := fun a q S Q E ⟨⟨h1, h2⟩, hq⟩ k => ⟨_, rfl, .inl ⟨a.1, rfl, h1, h2, k _ hq⟩⟩
theorem op_eqR : Op2 (rCmp .Eq) D.rp D.rp D.bl (fun a b q => q (decide (a.shown = b.shown))) := fun a b q S Q E h k => k _ h
theorem op_neR : Op2 (rCmp .NotEq) D.rp D.rp D.bl (fun a b q => q (!decide (a.shown = b.shown))) := fun a b q S Q E h k => k _ h
theorem op_eqRS : Op2 (rCmp .Eq) D.rp D.str D.bl (fun a b q => q (decide (a.shown = b))) := fun a b q S Q E h k => k _ h
theorem op_neRS : Op2 (rCmp .NotEq) D.rp D.str D.bl (fun a b q => q (!decide (a.shown = b))) := fun a b q S Q E h k => k _ h
/-- isinstance -/
def isiK (T : Isi) (x : D) (t : Ty) (q : Bool → Prop) : Prop := ∃ a r, tyN (fun _ => none) x = some a ∧ T.lookup (a, t) = some r ∧ q r
theorem ty_any {x : D} {a : Ty} (h : tyN (fun _ => none) x = some a) (S : Sto) : tyN S x = some a := by cases x <;> first | exact h | cases h
theorem f_isi {T : Isi} {e1 : α → D} {t : Ty} : OpA (rIsiD T) (a2 e1 (fun (_ : Unit) => D.ty t)) D.bl (fun a q => isiK T (e1 a.1) t q) := fun a q S Q E ⟨ty, r, h1, h2, hq⟩ k => ⟨_, t, t, ty, r, rfl, rfl, ty_any h1 S, h2, k _ hq⟩
end
end DL

namespace DL
open PySem PySem.Spec PyProof.Rows L2

/-! ### the entry of a def -/
section
variable {α β κ δ : Type} {sg : Sig β κ} {sl : α → List Sl} {rest : α → List D} {m : α → W β} {osf : α → OSt} {res : δ → OSt} {mb : α → M δ β κ} {fin : δ → β} {n mm : Nat}
theorem ent_body (hlen : ∀ a, (sl a).length = mm) (hok : ∀ a, Sl.ok (sl a) = true ∧ Sl.pin (sl a) = sg.pz) (hos : ∀ a, osf a = (sl a).map some ++ List.replicate (n - (sl a).length) none) (hm : ∀ a q x, m a q x → mb a (fun r => q (fin r)) ⟨q, fun _ => False, fun _ => False, x⟩)
    (hfin : ∀ r, sg.eb (fin r) = .non) (hrr : ∀ r, RrOk sg (res r) (fin r)) (hx : sg.osx = []) {ds : List D} {S : Sto} {Q : DQ} {E : DX} (h : spG sl (fun _ => []) sg.rr sg.eb m ds S Q E) :
    bodySp n mm (fun DD ρ S => ∃ b, rdS sg (osf b) res (mb b) DD ρ S) ds S Q E := by
  obtain ⟨a, pre, ed, hl, h⟩ := ent (n := n) (fun pre _ => pre) sl (fun a pre hl S r => ⟨r, hl, fun p => ⟨Iff.rfl, Iff.rfl⟩⟩) hok hos hm hfin hrr hx h
  rw [List.append_nil] at ed
  subst ed
  exact ⟨by rw [hl, hlen], h⟩
theorem r_app {ss : List Sl} {ds : List D} {d : D} {S : Sto} (hl : ds.length = ss.length) (r : R (ss.map some) (ds.map some) S) : R ((ss ++ [Sl.v d]).map some) ((ds ++ [d]).map some) S ∧
    (∀ p, (BgA ((ss ++ [Sl.v d]).map some) ((ds ++ [d]).map some) p ↔ BgA (ss.map some) (ds.map some) p) ∧ (OwA ((ss ++ [Sl.v d]).map some) ((ds ++ [d]).map some) p ↔ OwA (ss.map some) (ds.map some) p)) := by
  have at_ : ∀ {i s}, s.own = true → At ((ss ++ [Sl.v d]).map some) i s → At (ss.map some) i s := fun {i s} hs a => by
    unfold At at a ⊢
    rw [List.map_append] at a
    by_cases h : i < (ss.map some).length
    · rwa [List.getElem?_append_left h] at a
    · rw [List.getElem?_append_right (Nat.le_of_not_lt h)] at a
      cases e : i - (ss.map some).length with
      | zero => rw [e] at a; cases a; cases hs
      | succ k => rw [e] at a; cases a
  have ta : ∀ {i s}, At (ss.map some) i s → At ((ss ++ [Sl.v d]).map some) i s := fun {i s} a => by
    unfold At at a ⊢
    rw [List.map_append, List.getElem?_append_left (List.getElem?_eq_some_iff.mp a).1]
    exact a
  have rf : ∀ {i : Nat} {x : Option D}, (ds.map some)[i]? = some x → ((ds ++ [d]).map some)[i]? = some x := fun {i x} a => by
    rw [List.map_append, List.getElem?_append_left (List.getElem?_eq_some_iff.mp a).1]
    exact a
  have fr : ∀ {i : Nat} {p : Addr}, i < ss.length → Rf ((ds ++ [d]).map some) i p → Rf (ds.map some) i p := fun {i p} h a => by
    unfold Rf at a ⊢
    rwa [List.map_append, List.getElem?_append_left (by rw [List.length_map, hl]; exact h)] at a
  have lt : ∀ {i s}, At (ss.map some) i s → i < ss.length := fun {i s} a => by
    have := (List.getElem?_eq_some_iff.mp a).1
    rwa [List.length_map] at this
  refine ⟨⟨?_, fun i x a => ?_, fun i m a => ?_, fun i a => ?_, fun i j m s p n a b hs c e => ?_⟩, fun p => ⟨⟨fun ⟨i, a, b⟩ => ?_, fun ⟨i, a, b⟩ => ⟨i, ta a, rf b⟩⟩, ⟨fun ⟨i, m, a, b⟩ => ?_, fun ⟨i, m, a, b⟩ => ⟨i, m, ta a, rf b⟩⟩⟩⟩
  · simp [hl]
  · by_cases h : i < ss.length
    · unfold At at a
      rw [List.map_append, List.getElem?_append_left (by rw [List.length_map]; exact h)] at a
      exact rf (r.vl i x a)
    · unfold At at a
      rw [List.map_append, List.getElem?_append_right (by rw [List.length_map]; omega), List.length_map] at a
      cases e : i - ss.length with
      | zero =>
        rw [e] at a
        cases a
        rw [List.map_append, List.getElem?_append_right (by rw [List.length_map, hl]; omega), List.length_map, hl, e]
        rfl
      | succ k => rw [e] at a; cases a
  · obtain ⟨p, x, y⟩ := r.ob i m (at_ rfl a)
    exact ⟨p, rf x, y⟩
  · obtain ⟨p, x, y⟩ := r.bg i (at_ rfl a)
    exact ⟨p, rf x, y⟩
  · have a := at_ rfl a
    have b := at_ hs b
    exact r.ne i j m s p n a b hs (fr (lt a) c) (fr (lt b) e)
  · have a := at_ rfl a
    exact ⟨i, a, fr (lt a) b⟩
  · have a := at_ rfl a
    exact ⟨i, m, a, fr (lt a) b⟩
theorem ent_star (hlen : ∀ a, (sl a).length = mm) (hok : ∀ a, Sl.ok (sl a ++ [Sl.v (.tup (rest a))]) = true ∧ Sl.pin (sl a ++ [Sl.v (.tup (rest a))]) = sg.pz) (hos : ∀ a, osf a = (sl a ++ [Sl.v (.tup (rest a))]).map some ++ List.replicate (n - (sl a ++ [Sl.v (.tup (rest a))]).length) none)
    (hm : ∀ a q x, m a q x → (rest a).length ≤ sizeLine ∧ mb a (fun r => q (fin r)) ⟨q, fun _ => False, fun _ => False, x⟩)
    (hfin : ∀ r, sg.eb (fin r) = .non) (hrr : ∀ r, RrOk sg (res r) (fin r)) (hx : sg.osx = []) {ds : List D} {S : Sto} {Q : DQ} {E : DX} (h : spG sl rest sg.rr sg.eb m ds S Q E) :
    starSp n mm (fun DD ρ S => ∃ b, rdS sg (osf b) res (mb b) DD ρ S) ds S Q E := by
  have hz : ∃ a pre, ds = pre ++ rest a ∧ pre.length = (sl a).length ∧ (rest a).length ≤ sizeLine ∧ spG sl rest sg.rr sg.eb (fun a' q x => a' = a ∧ m a q x) ds S Q E ∧ True := by
    obtain ⟨a, q, x, pre, ed, hl, r, h, kq, kx⟩ := h
    exact ⟨a, pre, ed, hl, (hm a q x h).1, ⟨a, q, x, pre, ed, hl, r, ⟨rfl, h⟩, kq, kx⟩, trivial⟩
  obtain ⟨a0, pre0, ed0, hl0, z0, h, _⟩ := hz
  obtain ⟨a, pre, ed, hl, b, hb⟩ := ent (n := n) (m := fun a' q x => m a' q x ∧ (rest a').length ≤ sizeLine) (fun pre rest => pre ++ [.tup rest]) (fun a => sl a ++ [Sl.v (.tup (rest a))]) (fun a pre hl S r => ⟨(r_app hl r).1, by simp [hl], (r_app hl r).2⟩) hok hos (fun a q x h => (hm a q x h.1).2) hfin hrr hx
    (show spG sl rest sg.rr sg.eb (fun a' q x => m a' q x ∧ (rest a').length ≤ sizeLine) ds S Q E by
      obtain ⟨a', q, x, pre, ed, hl, r, ⟨ea, h⟩, kq, kx⟩ := h
      subst ea
      exact ⟨a', q, x, pre, ed, hl, r, ⟨h, (hm _ q x h).1⟩, kq, kx⟩)
  refine ⟨pre, rest a, ed, by rw [hl, hlen], ?_, b, hb⟩
  have : pre.length = pre0.length := by rw [hl, hl0, hlen, hlen]
  have e : rest a = rest a0 := by
    have e := ed.symm.trans ed0
    exact (List.append_inj e this).2
  rw [e]
  exact z0
end
section
variable {P : Program} {w : World} {Kf : PySem.W.Frag} {A : Cla} {mg : Str → Option Value} {base : Heap} {N ps : List Str} {name qual : Str} {st : Stmt} {f : Addr} {k : Nat}
variable {α β κ δ : Type} {sg : Sig β κ} {sl : α → List Sl} {rest : α → List D} {m : α → W β} {osf : α → OSt} {res : δ → OSt} {mb : α → M δ β κ}
/-- a def's mirror -/
theorem fnT (fin : δ → β) (F : FunP Kf name qual st f) (Sc : FnScope N ps (defScope st))
    (hb : ∀ (kV doc pm cdv ct : Value) (an : Option Addr) (us : List Value), us.length = ps.length → bindArgs (PySem.W.fnOf name qual (defArgs st) (defBody st) (defScope st) .none kV doc pm an cdv ct) ⟨us, []⟩ = pure (ps.zip us))
    (hbody : ∀ (X : Cx) (Wx : WX), In P w Kf mg base N (defScope st) fAll k X Wx → HPs X → ∀ a, DStms X A Wx (defBody st) (rdS sg (osf a) res (mb a)))
    (hlen : ∀ a, (sl a).length = ps.length) (hok : ∀ a, Sl.ok (sl a) = true ∧ Sl.pin (sl a) = sg.pz) (hos : ∀ a, osf a = (sl a).map some ++ List.replicate (N.length - (sl a).length) none) (hm : ∀ a q x, m a q x → mb a (fun r => q (fin r)) ⟨q, fun _ => False, fun _ => False, x⟩)
    (hfin : ∀ r, sg.eb (fin r) = .non) (hrr : ∀ r, RrOk sg (res r) (fin r)) (hx : sg.osx = []) : FnD P w (cc Kf A) mg base (k + 1) f (spG sl (fun _ => []) sg.rr sg.eb m) :=
  (fnd_mk F Sc hb fun X Wx h hp => dsU fun a => hbody X Wx h hp a).imp fun _ _ _ _ => ent_body hlen hok hos hm hfin hrr hx
theorem fnTS {pv : Str} (fin : δ → β) (F : FunP Kf name qual st f) (Sc : FnScope N (ps ++ [pv]) (defScope st))
    (hb : ∀ (kV doc pm cdv ct : Value) (an : Option Addr) (us rest : List Value), us.length = ps.length → bindArgs (PySem.W.fnOf name qual (defArgs st) (defBody st) (defScope st) .none kV doc pm an cdv ct) ⟨us ++ rest, []⟩ = (newTuple rest >>= fun t => pure (ps.zip us ++ [(pv, t)])))
    (hbody : ∀ (X : Cx) (Wx : WX), In P w Kf mg base N (defScope st) fAll k X Wx → HPs X → ∀ a, DStms X A Wx (defBody st) (rdS sg (osf a) res (mb a)))
    (hlen : ∀ a, (sl a).length = ps.length) (hok : ∀ a, Sl.ok (sl a ++ [Sl.v (.tup (rest a))]) = true ∧ Sl.pin (sl a ++ [Sl.v (.tup (rest a))]) = sg.pz) (hos : ∀ a, osf a = (sl a ++ [Sl.v (.tup (rest a))]).map some ++ List.replicate (N.length - (sl a ++ [Sl.v (.tup (rest a))]).length) none)
    (hm : ∀ a q x, m a q x → (rest a).length ≤ sizeLine ∧ mb a (fun r => q (fin r)) ⟨q, fun _ => False, fun _ => False, x⟩)
    (hfin : ∀ r, sg.eb (fin r) = .non) (hrr : ∀ r, RrOk sg (res r) (fin r)) (hx : sg.osx = []) : FnD P w (cc Kf A) mg base (k + 1) f (spG sl rest sg.rr sg.eb m) :=
  (fnd_star F Sc hb fun X Wx h hp => dsU fun a => hbody X Wx h hp a).imp fun _ _ _ _ => ent_star hlen hok hos hm hfin hrr hx
end
/-! ### bags -/
section
variable {α β κ γ : Type} {sg : Sig β κ} {os : OSt}
def drawW (a : Int × Unit) : W Int := fun q _ => (0 < a.1 ∧ a.1 < 2 ^ 64) ∧ ∀ r, 0 ≤ r → r < a.1 → q r
theorem draw_T {ds : List D} {S : Sto} {Q : DQ} {E : DX} (h : spT (fun (a : Int × Unit) => [.b, .v (.int a.1)]) D.int drawW ds S Q E) : sp_draw ds S Q E := by
  obtain ⟨a, q, x, pre, ed, hl, r, ⟨⟨h0, h1⟩, hq⟩, kq, _⟩ := h
  rw [List.append_nil] at ed
  subst ed
  match ds, hl with
  | [d0, d1], _ =>
    have v1 : d1 = .int a.1 := by
      have := r.vl 1 (.int a.1) rfl
      exact Option.some.inj (Option.some.inj this)
    obtain ⟨p, hp, hbg⟩ := r.bg 0 rfl
    have v0 : d0 = .ref p := Option.some.inj (Option.some.inj hp)
    subst v0 v1
    obtain ⟨x1, x2, x3, x4⟩ := hbg
    refine ⟨p, a.1, rfl, h0, h1, .refl x4 x3, fun r' S' b r0 r1 => kq r' S' ?_ (hq r' r0 r1)⟩
    refine ⟨fun p' hp' no => ?_, fun p' m ho hm => by cases hm⟩
    have e : BgA [some .b, some (.v (.int a.1))] [some (.ref p), some (.int a.1)] p' ↔ p' = p := by
      constructor
      · rintro ⟨i, a1, b1⟩
        match i, a1, b1 with
        | 0, _, b1 => exact (D.ref.inj (Option.some.inj (Option.some.inj b1))).symm
        | 1, a1, _ => cases a1
      · rintro rfl
        exact ⟨0, rfl, rfl⟩
    refine ⟨fun z => ?_, fun z => b.2 p' (fun y => z (e.mpr y)) hp'⟩
    rw [e.mp z]
    obtain ⟨y1, y2, y3, y4⟩ := b.1
    exact ⟨y1, y2, y3, y4⟩
/-- a new bag at a slot -/
theorem G.bag {F : Fr} {ρ : DSt} {S S' : Sto} {i : Nat} {p : Addr} (g : G F os ρ S) (h : i = 0 → F.pin = none) (hp : S p = none) (b : Bg p S S') : G F (os.set i (some .b)) (ρ.set i (some (.ref p))) S' := by
  have off : ∀ q, S q ≠ none → S' q = S q := fun q hq => b.2 q (fun e => hq (by rw [e]; exact hp)) hq
  have hF : F.S0 p = none := by
    cases e : F.S0 p with
    | none => rfl
    | some o =>
      have hn : F.S0 p ≠ none := by rw [e]; exact fun z => by cases z
      obtain ⟨h1, h2⟩ := g.fr p hn
      by_cases hb : F.B0 p
      · exact absurd hp (h1 hb).some
      · rw [h2 hb] at hp; exact absurd hp hn
  have live : ∀ (l : Nat) (s : Sl) (q : Addr), At os l s → s.own = true → Rf ρ l q → S q ≠ none := fun l s q a hs c => by
    cases s with
    | v d => cases hs
    | o mm =>
      obtain ⟨q', b, z⟩ := g.env.ob l mm a
      have : some (some (D.ref q')) = some (some (D.ref q)) := b.symm.trans c
      cases this
      rw [z]; exact fun z => by cases z
    | b =>
      obtain ⟨q', b, z⟩ := g.env.bg l a
      have : some (some (D.ref q')) = some (some (D.ref q)) := b.symm.trans c
      cases this
      exact z.some
  refine ⟨⟨?_, fun j x a => ?_, fun j m' a => ?_, fun j a => ?_, fun j k m' s q hjk a b' hs c d => ?_⟩, fun q hq => ?_, fun j m' q a b' => ?_, fun j q a b' => ?_, fun q hq => ?_⟩
  · rw [List.length_set, List.length_set]; exact g.env.len
  · rcases at_set a with ⟨_, e, _⟩ | ⟨n, a⟩
    · cases e
    · rw [List.getElem?_set_ne (Ne.symm n)]; exact g.env.vl j x a
  · rcases at_set a with ⟨_, e, _⟩ | ⟨n, a⟩
    · cases e
    · obtain ⟨q, b', c⟩ := g.env.ob j m' a
      exact ⟨q, by unfold Rf; rw [List.getElem?_set_ne (Ne.symm n)]; exact b', by rw [off q (by rw [c]; exact fun z => by cases z)]; exact c⟩
  · rcases at_set a with ⟨rfl, e, hl⟩ | ⟨n, a⟩
    · obtain ⟨y1, y2, y3, y4⟩ := b.1
      exact ⟨p, List.getElem?_set_self (Nat.lt_of_lt_of_le hl g.env.len), y1, y2, y3, y4⟩
    · obtain ⟨q, b', c⟩ := g.env.bg j a
      exact ⟨q, by unfold Rf; rw [List.getElem?_set_ne (Ne.symm n)]; exact b', by rw [off q c.some]; exact c⟩
  · unfold Rf at c d
    rcases at_set a with ⟨_, e, _⟩ | ⟨n, a⟩
    · cases e
    · rw [List.getElem?_set_ne (Ne.symm n)] at c
      rcases at_set b' with ⟨e2, _, hl⟩ | ⟨n2, b'⟩
      · rw [e2, List.getElem?_set_self (Nat.lt_of_lt_of_le hl g.env.len)] at d
        cases d
        exact live j (.o m') p a rfl c hp
      · rw [List.getElem?_set_ne (Ne.symm n2)] at d
        exact g.env.ne j k m' s q hjk a b' hs c d
  · obtain ⟨h1, h2⟩ := g.fr q hq
    have : q ≠ p := fun e => hq (by rw [e]; exact hF)
    refine ⟨fun z => by rw [off q (h1 z).some]; exact h1 z, fun z => ?_⟩
    have e := h2 z
    rw [off q (by rw [e]; exact hq)]
    exact e
  · unfold Rf at b'
    rcases at_set a with ⟨_, e, _⟩ | ⟨n, a⟩
    · cases e
    · rw [List.getElem?_set_ne (Ne.symm n)] at b'
      exact g.own j m' q a b'
  · unfold Rf at b'
    rcases at_set a with ⟨rfl, e, hl⟩ | ⟨n, a⟩
    · rw [List.getElem?_set_self (Nat.lt_of_lt_of_le hl g.env.len)] at b'
      cases b'
      exact .inr hF
    · rw [List.getElem?_set_ne (Ne.symm n)] at b'
      exact g.bgs j q a b'
  · have n : i ≠ 0 := fun e => by rw [h e] at hq; cases hq
    unfold Rf
    rw [List.getElem?_set_ne n]
    exact g.pin q hq
def bagK (ma : W (List Int × Int × Unit)) : M Unit β κ := fun nx k => ma (fun a => (a.1.length ≤ 63 ∧ 0 ≤ a.2.1 ∧ a.2.1 < 100) ∧ nx ()) k.xx
theorem s_bag {ma : W (List Int × Int × Unit)} {i : Nat} (hx : Le sg.osx os) (hp : (i != 0 || !sg.pz) = true) :
    ImpS (rdS sg os (fun (_ : Unit) => os.set i (some .b)) (bagK ma)) (sAsg (dCall sp_bag (rdA os (a2 eC D.int) ma)) (gNm i)) :=
  fun DD ρ S ⟨nx, k, F, g, z, h, kk⟩ => ⟨_, k.xx, g.env, h, fun a S1 k1 ⟨⟨h0, h1, h2⟩, h3⟩ => ⟨a.1, a.2.1, rfl, h1, h2, h0, fun p S' hp1 b => kk.nx () _ _ ((g.kp k1).bag (pz_of hp z) hp1 b) h3⟩, fun n ds S1 k1 h1 => kk.xx n ds ρ S1 ((g.kp k1).le hx) h1⟩
end
end DL

namespace DL
open PySem PySem.Spec PyProof.Rows L2

/-! ### derivations: what is wished first -/
section
variable {X : Cx} {A : Cla} {Wx : WX} {ex tg : Expr} {es : List Expr} {st : Stmt} {sts : List Stmt}
theorem xe {t t' : DT} (i : Imp t' t) (h : DE X A Wx ex t) : DE X A Wx ex t' := te h i
theorem xa {t t' : DTA} (i : ImpA t' t) (h : DA X A Wx es t) : DA X A Wx es t' := tsa h i
theorem xt {t t' : DT} (i : Imp t' t) (h : DTst X A Wx ex (dTst t)) : DTst X A Wx ex (dTst t') := tt h i
theorem xw {t t' : DT} (i : Imp t' t) (h : DWst X A Wx ex (dTst t)) : DWst X A Wx ex (dTst t') := tw h i
theorem xi {t t' : DTI} (i : ImpI t' t) (h : DItr X A Wx tg ex t) : DItr X A Wx tg ex t' := ti h i
theorem xs {t t' : DTS} (i : ImpS t' t) (h : DStm X A Wx st t) : DStm X A Wx st t' := ts h i
theorem xss {t t' : DTS} (i : ImpS t' t) (h : DStms X A Wx sts t) : DStms X A Wx sts t' := tss h i
theorem dsU2 {ι κ : Type} {t : ι → κ → DTS} (h : ∀ i j, DStms X A Wx sts (t i j)) : DStms X A Wx sts (fun D ρ S => ∃ i j, t i j D ρ S) := dsU fun i => dsU fun j => h i j
variable {α β κ α1 γ δ : Type} {sg : Sig β κ} {os : OSt} {res : α → OSt} {res1 : α1 → OSt}
theorem ts_cons {m1 : M α1 β κ} {m2 : α1 → M α β κ} (h1 : DStm X A Wx st (rdS sg os res1 m1)) (h2 : ∀ a, DStms X A Wx sts (rdS sg (res1 a) res (m2 a))) : DStms X A Wx (st :: sts) (rdS sg os res (sqK m1 m2)) :=
  xss s_seq (ds_cons h1 (dsU h2))
theorem ts_last {m1 : M α β κ} (h1 : DStm X A Wx st (rdS sg os res m1)) : DStms X A Wx [st] (rdS sg os res m1) :=
  xss (t := sSeq (rdS sg os res m1) sNext) (fun DD ρ S ⟨nx, k, F, g, z, h, kk⟩ => ⟨nx, k, F, g, z, h, ⟨kk.nx, kk.rt, kk.bk, kk.ct, kk.xx⟩⟩) (ds_cons h1 ds_nil)
theorem t_end (a : α) (l : Le (res a) os) : DStms X A Wx [] (rdS sg os res (endK a)) := xss (s_end l) ds_nil
/-- if without else, whose block ends in a return -/
theorem s_if1 {mc : W Bool} {m1 : M Unit β κ} (hx : Le sg.osx os) : ImpS (rdS sg os (fun (_ : Unit) => os) (ifK mc m1 (endK ()))) (sIf (rdE os D.bl mc) (rdS sg os (fun (_ : Unit) => os) m1) (rdS sg os (fun (_ : Unit) => os) (endK ()))) := s_if hx
end
section
variable {α β γ δ : Type} {os : OSt}
theorem a_1 {e : α → D} {m : W α} : ImpA (rdA os (a1 e) (oneW m)) (dCons (rdE os e m) dNil) := fun ρ S Q E ⟨q, x, r, hm, k, kx⟩ =>
  ⟨_, x, r, hm, fun a S1 k1 h1 => k (a, ()) S1 k1 h1, kx⟩
def twoW (m : W α) (m2 : W β) : W (α × β × Unit) := fun q x => m (fun a => m2 (fun b => q (a, b, ())) x) x
theorem a_2 {e : α → D} {e2 : β → D} {m : W α} {m2 : W β} : ImpA (rdA os (a2 e e2) (twoW m m2)) (dCons (rdE os e m) (dCons (rdE os e2 m2) dNil)) := fun ρ S Q E ⟨q, x, r, hm, k, kx⟩ =>
  ⟨_, x, r, hm, fun a S1 k1 h1 => ⟨_, x, r.kp k1, h1, fun b S2 k2 h2 => k (a, b, ()) S2 (k1.trans k2) h2, fun n ds S2 k2 hx => kx n ds S2 (k1.trans k2) hx⟩, kx⟩
/-- displays: the items one by one -/
def itW : List (W α) → W (List α)
  | [] => fun q _ => q []
  | m :: ms => fun q x => m (fun a => itW ms (fun as => q (a :: as)) x) x
def rdAn (os : OSt) (e : α → D) (ms : List (W α)) : DTA := fun ρ S Q E => ∃ q x, R os ρ S ∧ itW ms q x ∧ (∀ v S', Kp os ρ S S' → v.length = ms.length → q v → Q (v.map e) S') ∧ (∀ n ds S', Kp os ρ S S' → x n ds → E n ds S')
theorem it_nil {e : α → D} : ImpA (rdAn os e []) dNil := fun ρ S Q E ⟨q, x, r, hm, k, kx⟩ => k [] S (.refl r) rfl hm
theorem it_cons {e : α → D} {m : W α} {ms : List (W α)} {t : DTA} (h : ImpA (rdAn os e ms) t) : ImpA (rdAn os e (m :: ms)) (dCons (rdE os e m) t) := fun ρ S Q E ⟨q, x, r, hm, k, kx⟩ =>
  ⟨_, x, r, hm, fun a S1 k1 h1 => h ρ S1 _ _ ⟨fun as => q (a :: as), x, r.kp k1, h1, fun as S2 k2 hl hq => k (a :: as) S2 (k1.trans k2) (by rw [List.length_cons, List.length_cons, hl]) hq, fun n ds S2 k2 hx => kx n ds S2 (k1.trans k2) hx⟩, kx⟩
theorem small_ok {n : Nat} (h : n ≤ 1000) : n ≤ sizeLine := Nat.le_trans h (by decide)
theorem i_disp {e : α → D} {ms : List (W α)} (hl : ms.length ≤ 1000 := by exact Nat.le_of_ble_eq_true rfl) : Imp (rdE os (eL e) (itW ms)) (dLst false (rdAn os e ms)) := fun ρ S Q E ⟨q, x, r, hm, k, kx⟩ =>
  ⟨_, x, r, hm, fun a S1 k1 hz h1 => ⟨by rw [List.length_map, hz]; exact small_ok hl, k a S1 k1 h1⟩, kx⟩
theorem i_dispT {e : α → D} {ms : List (W α)} (hl : ms.length ≤ 1000 := by exact Nat.le_of_ble_eq_true rfl) : Imp (rdE os (eT e) (itW ms)) (dTup (rdAn os e ms)) := fun ρ S Q E ⟨q, x, r, hm, k, kx⟩ =>
  ⟨_, x, r, hm, fun a S1 k1 hz h1 => ⟨by rw [List.length_map, hz]; exact small_ok hl, k a S1 k1 h1⟩, kx⟩
theorem n_disp {e : α → D} {ms : List (W α)} (hl : ms.length ≤ 1000 := by exact Nat.le_of_ble_eq_true rfl) : Imp (rdN os (eLo e) (itW ms)) (dLst true (rdAn os e ms)) := fun ρ S Q E ⟨q, x, r, hm, k, kx⟩ =>
  ⟨_, x, r, hm, fun a S1 k1 hz h1 => ⟨by rw [List.length_map, hz]; exact small_ok hl, fun p hp => k a S1 p k1 hp h1⟩, kx⟩
theorem len_ok {n : Nat} (h : n ≤ 1000) : n ≤ sizeLine := Nat.le_trans h (by decide)
def p3W (m1 : W α) (m2 : W β) (m3 : W γ) : W (α × β × γ) := fun q x => m1 (fun a => m2 (fun b => m3 (fun c => q (a, b, c)) x) x) x
def p4W (m1 : W α) (m2 : W β) (m3 : W γ) (m4 : W δ) : W (α × β × γ × δ) := fun q x => m1 (fun a => m2 (fun b => m3 (fun c => m4 (fun d => q (a, b, c, d)) x) x) x) x
/-- tuples of a few items -/
theorem i_p2 {e1 : α → D} {e2 : β → D} {m1 : W α} {m2 : W β} : Imp (rdE os (eP e1 e2) (pairW m1 m2)) (dTup (dCons (rdE os e1 m1) (dCons (rdE os e2 m2) dNil))) := fun ρ S Q E ⟨q, x, r, hm, k, kx⟩ =>
  ⟨_, x, r, hm, fun a S1 k1 h1 => ⟨_, x, r.kp k1, h1, fun b S2 k2 h2 => ⟨len_ok (by show 2 ≤ 1000; decide), k (a, b) S2 (k1.trans k2) h2⟩, fun n ds S2 k2 hx => kx n ds S2 (k1.trans k2) hx⟩, kx⟩
theorem i_p3 {e1 : α → D} {e2 : β → D} {e3 : γ → D} {m1 : W α} {m2 : W β} {m3 : W γ} : Imp (rdE os (eP3 e1 e2 e3) (p3W m1 m2 m3)) (dTup (dCons (rdE os e1 m1) (dCons (rdE os e2 m2) (dCons (rdE os e3 m3) dNil)))) := fun ρ S Q E ⟨q, x, r, hm, k, kx⟩ =>
  ⟨_, x, r, hm, fun a S1 k1 h1 => ⟨_, x, r.kp k1, h1, fun b S2 k2 h2 => ⟨_, x, (r.kp k1).kp k2, h2, fun c S3 k3 h3 => ⟨len_ok (by show 3 ≤ 1000; decide), k (a, b, c) S3 ((k1.trans k2).trans k3) h3⟩, fun n ds S3 k3 hx => kx n ds S3 ((k1.trans k2).trans k3) hx⟩, fun n ds S2 k2 hx => kx n ds S2 (k1.trans k2) hx⟩, kx⟩
theorem i_p4 {e1 : α → D} {e2 : β → D} {e3 : γ → D} {e4 : δ → D} {m1 : W α} {m2 : W β} {m3 : W γ} {m4 : W δ} : Imp (rdE os (eP4 e1 e2 e3 e4) (p4W m1 m2 m3 m4)) (dTup (dCons (rdE os e1 m1) (dCons (rdE os e2 m2) (dCons (rdE os e3 m3) (dCons (rdE os e4 m4) dNil))))) := fun ρ S Q E ⟨q, x, r, hm, k, kx⟩ =>
  ⟨_, x, r, hm, fun a S1 k1 h1 => ⟨_, x, r.kp k1, h1, fun b S2 k2 h2 => ⟨_, x, (r.kp k1).kp k2, h2, fun c S3 k3 h3 => ⟨_, x, ((r.kp k1).kp k2).kp k3, h3, fun d S4 k4 h4 => ⟨len_ok (by show 4 ≤ 1000; decide), k (a, b, c, d) S4 (((k1.trans k2).trans k3).trans k4) h4⟩, fun n ds S4 k4 hx => kx n ds S4 (((k1.trans k2).trans k3).trans k4) hx⟩, fun n ds S3 k3 hx => kx n ds S3 ((k1.trans k2).trans k3) hx⟩, fun n ds S2 k2 hx => kx n ds S2 (k1.trans k2) hx⟩, kx⟩
end

/-! ### more tests, statements -/
section
variable {α β γ δ κ : Type} {sg : Sig β κ} {os : OSt}
theorem i_chainB {R1 R2 : DR2} {e1 : α → D} {e2 : β → D} {e3 : γ → D} {f : α → β → (Bool → Prop) → Prop} {g : β → γ → (Bool → Prop) → Prop} {m1 : W α} {m2 : W β} {m3 : W γ} (o1 : Op2 R1 e1 e2 D.bl f) (o2 : Op2 R2 e2 e3 D.bl g) :
    Imp (rdE os D.bl (chW m1 m2 m3 f g)) (dBl (dChain R1 R2 (rdE os e1 m1) (rdE os e2 m2) (rdE os e3 m3))) := fun ρ S Q E ⟨q, x, r, hm, k, kx⟩ =>
  i_chain o1 o2 ρ S _ _ ⟨q, x, r, hm, fun v S' kp hv => ⟨v, rfl, k v S' kp hv⟩, kx⟩
theorem xtr {X : Cx} {A : Cla} {Wx : WX} {ex : Expr} {e1 : α → D} {f : α → Bool} {m1 : W α} (tr : Tru e1 f) (h : DTst X A Wx ex (dTst (rdE os e1 m1))) : DTst X A Wx ex (dTst (rdE os D.bl (mapW m1 f))) := ttr h tr
theorem xtrO {X : Cx} {A : Cla} {Wx : WX} {ex : Expr} {e : α → D} {xs : List α} {i : Nat} (hi : At os i (.o (eLo e xs))) (h : DTst X A Wx ex (dTst (dVar i))) : DTst X A Wx ex (dTst (rdE os D.bl (pu (!xs.isEmpty)))) :=
  PT.mono h fun σ H Q ⟨ρ, S, L, Qd, Ed, sl, so, h, k⟩ => ⟨ρ, S, L, Qd, Ed, sl, so, i_truO hi h, k⟩
theorem asg_mono {t t' : DT} {g : DTG} (i : Imp t' t) : ImpS (sAsg t' g) (sAsg t g) := fun DD ρ S h => i ρ S _ _ h
theorem drop_mono {t t' : DT} (i : Imp t' t) : ImpS (sDrop t') (sDrop t) := fun DD ρ S h => i ρ S _ _ h
theorem erase_map {e : α → β} : ∀ (xs : List α) (l : Nat), (xs.map e).eraseIdx l = (xs.eraseIdx l).map e
  | [], _ => rfl
  | _ :: _, 0 => rfl
  | x :: xs, l + 1 => by rw [List.map_cons, List.eraseIdx_cons_succ, List.eraseIdx_cons_succ, List.map_cons, erase_map xs l]
theorem seqA_ref {S : Sto} {p : Addr} {ys : List D} (h : S p = some (.lst ys)) : seqA S (.ref p) = some ys := by
  show (match S p with | some (.lst xs) => some xs | _ => none) = _
  rw [h]
/-- an item of one's own list -/
theorem i_idxO {e : α → D} {xs : List α} {i : Nat} {m : W Int} (hi : At os i (.o (eLo e xs))) : Imp (rdE os e (unW m (fun j q => idxK xs j q))) (dOp rIdx (dVar i) (rdE os D.int m)) := fun ρ S Q E ⟨q, x, r, hm, k, kx⟩ => by
  obtain ⟨p, hr, hs⟩ := r.ob i _ hi
  refine ⟨_, hr, _, x, r, hm, fun j S1 k1 ⟨a, ha, hq⟩ => ?_, kx⟩
  obtain ⟨p', hr', hs'⟩ := (r.kp k1).ob i _ hi
  have : some (some (D.ref p)) = some (some (D.ref p')) := hr.symm.trans hr'
  cases this
  refine ⟨xs.map e, j, e a, ?_, rfl, atI_map ha, k a S1 k1 hq⟩
  exact seqA_ref hs'
theorem i_inO {e : α → D} {n : Nat} [E : EqE e n] [DecidableEq α] {xs : List α} {i : Nat} {m : W α} (hi : At os i (.o (eLo e xs))) (hn : n ≤ 16 := by decide) : Imp (rdE os D.bl (mapW m (fun j => decide (j ∈ xs)))) (dOp (rCmp .In) (rdE os e m) (dVar i)) := fun ρ S Q E ⟨q, x, r, hm, k, kx⟩ =>
  ⟨_, x, r, hm, fun j S1 k1 hq => by
    obtain ⟨p, hr, hs⟩ := (r.kp k1).ob i _ hi
    exact ⟨_, hr, in_of (Ed := DX0) id hn (fun _ z => by cases z) (xs := xs) (seqA_ref hs) (k _ S1 k1 hq)⟩, kx⟩
theorem i_ninO {e : α → D} {n : Nat} [E : EqE e n] [DecidableEq α] {xs : List α} {i : Nat} {m : W α} (hi : At os i (.o (eLo e xs))) (hn : n ≤ 16 := by decide) : Imp (rdE os D.bl (mapW m (fun j => !decide (j ∈ xs)))) (dOp (rCmp .NotIn) (rdE os e m) (dVar i)) := fun ρ S Q E ⟨q, x, r, hm, k, kx⟩ =>
  ⟨_, x, r, hm, fun j S1 k1 hq => by
    obtain ⟨p, hr, hs⟩ := (r.kp k1).ob i _ hi
    exact ⟨_, hr, in_of (Ed := DX0) not hn (fun _ z => by cases z) (xs := xs) (seqA_ref hs) (k _ S1 k1 hq)⟩, kx⟩
def subK {τ : Type} (m : W γ) (mi : W Int) (xs : List τ) : M (γ × Nat) β κ := fun nx k => m (fun a => mi (fun j => ∃ n, ixN xs.length j = some n ∧ nx (a, n)) k.xx) k.xx
def popK (mi : W Int) (xs : List γ) : M (γ × Nat) β κ := fun nx k => mi (fun n => (-(2 ^ 63) ≤ n ∧ n < 2 ^ 63) ∧ ∃ l a, seqIndex? n xs.length = some l ∧ xs[l]? = some a ∧ nx (a, l)) k.xx
def augK (m : W γ) (f : γ → (δ → Prop) → Prop) : M δ β κ := fun nx k => m (fun b => f b nx) k.xx
/-- an item of one's own list is stored -/
theorem s_sub {e : α → D} {xs : List α} {m : W α} {mi : W Int} {i : Nat} (hi : At os i (.o (eLo e xs))) (hx : Le sg.osx os) :
    ImpS (rdS sg os (fun (v : α × Nat) => os.set i (some (.o (eLo e (xs.set v.2 v.1))))) (subK m mi xs)) (sAsg (rdE os e m) (gSubD (dVar i) (rdE os D.int mi))) :=
  fun DD ρ S ⟨nx, k, F, g, z, h, kk⟩ => ⟨_, k.xx, g.env, h, fun a S1 k1 h1 => by
    obtain ⟨p, hr, hs⟩ := (g.kp k1).env.ob i _ hi
    refine ⟨_, hr, _, k.xx, (g.kp k1).env, h1, fun j S2 k2 ⟨n, hn, h2⟩ => ?_, fun n ds S2 k2 hx2 => kk.xx n ds ρ S2 (((g.kp k1).kp k2).le hx) hx2⟩
    have g2 := (g.kp k1).kp k2
    obtain ⟨p', hr', hs'⟩ := g2.env.ob i _ hi
    have : some (some (D.ref p)) = some (some (D.ref p')) := hr.symm.trans hr'
    cases this
    refine ⟨p, _, j, n, rfl, rfl, hs', by rw [List.length_map]; exact hn, ?_⟩
    have e2 : (MO.lst ((xs.map e).set n (e a))) = eLo e (xs.set n a) := by unfold eLo; rw [List.map_set]
    rw [e2]
    exact kk.nx (a, n) ρ _ (g2.write hi hr) h2, fun n ds S1 k1 h1 => kk.xx n ds ρ S1 ((g.kp k1).le hx) h1⟩
/-- x = own.pop(i) -/
theorem s_popAt {e : α → D} {xs : List α} {mi : W Int} {i j : Nat} (hi : At os i (.o (eLo e xs))) (hij : (j != i) = true) (hx : Le sg.osx os) (hp : (j != 0 || !sg.pz) = true) :
    ImpS (rdS sg os (fun (v : α × Nat) => (os.set i (some (.o (eLo e (xs.eraseIdx v.2))))).set j (some (.v (e v.1)))) (popK mi xs)) (sAsg (dMt mPopAt (dVar i) (dCons (rdE os D.int mi) dNil)) (gNm j)) :=
  fun DD ρ S ⟨nx, k, F, g, z, h, kk⟩ => by
    obtain ⟨p, hr, hs⟩ := g.env.ob i _ hi
    refine ⟨_, hr, ⟨p, _, rfl, hs⟩, _, k.xx, g.env, h, fun n S1 k1 ⟨⟨h0, h1⟩, l, a, h2, h3, h4⟩ => ?_, fun n ds S1 k1 h1 => kk.xx n ds ρ S1 ((g.kp k1).le hx) h1⟩
    have g1 := g.kp k1
    obtain ⟨p', hr', hs'⟩ := g1.env.ob i _ hi
    have : some (some (D.ref p)) = some (some (D.ref p')) := hr.symm.trans hr'
    cases this
    refine ⟨p, _, n, l, e a, rfl, rfl, hs', h0, h1, by rw [List.length_map]; exact h2, by rw [List.getElem?_map, h3]; rfl, ?_⟩
    have e2 : (MO.lst ((xs.map e).eraseIdx l)) = eLo e (xs.eraseIdx l) := by unfold eLo; rw [erase_map]
    rw [e2]
    exact kk.nx (a, l) _ _ ((g1.write hi hr).set (pz_of hp z)) h4
/-- x += y over ints, over texts, over values -/
theorem s_aug {e1 : α → D} {e2 : γ → D} {e : δ → D} {f : α → γ → (δ → Prop) → Prop} {R2 : DR2} {a : α} {m : W γ} {i : Nat} (o : Op2 R2 e1 e2 e f) (hi : At os i (.v (e1 a))) (hx : Le sg.osx os) (hp : (i != 0 || !sg.pz) = true) :
    ImpS (rdS sg os (fun v => os.set i (some (.v (e v)))) (augK m (f a))) (sAug i R2 (rdE os e2 m)) :=
  fun DD ρ S ⟨nx, k, F, g, z, h, kk⟩ => ⟨_, g.env.vl i _ hi, _, k.xx, g.env, h, fun b S1 k1 h1 => o a b _ S1 _ _ h1 fun v hv => kk.nx v _ S1 ((g.kp k1).set (pz_of hp z)) hv, fun n ds S1 k1 h1 => kk.xx n ds ρ S1 ((g.kp k1).le hx) h1⟩
/-- an own operator, with errors -/
def Op2X (R2 : DR2) (e1 : α → D) (e2 : β → D) (e : γ → D) (f : α → β → W γ) : Prop := ∀ a b q x S (Q : DQ) (E : DX), f a b q x → (∀ v S', (∀ p, S p ≠ none → S' p = S p) → q v → Q (e v) S') → (∀ n ds S', (∀ p, S p ≠ none → S' p = S p) → x n ds → E n ds S') → R2 (e1 a) (e2 b) S Q E
theorem kp_same {ρ : DSt} {S S' : Sto} (r : R os ρ S) (h : ∀ p, S p ≠ none → S' p = S p) : Kp os ρ S S' := fun p hp => ⟨fun b => by rw [h p hp]; exact (Kp.refl r p hp).1 b, fun _ => h p hp⟩
def opxW (m1 : W α) (m2 : W β) (f : α → β → W γ) : W γ := fun q x => m1 (fun a => m2 (fun b => f a b q x) x) x
theorem i_opX {R2 : DR2} {e1 : α → D} {e2 : β → D} {e : γ → D} {f : α → β → W γ} {m1 : W α} {m2 : W β} (o : Op2X R2 e1 e2 e f) :
    Imp (rdE os e (opxW m1 m2 f)) (dOpX R2 (rdE os e1 m1) (rdE os e2 m2)) := fun ρ S Q E ⟨q, x, r, hm, k, kx⟩ =>
  ⟨_, x, r, hm, fun a S1 k1 h1 => ⟨_, x, r.kp k1, h1, fun b S2 k2 h2 => o a b q x S2 Q _ h2 (fun v S' hs hv => k v S' ((k1.trans k2).trans (kp_same ((r.kp k1).kp k2) hs)) hv) (fun n ds S' hs hx => kx n ds S' ((k1.trans k2).trans (kp_same ((r.kp k1).kp k2) hs)) hx), fun n ds S2 k2 hx => kx n ds S2 (k1.trans k2) hx⟩, kx⟩
/-- a promise over two values is asked -/
theorem ask2 {ω : Type} {sl : ω → List Sl} {rest : ω → List D} {rr : β → Option MO} {eb : β → D} {m : ω → W β} {d1 d2 : D} (c : ω) (hc : [.v d1, .v d2] = sl c ++ (rest c).map Sl.v) (vb : (sl c).all Sl.vb = true)
    {S : Sto} {Q : DQ} {E : DX} {q : β → Prop} {x : XW} (hm : m c q x) (k : ∀ v S', (∀ p, S p ≠ none → S' p = S p) → q v → Q (eb v) S') (kx : ∀ n ds S', (∀ p, S p ≠ none → S' p = S p) → x n ds → E n ds S') : spG sl rest rr eb m [d1, d2] S Q E := by
  have r0 : R [] [] S := ⟨Nat.le_refl _, fun _ _ a => (by cases a), fun _ _ a => (by cases a), fun _ a => (by cases a), fun _ _ _ _ _ _ a => (by cases a)⟩
  have hn : ∀ S', Kp [] [] S S' → ∀ p, S p ≠ none → S' p = S p := fun S' kp p hp => (kp p hp).2 fun ⟨i, a, _⟩ => by cases a
  exact spG_ask (os := []) (ρ := []) (δ := Unit) (cl := fun _ => [.v d1, .v d2]) (fun _ => c) (fun _ => hc) (fun _ => vb) (d := ()) r0 ⟨_, rfl, ⟨_, rfl, rfl⟩⟩ hm (fun v S' kp hv => k v S' (hn S' kp) hv) fun n xs S' kp hx => kx n xs S' (hn S' kp) hx
theorem ask1 {ω : Type} {sl : ω → List Sl} {rest : ω → List D} {rr : β → Option MO} {eb : β → D} {m : ω → W β} {d1 : D} (c : ω) (hc : [.v d1] = sl c ++ (rest c).map Sl.v) (vb : (sl c).all Sl.vb = true)
    {S : Sto} {Q : DQ} {E : DX} {q : β → Prop} {x : XW} (hm : m c q x) (k : ∀ v S', (∀ p, S p ≠ none → S' p = S p) → q v → Q (eb v) S') (kx : ∀ n ds S', (∀ p, S p ≠ none → S' p = S p) → x n ds → E n ds S') : spG sl rest rr eb m [d1] S Q E := by
  have r0 : R [] [] S := ⟨Nat.le_refl _, fun _ _ a => (by cases a), fun _ _ a => (by cases a), fun _ a => (by cases a), fun _ _ _ _ _ _ a => (by cases a)⟩
  have hn : ∀ S', Kp [] [] S S' → ∀ p, S p ≠ none → S' p = S p := fun S' kp p hp => (kp p hp).2 fun ⟨i, a, _⟩ => by cases a
  exact spG_ask (os := []) (ρ := []) (δ := Unit) (cl := fun _ => [.v d1]) (fun _ => c) (fun _ => hc) (fun _ => vb) (d := ()) r0 ⟨_, rfl, rfl⟩ hm (fun v S' kp hv => k v S' (hn S' kp) hv) fun n xs S' kp hx => kx n xs S' (hn S' kp) hx
end
/-! ### a, b = x, y -/
section
variable {α β γ δ κ : Type} {sg : Sig β κ} {os : OSt}
/-- a slot's new content: a value, an own object -/
inductive Nw where
  | v (d : D) | o (m : MO)
def Nw.sl : Nw → Sl
  | .v d => .v d
  | .o m => .o m
/-- an expression whose value goes to a slot -/
def rdV (os : OSt) (e : α → Nw) (m : W α) : DT := fun ρ S Q E => ∃ q x, R os ρ S ∧ m q x ∧
  (∀ v S', Kp os ρ S S' → q v → match e v with
    | .v d => Q d S'
    | .o m => ∀ p, S' p = none → Q (.ref p) (S'.set p m)) ∧ (∀ n ds S', Kp os ρ S S' → x n ds → E n ds S')
theorem v_v {e : α → D} {m : W α} : Imp (rdV os (fun a => .v (e a)) m) (rdE os e m) := fun ρ S Q E ⟨q, x, r, hm, k, kx⟩ => ⟨q, x, r, hm, fun v S' kp hq => k v S' kp hq, kx⟩
theorem v_o {e : α → MO} {m : W α} : Imp (rdV os (fun a => .o (e a)) m) (rdN os e m) := fun ρ S Q E ⟨q, x, r, hm, k, kx⟩ => ⟨q, x, r, hm, fun v S' p kp hp hq => k v S' kp hq p hp, kx⟩
theorem G.adopt {F : Fr} {ρ : DSt} {S : Sto} {i : Nat} {p : Addr} {m : MO} (g : G F os ρ S) (h : i = 0 → F.pin = none) (hs : S p = some m) (hF : F.S0 p = none) (hf : ∀ l s, At os l s → s.own = true → ¬ Rf ρ l p) : G F (os.set i (some (.o m))) (ρ.set i (some (.ref p))) S := by
  refine ⟨⟨?_, fun j x a => ?_, fun j m' a => ?_, fun j a => ?_, fun j k m' s q hjk a b' hs' c d => ?_⟩, g.fr, fun j m' q a b' => ?_, fun j q a b' => ?_, fun q hq => ?_⟩
  · rw [List.length_set, List.length_set]; exact g.env.len
  · rcases at_set a with ⟨_, e, _⟩ | ⟨n, a⟩
    · cases e
    · rw [List.getElem?_set_ne (Ne.symm n)]; exact g.env.vl j x a
  · rcases at_set a with ⟨rfl, e, hl⟩ | ⟨n, a⟩
    · cases e
      exact ⟨p, List.getElem?_set_self (Nat.lt_of_lt_of_le hl g.env.len), hs⟩
    · obtain ⟨q, b', c⟩ := g.env.ob j m' a
      exact ⟨q, by unfold Rf; rw [List.getElem?_set_ne (Ne.symm n)]; exact b', c⟩
  · rcases at_set a with ⟨_, e, _⟩ | ⟨n, a⟩
    · cases e
    · obtain ⟨q, b', c⟩ := g.env.bg j a
      exact ⟨q, by unfold Rf; rw [List.getElem?_set_ne (Ne.symm n)]; exact b', c⟩
  · show False
    unfold Rf at c d
    rcases at_set a with ⟨rfl, e, hl⟩ | ⟨n, a⟩
    · rw [List.getElem?_set_self (Nat.lt_of_lt_of_le hl g.env.len)] at c
      cases c
      rcases at_set b' with ⟨e2, _, _⟩ | ⟨n2, b'⟩
      · exact hjk e2.symm
      · rw [List.getElem?_set_ne (Ne.symm n2)] at d
        exact hf k s b' hs' d
    · rw [List.getElem?_set_ne (Ne.symm n)] at c
      rcases at_set b' with ⟨e2, _, hl⟩ | ⟨n2, b'⟩
      · rw [e2, List.getElem?_set_self (Nat.lt_of_lt_of_le hl g.env.len)] at d
        cases d
        exact hf j (.o m') a rfl c
      · rw [List.getElem?_set_ne (Ne.symm n2)] at d
        exact g.env.ne j k m' s q hjk a b' hs' c d
  · unfold Rf at b'
    rcases at_set a with ⟨rfl, e, hl⟩ | ⟨n, a⟩
    · rw [List.getElem?_set_self (Nat.lt_of_lt_of_le hl g.env.len)] at b'
      cases b'
      exact hF
    · rw [List.getElem?_set_ne (Ne.symm n)] at b'
      exact g.own j m' q a b'
  · unfold Rf at b'
    rcases at_set a with ⟨_, e, _⟩ | ⟨n, a⟩
    · cases e
    · rw [List.getElem?_set_ne (Ne.symm n)] at b'
      exact g.bgs j q a b'
  · have n : i ≠ 0 := fun e => by rw [h e] at hq; cases hq
    unfold Rf
    rw [List.getElem?_set_ne n]
    exact g.pin q hq
/-- what is had for a slot -/
def Got (F : Fr) (os : OSt) (ρ : DSt) (S : Sto) : Nw → D → Prop
  | .v x, d => d = x
  | .o m, d => ∃ p, d = .ref p ∧ S p = some m ∧ F.S0 p = none ∧ ∀ l s, At os l s → s.own = true → ¬ Rf ρ l p
theorem Got.kp {F : Fr} {ρ : DSt} {S S' : Sto} {w : Nw} {d : D} (h : Got F os ρ S w d) (k : Kp os ρ S S') : Got F os ρ S' w d := by
  cases w with
  | v x => exact h
  | o m =>
    obtain ⟨p, a, b, c, e⟩ := h
    refine ⟨p, a, ?_, c, e⟩
    rw [(k p (by rw [b]; exact fun z => by cases z)).2 fun ⟨l, x, y⟩ => e l .b x rfl y]
    exact b
theorem Got.put {F : Fr} {ρ : DSt} {S : Sto} {w : Nw} {d : D} {i : Nat} (h : Got F os ρ S w d) (g : G F os ρ S) (hi : i = 0 → F.pin = none) : G F (os.set i (some w.sl)) (ρ.set i (some d)) S := by
  cases w with
  | v x =>
    have h : d = x := h
    rw [h]
    exact g.set hi
  | o m =>
    obtain ⟨p, a, b, c, e⟩ := h
    rw [a]
    exact g.adopt hi b c e
theorem G.live {F : Fr} {ρ : DSt} {S : Sto} (g : G F os ρ S) {l : Nat} {s : Sl} {q : Addr} (a : At os l s) (hs : s.own = true) (c : Rf ρ l q) : S q ≠ none := by
  cases s with
  | v d => cases hs
  | o mm =>
    obtain ⟨q', b, z⟩ := g.env.ob l mm a
    have : some (some (D.ref q')) = some (some (D.ref q)) := b.symm.trans c
    cases this
    rw [z]; exact fun z => by cases z
  | b =>
    obtain ⟨q', b, z⟩ := g.env.bg l a
    have : some (some (D.ref q')) = some (some (D.ref q)) := b.symm.trans c
    cases this
    exact z.some
theorem G.fresh {F : Fr} {ρ : DSt} {S : Sto} {p : Addr} (g : G F os ρ S) (hp : S p = none) : F.S0 p = none := by
  cases e : F.S0 p with
  | none => rfl
  | some o =>
    have hn : F.S0 p ≠ none := by rw [e]; exact fun z => by cases z
    obtain ⟨h1, h2⟩ := g.fr p hn
    by_cases hb : F.B0 p
    · exact absurd hp (h1 hb).some
    · rw [h2 hb] at hp; exact absurd hp hn
/-- an object apart from the slots comes into being -/
theorem G.aside {F : Fr} {ρ : DSt} {S : Sto} {p : Addr} {m : MO} (g : G F os ρ S) (hp : S p = none) : G F os ρ (S.set p m) := by
  have off : ∀ q, S q ≠ none → (S.set p m) q = S q := fun q hq => Sto.set_ne fun e => hq (by rw [e]; exact hp)
  refine ⟨⟨g.env.len, g.env.vl, fun j m' a => ?_, fun j a => ?_, g.env.ne⟩, fun q hq => ?_, g.own, g.bgs, g.pin⟩
  · obtain ⟨q, b, c⟩ := g.env.ob j m' a
    exact ⟨q, b, by rw [off q (by rw [c]; exact fun z => by cases z)]; exact c⟩
  · obtain ⟨q, b, c⟩ := g.env.bg j a
    exact ⟨q, b, by rw [off q c.some]; exact c⟩
  · obtain ⟨h1, h2⟩ := g.fr q hq
    refine ⟨fun z => by rw [off q (h1 z).some]; exact h1 z, fun z => ?_⟩
    have e := h2 z
    rw [off q (by rw [e]; exact hq)]
    exact e
/-- the value of an expression for a slot, with what it leaves -/
theorem v_got {F : Fr} {ρ : DSt} {S : Sto} {e : α → Nw} {m : W α} {Q : DQ} {E : DX} {q : α → Prop} {x : XW} (g : G F os ρ S) (hm : m q x) (k : ∀ v d S', G F os ρ S' → (∀ w d', Got F os ρ S w d' → Got F os ρ S' w d' ∧ (∀ m m' p, w = .o m → e v = .o m' → d' = .ref p → d ≠ .ref p)) → Got F os ρ S' (e v) d → q v → Q d S')
    (kx : ∀ n ds S', G F os ρ S' → x n ds → E n ds S') : rdV os e m ρ S Q E := by
  refine ⟨q, x, g.env, hm, fun v S' kp hq => ?_, fun n ds S' kp hx => kx n ds S' (g.kp kp) hx⟩
  have g' := g.kp kp
  have kk := k v
  split
  · rename_i d ed
    rw [ed] at kk
    exact kk d S' g' (fun w d' h => ⟨h.kp kp, fun _ _ _ _ z => by cases z⟩) rfl hq
  · rename_i m1 ed
    rw [ed] at kk
    intro p hp
    refine kk (.ref p) _ (g'.aside hp) (fun w d' h => ⟨?_, fun m m' p' ew _ ed' z => ?_⟩) ⟨p, rfl, Sto.set_same, g'.fresh hp, fun l s a hs c => g'.live a hs c hp⟩ hq
    · cases w with
      | v y => exact h
      | o mm =>
        obtain ⟨p', a, b, c, f⟩ := Got.kp h kp
        have : p' ≠ p := fun e => by rw [e, hp] at b; cases b
        exact ⟨p', a, by rw [Sto.set_ne this]; exact b, c, f⟩
    · cases z
      subst ew
      obtain ⟨p', a, b, _, _⟩ := Got.kp h kp
      rw [ed'] at a
      cases a
      rw [hp] at b
      cases b
theorem Got.more {F : Fr} {ρ : DSt} {S : Sto} {w w1 : Nw} {d d1 : D} {i : Nat} (h : Got F os ρ S w d) (h1 : Got F os ρ S w1 d1) (n : ∀ m m' p, w1 = .o m → w = .o m' → d1 = .ref p → d ≠ .ref p) : Got F (os.set i (some w1.sl)) (ρ.set i (some d1)) S w d := by
  cases w with
  | v x => exact h
  | o m =>
    obtain ⟨p, a, b, c, f⟩ := h
    refine ⟨p, a, b, c, fun l s x hs y => ?_⟩
    unfold Rf at y
    rcases at_set x with ⟨rfl, e, hl⟩ | ⟨ne, x⟩
    · cases e
      cases w1 with
      | v z => cases hs
      | o m1 =>
        obtain ⟨p1, a1, _, _, _⟩ := h1
        by_cases hlen : l < ρ.length
        · rw [List.getElem?_set_self hlen] at y
          cases y
          cases a1
          exact n _ _ _ rfl rfl rfl a
        · rw [List.getElem?_eq_none (by rw [List.length_set]; omega)] at y
          cases y
    · rw [List.getElem?_set_ne (Ne.symm ne)] at y
      exact f l s x hs y
theorem pz_and {i j : Nat} {F : Fr} (hp : ((i != 0 && j != 0) || !sg.pz) = true) (z : sg.pz = false → F.pin = none) : (i = 0 → F.pin = none) ∧ (j = 0 → F.pin = none) := by
  refine ⟨fun e => z ?_, fun e => z ?_⟩
  · subst e
    cases e : sg.pz with
    | false => rfl
    | true => rw [e] at hp; cases hp
  · subst e
    cases e : sg.pz with
    | false => rfl
    | true => rw [e] at hp; simp at hp
def par2K (m1 : W α) (m2 : W γ) : M (α × γ) β κ := fun nx k => m1 (fun a => m2 (fun b => nx (a, b)) k.xx) k.xx
def par3K (m1 : W α) (m2 : W γ) (m3 : W δ) : M (α × γ × δ) β κ := fun nx k => m1 (fun a => m2 (fun b => m3 (fun c => nx (a, b, c)) k.xx) k.xx) k.xx
theorem s_par2 {e1 : α → Nw} {e2 : γ → Nw} {m1 : W α} {m2 : W γ} {i j : Nat} (hx : Le sg.osx os) (hp : ((i != 0 && j != 0) || !sg.pz) = true) :
    ImpS (rdS sg os (fun (v : α × γ) => (os.set i (some (e1 v.1).sl)).set j (some (e2 v.2).sl)) (par2K m1 m2)) (sPar [i, j] (dCons (rdV os e1 m1) (dCons (rdV os e2 m2) dNil))) :=
  fun DD ρ S ⟨nx, k, F, g, z, h, kk⟩ => by
    obtain ⟨hi, hj⟩ := pz_and hp z
    refine v_got g h (fun a d S1 g1 _ got1 h1 => ?_) fun n ds S1 g1 h1 => kk.xx n ds ρ S1 (g1.le hx) h1
    refine v_got g1 h1 (fun b d2 S2 g2 keep got2 h2 => ?_) fun n ds S2 g2 h2 => kk.xx n ds ρ S2 (g2.le hx) h2
    obtain ⟨got1', ne⟩ := keep _ _ got1
    refine ⟨_, rfl, kk.nx (a, b) _ S2 ?_ h2⟩
    exact (Got.more got2 got1' ne).put (got1'.put g2 hi) hj
theorem s_par3 {e1 : α → Nw} {e2 : γ → Nw} {e3 : δ → Nw} {m1 : W α} {m2 : W γ} {m3 : W δ} {i j l : Nat} (hx : Le sg.osx os) (hp : ((i != 0 && j != 0) || !sg.pz) = true) (hp3 : (l != 0 || !sg.pz) = true) :
    ImpS (rdS sg os (fun (v : α × γ × δ) => ((os.set i (some (e1 v.1).sl)).set j (some (e2 v.2.1).sl)).set l (some (e3 v.2.2).sl)) (par3K m1 m2 m3)) (sPar [i, j, l] (dCons (rdV os e1 m1) (dCons (rdV os e2 m2) (dCons (rdV os e3 m3) dNil)))) :=
  fun DD ρ S ⟨nx, k, F, g, z, h, kk⟩ => by
    obtain ⟨hi, hj⟩ := pz_and hp z
    have hl := pz_of hp3 z
    refine v_got g h (fun a d S1 g1 _ got1 h1 => ?_) fun n ds S1 g1 h1 => kk.xx n ds ρ S1 (g1.le hx) h1
    refine v_got g1 h1 (fun b d2 S2 g2 keep got2 h2 => ?_) fun n ds S2 g2 h2 => kk.xx n ds ρ S2 (g2.le hx) h2
    obtain ⟨got1', ne⟩ := keep _ _ got1
    refine v_got g2 h2 (fun c d3 S3 g3 keep3 got3 h3 => ?_) fun n ds S3 g3 h3 => kk.xx n ds ρ S3 (g3.le hx) h3
    obtain ⟨got1'', ne1⟩ := keep3 _ _ got1'
    obtain ⟨got2'', ne2⟩ := keep3 _ _ got2
    refine ⟨_, rfl, kk.nx (a, b, c) _ S3 ?_ h3⟩
    have p1 := got1''.put g3 hi
    have g12 := Got.more (i := i) got2'' got1'' ne
    have p2 := g12.put p1 hj
    exact (Got.more (Got.more got3 got1'' ne1) g12 ne2).put p2 hl
end
end DL

namespace DL
open PySem PySem.Spec PyProof.Rows L2

section
variable {α β γ δ κ ω : Type} {sg : Sig β κ} {os : OSt}
theorem i_make0 {C : Nat} {sl : α → List Sl} {rest : α → List D} {fs : β → List D} {eb : β → D} {m : α → W β} (c : Unit → α) (s1 : Unit → List Sl) (hs : ∀ d, sl (c d) = .o (.ins C []) :: s1 d) (hc : ∀ d, [] = s1 d ++ (rest (c d)).map Sl.v) (vb : ∀ d, (s1 d).all Sl.vb = true) (hn : ∀ b, eb b = .non) :
    Imp (rdE os (fun b => .ins C (fs b)) (m (c ()))) (dMake C false (spG sl rest (fun b => some (.ins C (fs b))) eb m) dNil) := fun ρ S Q E ⟨q, x, r, hm, k, kx⟩ =>
  fun p hp => mk_ask (cl := fun _ => []) c s1 hs hc vb hn (d := ()) (ds := []) r hp rfl hm (fun v S' kp hv => k v S' kp hv) (fun n xs S' kp hx => kx n xs S' kp hx)
theorem i_meth0 {C : Nat} {eo : ω → D} {mo : W ω} {sl : α → List Sl} {rest : α → List D} {rr : β → Option MO} {eb : β → D} {m : α → W β} (c : ω → α) (hi : ∀ o, ∃ xs, eo o = .ins C xs) (hc : ∀ o, [.v (eo o)] = sl (c o) ++ (rest (c o)).map Sl.v) (vb : ∀ o, (sl (c o)).all Sl.vb = true) :
    Imp (rdE os eb (callW mo m c)) (dMeth C (spG sl rest rr eb m) (rdE os eo mo) dNil) := fun ρ S Q E ⟨q, x, r, hm, k, kx⟩ =>
  ⟨_, x, r, hm, fun o S1 k1 h1 => ⟨by obtain ⟨xs, e⟩ := hi o; rw [e]; exact ⟨xs, rfl⟩,
    ask1 (c o) (hc o) (vb o) h1 (fun v S' hs hv => k v S' (k1.trans (kp_same (r.kp k1) hs)) hv) (fun n xs S' hs hx => kx n xs S' (k1.trans (kp_same (r.kp k1) hs)) hx)⟩, kx⟩
def olenW (mo : W ω) (m : α → W Int) (c : ω → α) : W Int := fun q x => mo (fun o => m (c o) (fun n => (0 ≤ n ∧ n < 2 ^ 63) ∧ q n) x) x
theorem i_len {C : Nat} {e1 : ω → D} {mo : W ω} {sl : α → List Sl} {rest : α → List D} {rr : Int → Option MO} {m : α → W Int} (c : ω → α) (hi : ∀ o, ∃ xs, e1 o = .ins C xs) (hc : ∀ o, [.v (e1 o)] = sl (c o) ++ (rest (c o)).map Sl.v) (vb : ∀ o, (sl (c o)).all Sl.vb = true) :
    Imp (rdE os D.int (olenW mo m c)) (dOwn1 C (spG sl rest rr D.int m) bkLen (dCons (rdE os e1 mo) dNil)) := fun ρ S Q E ⟨q, x, r, hm, k, kx⟩ =>
  ⟨_, x, r, hm, fun o S1 k1 h1 => ⟨_, rfl, (by obtain ⟨xs, e⟩ := hi o; rw [e]; exact ⟨xs, rfl⟩),
    ask1 (c o) (hc o) (vb o) h1 (fun v S' hs ⟨h2, hv⟩ => ⟨v, rfl, h2.1, h2.2, k v S' (k1.trans (kp_same (r.kp k1) hs)) hv⟩) (fun n xs S' hs hx => kx n xs S' (k1.trans (kp_same (r.kp k1) hs)) hx)⟩, kx⟩
theorem o_cmp {C : Nat} {ok : Ty → Bool} {e1 : α → D} {e2 : γ → D} {sl : ω → List Sl} {rest : ω → List D} {rr : Bool → Option MO} {m : ω → W Bool} (c : α → γ → ω) (hi : ∀ o, ∃ xs, e1 o = .ins C xs) (hok : ∀ b S, ∃ T, tyN S (e2 b) = some T ∧ ok T = true) (hc : ∀ a b, [.v (e1 a), .v (e2 b)] = sl (c a b) ++ (rest (c a b)).map Sl.v) (vb : ∀ a b, (sl (c a b)).all Sl.vb = true) :
    Op2X (ownCmp C (spG sl rest rr D.bl m) ok) e1 e2 D.bl (fun a b => m (c a b)) := fun a b q x S Q E h k kx => ⟨(by obtain ⟨xs, e⟩ := hi a; rw [e]; exact ⟨xs, rfl⟩), hok b S, ask2 (c a b) (hc a b) (vb a b) h k kx⟩
theorem o_ne {C : Nat} {ok : Ty → Bool} {e1 : α → D} {e2 : γ → D} {sl : ω → List Sl} {rest : ω → List D} {rr : Bool → Option MO} {m : ω → W Bool} (c : α → γ → ω) (hi : ∀ o, ∃ xs, e1 o = .ins C xs) (hok : ∀ b S, ∃ T, tyN S (e2 b) = some T ∧ ok T = true) (hc : ∀ a b, [.v (e1 a), .v (e2 b)] = sl (c a b) ++ (rest (c a b)).map Sl.v) (vb : ∀ a b, (sl (c a b)).all Sl.vb = true) :
    Op2X (ownNe C (spG sl rest rr D.bl m) ok) e1 e2 D.bl (fun a b q x => m (c a b) (fun r => q (!r)) x) := fun a b q x S Q E h k kx => ⟨(by obtain ⟨xs, e⟩ := hi a; rw [e]; exact ⟨xs, rfl⟩), hok b S, ask2 (c a b) (hc a b) (vb a b) h (fun v S' hs hv => ⟨v, rfl, k (!v) S' hs hv⟩) kx⟩
theorem o_bin {C : Nat} {e1 : α → D} {e2 : γ → D} {sl : ω → List Sl} {rest : ω → List D} {rr : β → Option MO} {eb : β → D} {m : ω → W β} (c : α → γ → ω) (hi : ∀ o, ∃ xs, e1 o = .ins C xs) (hi2 : ∀ o, ∃ xs, e2 o = .ins C xs) (hc : ∀ a b, [.v (e1 a), .v (e2 b)] = sl (c a b) ++ (rest (c a b)).map Sl.v) (vb : ∀ a b, (sl (c a b)).all Sl.vb = true) :
    Op2X (ownBin C (spG sl rest rr eb m)) e1 e2 eb (fun a b => m (c a b)) := fun a b q x S Q E h k kx => ⟨(by obtain ⟨xs, e⟩ := hi a; rw [e]; exact ⟨xs, rfl⟩), (by obtain ⟨xs, e⟩ := hi2 b; rw [e]; exact ⟨xs, rfl⟩), ask2 (c a b) (hc a b) (vb a b) h k kx⟩
theorem o_in {C : Nat} (f : Bool → Bool) {e1 : α → D} {e2 : γ → D} {sl : ω → List Sl} {rest : ω → List D} {rr : Bool → Option MO} {m : ω → W Bool} (c : α → γ → ω) (hi : ∀ o, ∃ xs, e2 o = .ins C xs) (hc : ∀ a b, [.v (e2 b), .v (e1 a)] = sl (c a b) ++ (rest (c a b)).map Sl.v) (vb : ∀ a b, (sl (c a b)).all Sl.vb = true) :
    Op2X (ownR C (spG sl rest rr D.bl m) (bkTru f)) e1 e2 D.bl (fun a b q x => m (c a b) (fun r => q (f r)) x) := fun a b q x S Q E h k kx => ⟨(by obtain ⟨xs, e⟩ := hi b; rw [e]; exact ⟨xs, rfl⟩), ask2 (c a b) (hc a b) (vb a b) h (fun v S' hs hv => ⟨v, rfl, k (f v) S' hs hv⟩) kx⟩
theorem o_get {C : Nat} {e1 : α → D} {e2 : γ → D} {sl : ω → List Sl} {rest : ω → List D} {rr : β → Option MO} {eb : β → D} {m : ω → W β} (c : α → γ → ω) (hi : ∀ o, ∃ xs, e1 o = .ins C xs) (hc : ∀ a b, [.v (e1 a), .v (e2 b)] = sl (c a b) ++ (rest (c a b)).map Sl.v) (vb : ∀ a b, (sl (c a b)).all Sl.vb = true) :
    Op2X (ownL C (spG sl rest rr eb m) bkAny) e1 e2 eb (fun a b => m (c a b)) := fun a b q x S Q E h k kx => ⟨(by obtain ⟨xs, e⟩ := hi a; rw [e]; exact ⟨xs, rfl⟩), ask2 (c a b) (hc a b) (vb a b) h k kx⟩
/-- the size of any data; its text -/
def lenK (d : D) (q : Nat → Prop) : Prop := ∃ n, lenD (fun _ => none) d = some n ∧ q n
theorem len_any {d : D} {n : Nat} (h : lenD (fun _ => none) d = some n) (S : Sto) : lenD S d = some n := by cases d <;> first | exact h | cases h
theorem f_lenD : OpA rLen (a1 eD) D.int (fun a q => lenK a.1 (fun n => q (n : Int))) := fun a q S Q E ⟨n, h, hq⟩ k => ⟨_, n, rfl, len_any h S, k _ hq⟩
def ShwA (d : D) : Prop := (∃ i : Int, d = .int i ∧ i.natAbs.log2 < 1920 ∧ (PyData.shown (.int i)).length ≤ sizeLine) ∨ (∃ xs, (d = .lst xs ∨ d = .tup xs) ∧ Shw d) ∨ (isSc d = true ∧ d.p.shown.length ≤ sizeLine)
theorem f_reprA {e1 : α → D} : OpA rReprD (a1 e1) D.rp (fun a q => ShwA (e1 a.1) ∧ q (e1 a.1).p) := fun a q S Q E ⟨h, hq⟩ k => by
  have k := k _ hq
  unfold a1
  rcases h with ⟨i, e, h1, h2⟩ | ⟨xs, e, h1, h2, h3⟩ | ⟨h1, h2⟩
  · rw [e] at k ⊢
    have e2 : (D.int i).p = .int i := by unfold D.p; rfl
    rw [e2] at k
    exact ⟨_, rfl, .inl ⟨i, rfl, h1, h2, k⟩⟩
  · rcases e with e | e
    · rw [e] at h1 h2 h3 k ⊢
      exact ⟨_, rfl, .inr (.inl ⟨xs, rfl, h1, h2, h3, k⟩)⟩
    · rw [e] at h1 h2 h3 k ⊢
      exact ⟨_, rfl, .inr (.inl ⟨xs, rfl, h1, h2, h3, k⟩)⟩
  · exact ⟨_, rfl, .inr (.inr ⟨h1, h2, k⟩)⟩
/-- what is behind None-or, behind any data -/
def getK (o : Option α) (q : α → Prop) : Prop := ∃ c, o = some c ∧ q c
def asK (e : α → D) (d : D) (q : α → Prop) : Prop := ∃ c, d = e c ∧ q c
theorem i_getO {e : α → D} {m : W (Option α)} : Imp (rdE os e (unW m (fun a q => getK a q))) (rdE os (eO e) m) := fun ρ S Q E ⟨q, x, r, hm, k, kx⟩ =>
  ⟨_, x, r, hm, fun v S' kp ⟨c, ec, hq⟩ => by rw [ec]; exact k c S' kp hq, kx⟩
theorem i_getD {e : α → D} {m : W D} : Imp (rdE os e (unW m (fun a q => asK e a q))) (rdE os eD m) := fun ρ S Q E ⟨q, x, r, hm, k, kx⟩ =>
  ⟨_, x, r, hm, fun v S' kp ⟨c, ec, hq⟩ => by rw [ec]; exact k c S' kp hq, kx⟩
def seqX : D → Option (List D)
  | .tup xs => some xs
  | .lst xs => some xs
  | _ => none
theorem seqX_I {d : D} {xs : List D} (h : seqX d = some xs) (S : Sto) : seqI S d = some (xs, noG) := by
  cases d <;> cases h <;> rfl
theorem i_seqD {m : W D} : ImpI (rdI os eD (unW m (fun a q => getK (seqX a) q))) (iSeqD (rdE os eD m)) := fun ρ S Q E ⟨q, x, r, hm, k, kx⟩ => ⟨_, x, r, hm, fun a S1 k1 ⟨xs, e, h1⟩ => ⟨_, _, seqX_I e S1, by
  have := k _ S1 k1 h1
  unfold eD at this
  rw [List.map_id'] at this
  exact this⟩, kx⟩
/-- the law at its end -/
theorem asks_T {m : List Int × Unit → W Bool} {sp : DSp} (h : ∀ zs : List Int, zs.length ≤ 63 → m (zs, ()) (fun r => r = true) X0) : Asks 63 (spT (fun (a : List Int × Unit) => [.v (eC a.1)]) D.bl m) := fun zs Qd hl hq =>
  ask1 (c := ((zs, ()) : List Int × Unit)) rfl rfl (h zs hl) (fun v S' _ hv => by rw [hv]; exact hq S') fun _ _ _ _ z => z.elim
end
end DL

namespace DL
open PySem PySem.Spec PyProof.Rows L2

/-! ### words, names, lines -/
def lowB (k : Nat) : Bool := decide (97 ≤ k) && decide (k ≤ 122)
theorem let_list : (Str.ofString "abcdefghijklmnopqrstuvwxyz").cps.toList = List.range' 97 26 := by decide +kernel
theorem in_let (k : Nat) : inStr ⟨#[k]⟩ (Str.ofString "abcdefghijklmnopqrstuvwxyz") = lowB k := by
  show decide (k ∈ (Str.ofString "abcdefghijklmnopqrstuvwxyz").cps.toList) = lowB k
  rw [let_list]
  unfold lowB
  rw [← Bool.decide_and]
  exact decide_eq_decide.mpr (by rw [List.mem_range'_1]; omega)
def isWordS (z : Str) : Bool := decide (1 ≤ z.length) && decide (z.length ≤ 8) && z.cps.toList.all lowB
def isNameS (z : Str) : Bool := if cutS z (some (-1)) none = (Str.ofString "!") then isWordS (cutS z none (some (-1))) else isWordS z
def wordD : D → Bool
  | .str z => isWordS z
  | _ => false
def nameD : D → Bool
  | .str z => isNameS z
  | _ => false
def lineD : D → Bool
  | .tup [a, .str z] => wordD a && (decide (z = Str.ofString "") || isNameS z)
  | _ => false
def R_is_word (T : Isi) : DTS := sSeq (sIf (dOr (dNot (dCB (rIsiD T) (dCons (dVar 0) (dCons (dCst (.ty .str)) (dNil))))) (dNot (dBl (dChain (rCmp .LtE) (rCmp .LtE) (dCst (.int 1)) (dCB rLen (dCons (dVar 0) (dNil))) (dCst (.int 8)))))) (sSeq (sRet (dCst (.bl false))) (sNext)) (sNext)) (sSeq (sRet (dCB rAllD (dCons (dLc false (iSeqD (dVar 0)) (.nm 1) dYes (dOp (rCmp .In) (dVar 1) (dCst (.str ("abcdefghijklmnopqrstuvwxyz" : Str)))) [1]) (dNil)))) (sNext))
def R_is_name (T : Isi) (sp_is_word : DSp) : DTS := sSeq (sRet (dAnd (dCB (rIsiD T) (dCons (dVar 0) (dCons (dCst (.ty .str)) (dNil)))) (dIf (dOp (rCmp .Eq) (dSlc false (dVar 0) (some (dUn rNeg (dCst (.int 1)))) none) (dCst (.str ("!" : Str)))) (dCall sp_is_word (dCons (dSlc false (dVar 0) none (some (dUn rNeg (dCst (.int 1))))) (dNil))) (dCall sp_is_word (dCons (dVar 0) (dNil)))))) (sNext)
def R_is_line (T : Isi) (sp_is_word : DSp) (sp_is_name : DSp) : DTS := sSeq (sIf (dOr (dNot (dCB (rIsiD T) (dCons (dVar 0) (dCons (dCst (.ty .tup)) (dNil))))) (dOp (rCmp .NotEq) (dCB rLen (dCons (dVar 0) (dNil))) (dCst (.int 2)))) (sSeq (sRet (dCst (.bl false))) (sNext)) (sNext)) (sSeq (sAsg (dVar 0) (gOf (.tup [.nm 1, .nm 2]))) (sSeq (sRet (dAnd (dCall sp_is_word (dCons (dVar 1) (dNil))) (dAnd (dCB (rIsiD T) (dCons (dVar 2) (dCons (dCst (.ty .str)) (dNil)))) (dOr (dOp (rCmp .Eq) (dVar 2) (dCst (.str ("" : Str)))) (dCall sp_is_name (dCons (dVar 2) (dNil))))))) (sNext)))
def R_law_words (sp__law_draw : DSp) : DTS := sSeq (sAsg (dTup (dCons (dCB (rListS true) (dCons (dCst (.str ("abcdefghijklmnopqrstuvwxyz" : Str))) (dNil))) (dCons (dLst true (dNil)) (dNil)))) (gOf (.tup [.nm 5, .nm 6]))) (sSeq (sAsg (dM1 mJoin (dCst (.str ("" : Str))) (dLc false (iRng1D (dCons (dCall sp__law_draw (dCons (dVar 0) (dCons (dCst (.int 8)) (dNil)))) (dNil))) (.nm 8) dYes (dOp rIdx (dVar 5) (dCall sp__law_draw (dCons (dVar 0) (dCons (dCst (.int 26)) (dNil))))) [8])) (gNm 2)) (sSeq (sAsg (dCall sp__law_draw (dCons (dVar 0) (dCons (dOp (rBin false .Add) (dCB rLen (dCons (dVar 2) (dNil))) (dCst (.int 1))) (dNil)))) (gNm 3)) (sSeq (sFor (iRng1D (dCons (dVar 1) (dNil))) (gOf (.nm 4)) (sSeq (sAsg (dOp (rBin false .Add) (dOp (rBin false .Add) (dSlc false (dVar 2) none (some (dVar 3))) (dMt mPopAt (dVar 5) (dCons (dCall sp__law_draw (dCons (dVar 0) (dCons (dCB rLen (dCons (dVar 5) (dNil))) (dNil)))) (dNil)))) (dSlc false (dVar 2) (some (dVar 3)) none)) (gNm 7)) (sSeq (sDrop (dMt mAppend (dVar 6) (dCons (dSlc false (dVar 7) none (some (dOp (rBin false .Add) (dOp (rBin false .Add) (dVar 3) (dCst (.int 1))) (dCall sp__law_draw (dCons (dVar 0) (dCons (dOp (rBin false .Add) (dOp (rBin false .Sub) (dCB rLen (dCons (dVar 2) (dNil))) (dVar 3)) (dCst (.int 1))) (dNil))))))) (dNil)))) (sNext)))) (sSeq (sRet (dFrz (dVar 6))) (sNext)))))
/-! ### what isinstance tells of built-in types -/
def isiR (a b : Ty) : Bool := decide (a = b) || decide ((a, b) = (.bl, .int))
def bTys : List Ty := [.non, .bl, .int, .str, .tup, .lst, .dct]
def isiB : Isi := bTys.flatMap fun a => bTys.map fun b => ((a, b), isiR a b)
/-- its type is known to isinstance -/
def Isok (T : Isi) (x : D) : Prop := (∀ p, x ≠ .rp p) ∧ ∃ a, tyN (fun _ => none) x = some a ∧ ∀ b ∈ bTys, T.lookup (a, b) = some (isiR a b)
theorem isok_b {own : Isi} {x : D} {a : Ty} (h : tyN (fun _ => none) x = some a) (ha : a ∈ bTys) (hr : ∀ p, x ≠ .rp p := by intro _ e; cases e) : Isok (isiB ++ own) x := ⟨hr, a, h, fun b hb => by
  simp only [bTys, List.mem_cons, List.not_mem_nil, or_false] at ha hb
  rcases ha with e | e | e | e | e | e | e <;> subst e <;> rcases hb with e | e | e | e | e | e | e <;> subst e <;> rfl⟩
theorem Isok.at_ {T : Isi} {x : D} {a b : Ty} (h : Isok T x) (ha : tyN (fun _ => none) x = some a) (hb : b ∈ bTys) : T.lookup (a, b) = some (isiR a b) := by
  obtain ⟨_, a', h1, h2⟩ := h
  rw [ha] at h1
  cases h1
  exact h2 b hb
theorem Isok.isi {T : Isi} {x : D} {b : Ty} {S : Sto} {Q : DQ} {E : DX} (h : Isok T x) (hb : b ∈ bTys) (q : ∀ a, tyN (fun _ => none) x = some a → Q (.bl (isiR a b)) S) : rIsiD T [x, .ty b] S Q E := by
  obtain ⟨_, a, h1, h2⟩ := h
  exact ⟨x, b, b, a, _, rfl, rfl, ty_any h1 S, h2 b hb, q a h1⟩
theorem Isok.isiX {T : Isi} {x : D} {b : Ty} {S : Sto} {f : Bool → Prop} (h : Isok T x) (hb : b ∈ bTys) (q : ∀ a, tyN (fun _ => none) x = some a → f (isiR a b)) : ∃ a, tyN S x = some a ∧ ∃ r, T.lookup (a, b) = some r ∧ f r := by
  obtain ⟨_, a, h1, h2⟩ := h
  exact ⟨a, ty_any h1 S, _, h2 b hb, q a h1⟩
def Isok2 (T : Isi) (x : D) : Prop := Isok T x ∧ ∀ a b, x = .tup [a, b] → Isok T a ∧ Isok T b
def sp_is_word (T : Isi) : DSp := fun ds S Q _ => ∃ x, ds = [x] ∧ Isok T x ∧ Q (.bl (wordD x)) S
def sp_is_name (T : Isi) : DSp := fun ds S Q _ => ∃ x, ds = [x] ∧ Isok T x ∧ Q (.bl (nameD x)) S
def sp_is_line (T : Isi) : DSp := fun ds S Q _ => ∃ x, ds = [x] ∧ Isok2 T x ∧ Q (.bl (lineD x)) S
theorem m_str : Ty.str ∈ bTys := by decide
theorem m_tup : Ty.tup ∈ bTys := by decide
theorem rr_ss : isiR .str .str = true := by decide
theorem rr_tt : isiR .tup .tup = true := by decide
theorem rr_no {a b : Ty} (h : isiR a b = false) : isiR a b = false := h
theorem str_ext {a b : Str} (h : a.cps.toList = b.cps.toList) : a = b := by
  obtain ⟨⟨x⟩⟩ := a
  obtain ⟨⟨y⟩⟩ := b
  cases h
  rfl
theorem len_list (z : Str) : z.cps.toList.length = z.length := by simp; rfl
theorem bang_list : (Str.ofString "!").cps.toList = [33] := by decide +kernel
theorem cut_list (z : Str) (lo hi : Option Int) : (cutS z lo hi).cps.toList = (z.cps.toList.drop (HT.sIx z.length 0 lo)).take (HT.sIx z.length z.length hi - HT.sIx z.length 0 lo) := by
  unfold cutS
  simp
theorem ends_cut (z : Str) : Txt.endswith z (Str.ofString "!") = decide (cutS z (some (-1)) none = (Str.ofString "!")) := by
  have e : (Txt.endswith z (Str.ofString "!") = true) ↔ cutS z (some (-1)) none = (Str.ofString "!") := by
    have l1 : (Str.ofString "!").length = 1 := by decide +kernel
    have s1 : HT.sIx z.length 0 (some (-1)) = z.length - 1 := by
      show (if (-1 : Int) < 0 then ((-1 : Int) + (z.length : Int)).toNat else min (-1 : Int).toNat z.length) = z.length - 1
      rw [if_pos (by decide)]
      omega
    have c : (cutS z (some (-1)) none).cps.toList = (z.cps.toList.drop (z.length - 1)).take (z.length - (z.length - 1)) := by
      rw [cut_list, s1]
      rfl
    unfold Txt.endswith
    rw [PySem.StrLaws.subAt_eq, l1, bang_list, Bool.and_eq_true, decide_eq_true_eq, beq_iff_eq]
    constructor
    · rintro ⟨h1, h2⟩
      refine str_ext ?_
      rw [c, bang_list, ← h2, show z.length - (z.length - 1) = 1 by omega]
    · intro h
      have h2 := congrArg (fun y : Str => y.cps.toList) h
      have h2 : (cutS z (some (-1)) none).cps.toList = (Str.ofString "!").cps.toList := h2
      rw [c, bang_list] at h2
      have hl := congrArg List.length h2
      rw [List.length_take, List.length_drop, len_list] at hl
      have : 1 ≤ z.length := by
        simp at hl
        omega
      rw [show z.length - (z.length - 1) = 1 by omega] at h2
      exact ⟨by omega, h2⟩
  by_cases h : cutS z (some (-1)) none = (Str.ofString "!")
  · rw [decide_eq_true h]
    exact e.mpr h
  · rw [decide_eq_false h]
    exact Bool.eq_false_iff.mpr fun k => h (e.mp k)
theorem name_eq (z : Str) : isNameS z = (isWordS z || (Txt.endswith z (Str.ofString "!") && isWordS (cutS z none (some ((z.length : Int) - 1))))) := by
  rw [ends_cut]
  unfold isNameS
  by_cases h : cutS z (some (-1)) none = (Str.ofString "!")
  · rw [if_pos h, decide_eq_true h, Bool.true_and]
    have h2 := congrArg (fun y : Str => y.cps.toList) h
    have h2 : (cutS z (some (-1)) none).cps.toList = (Str.ofString "!").cps.toList := h2
    rw [cut_list, bang_list] at h2
    have m : (33 : Nat) ∈ z.cps.toList := List.mem_of_mem_drop (List.mem_of_mem_take (by rw [h2]; exact List.mem_cons_self ..))
    have nw : isWordS z = false := by
      unfold isWordS
      have : z.cps.toList.all lowB = false := by
        rw [List.all_eq_false]
        exact ⟨33, m, by decide⟩
      rw [this, Bool.and_false]
    have hp : 0 < z.length := by
      rw [← len_list]
      exact List.length_pos_of_mem m
    rw [nw, Bool.false_or]
    congr 1
    refine str_ext ?_
    rw [cut_list, cut_list]
    congr 2
    show (if (-1 : Int) < 0 then ((-1 : Int) + (z.length : Int)).toNat else min (-1 : Int).toNat z.length) = (if (z.length : Int) - 1 < 0 then ((z.length : Int) - 1 + (z.length : Int)).toNat else min ((z.length : Int) - 1).toNat z.length)
    rw [if_pos (by decide), if_neg (by omega)]
    omega
  · rw [if_neg h, decide_eq_false h, Bool.false_and, Bool.or_false]
theorem word_ok {T : Isi} : ∀ ds S Q E, sp_is_word T ds S Q E → bodySp 2 1 (R_is_word T) ds S Q E := by
  rintro ds S Q E ⟨x, ed, hx, q⟩
  subst ed
  unfold R_is_word
  cases x with
  | str z =>
    have lk := hx.at_ (b := .str) rfl m_str
    rw [rr_ss] at lk
    simp only [x_spr, startD, List.map_cons, List.map_nil, List.length_cons, List.length_nil, Nat.reduceAdd, Nat.reduceSub, Int.reduceLT, Int.reduceLE, Int.reduceToNat,  Int.reducePow, Int.reduceNeg, Nat.reduceLT, Nat.reduceLeDiff, Nat.reducePow, List.replicate_succ, List.replicate_zero, List.cons_append, List.nil_append, sSeq, sIf, sRet, sRetN, sNext, sAsg, sDrop, gNm, gOf, Tg.d, Tg.ds, dVar, dCst, dNil, dCons, dOp, dUn, dChain, dBl, dAnd, dOr, dNot, dIf, dTst, dCall, dCB, dLst, dTup, dM1, gSubD, mkL, dYes, dPart, dSlc, iEnumD, iSeqD, iRng1D, iRng2D, sFor, dLc, wipeD, si_str, si_tup, si_lst, si_cst, x_slcs, x_slct, x_slcl, x_slcc, dFld, sFldD, x_frz, dMake, dMt, x_isref, x_app, x_pop,
  x_lt, x_le, x_gt, x_ge, x_eqi, x_nei, x_eqs, x_nes, x_ner, x_eqr, x_in, x_nin, x_is, x_isnt, x_add, x_adds, x_addt, x_addl, x_sub, x_mul, x_div, x_mod, x_pow, x_neg, x_int, x_abs, x_max, x_min, x_len, len_str, len_tup, len_lst, len_cst, x_idxs, x_idxt, x_idxl, x_idxc, x_idxr, x_isi, ty_str, ty_int, ty_bl, ty_non, ty_tup, ty_lst, ty_cst, ty_ins, tr_bl, tr_int, tr_str, tr_tup, tr_lst, tr_non, x_all, x_ends, x_starts, at_0, at_1, at_2, ix_0, ix_1,
  List.getElem?_cons_zero, List.getElem?_cons_succ, List.getElem?_nil, List.set_cons_zero, List.set_cons_succ, List.set_nil, Option.some.injEq, exists_eq_left', exists_eq_left, exists_and_left, Bool.false_eq_true, if_false, if_true, D.int.injEq, D.bl.injEq, D.ref.injEq, D.str.injEq, D.lst.injEq, D.tup.injEq, MO.lst.injEq, MO.ins.injEq, List.cons.injEq, Prod.mk.injEq, and_true, true_and, and_assoc, decide_eq_true_eq, Sto.set_same, Sto.set_set, reduceCtorEq, false_and, exists_false, false_or, or_false, ne_eq, not_false_eq_true, exists_eq', Bool.not_true, Bool.not_false, Bool.not_eq_true', decide_eq_false_iff_not, lk]
    by_cases h1 : (1 : Int) ≤ z.length
    · rw [if_pos h1]
      by_cases h2 : (z.length : Int) ≤ 8
      · simp only [x_spr, startD, List.map_cons, List.map_nil, List.length_cons, List.length_nil, Nat.reduceAdd, Nat.reduceSub, Int.reduceLT, Int.reduceLE, Int.reduceToNat,  Int.reducePow, Int.reduceNeg, Nat.reduceLT, Nat.reduceLeDiff, Nat.reducePow, List.replicate_succ, List.replicate_zero, List.cons_append, List.nil_append, sSeq, sIf, sRet, sRetN, sNext, sAsg, sDrop, gNm, gOf, Tg.d, Tg.ds, dVar, dCst, dNil, dCons, dOp, dUn, dChain, dBl, dAnd, dOr, dNot, dIf, dTst, dCall, dCB, dLst, dTup, dM1, gSubD, mkL, dYes, dPart, dSlc, iEnumD, iSeqD, iRng1D, iRng2D, sFor, dLc, wipeD, si_str, si_tup, si_lst, si_cst, x_slcs, x_slct, x_slcl, x_slcc, dFld, sFldD, x_frz, dMake, dMt, x_isref, x_app, x_pop,
  x_lt, x_le, x_gt, x_ge, x_eqi, x_nei, x_eqs, x_nes, x_ner, x_eqr, x_in, x_nin, x_is, x_isnt, x_add, x_adds, x_addt, x_addl, x_sub, x_mul, x_div, x_mod, x_pow, x_neg, x_int, x_abs, x_max, x_min, x_len, len_str, len_tup, len_lst, len_cst, x_idxs, x_idxt, x_idxl, x_idxc, x_idxr, x_isi, ty_str, ty_int, ty_bl, ty_non, ty_tup, ty_lst, ty_cst, ty_ins, tr_bl, tr_int, tr_str, tr_tup, tr_lst, tr_non, x_all, x_ends, x_starts, at_0, at_1, at_2, ix_0, ix_1,
  List.getElem?_cons_zero, List.getElem?_cons_succ, List.getElem?_nil, List.set_cons_zero, List.set_cons_succ, List.set_nil, Option.some.injEq, exists_eq_left', exists_eq_left, exists_and_left, Bool.false_eq_true, if_false, if_true, D.int.injEq, D.bl.injEq, D.ref.injEq, D.str.injEq, D.lst.injEq, D.tup.injEq, MO.lst.injEq, MO.ins.injEq, List.cons.injEq, Prod.mk.injEq, and_true, true_and, and_assoc, decide_eq_true_eq, Sto.set_same, Sto.set_set, reduceCtorEq, false_and, exists_false, false_or, or_false, ne_eq, not_false_eq_true, exists_eq', Bool.not_true, Bool.not_false, Bool.not_eq_true', decide_eq_false_iff_not, h2]
        refine ⟨Nat.le_trans ?_ (lt_line (n := 8) (by decide)), ?_⟩
        · rw [List.length_map]
          have : z.cps.toList.length = z.length := by simp; rfl
          omega
        refine lcGo_map (fun d => match d with | .str y => .bl (inStr y (Str.ofString "abcdefghijklmnopqrstuvwxyz")) | _ => .non) trivial _ (fun d hd Kn hk => ?_) ?_
        · obtain ⟨k, _, ek⟩ := List.mem_map.mp hd
          subst ek
          unfold chD at hk ⊢
          simp only [x_spr, startD, List.map_cons, List.map_nil, List.length_cons, List.length_nil, Nat.reduceAdd, Nat.reduceSub, Int.reduceLT, Int.reduceLE, Int.reduceToNat,  Int.reducePow, Int.reduceNeg, Nat.reduceLT, Nat.reduceLeDiff, Nat.reducePow, List.replicate_succ, List.replicate_zero, List.cons_append, List.nil_append, sSeq, sIf, sRet, sRetN, sNext, sAsg, sDrop, gNm, gOf, Tg.d, Tg.ds, dVar, dCst, dNil, dCons, dOp, dUn, dChain, dBl, dAnd, dOr, dNot, dIf, dTst, dCall, dCB, dLst, dTup, dM1, gSubD, mkL, dYes, dPart, dSlc, iEnumD, iSeqD, iRng1D, iRng2D, sFor, dLc, wipeD, si_str, si_tup, si_lst, si_cst, x_slcs, x_slct, x_slcl, x_slcc, dFld, sFldD, x_frz, dMake, dMt, x_isref, x_app, x_pop,
  x_lt, x_le, x_gt, x_ge, x_eqi, x_nei, x_eqs, x_nes, x_ner, x_eqr, x_in, x_nin, x_is, x_isnt, x_add, x_adds, x_addt, x_addl, x_sub, x_mul, x_div, x_mod, x_pow, x_neg, x_int, x_abs, x_max, x_min, x_len, len_str, len_tup, len_lst, len_cst, x_idxs, x_idxt, x_idxl, x_idxc, x_idxr, x_isi, ty_str, ty_int, ty_bl, ty_non, ty_tup, ty_lst, ty_cst, ty_ins, tr_bl, tr_int, tr_str, tr_tup, tr_lst, tr_non, x_all, x_ends, x_starts, at_0, at_1, at_2, ix_0, ix_1,
  List.getElem?_cons_zero, List.getElem?_cons_succ, List.getElem?_nil, List.set_cons_zero, List.set_cons_succ, List.set_nil, Option.some.injEq, exists_eq_left', exists_eq_left, exists_and_left, Bool.false_eq_true, if_false, if_true, D.int.injEq, D.bl.injEq, D.ref.injEq, D.str.injEq, D.lst.injEq, D.tup.injEq, MO.lst.injEq, MO.ins.injEq, List.cons.injEq, Prod.mk.injEq, and_true, true_and, and_assoc, decide_eq_true_eq, Sto.set_same, Sto.set_set, reduceCtorEq, false_and, exists_false, false_or, or_false, ne_eq, not_false_eq_true, exists_eq', Bool.not_true, Bool.not_false, Bool.not_eq_true', decide_eq_false_iff_not, wipeD]
          exact hk
        · have e : (z.cps.toList.map chD).map (fun d => match d with | .str y => D.bl (inStr y (Str.ofString "abcdefghijklmnopqrstuvwxyz")) | _ => .non) = (z.cps.toList.map lowB).map D.bl := by
            rw [List.map_map, List.map_map]
            refine List.map_congr_left fun k _ => ?_
            show D.bl (inStr ⟨#[k]⟩ _) = D.bl (lowB k)
            rw [in_let]
          show rAllD [D.lst _] S Q DX0
          rw [e, x_all]
          have e2 : wordD (.str z) = (z.cps.toList.map lowB).all id := by
            show (decide (1 ≤ z.length) && decide (z.length ≤ 8) && z.cps.toList.all lowB) = _
            rw [decide_eq_true (by omega : 1 ≤ z.length), decide_eq_true (by omega : z.length ≤ 8), List.all_map]
            rfl
          rw [← e2]
          exact q
      · have e2 : wordD (.str z) = false := by
          show (decide (1 ≤ z.length) && decide (z.length ≤ 8) && z.cps.toList.all lowB) = _
          rw [decide_eq_false (by omega : ¬ z.length ≤ 8), Bool.and_false, Bool.false_and]
        rw [e2] at q
        simp only [x_spr, startD, List.map_cons, List.map_nil, List.length_cons, List.length_nil, Nat.reduceAdd, Nat.reduceSub, Int.reduceLT, Int.reduceLE, Int.reduceToNat,  Int.reducePow, Int.reduceNeg, Nat.reduceLT, Nat.reduceLeDiff, Nat.reducePow, List.replicate_succ, List.replicate_zero, List.cons_append, List.nil_append, sSeq, sIf, sRet, sRetN, sNext, sAsg, sDrop, gNm, gOf, Tg.d, Tg.ds, dVar, dCst, dNil, dCons, dOp, dUn, dChain, dBl, dAnd, dOr, dNot, dIf, dTst, dCall, dCB, dLst, dTup, dM1, gSubD, mkL, dYes, dPart, dSlc, iEnumD, iSeqD, iRng1D, iRng2D, sFor, dLc, wipeD, si_str, si_tup, si_lst, si_cst, x_slcs, x_slct, x_slcl, x_slcc, dFld, sFldD, x_frz, dMake, dMt, x_isref, x_app, x_pop,
  x_lt, x_le, x_gt, x_ge, x_eqi, x_nei, x_eqs, x_nes, x_ner, x_eqr, x_in, x_nin, x_is, x_isnt, x_add, x_adds, x_addt, x_addl, x_sub, x_mul, x_div, x_mod, x_pow, x_neg, x_int, x_abs, x_max, x_min, x_len, len_str, len_tup, len_lst, len_cst, x_idxs, x_idxt, x_idxl, x_idxc, x_idxr, x_isi, ty_str, ty_int, ty_bl, ty_non, ty_tup, ty_lst, ty_cst, ty_ins, tr_bl, tr_int, tr_str, tr_tup, tr_lst, tr_non, x_all, x_ends, x_starts, at_0, at_1, at_2, ix_0, ix_1,
  List.getElem?_cons_zero, List.getElem?_cons_succ, List.getElem?_nil, List.set_cons_zero, List.set_cons_succ, List.set_nil, Option.some.injEq, exists_eq_left', exists_eq_left, exists_and_left, Bool.false_eq_true, if_false, if_true, D.int.injEq, D.bl.injEq, D.ref.injEq, D.str.injEq, D.lst.injEq, D.tup.injEq, MO.lst.injEq, MO.ins.injEq, List.cons.injEq, Prod.mk.injEq, and_true, true_and, and_assoc, decide_eq_true_eq, Sto.set_same, Sto.set_set, reduceCtorEq, false_and, exists_false, false_or, or_false, ne_eq, not_false_eq_true, exists_eq', Bool.not_true, Bool.not_false, Bool.not_eq_true', decide_eq_false_iff_not, h2]
        exact q
    · have e2 : wordD (.str z) = false := by
        show (decide (1 ≤ z.length) && decide (z.length ≤ 8) && z.cps.toList.all lowB) = _
        rw [decide_eq_false (by omega : ¬ 1 ≤ z.length), Bool.false_and, Bool.false_and]
      rw [e2] at q
      simp only [x_spr, startD, List.map_cons, List.map_nil, List.length_cons, List.length_nil, Nat.reduceAdd, Nat.reduceSub, Int.reduceLT, Int.reduceLE, Int.reduceToNat,  Int.reducePow, Int.reduceNeg, Nat.reduceLT, Nat.reduceLeDiff, Nat.reducePow, List.replicate_succ, List.replicate_zero, List.cons_append, List.nil_append, sSeq, sIf, sRet, sRetN, sNext, sAsg, sDrop, gNm, gOf, Tg.d, Tg.ds, dVar, dCst, dNil, dCons, dOp, dUn, dChain, dBl, dAnd, dOr, dNot, dIf, dTst, dCall, dCB, dLst, dTup, dM1, gSubD, mkL, dYes, dPart, dSlc, iEnumD, iSeqD, iRng1D, iRng2D, sFor, dLc, wipeD, si_str, si_tup, si_lst, si_cst, x_slcs, x_slct, x_slcl, x_slcc, dFld, sFldD, x_frz, dMake, dMt, x_isref, x_app, x_pop,
  x_lt, x_le, x_gt, x_ge, x_eqi, x_nei, x_eqs, x_nes, x_ner, x_eqr, x_in, x_nin, x_is, x_isnt, x_add, x_adds, x_addt, x_addl, x_sub, x_mul, x_div, x_mod, x_pow, x_neg, x_int, x_abs, x_max, x_min, x_len, len_str, len_tup, len_lst, len_cst, x_idxs, x_idxt, x_idxl, x_idxc, x_idxr, x_isi, ty_str, ty_int, ty_bl, ty_non, ty_tup, ty_lst, ty_cst, ty_ins, tr_bl, tr_int, tr_str, tr_tup, tr_lst, tr_non, x_all, x_ends, x_starts, at_0, at_1, at_2, ix_0, ix_1,
  List.getElem?_cons_zero, List.getElem?_cons_succ, List.getElem?_nil, List.set_cons_zero, List.set_cons_succ, List.set_nil, Option.some.injEq, exists_eq_left', exists_eq_left, exists_and_left, Bool.false_eq_true, if_false, if_true, D.int.injEq, D.bl.injEq, D.ref.injEq, D.str.injEq, D.lst.injEq, D.tup.injEq, MO.lst.injEq, MO.ins.injEq, List.cons.injEq, Prod.mk.injEq, and_true, true_and, and_assoc, decide_eq_true_eq, Sto.set_same, Sto.set_set, reduceCtorEq, false_and, exists_false, false_or, or_false, ne_eq, not_false_eq_true, exists_eq', Bool.not_true, Bool.not_false, Bool.not_eq_true', decide_eq_false_iff_not, h1]
      exact q
  | non => (have lk := hx.at_ (b := .str) rfl m_str); simp only [x_spr, startD, List.map_cons, List.map_nil, List.length_cons, List.length_nil, Nat.reduceAdd, Nat.reduceSub, Int.reduceLT, Int.reduceLE, Int.reduceToNat,  Int.reducePow, Int.reduceNeg, Nat.reduceLT, Nat.reduceLeDiff, Nat.reducePow, List.replicate_succ, List.replicate_zero, List.cons_append, List.nil_append, sSeq, sIf, sRet, sRetN, sNext, sAsg, sDrop, gNm, gOf, Tg.d, Tg.ds, dVar, dCst, dNil, dCons, dOp, dUn, dChain, dBl, dAnd, dOr, dNot, dIf, dTst, dCall, dCB, dLst, dTup, dM1, gSubD, mkL, dYes, dPart, dSlc, iEnumD, iSeqD, iRng1D, iRng2D, sFor, dLc, wipeD, si_str, si_tup, si_lst, si_cst, x_slcs, x_slct, x_slcl, x_slcc, dFld, sFldD, x_frz, dMake, dMt, x_isref, x_app, x_pop,
  x_lt, x_le, x_gt, x_ge, x_eqi, x_nei, x_eqs, x_nes, x_ner, x_eqr, x_in, x_nin, x_is, x_isnt, x_add, x_adds, x_addt, x_addl, x_sub, x_mul, x_div, x_mod, x_pow, x_neg, x_int, x_abs, x_max, x_min, x_len, len_str, len_tup, len_lst, len_cst, x_idxs, x_idxt, x_idxl, x_idxc, x_idxr, x_isi, ty_str, ty_int, ty_bl, ty_non, ty_tup, ty_lst, ty_cst, ty_ins, tr_bl, tr_int, tr_str, tr_tup, tr_lst, tr_non, x_all, x_ends, x_starts, at_0, at_1, at_2, ix_0, ix_1,
  List.getElem?_cons_zero, List.getElem?_cons_succ, List.getElem?_nil, List.set_cons_zero, List.set_cons_succ, List.set_nil, Option.some.injEq, exists_eq_left', exists_eq_left, exists_and_left, Bool.false_eq_true, if_false, if_true, D.int.injEq, D.bl.injEq, D.ref.injEq, D.str.injEq, D.lst.injEq, D.tup.injEq, MO.lst.injEq, MO.ins.injEq, List.cons.injEq, Prod.mk.injEq, and_true, true_and, and_assoc, decide_eq_true_eq, Sto.set_same, Sto.set_set, reduceCtorEq, false_and, exists_false, false_or, or_false, ne_eq, not_false_eq_true, exists_eq', Bool.not_true, Bool.not_false, Bool.not_eq_true', decide_eq_false_iff_not, lk, show isiR .non .str = false from by decide]; exact q
  | bl b => (have lk := hx.at_ (b := .str) rfl m_str); simp only [x_spr, startD, List.map_cons, List.map_nil, List.length_cons, List.length_nil, Nat.reduceAdd, Nat.reduceSub, Int.reduceLT, Int.reduceLE, Int.reduceToNat,  Int.reducePow, Int.reduceNeg, Nat.reduceLT, Nat.reduceLeDiff, Nat.reducePow, List.replicate_succ, List.replicate_zero, List.cons_append, List.nil_append, sSeq, sIf, sRet, sRetN, sNext, sAsg, sDrop, gNm, gOf, Tg.d, Tg.ds, dVar, dCst, dNil, dCons, dOp, dUn, dChain, dBl, dAnd, dOr, dNot, dIf, dTst, dCall, dCB, dLst, dTup, dM1, gSubD, mkL, dYes, dPart, dSlc, iEnumD, iSeqD, iRng1D, iRng2D, sFor, dLc, wipeD, si_str, si_tup, si_lst, si_cst, x_slcs, x_slct, x_slcl, x_slcc, dFld, sFldD, x_frz, dMake, dMt, x_isref, x_app, x_pop,
  x_lt, x_le, x_gt, x_ge, x_eqi, x_nei, x_eqs, x_nes, x_ner, x_eqr, x_in, x_nin, x_is, x_isnt, x_add, x_adds, x_addt, x_addl, x_sub, x_mul, x_div, x_mod, x_pow, x_neg, x_int, x_abs, x_max, x_min, x_len, len_str, len_tup, len_lst, len_cst, x_idxs, x_idxt, x_idxl, x_idxc, x_idxr, x_isi, ty_str, ty_int, ty_bl, ty_non, ty_tup, ty_lst, ty_cst, ty_ins, tr_bl, tr_int, tr_str, tr_tup, tr_lst, tr_non, x_all, x_ends, x_starts, at_0, at_1, at_2, ix_0, ix_1,
  List.getElem?_cons_zero, List.getElem?_cons_succ, List.getElem?_nil, List.set_cons_zero, List.set_cons_succ, List.set_nil, Option.some.injEq, exists_eq_left', exists_eq_left, exists_and_left, Bool.false_eq_true, if_false, if_true, D.int.injEq, D.bl.injEq, D.ref.injEq, D.str.injEq, D.lst.injEq, D.tup.injEq, MO.lst.injEq, MO.ins.injEq, List.cons.injEq, Prod.mk.injEq, and_true, true_and, and_assoc, decide_eq_true_eq, Sto.set_same, Sto.set_set, reduceCtorEq, false_and, exists_false, false_or, or_false, ne_eq, not_false_eq_true, exists_eq', Bool.not_true, Bool.not_false, Bool.not_eq_true', decide_eq_false_iff_not, lk, show isiR .bl .str = false from by decide]; exact q
  | int b => (have lk := hx.at_ (b := .str) rfl m_str); simp only [x_spr, startD, List.map_cons, List.map_nil, List.length_cons, List.length_nil, Nat.reduceAdd, Nat.reduceSub, Int.reduceLT, Int.reduceLE, Int.reduceToNat,  Int.reducePow, Int.reduceNeg, Nat.reduceLT, Nat.reduceLeDiff, Nat.reducePow, List.replicate_succ, List.replicate_zero, List.cons_append, List.nil_append, sSeq, sIf, sRet, sRetN, sNext, sAsg, sDrop, gNm, gOf, Tg.d, Tg.ds, dVar, dCst, dNil, dCons, dOp, dUn, dChain, dBl, dAnd, dOr, dNot, dIf, dTst, dCall, dCB, dLst, dTup, dM1, gSubD, mkL, dYes, dPart, dSlc, iEnumD, iSeqD, iRng1D, iRng2D, sFor, dLc, wipeD, si_str, si_tup, si_lst, si_cst, x_slcs, x_slct, x_slcl, x_slcc, dFld, sFldD, x_frz, dMake, dMt, x_isref, x_app, x_pop,
  x_lt, x_le, x_gt, x_ge, x_eqi, x_nei, x_eqs, x_nes, x_ner, x_eqr, x_in, x_nin, x_is, x_isnt, x_add, x_adds, x_addt, x_addl, x_sub, x_mul, x_div, x_mod, x_pow, x_neg, x_int, x_abs, x_max, x_min, x_len, len_str, len_tup, len_lst, len_cst, x_idxs, x_idxt, x_idxl, x_idxc, x_idxr, x_isi, ty_str, ty_int, ty_bl, ty_non, ty_tup, ty_lst, ty_cst, ty_ins, tr_bl, tr_int, tr_str, tr_tup, tr_lst, tr_non, x_all, x_ends, x_starts, at_0, at_1, at_2, ix_0, ix_1,
  List.getElem?_cons_zero, List.getElem?_cons_succ, List.getElem?_nil, List.set_cons_zero, List.set_cons_succ, List.set_nil, Option.some.injEq, exists_eq_left', exists_eq_left, exists_and_left, Bool.false_eq_true, if_false, if_true, D.int.injEq, D.bl.injEq, D.ref.injEq, D.str.injEq, D.lst.injEq, D.tup.injEq, MO.lst.injEq, MO.ins.injEq, List.cons.injEq, Prod.mk.injEq, and_true, true_and, and_assoc, decide_eq_true_eq, Sto.set_same, Sto.set_set, reduceCtorEq, false_and, exists_false, false_or, or_false, ne_eq, not_false_eq_true, exists_eq', Bool.not_true, Bool.not_false, Bool.not_eq_true', decide_eq_false_iff_not, lk, show isiR .int .str = false from by decide]; exact q
  | tup b => (have lk := hx.at_ (b := .str) rfl m_str); simp only [x_spr, startD, List.map_cons, List.map_nil, List.length_cons, List.length_nil, Nat.reduceAdd, Nat.reduceSub, Int.reduceLT, Int.reduceLE, Int.reduceToNat,  Int.reducePow, Int.reduceNeg, Nat.reduceLT, Nat.reduceLeDiff, Nat.reducePow, List.replicate_succ, List.replicate_zero, List.cons_append, List.nil_append, sSeq, sIf, sRet, sRetN, sNext, sAsg, sDrop, gNm, gOf, Tg.d, Tg.ds, dVar, dCst, dNil, dCons, dOp, dUn, dChain, dBl, dAnd, dOr, dNot, dIf, dTst, dCall, dCB, dLst, dTup, dM1, gSubD, mkL, dYes, dPart, dSlc, iEnumD, iSeqD, iRng1D, iRng2D, sFor, dLc, wipeD, si_str, si_tup, si_lst, si_cst, x_slcs, x_slct, x_slcl, x_slcc, dFld, sFldD, x_frz, dMake, dMt, x_isref, x_app, x_pop,
  x_lt, x_le, x_gt, x_ge, x_eqi, x_nei, x_eqs, x_nes, x_ner, x_eqr, x_in, x_nin, x_is, x_isnt, x_add, x_adds, x_addt, x_addl, x_sub, x_mul, x_div, x_mod, x_pow, x_neg, x_int, x_abs, x_max, x_min, x_len, len_str, len_tup, len_lst, len_cst, x_idxs, x_idxt, x_idxl, x_idxc, x_idxr, x_isi, ty_str, ty_int, ty_bl, ty_non, ty_tup, ty_lst, ty_cst, ty_ins, tr_bl, tr_int, tr_str, tr_tup, tr_lst, tr_non, x_all, x_ends, x_starts, at_0, at_1, at_2, ix_0, ix_1,
  List.getElem?_cons_zero, List.getElem?_cons_succ, List.getElem?_nil, List.set_cons_zero, List.set_cons_succ, List.set_nil, Option.some.injEq, exists_eq_left', exists_eq_left, exists_and_left, Bool.false_eq_true, if_false, if_true, D.int.injEq, D.bl.injEq, D.ref.injEq, D.str.injEq, D.lst.injEq, D.tup.injEq, MO.lst.injEq, MO.ins.injEq, List.cons.injEq, Prod.mk.injEq, and_true, true_and, and_assoc, decide_eq_true_eq, Sto.set_same, Sto.set_set, reduceCtorEq, false_and, exists_false, false_or, or_false, ne_eq, not_false_eq_true, exists_eq', Bool.not_true, Bool.not_false, Bool.not_eq_true', decide_eq_false_iff_not, lk, show isiR .tup .str = false from by decide]; exact q
  | lst b => (have lk := hx.at_ (b := .str) rfl m_str); simp only [x_spr, startD, List.map_cons, List.map_nil, List.length_cons, List.length_nil, Nat.reduceAdd, Nat.reduceSub, Int.reduceLT, Int.reduceLE, Int.reduceToNat,  Int.reducePow, Int.reduceNeg, Nat.reduceLT, Nat.reduceLeDiff, Nat.reducePow, List.replicate_succ, List.replicate_zero, List.cons_append, List.nil_append, sSeq, sIf, sRet, sRetN, sNext, sAsg, sDrop, gNm, gOf, Tg.d, Tg.ds, dVar, dCst, dNil, dCons, dOp, dUn, dChain, dBl, dAnd, dOr, dNot, dIf, dTst, dCall, dCB, dLst, dTup, dM1, gSubD, mkL, dYes, dPart, dSlc, iEnumD, iSeqD, iRng1D, iRng2D, sFor, dLc, wipeD, si_str, si_tup, si_lst, si_cst, x_slcs, x_slct, x_slcl, x_slcc, dFld, sFldD, x_frz, dMake, dMt, x_isref, x_app, x_pop,
  x_lt, x_le, x_gt, x_ge, x_eqi, x_nei, x_eqs, x_nes, x_ner, x_eqr, x_in, x_nin, x_is, x_isnt, x_add, x_adds, x_addt, x_addl, x_sub, x_mul, x_div, x_mod, x_pow, x_neg, x_int, x_abs, x_max, x_min, x_len, len_str, len_tup, len_lst, len_cst, x_idxs, x_idxt, x_idxl, x_idxc, x_idxr, x_isi, ty_str, ty_int, ty_bl, ty_non, ty_tup, ty_lst, ty_cst, ty_ins, tr_bl, tr_int, tr_str, tr_tup, tr_lst, tr_non, x_all, x_ends, x_starts, at_0, at_1, at_2, ix_0, ix_1,
  List.getElem?_cons_zero, List.getElem?_cons_succ, List.getElem?_nil, List.set_cons_zero, List.set_cons_succ, List.set_nil, Option.some.injEq, exists_eq_left', exists_eq_left, exists_and_left, Bool.false_eq_true, if_false, if_true, D.int.injEq, D.bl.injEq, D.ref.injEq, D.str.injEq, D.lst.injEq, D.tup.injEq, MO.lst.injEq, MO.ins.injEq, List.cons.injEq, Prod.mk.injEq, and_true, true_and, and_assoc, decide_eq_true_eq, Sto.set_same, Sto.set_set, reduceCtorEq, false_and, exists_false, false_or, or_false, ne_eq, not_false_eq_true, exists_eq', Bool.not_true, Bool.not_false, Bool.not_eq_true', decide_eq_false_iff_not, lk, show isiR .lst .str = false from by decide]; exact q
  | cst b => (have lk := hx.at_ (b := .str) rfl m_str); simp only [x_spr, startD, List.map_cons, List.map_nil, List.length_cons, List.length_nil, Nat.reduceAdd, Nat.reduceSub, Int.reduceLT, Int.reduceLE, Int.reduceToNat,  Int.reducePow, Int.reduceNeg, Nat.reduceLT, Nat.reduceLeDiff, Nat.reducePow, List.replicate_succ, List.replicate_zero, List.cons_append, List.nil_append, sSeq, sIf, sRet, sRetN, sNext, sAsg, sDrop, gNm, gOf, Tg.d, Tg.ds, dVar, dCst, dNil, dCons, dOp, dUn, dChain, dBl, dAnd, dOr, dNot, dIf, dTst, dCall, dCB, dLst, dTup, dM1, gSubD, mkL, dYes, dPart, dSlc, iEnumD, iSeqD, iRng1D, iRng2D, sFor, dLc, wipeD, si_str, si_tup, si_lst, si_cst, x_slcs, x_slct, x_slcl, x_slcc, dFld, sFldD, x_frz, dMake, dMt, x_isref, x_app, x_pop,
  x_lt, x_le, x_gt, x_ge, x_eqi, x_nei, x_eqs, x_nes, x_ner, x_eqr, x_in, x_nin, x_is, x_isnt, x_add, x_adds, x_addt, x_addl, x_sub, x_mul, x_div, x_mod, x_pow, x_neg, x_int, x_abs, x_max, x_min, x_len, len_str, len_tup, len_lst, len_cst, x_idxs, x_idxt, x_idxl, x_idxc, x_idxr, x_isi, ty_str, ty_int, ty_bl, ty_non, ty_tup, ty_lst, ty_cst, ty_ins, tr_bl, tr_int, tr_str, tr_tup, tr_lst, tr_non, x_all, x_ends, x_starts, at_0, at_1, at_2, ix_0, ix_1,
  List.getElem?_cons_zero, List.getElem?_cons_succ, List.getElem?_nil, List.set_cons_zero, List.set_cons_succ, List.set_nil, Option.some.injEq, exists_eq_left', exists_eq_left, exists_and_left, Bool.false_eq_true, if_false, if_true, D.int.injEq, D.bl.injEq, D.ref.injEq, D.str.injEq, D.lst.injEq, D.tup.injEq, MO.lst.injEq, MO.ins.injEq, List.cons.injEq, Prod.mk.injEq, and_true, true_and, and_assoc, decide_eq_true_eq, Sto.set_same, Sto.set_set, reduceCtorEq, false_and, exists_false, false_or, or_false, ne_eq, not_false_eq_true, exists_eq', Bool.not_true, Bool.not_false, Bool.not_eq_true', decide_eq_false_iff_not, lk, show isiR .lst .str = false from by decide]; exact q
  | ins C xs => (have lk := hx.at_ (b := .str) rfl m_str); simp only [x_spr, startD, List.map_cons, List.map_nil, List.length_cons, List.length_nil, Nat.reduceAdd, Nat.reduceSub, Int.reduceLT, Int.reduceLE, Int.reduceToNat,  Int.reducePow, Int.reduceNeg, Nat.reduceLT, Nat.reduceLeDiff, Nat.reducePow, List.replicate_succ, List.replicate_zero, List.cons_append, List.nil_append, sSeq, sIf, sRet, sRetN, sNext, sAsg, sDrop, gNm, gOf, Tg.d, Tg.ds, dVar, dCst, dNil, dCons, dOp, dUn, dChain, dBl, dAnd, dOr, dNot, dIf, dTst, dCall, dCB, dLst, dTup, dM1, gSubD, mkL, dYes, dPart, dSlc, iEnumD, iSeqD, iRng1D, iRng2D, sFor, dLc, wipeD, si_str, si_tup, si_lst, si_cst, x_slcs, x_slct, x_slcl, x_slcc, dFld, sFldD, x_frz, dMake, dMt, x_isref, x_app, x_pop,
  x_lt, x_le, x_gt, x_ge, x_eqi, x_nei, x_eqs, x_nes, x_ner, x_eqr, x_in, x_nin, x_is, x_isnt, x_add, x_adds, x_addt, x_addl, x_sub, x_mul, x_div, x_mod, x_pow, x_neg, x_int, x_abs, x_max, x_min, x_len, len_str, len_tup, len_lst, len_cst, x_idxs, x_idxt, x_idxl, x_idxc, x_idxr, x_isi, ty_str, ty_int, ty_bl, ty_non, ty_tup, ty_lst, ty_cst, ty_ins, tr_bl, tr_int, tr_str, tr_tup, tr_lst, tr_non, x_all, x_ends, x_starts, at_0, at_1, at_2, ix_0, ix_1,
  List.getElem?_cons_zero, List.getElem?_cons_succ, List.getElem?_nil, List.set_cons_zero, List.set_cons_succ, List.set_nil, Option.some.injEq, exists_eq_left', exists_eq_left, exists_and_left, Bool.false_eq_true, if_false, if_true, D.int.injEq, D.bl.injEq, D.ref.injEq, D.str.injEq, D.lst.injEq, D.tup.injEq, MO.lst.injEq, MO.ins.injEq, List.cons.injEq, Prod.mk.injEq, and_true, true_and, and_assoc, decide_eq_true_eq, Sto.set_same, Sto.set_set, reduceCtorEq, false_and, exists_false, false_or, or_false, ne_eq, not_false_eq_true, exists_eq', Bool.not_true, Bool.not_false, Bool.not_eq_true', decide_eq_false_iff_not, lk, show isiR (.own C) .str = false from rfl]; exact q
  | rp p => exact absurd rfl (hx.1 p)
  | ref _ => obtain ⟨_, _, h, _⟩ := hx; cases h
  | ty _ => obtain ⟨_, _, h, _⟩ := hx; cases h

theorem name_ok {T : Isi} : ∀ ds S Q E, sp_is_name T ds S Q E → bodySp 1 1 (R_is_name T (sp_is_word T)) ds S Q E := by
  rintro ds S Q E ⟨x, ed, hx, q⟩
  subst ed
  unfold R_is_name
  cases x with
  | str z =>
    have lk := hx.at_ (b := .str) rfl m_str
    rw [rr_ss] at lk
    have io : ∀ z, Isok T (.str z) := fun z => ⟨(fun _ e => by cases e), .str, rfl, fun b hb => (hx.at_ (a := .str) rfl hb)⟩
    simp only [x_spr, startD, List.map_cons, List.map_nil, List.length_cons, List.length_nil, Nat.reduceAdd, Nat.reduceSub, Int.reduceLT, Int.reduceLE, Int.reduceToNat,  Int.reducePow, Int.reduceNeg, Nat.reduceLT, Nat.reduceLeDiff, Nat.reducePow, List.replicate_succ, List.replicate_zero, List.cons_append, List.nil_append, sSeq, sIf, sRet, sRetN, sNext, sAsg, sDrop, gNm, gOf, Tg.d, Tg.ds, dVar, dCst, dNil, dCons, dOp, dUn, dChain, dBl, dAnd, dOr, dNot, dIf, dTst, dCall, dCB, dLst, dTup, dM1, gSubD, mkL, dYes, dPart, dSlc, iEnumD, iSeqD, iRng1D, iRng2D, sFor, dLc, wipeD, si_str, si_tup, si_lst, si_cst, x_slcs, x_slct, x_slcl, x_slcc, dFld, sFldD, x_frz, dMake, dMt, x_isref, x_app, x_pop,
  x_lt, x_le, x_gt, x_ge, x_eqi, x_nei, x_eqs, x_nes, x_ner, x_eqr, x_in, x_nin, x_is, x_isnt, x_add, x_adds, x_addt, x_addl, x_sub, x_mul, x_div, x_mod, x_pow, x_neg, x_int, x_abs, x_max, x_min, x_len, len_str, len_tup, len_lst, len_cst, x_idxs, x_idxt, x_idxl, x_idxc, x_idxr, x_isi, ty_str, ty_int, ty_bl, ty_non, ty_tup, ty_lst, ty_cst, ty_ins, tr_bl, tr_int, tr_str, tr_tup, tr_lst, tr_non, x_all, x_ends, x_starts, at_0, at_1, at_2, ix_0, ix_1,
  List.getElem?_cons_zero, List.getElem?_cons_succ, List.getElem?_nil, List.set_cons_zero, List.set_cons_succ, List.set_nil, Option.some.injEq, exists_eq_left', exists_eq_left, exists_and_left, Bool.false_eq_true, if_false, if_true, D.int.injEq, D.bl.injEq, D.ref.injEq, D.str.injEq, D.lst.injEq, D.tup.injEq, MO.lst.injEq, MO.ins.injEq, List.cons.injEq, Prod.mk.injEq, and_true, true_and, and_assoc, decide_eq_true_eq, Sto.set_same, Sto.set_set, reduceCtorEq, false_and, exists_false, false_or, or_false, ne_eq, not_false_eq_true, exists_eq', Bool.not_true, Bool.not_false, Bool.not_eq_true', decide_eq_false_iff_not, lk, sp_is_word]
    have q : Q (.bl (isNameS z)) S := q
    unfold isNameS at q
    by_cases h : cutS z (some (-1)) none = (Str.ofString "!")
    · rw [if_pos h] at q ⊢
      exact ⟨io _, q⟩
    · rw [if_neg h] at q ⊢
      exact ⟨io _, q⟩
  | non => (have lk := hx.at_ (b := .str) rfl m_str); simp only [x_spr, startD, List.map_cons, List.map_nil, List.length_cons, List.length_nil, Nat.reduceAdd, Nat.reduceSub, Int.reduceLT, Int.reduceLE, Int.reduceToNat,  Int.reducePow, Int.reduceNeg, Nat.reduceLT, Nat.reduceLeDiff, Nat.reducePow, List.replicate_succ, List.replicate_zero, List.cons_append, List.nil_append, sSeq, sIf, sRet, sRetN, sNext, sAsg, sDrop, gNm, gOf, Tg.d, Tg.ds, dVar, dCst, dNil, dCons, dOp, dUn, dChain, dBl, dAnd, dOr, dNot, dIf, dTst, dCall, dCB, dLst, dTup, dM1, gSubD, mkL, dYes, dPart, dSlc, iEnumD, iSeqD, iRng1D, iRng2D, sFor, dLc, wipeD, si_str, si_tup, si_lst, si_cst, x_slcs, x_slct, x_slcl, x_slcc, dFld, sFldD, x_frz, dMake, dMt, x_isref, x_app, x_pop,
  x_lt, x_le, x_gt, x_ge, x_eqi, x_nei, x_eqs, x_nes, x_ner, x_eqr, x_in, x_nin, x_is, x_isnt, x_add, x_adds, x_addt, x_addl, x_sub, x_mul, x_div, x_mod, x_pow, x_neg, x_int, x_abs, x_max, x_min, x_len, len_str, len_tup, len_lst, len_cst, x_idxs, x_idxt, x_idxl, x_idxc, x_idxr, x_isi, ty_str, ty_int, ty_bl, ty_non, ty_tup, ty_lst, ty_cst, ty_ins, tr_bl, tr_int, tr_str, tr_tup, tr_lst, tr_non, x_all, x_ends, x_starts, at_0, at_1, at_2, ix_0, ix_1,
  List.getElem?_cons_zero, List.getElem?_cons_succ, List.getElem?_nil, List.set_cons_zero, List.set_cons_succ, List.set_nil, Option.some.injEq, exists_eq_left', exists_eq_left, exists_and_left, Bool.false_eq_true, if_false, if_true, D.int.injEq, D.bl.injEq, D.ref.injEq, D.str.injEq, D.lst.injEq, D.tup.injEq, MO.lst.injEq, MO.ins.injEq, List.cons.injEq, Prod.mk.injEq, and_true, true_and, and_assoc, decide_eq_true_eq, Sto.set_same, Sto.set_set, reduceCtorEq, false_and, exists_false, false_or, or_false, ne_eq, not_false_eq_true, exists_eq', Bool.not_true, Bool.not_false, Bool.not_eq_true', decide_eq_false_iff_not, lk, show isiR .non .str = false from by decide]; exact q
  | bl b => (have lk := hx.at_ (b := .str) rfl m_str); simp only [x_spr, startD, List.map_cons, List.map_nil, List.length_cons, List.length_nil, Nat.reduceAdd, Nat.reduceSub, Int.reduceLT, Int.reduceLE, Int.reduceToNat,  Int.reducePow, Int.reduceNeg, Nat.reduceLT, Nat.reduceLeDiff, Nat.reducePow, List.replicate_succ, List.replicate_zero, List.cons_append, List.nil_append, sSeq, sIf, sRet, sRetN, sNext, sAsg, sDrop, gNm, gOf, Tg.d, Tg.ds, dVar, dCst, dNil, dCons, dOp, dUn, dChain, dBl, dAnd, dOr, dNot, dIf, dTst, dCall, dCB, dLst, dTup, dM1, gSubD, mkL, dYes, dPart, dSlc, iEnumD, iSeqD, iRng1D, iRng2D, sFor, dLc, wipeD, si_str, si_tup, si_lst, si_cst, x_slcs, x_slct, x_slcl, x_slcc, dFld, sFldD, x_frz, dMake, dMt, x_isref, x_app, x_pop,
  x_lt, x_le, x_gt, x_ge, x_eqi, x_nei, x_eqs, x_nes, x_ner, x_eqr, x_in, x_nin, x_is, x_isnt, x_add, x_adds, x_addt, x_addl, x_sub, x_mul, x_div, x_mod, x_pow, x_neg, x_int, x_abs, x_max, x_min, x_len, len_str, len_tup, len_lst, len_cst, x_idxs, x_idxt, x_idxl, x_idxc, x_idxr, x_isi, ty_str, ty_int, ty_bl, ty_non, ty_tup, ty_lst, ty_cst, ty_ins, tr_bl, tr_int, tr_str, tr_tup, tr_lst, tr_non, x_all, x_ends, x_starts, at_0, at_1, at_2, ix_0, ix_1,
  List.getElem?_cons_zero, List.getElem?_cons_succ, List.getElem?_nil, List.set_cons_zero, List.set_cons_succ, List.set_nil, Option.some.injEq, exists_eq_left', exists_eq_left, exists_and_left, Bool.false_eq_true, if_false, if_true, D.int.injEq, D.bl.injEq, D.ref.injEq, D.str.injEq, D.lst.injEq, D.tup.injEq, MO.lst.injEq, MO.ins.injEq, List.cons.injEq, Prod.mk.injEq, and_true, true_and, and_assoc, decide_eq_true_eq, Sto.set_same, Sto.set_set, reduceCtorEq, false_and, exists_false, false_or, or_false, ne_eq, not_false_eq_true, exists_eq', Bool.not_true, Bool.not_false, Bool.not_eq_true', decide_eq_false_iff_not, lk, show isiR .bl .str = false from by decide]; exact q
  | int b => (have lk := hx.at_ (b := .str) rfl m_str); simp only [x_spr, startD, List.map_cons, List.map_nil, List.length_cons, List.length_nil, Nat.reduceAdd, Nat.reduceSub, Int.reduceLT, Int.reduceLE, Int.reduceToNat,  Int.reducePow, Int.reduceNeg, Nat.reduceLT, Nat.reduceLeDiff, Nat.reducePow, List.replicate_succ, List.replicate_zero, List.cons_append, List.nil_append, sSeq, sIf, sRet, sRetN, sNext, sAsg, sDrop, gNm, gOf, Tg.d, Tg.ds, dVar, dCst, dNil, dCons, dOp, dUn, dChain, dBl, dAnd, dOr, dNot, dIf, dTst, dCall, dCB, dLst, dTup, dM1, gSubD, mkL, dYes, dPart, dSlc, iEnumD, iSeqD, iRng1D, iRng2D, sFor, dLc, wipeD, si_str, si_tup, si_lst, si_cst, x_slcs, x_slct, x_slcl, x_slcc, dFld, sFldD, x_frz, dMake, dMt, x_isref, x_app, x_pop,
  x_lt, x_le, x_gt, x_ge, x_eqi, x_nei, x_eqs, x_nes, x_ner, x_eqr, x_in, x_nin, x_is, x_isnt, x_add, x_adds, x_addt, x_addl, x_sub, x_mul, x_div, x_mod, x_pow, x_neg, x_int, x_abs, x_max, x_min, x_len, len_str, len_tup, len_lst, len_cst, x_idxs, x_idxt, x_idxl, x_idxc, x_idxr, x_isi, ty_str, ty_int, ty_bl, ty_non, ty_tup, ty_lst, ty_cst, ty_ins, tr_bl, tr_int, tr_str, tr_tup, tr_lst, tr_non, x_all, x_ends, x_starts, at_0, at_1, at_2, ix_0, ix_1,
  List.getElem?_cons_zero, List.getElem?_cons_succ, List.getElem?_nil, List.set_cons_zero, List.set_cons_succ, List.set_nil, Option.some.injEq, exists_eq_left', exists_eq_left, exists_and_left, Bool.false_eq_true, if_false, if_true, D.int.injEq, D.bl.injEq, D.ref.injEq, D.str.injEq, D.lst.injEq, D.tup.injEq, MO.lst.injEq, MO.ins.injEq, List.cons.injEq, Prod.mk.injEq, and_true, true_and, and_assoc, decide_eq_true_eq, Sto.set_same, Sto.set_set, reduceCtorEq, false_and, exists_false, false_or, or_false, ne_eq, not_false_eq_true, exists_eq', Bool.not_true, Bool.not_false, Bool.not_eq_true', decide_eq_false_iff_not, lk, show isiR .int .str = false from by decide]; exact q
  | tup b => (have lk := hx.at_ (b := .str) rfl m_str); simp only [x_spr, startD, List.map_cons, List.map_nil, List.length_cons, List.length_nil, Nat.reduceAdd, Nat.reduceSub, Int.reduceLT, Int.reduceLE, Int.reduceToNat,  Int.reducePow, Int.reduceNeg, Nat.reduceLT, Nat.reduceLeDiff, Nat.reducePow, List.replicate_succ, List.replicate_zero, List.cons_append, List.nil_append, sSeq, sIf, sRet, sRetN, sNext, sAsg, sDrop, gNm, gOf, Tg.d, Tg.ds, dVar, dCst, dNil, dCons, dOp, dUn, dChain, dBl, dAnd, dOr, dNot, dIf, dTst, dCall, dCB, dLst, dTup, dM1, gSubD, mkL, dYes, dPart, dSlc, iEnumD, iSeqD, iRng1D, iRng2D, sFor, dLc, wipeD, si_str, si_tup, si_lst, si_cst, x_slcs, x_slct, x_slcl, x_slcc, dFld, sFldD, x_frz, dMake, dMt, x_isref, x_app, x_pop,
  x_lt, x_le, x_gt, x_ge, x_eqi, x_nei, x_eqs, x_nes, x_ner, x_eqr, x_in, x_nin, x_is, x_isnt, x_add, x_adds, x_addt, x_addl, x_sub, x_mul, x_div, x_mod, x_pow, x_neg, x_int, x_abs, x_max, x_min, x_len, len_str, len_tup, len_lst, len_cst, x_idxs, x_idxt, x_idxl, x_idxc, x_idxr, x_isi, ty_str, ty_int, ty_bl, ty_non, ty_tup, ty_lst, ty_cst, ty_ins, tr_bl, tr_int, tr_str, tr_tup, tr_lst, tr_non, x_all, x_ends, x_starts, at_0, at_1, at_2, ix_0, ix_1,
  List.getElem?_cons_zero, List.getElem?_cons_succ, List.getElem?_nil, List.set_cons_zero, List.set_cons_succ, List.set_nil, Option.some.injEq, exists_eq_left', exists_eq_left, exists_and_left, Bool.false_eq_true, if_false, if_true, D.int.injEq, D.bl.injEq, D.ref.injEq, D.str.injEq, D.lst.injEq, D.tup.injEq, MO.lst.injEq, MO.ins.injEq, List.cons.injEq, Prod.mk.injEq, and_true, true_and, and_assoc, decide_eq_true_eq, Sto.set_same, Sto.set_set, reduceCtorEq, false_and, exists_false, false_or, or_false, ne_eq, not_false_eq_true, exists_eq', Bool.not_true, Bool.not_false, Bool.not_eq_true', decide_eq_false_iff_not, lk, show isiR .tup .str = false from by decide]; exact q
  | lst b => (have lk := hx.at_ (b := .str) rfl m_str); simp only [x_spr, startD, List.map_cons, List.map_nil, List.length_cons, List.length_nil, Nat.reduceAdd, Nat.reduceSub, Int.reduceLT, Int.reduceLE, Int.reduceToNat,  Int.reducePow, Int.reduceNeg, Nat.reduceLT, Nat.reduceLeDiff, Nat.reducePow, List.replicate_succ, List.replicate_zero, List.cons_append, List.nil_append, sSeq, sIf, sRet, sRetN, sNext, sAsg, sDrop, gNm, gOf, Tg.d, Tg.ds, dVar, dCst, dNil, dCons, dOp, dUn, dChain, dBl, dAnd, dOr, dNot, dIf, dTst, dCall, dCB, dLst, dTup, dM1, gSubD, mkL, dYes, dPart, dSlc, iEnumD, iSeqD, iRng1D, iRng2D, sFor, dLc, wipeD, si_str, si_tup, si_lst, si_cst, x_slcs, x_slct, x_slcl, x_slcc, dFld, sFldD, x_frz, dMake, dMt, x_isref, x_app, x_pop,
  x_lt, x_le, x_gt, x_ge, x_eqi, x_nei, x_eqs, x_nes, x_ner, x_eqr, x_in, x_nin, x_is, x_isnt, x_add, x_adds, x_addt, x_addl, x_sub, x_mul, x_div, x_mod, x_pow, x_neg, x_int, x_abs, x_max, x_min, x_len, len_str, len_tup, len_lst, len_cst, x_idxs, x_idxt, x_idxl, x_idxc, x_idxr, x_isi, ty_str, ty_int, ty_bl, ty_non, ty_tup, ty_lst, ty_cst, ty_ins, tr_bl, tr_int, tr_str, tr_tup, tr_lst, tr_non, x_all, x_ends, x_starts, at_0, at_1, at_2, ix_0, ix_1,
  List.getElem?_cons_zero, List.getElem?_cons_succ, List.getElem?_nil, List.set_cons_zero, List.set_cons_succ, List.set_nil, Option.some.injEq, exists_eq_left', exists_eq_left, exists_and_left, Bool.false_eq_true, if_false, if_true, D.int.injEq, D.bl.injEq, D.ref.injEq, D.str.injEq, D.lst.injEq, D.tup.injEq, MO.lst.injEq, MO.ins.injEq, List.cons.injEq, Prod.mk.injEq, and_true, true_and, and_assoc, decide_eq_true_eq, Sto.set_same, Sto.set_set, reduceCtorEq, false_and, exists_false, false_or, or_false, ne_eq, not_false_eq_true, exists_eq', Bool.not_true, Bool.not_false, Bool.not_eq_true', decide_eq_false_iff_not, lk, show isiR .lst .str = false from by decide]; exact q
  | cst b => (have lk := hx.at_ (b := .str) rfl m_str); simp only [x_spr, startD, List.map_cons, List.map_nil, List.length_cons, List.length_nil, Nat.reduceAdd, Nat.reduceSub, Int.reduceLT, Int.reduceLE, Int.reduceToNat,  Int.reducePow, Int.reduceNeg, Nat.reduceLT, Nat.reduceLeDiff, Nat.reducePow, List.replicate_succ, List.replicate_zero, List.cons_append, List.nil_append, sSeq, sIf, sRet, sRetN, sNext, sAsg, sDrop, gNm, gOf, Tg.d, Tg.ds, dVar, dCst, dNil, dCons, dOp, dUn, dChain, dBl, dAnd, dOr, dNot, dIf, dTst, dCall, dCB, dLst, dTup, dM1, gSubD, mkL, dYes, dPart, dSlc, iEnumD, iSeqD, iRng1D, iRng2D, sFor, dLc, wipeD, si_str, si_tup, si_lst, si_cst, x_slcs, x_slct, x_slcl, x_slcc, dFld, sFldD, x_frz, dMake, dMt, x_isref, x_app, x_pop,
  x_lt, x_le, x_gt, x_ge, x_eqi, x_nei, x_eqs, x_nes, x_ner, x_eqr, x_in, x_nin, x_is, x_isnt, x_add, x_adds, x_addt, x_addl, x_sub, x_mul, x_div, x_mod, x_pow, x_neg, x_int, x_abs, x_max, x_min, x_len, len_str, len_tup, len_lst, len_cst, x_idxs, x_idxt, x_idxl, x_idxc, x_idxr, x_isi, ty_str, ty_int, ty_bl, ty_non, ty_tup, ty_lst, ty_cst, ty_ins, tr_bl, tr_int, tr_str, tr_tup, tr_lst, tr_non, x_all, x_ends, x_starts, at_0, at_1, at_2, ix_0, ix_1,
  List.getElem?_cons_zero, List.getElem?_cons_succ, List.getElem?_nil, List.set_cons_zero, List.set_cons_succ, List.set_nil, Option.some.injEq, exists_eq_left', exists_eq_left, exists_and_left, Bool.false_eq_true, if_false, if_true, D.int.injEq, D.bl.injEq, D.ref.injEq, D.str.injEq, D.lst.injEq, D.tup.injEq, MO.lst.injEq, MO.ins.injEq, List.cons.injEq, Prod.mk.injEq, and_true, true_and, and_assoc, decide_eq_true_eq, Sto.set_same, Sto.set_set, reduceCtorEq, false_and, exists_false, false_or, or_false, ne_eq, not_false_eq_true, exists_eq', Bool.not_true, Bool.not_false, Bool.not_eq_true', decide_eq_false_iff_not, lk, show isiR .lst .str = false from by decide]; exact q
  | ins C xs => (have lk := hx.at_ (b := .str) rfl m_str); simp only [x_spr, startD, List.map_cons, List.map_nil, List.length_cons, List.length_nil, Nat.reduceAdd, Nat.reduceSub, Int.reduceLT, Int.reduceLE, Int.reduceToNat,  Int.reducePow, Int.reduceNeg, Nat.reduceLT, Nat.reduceLeDiff, Nat.reducePow, List.replicate_succ, List.replicate_zero, List.cons_append, List.nil_append, sSeq, sIf, sRet, sRetN, sNext, sAsg, sDrop, gNm, gOf, Tg.d, Tg.ds, dVar, dCst, dNil, dCons, dOp, dUn, dChain, dBl, dAnd, dOr, dNot, dIf, dTst, dCall, dCB, dLst, dTup, dM1, gSubD, mkL, dYes, dPart, dSlc, iEnumD, iSeqD, iRng1D, iRng2D, sFor, dLc, wipeD, si_str, si_tup, si_lst, si_cst, x_slcs, x_slct, x_slcl, x_slcc, dFld, sFldD, x_frz, dMake, dMt, x_isref, x_app, x_pop,
  x_lt, x_le, x_gt, x_ge, x_eqi, x_nei, x_eqs, x_nes, x_ner, x_eqr, x_in, x_nin, x_is, x_isnt, x_add, x_adds, x_addt, x_addl, x_sub, x_mul, x_div, x_mod, x_pow, x_neg, x_int, x_abs, x_max, x_min, x_len, len_str, len_tup, len_lst, len_cst, x_idxs, x_idxt, x_idxl, x_idxc, x_idxr, x_isi, ty_str, ty_int, ty_bl, ty_non, ty_tup, ty_lst, ty_cst, ty_ins, tr_bl, tr_int, tr_str, tr_tup, tr_lst, tr_non, x_all, x_ends, x_starts, at_0, at_1, at_2, ix_0, ix_1,
  List.getElem?_cons_zero, List.getElem?_cons_succ, List.getElem?_nil, List.set_cons_zero, List.set_cons_succ, List.set_nil, Option.some.injEq, exists_eq_left', exists_eq_left, exists_and_left, Bool.false_eq_true, if_false, if_true, D.int.injEq, D.bl.injEq, D.ref.injEq, D.str.injEq, D.lst.injEq, D.tup.injEq, MO.lst.injEq, MO.ins.injEq, List.cons.injEq, Prod.mk.injEq, and_true, true_and, and_assoc, decide_eq_true_eq, Sto.set_same, Sto.set_set, reduceCtorEq, false_and, exists_false, false_or, or_false, ne_eq, not_false_eq_true, exists_eq', Bool.not_true, Bool.not_false, Bool.not_eq_true', decide_eq_false_iff_not, lk, show isiR (.own C) .str = false from rfl]; exact q
  | rp p => exact absurd rfl (hx.1 p)
  | ref _ => obtain ⟨_, _, h, _⟩ := hx; cases h
  | ty _ => obtain ⟨_, _, h, _⟩ := hx; cases h
theorem line_not {xs : List D} (h : xs.length ≠ 2) : lineD (.tup xs) = false := by
  unfold lineD
  split
  · rename_i e
    cases e
    exact absurd rfl h
  · rfl
theorem line_ok {T : Isi} : ∀ ds S Q E, sp_is_line T ds S Q E → bodySp 3 1 (R_is_line T (sp_is_word T) (sp_is_name T)) ds S Q E := by
  rintro ds S Q E ⟨x, ed, ⟨hx, hab⟩, q⟩
  subst ed
  unfold R_is_line
  cases x with
  | tup xs =>
    have lk := hx.at_ (b := .tup) rfl m_tup
    rw [rr_tt] at lk
    match xs with
    | [a, b] =>
      obtain ⟨ha, hb⟩ := hab a b rfl
      simp only [x_spr, startD, List.map_cons, List.map_nil, List.length_cons, List.length_nil, Nat.reduceAdd, Nat.reduceSub, Int.reduceLT, Int.reduceLE, Int.reduceToNat,  Int.reducePow, Int.reduceNeg, Nat.reduceLT, Nat.reduceLeDiff, Nat.reducePow, List.replicate_succ, List.replicate_zero, List.cons_append, List.nil_append, sSeq, sIf, sRet, sRetN, sNext, sAsg, sDrop, gNm, gOf, Tg.d, Tg.ds, dVar, dCst, dNil, dCons, dOp, dUn, dChain, dBl, dAnd, dOr, dNot, dIf, dTst, dCall, dCB, dLst, dTup, dM1, gSubD, mkL, dYes, dPart, dSlc, iEnumD, iSeqD, iRng1D, iRng2D, sFor, dLc, wipeD, si_str, si_tup, si_lst, si_cst, x_slcs, x_slct, x_slcl, x_slcc, dFld, sFldD, x_frz, dMake, dMt, x_isref, x_app, x_pop,
  x_lt, x_le, x_gt, x_ge, x_eqi, x_nei, x_eqs, x_nes, x_ner, x_eqr, x_in, x_nin, x_is, x_isnt, x_add, x_adds, x_addt, x_addl, x_sub, x_mul, x_div, x_mod, x_pow, x_neg, x_int, x_abs, x_max, x_min, x_len, len_str, len_tup, len_lst, len_cst, x_idxs, x_idxt, x_idxl, x_idxc, x_idxr, x_isi, ty_str, ty_int, ty_bl, ty_non, ty_tup, ty_lst, ty_cst, ty_ins, tr_bl, tr_int, tr_str, tr_tup, tr_lst, tr_non, x_all, x_ends, x_starts, at_0, at_1, at_2, ix_0, ix_1,
  List.getElem?_cons_zero, List.getElem?_cons_succ, List.getElem?_nil, List.set_cons_zero, List.set_cons_succ, List.set_nil, Option.some.injEq, exists_eq_left', exists_eq_left, exists_and_left, Bool.false_eq_true, if_false, if_true, D.int.injEq, D.bl.injEq, D.ref.injEq, D.str.injEq, D.lst.injEq, D.tup.injEq, MO.lst.injEq, MO.ins.injEq, List.cons.injEq, Prod.mk.injEq, and_true, true_and, and_assoc, decide_eq_true_eq, Sto.set_same, Sto.set_set, reduceCtorEq, false_and, exists_false, false_or, or_false, ne_eq, not_false_eq_true, exists_eq', Bool.not_true, Bool.not_false, Bool.not_eq_true', decide_eq_false_iff_not, lk, sp_is_word, sp_is_name]
      refine ⟨ha, ?_⟩
      cases hw : wordD a with
      | false =>
        have q2 : lineD (.tup [a, b]) = false := by
          unfold lineD
          split
          · rename_i e
            cases e
            rw [hw, Bool.false_and]
          · rfl
        rw [q2] at q
        simp only [x_spr, startD, List.map_cons, List.map_nil, List.length_cons, List.length_nil, Nat.reduceAdd, Nat.reduceSub, Int.reduceLT, Int.reduceLE, Int.reduceToNat,  Int.reducePow, Int.reduceNeg, Nat.reduceLT, Nat.reduceLeDiff, Nat.reducePow, List.replicate_succ, List.replicate_zero, List.cons_append, List.nil_append, sSeq, sIf, sRet, sRetN, sNext, sAsg, sDrop, gNm, gOf, Tg.d, Tg.ds, dVar, dCst, dNil, dCons, dOp, dUn, dChain, dBl, dAnd, dOr, dNot, dIf, dTst, dCall, dCB, dLst, dTup, dM1, gSubD, mkL, dYes, dPart, dSlc, iEnumD, iSeqD, iRng1D, iRng2D, sFor, dLc, wipeD, si_str, si_tup, si_lst, si_cst, x_slcs, x_slct, x_slcl, x_slcc, dFld, sFldD, x_frz, dMake, dMt, x_isref, x_app, x_pop,
  x_lt, x_le, x_gt, x_ge, x_eqi, x_nei, x_eqs, x_nes, x_ner, x_eqr, x_in, x_nin, x_is, x_isnt, x_add, x_adds, x_addt, x_addl, x_sub, x_mul, x_div, x_mod, x_pow, x_neg, x_int, x_abs, x_max, x_min, x_len, len_str, len_tup, len_lst, len_cst, x_idxs, x_idxt, x_idxl, x_idxc, x_idxr, x_isi, ty_str, ty_int, ty_bl, ty_non, ty_tup, ty_lst, ty_cst, ty_ins, tr_bl, tr_int, tr_str, tr_tup, tr_lst, tr_non, x_all, x_ends, x_starts, at_0, at_1, at_2, ix_0, ix_1,
  List.getElem?_cons_zero, List.getElem?_cons_succ, List.getElem?_nil, List.set_cons_zero, List.set_cons_succ, List.set_nil, Option.some.injEq, exists_eq_left', exists_eq_left, exists_and_left, Bool.false_eq_true, if_false, if_true, D.int.injEq, D.bl.injEq, D.ref.injEq, D.str.injEq, D.lst.injEq, D.tup.injEq, MO.lst.injEq, MO.ins.injEq, List.cons.injEq, Prod.mk.injEq, and_true, true_and, and_assoc, decide_eq_true_eq, Sto.set_same, Sto.set_set, reduceCtorEq, false_and, exists_false, false_or, or_false, ne_eq, not_false_eq_true, exists_eq', Bool.not_true, Bool.not_false, Bool.not_eq_true', decide_eq_false_iff_not]
        exact q
      | true =>
        simp only [x_spr, startD, List.map_cons, List.map_nil, List.length_cons, List.length_nil, Nat.reduceAdd, Nat.reduceSub, Int.reduceLT, Int.reduceLE, Int.reduceToNat,  Int.reducePow, Int.reduceNeg, Nat.reduceLT, Nat.reduceLeDiff, Nat.reducePow, List.replicate_succ, List.replicate_zero, List.cons_append, List.nil_append, sSeq, sIf, sRet, sRetN, sNext, sAsg, sDrop, gNm, gOf, Tg.d, Tg.ds, dVar, dCst, dNil, dCons, dOp, dUn, dChain, dBl, dAnd, dOr, dNot, dIf, dTst, dCall, dCB, dLst, dTup, dM1, gSubD, mkL, dYes, dPart, dSlc, iEnumD, iSeqD, iRng1D, iRng2D, sFor, dLc, wipeD, si_str, si_tup, si_lst, si_cst, x_slcs, x_slct, x_slcl, x_slcc, dFld, sFldD, x_frz, dMake, dMt, x_isref, x_app, x_pop,
  x_lt, x_le, x_gt, x_ge, x_eqi, x_nei, x_eqs, x_nes, x_ner, x_eqr, x_in, x_nin, x_is, x_isnt, x_add, x_adds, x_addt, x_addl, x_sub, x_mul, x_div, x_mod, x_pow, x_neg, x_int, x_abs, x_max, x_min, x_len, len_str, len_tup, len_lst, len_cst, x_idxs, x_idxt, x_idxl, x_idxc, x_idxr, x_isi, ty_str, ty_int, ty_bl, ty_non, ty_tup, ty_lst, ty_cst, ty_ins, tr_bl, tr_int, tr_str, tr_tup, tr_lst, tr_non, x_all, x_ends, x_starts, at_0, at_1, at_2, ix_0, ix_1,
  List.getElem?_cons_zero, List.getElem?_cons_succ, List.getElem?_nil, List.set_cons_zero, List.set_cons_succ, List.set_nil, Option.some.injEq, exists_eq_left', exists_eq_left, exists_and_left, Bool.false_eq_true, if_false, if_true, D.int.injEq, D.bl.injEq, D.ref.injEq, D.str.injEq, D.lst.injEq, D.tup.injEq, MO.lst.injEq, MO.ins.injEq, List.cons.injEq, Prod.mk.injEq, and_true, true_and, and_assoc, decide_eq_true_eq, Sto.set_same, Sto.set_set, reduceCtorEq, false_and, exists_false, false_or, or_false, ne_eq, not_false_eq_true, exists_eq', Bool.not_true, Bool.not_false, Bool.not_eq_true', decide_eq_false_iff_not]
        refine hb.isiX m_str fun ty hty => ?_
        cases b with
        | str z =>
          cases hty
          simp only [x_spr, startD, List.map_cons, List.map_nil, List.length_cons, List.length_nil, Nat.reduceAdd, Nat.reduceSub, Int.reduceLT, Int.reduceLE, Int.reduceToNat,  Int.reducePow, Int.reduceNeg, Nat.reduceLT, Nat.reduceLeDiff, Nat.reducePow, List.replicate_succ, List.replicate_zero, List.cons_append, List.nil_append, sSeq, sIf, sRet, sRetN, sNext, sAsg, sDrop, gNm, gOf, Tg.d, Tg.ds, dVar, dCst, dNil, dCons, dOp, dUn, dChain, dBl, dAnd, dOr, dNot, dIf, dTst, dCall, dCB, dLst, dTup, dM1, gSubD, mkL, dYes, dPart, dSlc, iEnumD, iSeqD, iRng1D, iRng2D, sFor, dLc, wipeD, si_str, si_tup, si_lst, si_cst, x_slcs, x_slct, x_slcl, x_slcc, dFld, sFldD, x_frz, dMake, dMt, x_isref, x_app, x_pop,
  x_lt, x_le, x_gt, x_ge, x_eqi, x_nei, x_eqs, x_nes, x_ner, x_eqr, x_in, x_nin, x_is, x_isnt, x_add, x_adds, x_addt, x_addl, x_sub, x_mul, x_div, x_mod, x_pow, x_neg, x_int, x_abs, x_max, x_min, x_len, len_str, len_tup, len_lst, len_cst, x_idxs, x_idxt, x_idxl, x_idxc, x_idxr, x_isi, ty_str, ty_int, ty_bl, ty_non, ty_tup, ty_lst, ty_cst, ty_ins, tr_bl, tr_int, tr_str, tr_tup, tr_lst, tr_non, x_all, x_ends, x_starts, at_0, at_1, at_2, ix_0, ix_1,
  List.getElem?_cons_zero, List.getElem?_cons_succ, List.getElem?_nil, List.set_cons_zero, List.set_cons_succ, List.set_nil, Option.some.injEq, exists_eq_left', exists_eq_left, exists_and_left, Bool.false_eq_true, if_false, if_true, D.int.injEq, D.bl.injEq, D.ref.injEq, D.str.injEq, D.lst.injEq, D.tup.injEq, MO.lst.injEq, MO.ins.injEq, List.cons.injEq, Prod.mk.injEq, and_true, true_and, and_assoc, decide_eq_true_eq, Sto.set_same, Sto.set_set, reduceCtorEq, false_and, exists_false, false_or, or_false, ne_eq, not_false_eq_true, exists_eq', Bool.not_true, Bool.not_false, Bool.not_eq_true', decide_eq_false_iff_not, rr_ss]
          have q2 : lineD (.tup [a, .str z]) = (decide (z = Str.ofString "") || isNameS z) := by
            show (wordD a && (decide (z = Str.ofString "") || isNameS z)) = _
            rw [hw, Bool.true_and]
          rw [q2] at q
          by_cases h : z = Str.ofString ""
          · rw [decide_eq_true h, Bool.true_or] at q
            rw [if_pos h, decide_eq_true h]
            exact q
          · rw [decide_eq_false h, Bool.false_or] at q
            rw [if_neg h]
            exact ⟨hb, q⟩
        | non => cases hty; simp only [x_spr, startD, List.map_cons, List.map_nil, List.length_cons, List.length_nil, Nat.reduceAdd, Nat.reduceSub, Int.reduceLT, Int.reduceLE, Int.reduceToNat,  Int.reducePow, Int.reduceNeg, Nat.reduceLT, Nat.reduceLeDiff, Nat.reducePow, List.replicate_succ, List.replicate_zero, List.cons_append, List.nil_append, sSeq, sIf, sRet, sRetN, sNext, sAsg, sDrop, gNm, gOf, Tg.d, Tg.ds, dVar, dCst, dNil, dCons, dOp, dUn, dChain, dBl, dAnd, dOr, dNot, dIf, dTst, dCall, dCB, dLst, dTup, dM1, gSubD, mkL, dYes, dPart, dSlc, iEnumD, iSeqD, iRng1D, iRng2D, sFor, dLc, wipeD, si_str, si_tup, si_lst, si_cst, x_slcs, x_slct, x_slcl, x_slcc, dFld, sFldD, x_frz, dMake, dMt, x_isref, x_app, x_pop,
  x_lt, x_le, x_gt, x_ge, x_eqi, x_nei, x_eqs, x_nes, x_ner, x_eqr, x_in, x_nin, x_is, x_isnt, x_add, x_adds, x_addt, x_addl, x_sub, x_mul, x_div, x_mod, x_pow, x_neg, x_int, x_abs, x_max, x_min, x_len, len_str, len_tup, len_lst, len_cst, x_idxs, x_idxt, x_idxl, x_idxc, x_idxr, x_isi, ty_str, ty_int, ty_bl, ty_non, ty_tup, ty_lst, ty_cst, ty_ins, tr_bl, tr_int, tr_str, tr_tup, tr_lst, tr_non, x_all, x_ends, x_starts, at_0, at_1, at_2, ix_0, ix_1,
  List.getElem?_cons_zero, List.getElem?_cons_succ, List.getElem?_nil, List.set_cons_zero, List.set_cons_succ, List.set_nil, Option.some.injEq, exists_eq_left', exists_eq_left, exists_and_left, Bool.false_eq_true, if_false, if_true, D.int.injEq, D.bl.injEq, D.ref.injEq, D.str.injEq, D.lst.injEq, D.tup.injEq, MO.lst.injEq, MO.ins.injEq, List.cons.injEq, Prod.mk.injEq, and_true, true_and, and_assoc, decide_eq_true_eq, Sto.set_same, Sto.set_set, reduceCtorEq, false_and, exists_false, false_or, or_false, ne_eq, not_false_eq_true, exists_eq', Bool.not_true, Bool.not_false, Bool.not_eq_true', decide_eq_false_iff_not, show isiR .non .str = false from by decide]; exact q
        | bl b => cases hty; simp only [x_spr, startD, List.map_cons, List.map_nil, List.length_cons, List.length_nil, Nat.reduceAdd, Nat.reduceSub, Int.reduceLT, Int.reduceLE, Int.reduceToNat,  Int.reducePow, Int.reduceNeg, Nat.reduceLT, Nat.reduceLeDiff, Nat.reducePow, List.replicate_succ, List.replicate_zero, List.cons_append, List.nil_append, sSeq, sIf, sRet, sRetN, sNext, sAsg, sDrop, gNm, gOf, Tg.d, Tg.ds, dVar, dCst, dNil, dCons, dOp, dUn, dChain, dBl, dAnd, dOr, dNot, dIf, dTst, dCall, dCB, dLst, dTup, dM1, gSubD, mkL, dYes, dPart, dSlc, iEnumD, iSeqD, iRng1D, iRng2D, sFor, dLc, wipeD, si_str, si_tup, si_lst, si_cst, x_slcs, x_slct, x_slcl, x_slcc, dFld, sFldD, x_frz, dMake, dMt, x_isref, x_app, x_pop,
  x_lt, x_le, x_gt, x_ge, x_eqi, x_nei, x_eqs, x_nes, x_ner, x_eqr, x_in, x_nin, x_is, x_isnt, x_add, x_adds, x_addt, x_addl, x_sub, x_mul, x_div, x_mod, x_pow, x_neg, x_int, x_abs, x_max, x_min, x_len, len_str, len_tup, len_lst, len_cst, x_idxs, x_idxt, x_idxl, x_idxc, x_idxr, x_isi, ty_str, ty_int, ty_bl, ty_non, ty_tup, ty_lst, ty_cst, ty_ins, tr_bl, tr_int, tr_str, tr_tup, tr_lst, tr_non, x_all, x_ends, x_starts, at_0, at_1, at_2, ix_0, ix_1,
  List.getElem?_cons_zero, List.getElem?_cons_succ, List.getElem?_nil, List.set_cons_zero, List.set_cons_succ, List.set_nil, Option.some.injEq, exists_eq_left', exists_eq_left, exists_and_left, Bool.false_eq_true, if_false, if_true, D.int.injEq, D.bl.injEq, D.ref.injEq, D.str.injEq, D.lst.injEq, D.tup.injEq, MO.lst.injEq, MO.ins.injEq, List.cons.injEq, Prod.mk.injEq, and_true, true_and, and_assoc, decide_eq_true_eq, Sto.set_same, Sto.set_set, reduceCtorEq, false_and, exists_false, false_or, or_false, ne_eq, not_false_eq_true, exists_eq', Bool.not_true, Bool.not_false, Bool.not_eq_true', decide_eq_false_iff_not, show isiR .bl .str = false from by decide]; exact q
        | int b => cases hty; simp only [x_spr, startD, List.map_cons, List.map_nil, List.length_cons, List.length_nil, Nat.reduceAdd, Nat.reduceSub, Int.reduceLT, Int.reduceLE, Int.reduceToNat,  Int.reducePow, Int.reduceNeg, Nat.reduceLT, Nat.reduceLeDiff, Nat.reducePow, List.replicate_succ, List.replicate_zero, List.cons_append, List.nil_append, sSeq, sIf, sRet, sRetN, sNext, sAsg, sDrop, gNm, gOf, Tg.d, Tg.ds, dVar, dCst, dNil, dCons, dOp, dUn, dChain, dBl, dAnd, dOr, dNot, dIf, dTst, dCall, dCB, dLst, dTup, dM1, gSubD, mkL, dYes, dPart, dSlc, iEnumD, iSeqD, iRng1D, iRng2D, sFor, dLc, wipeD, si_str, si_tup, si_lst, si_cst, x_slcs, x_slct, x_slcl, x_slcc, dFld, sFldD, x_frz, dMake, dMt, x_isref, x_app, x_pop,
  x_lt, x_le, x_gt, x_ge, x_eqi, x_nei, x_eqs, x_nes, x_ner, x_eqr, x_in, x_nin, x_is, x_isnt, x_add, x_adds, x_addt, x_addl, x_sub, x_mul, x_div, x_mod, x_pow, x_neg, x_int, x_abs, x_max, x_min, x_len, len_str, len_tup, len_lst, len_cst, x_idxs, x_idxt, x_idxl, x_idxc, x_idxr, x_isi, ty_str, ty_int, ty_bl, ty_non, ty_tup, ty_lst, ty_cst, ty_ins, tr_bl, tr_int, tr_str, tr_tup, tr_lst, tr_non, x_all, x_ends, x_starts, at_0, at_1, at_2, ix_0, ix_1,
  List.getElem?_cons_zero, List.getElem?_cons_succ, List.getElem?_nil, List.set_cons_zero, List.set_cons_succ, List.set_nil, Option.some.injEq, exists_eq_left', exists_eq_left, exists_and_left, Bool.false_eq_true, if_false, if_true, D.int.injEq, D.bl.injEq, D.ref.injEq, D.str.injEq, D.lst.injEq, D.tup.injEq, MO.lst.injEq, MO.ins.injEq, List.cons.injEq, Prod.mk.injEq, and_true, true_and, and_assoc, decide_eq_true_eq, Sto.set_same, Sto.set_set, reduceCtorEq, false_and, exists_false, false_or, or_false, ne_eq, not_false_eq_true, exists_eq', Bool.not_true, Bool.not_false, Bool.not_eq_true', decide_eq_false_iff_not, show isiR .int .str = false from by decide]; exact q
        | tup b => cases hty; simp only [x_spr, startD, List.map_cons, List.map_nil, List.length_cons, List.length_nil, Nat.reduceAdd, Nat.reduceSub, Int.reduceLT, Int.reduceLE, Int.reduceToNat,  Int.reducePow, Int.reduceNeg, Nat.reduceLT, Nat.reduceLeDiff, Nat.reducePow, List.replicate_succ, List.replicate_zero, List.cons_append, List.nil_append, sSeq, sIf, sRet, sRetN, sNext, sAsg, sDrop, gNm, gOf, Tg.d, Tg.ds, dVar, dCst, dNil, dCons, dOp, dUn, dChain, dBl, dAnd, dOr, dNot, dIf, dTst, dCall, dCB, dLst, dTup, dM1, gSubD, mkL, dYes, dPart, dSlc, iEnumD, iSeqD, iRng1D, iRng2D, sFor, dLc, wipeD, si_str, si_tup, si_lst, si_cst, x_slcs, x_slct, x_slcl, x_slcc, dFld, sFldD, x_frz, dMake, dMt, x_isref, x_app, x_pop,
  x_lt, x_le, x_gt, x_ge, x_eqi, x_nei, x_eqs, x_nes, x_ner, x_eqr, x_in, x_nin, x_is, x_isnt, x_add, x_adds, x_addt, x_addl, x_sub, x_mul, x_div, x_mod, x_pow, x_neg, x_int, x_abs, x_max, x_min, x_len, len_str, len_tup, len_lst, len_cst, x_idxs, x_idxt, x_idxl, x_idxc, x_idxr, x_isi, ty_str, ty_int, ty_bl, ty_non, ty_tup, ty_lst, ty_cst, ty_ins, tr_bl, tr_int, tr_str, tr_tup, tr_lst, tr_non, x_all, x_ends, x_starts, at_0, at_1, at_2, ix_0, ix_1,
  List.getElem?_cons_zero, List.getElem?_cons_succ, List.getElem?_nil, List.set_cons_zero, List.set_cons_succ, List.set_nil, Option.some.injEq, exists_eq_left', exists_eq_left, exists_and_left, Bool.false_eq_true, if_false, if_true, D.int.injEq, D.bl.injEq, D.ref.injEq, D.str.injEq, D.lst.injEq, D.tup.injEq, MO.lst.injEq, MO.ins.injEq, List.cons.injEq, Prod.mk.injEq, and_true, true_and, and_assoc, decide_eq_true_eq, Sto.set_same, Sto.set_set, reduceCtorEq, false_and, exists_false, false_or, or_false, ne_eq, not_false_eq_true, exists_eq', Bool.not_true, Bool.not_false, Bool.not_eq_true', decide_eq_false_iff_not, show isiR .tup .str = false from by decide]; exact q
        | lst b => cases hty; simp only [x_spr, startD, List.map_cons, List.map_nil, List.length_cons, List.length_nil, Nat.reduceAdd, Nat.reduceSub, Int.reduceLT, Int.reduceLE, Int.reduceToNat,  Int.reducePow, Int.reduceNeg, Nat.reduceLT, Nat.reduceLeDiff, Nat.reducePow, List.replicate_succ, List.replicate_zero, List.cons_append, List.nil_append, sSeq, sIf, sRet, sRetN, sNext, sAsg, sDrop, gNm, gOf, Tg.d, Tg.ds, dVar, dCst, dNil, dCons, dOp, dUn, dChain, dBl, dAnd, dOr, dNot, dIf, dTst, dCall, dCB, dLst, dTup, dM1, gSubD, mkL, dYes, dPart, dSlc, iEnumD, iSeqD, iRng1D, iRng2D, sFor, dLc, wipeD, si_str, si_tup, si_lst, si_cst, x_slcs, x_slct, x_slcl, x_slcc, dFld, sFldD, x_frz, dMake, dMt, x_isref, x_app, x_pop,
  x_lt, x_le, x_gt, x_ge, x_eqi, x_nei, x_eqs, x_nes, x_ner, x_eqr, x_in, x_nin, x_is, x_isnt, x_add, x_adds, x_addt, x_addl, x_sub, x_mul, x_div, x_mod, x_pow, x_neg, x_int, x_abs, x_max, x_min, x_len, len_str, len_tup, len_lst, len_cst, x_idxs, x_idxt, x_idxl, x_idxc, x_idxr, x_isi, ty_str, ty_int, ty_bl, ty_non, ty_tup, ty_lst, ty_cst, ty_ins, tr_bl, tr_int, tr_str, tr_tup, tr_lst, tr_non, x_all, x_ends, x_starts, at_0, at_1, at_2, ix_0, ix_1,
  List.getElem?_cons_zero, List.getElem?_cons_succ, List.getElem?_nil, List.set_cons_zero, List.set_cons_succ, List.set_nil, Option.some.injEq, exists_eq_left', exists_eq_left, exists_and_left, Bool.false_eq_true, if_false, if_true, D.int.injEq, D.bl.injEq, D.ref.injEq, D.str.injEq, D.lst.injEq, D.tup.injEq, MO.lst.injEq, MO.ins.injEq, List.cons.injEq, Prod.mk.injEq, and_true, true_and, and_assoc, decide_eq_true_eq, Sto.set_same, Sto.set_set, reduceCtorEq, false_and, exists_false, false_or, or_false, ne_eq, not_false_eq_true, exists_eq', Bool.not_true, Bool.not_false, Bool.not_eq_true', decide_eq_false_iff_not, show isiR .lst .str = false from by decide]; exact q
        | cst b => cases hty; simp only [x_spr, startD, List.map_cons, List.map_nil, List.length_cons, List.length_nil, Nat.reduceAdd, Nat.reduceSub, Int.reduceLT, Int.reduceLE, Int.reduceToNat,  Int.reducePow, Int.reduceNeg, Nat.reduceLT, Nat.reduceLeDiff, Nat.reducePow, List.replicate_succ, List.replicate_zero, List.cons_append, List.nil_append, sSeq, sIf, sRet, sRetN, sNext, sAsg, sDrop, gNm, gOf, Tg.d, Tg.ds, dVar, dCst, dNil, dCons, dOp, dUn, dChain, dBl, dAnd, dOr, dNot, dIf, dTst, dCall, dCB, dLst, dTup, dM1, gSubD, mkL, dYes, dPart, dSlc, iEnumD, iSeqD, iRng1D, iRng2D, sFor, dLc, wipeD, si_str, si_tup, si_lst, si_cst, x_slcs, x_slct, x_slcl, x_slcc, dFld, sFldD, x_frz, dMake, dMt, x_isref, x_app, x_pop,
  x_lt, x_le, x_gt, x_ge, x_eqi, x_nei, x_eqs, x_nes, x_ner, x_eqr, x_in, x_nin, x_is, x_isnt, x_add, x_adds, x_addt, x_addl, x_sub, x_mul, x_div, x_mod, x_pow, x_neg, x_int, x_abs, x_max, x_min, x_len, len_str, len_tup, len_lst, len_cst, x_idxs, x_idxt, x_idxl, x_idxc, x_idxr, x_isi, ty_str, ty_int, ty_bl, ty_non, ty_tup, ty_lst, ty_cst, ty_ins, tr_bl, tr_int, tr_str, tr_tup, tr_lst, tr_non, x_all, x_ends, x_starts, at_0, at_1, at_2, ix_0, ix_1,
  List.getElem?_cons_zero, List.getElem?_cons_succ, List.getElem?_nil, List.set_cons_zero, List.set_cons_succ, List.set_nil, Option.some.injEq, exists_eq_left', exists_eq_left, exists_and_left, Bool.false_eq_true, if_false, if_true, D.int.injEq, D.bl.injEq, D.ref.injEq, D.str.injEq, D.lst.injEq, D.tup.injEq, MO.lst.injEq, MO.ins.injEq, List.cons.injEq, Prod.mk.injEq, and_true, true_and, and_assoc, decide_eq_true_eq, Sto.set_same, Sto.set_set, reduceCtorEq, false_and, exists_false, false_or, or_false, ne_eq, not_false_eq_true, exists_eq', Bool.not_true, Bool.not_false, Bool.not_eq_true', decide_eq_false_iff_not, show isiR .lst .str = false from by decide]; exact q
        | ins C xs => cases hty; simp only [x_spr, startD, List.map_cons, List.map_nil, List.length_cons, List.length_nil, Nat.reduceAdd, Nat.reduceSub, Int.reduceLT, Int.reduceLE, Int.reduceToNat,  Int.reducePow, Int.reduceNeg, Nat.reduceLT, Nat.reduceLeDiff, Nat.reducePow, List.replicate_succ, List.replicate_zero, List.cons_append, List.nil_append, sSeq, sIf, sRet, sRetN, sNext, sAsg, sDrop, gNm, gOf, Tg.d, Tg.ds, dVar, dCst, dNil, dCons, dOp, dUn, dChain, dBl, dAnd, dOr, dNot, dIf, dTst, dCall, dCB, dLst, dTup, dM1, gSubD, mkL, dYes, dPart, dSlc, iEnumD, iSeqD, iRng1D, iRng2D, sFor, dLc, wipeD, si_str, si_tup, si_lst, si_cst, x_slcs, x_slct, x_slcl, x_slcc, dFld, sFldD, x_frz, dMake, dMt, x_isref, x_app, x_pop,
  x_lt, x_le, x_gt, x_ge, x_eqi, x_nei, x_eqs, x_nes, x_ner, x_eqr, x_in, x_nin, x_is, x_isnt, x_add, x_adds, x_addt, x_addl, x_sub, x_mul, x_div, x_mod, x_pow, x_neg, x_int, x_abs, x_max, x_min, x_len, len_str, len_tup, len_lst, len_cst, x_idxs, x_idxt, x_idxl, x_idxc, x_idxr, x_isi, ty_str, ty_int, ty_bl, ty_non, ty_tup, ty_lst, ty_cst, ty_ins, tr_bl, tr_int, tr_str, tr_tup, tr_lst, tr_non, x_all, x_ends, x_starts, at_0, at_1, at_2, ix_0, ix_1,
  List.getElem?_cons_zero, List.getElem?_cons_succ, List.getElem?_nil, List.set_cons_zero, List.set_cons_succ, List.set_nil, Option.some.injEq, exists_eq_left', exists_eq_left, exists_and_left, Bool.false_eq_true, if_false, if_true, D.int.injEq, D.bl.injEq, D.ref.injEq, D.str.injEq, D.lst.injEq, D.tup.injEq, MO.lst.injEq, MO.ins.injEq, List.cons.injEq, Prod.mk.injEq, and_true, true_and, and_assoc, decide_eq_true_eq, Sto.set_same, Sto.set_set, reduceCtorEq, false_and, exists_false, false_or, or_false, ne_eq, not_false_eq_true, exists_eq', Bool.not_true, Bool.not_false, Bool.not_eq_true', decide_eq_false_iff_not, show isiR (.own C) .str = false from rfl]; exact q
        | rp p => exact absurd rfl (hb.1 p)
        | ref _ => cases hty
        | ty _ => cases hty
    | [] => simp only [x_spr, startD, List.map_cons, List.map_nil, List.length_cons, List.length_nil, Nat.reduceAdd, Nat.reduceSub, Int.reduceLT, Int.reduceLE, Int.reduceToNat,  Int.reducePow, Int.reduceNeg, Nat.reduceLT, Nat.reduceLeDiff, Nat.reducePow, List.replicate_succ, List.replicate_zero, List.cons_append, List.nil_append, sSeq, sIf, sRet, sRetN, sNext, sAsg, sDrop, gNm, gOf, Tg.d, Tg.ds, dVar, dCst, dNil, dCons, dOp, dUn, dChain, dBl, dAnd, dOr, dNot, dIf, dTst, dCall, dCB, dLst, dTup, dM1, gSubD, mkL, dYes, dPart, dSlc, iEnumD, iSeqD, iRng1D, iRng2D, sFor, dLc, wipeD, si_str, si_tup, si_lst, si_cst, x_slcs, x_slct, x_slcl, x_slcc, dFld, sFldD, x_frz, dMake, dMt, x_isref, x_app, x_pop,
  x_lt, x_le, x_gt, x_ge, x_eqi, x_nei, x_eqs, x_nes, x_ner, x_eqr, x_in, x_nin, x_is, x_isnt, x_add, x_adds, x_addt, x_addl, x_sub, x_mul, x_div, x_mod, x_pow, x_neg, x_int, x_abs, x_max, x_min, x_len, len_str, len_tup, len_lst, len_cst, x_idxs, x_idxt, x_idxl, x_idxc, x_idxr, x_isi, ty_str, ty_int, ty_bl, ty_non, ty_tup, ty_lst, ty_cst, ty_ins, tr_bl, tr_int, tr_str, tr_tup, tr_lst, tr_non, x_all, x_ends, x_starts, at_0, at_1, at_2, ix_0, ix_1,
  List.getElem?_cons_zero, List.getElem?_cons_succ, List.getElem?_nil, List.set_cons_zero, List.set_cons_succ, List.set_nil, Option.some.injEq, exists_eq_left', exists_eq_left, exists_and_left, Bool.false_eq_true, if_false, if_true, D.int.injEq, D.bl.injEq, D.ref.injEq, D.str.injEq, D.lst.injEq, D.tup.injEq, MO.lst.injEq, MO.ins.injEq, List.cons.injEq, Prod.mk.injEq, and_true, true_and, and_assoc, decide_eq_true_eq, Sto.set_same, Sto.set_set, reduceCtorEq, false_and, exists_false, false_or, or_false, ne_eq, not_false_eq_true, exists_eq', Bool.not_true, Bool.not_false, Bool.not_eq_true', decide_eq_false_iff_not, lk]; exact q
    | [a] => simp only [x_spr, startD, List.map_cons, List.map_nil, List.length_cons, List.length_nil, Nat.reduceAdd, Nat.reduceSub, Int.reduceLT, Int.reduceLE, Int.reduceToNat,  Int.reducePow, Int.reduceNeg, Nat.reduceLT, Nat.reduceLeDiff, Nat.reducePow, List.replicate_succ, List.replicate_zero, List.cons_append, List.nil_append, sSeq, sIf, sRet, sRetN, sNext, sAsg, sDrop, gNm, gOf, Tg.d, Tg.ds, dVar, dCst, dNil, dCons, dOp, dUn, dChain, dBl, dAnd, dOr, dNot, dIf, dTst, dCall, dCB, dLst, dTup, dM1, gSubD, mkL, dYes, dPart, dSlc, iEnumD, iSeqD, iRng1D, iRng2D, sFor, dLc, wipeD, si_str, si_tup, si_lst, si_cst, x_slcs, x_slct, x_slcl, x_slcc, dFld, sFldD, x_frz, dMake, dMt, x_isref, x_app, x_pop,
  x_lt, x_le, x_gt, x_ge, x_eqi, x_nei, x_eqs, x_nes, x_ner, x_eqr, x_in, x_nin, x_is, x_isnt, x_add, x_adds, x_addt, x_addl, x_sub, x_mul, x_div, x_mod, x_pow, x_neg, x_int, x_abs, x_max, x_min, x_len, len_str, len_tup, len_lst, len_cst, x_idxs, x_idxt, x_idxl, x_idxc, x_idxr, x_isi, ty_str, ty_int, ty_bl, ty_non, ty_tup, ty_lst, ty_cst, ty_ins, tr_bl, tr_int, tr_str, tr_tup, tr_lst, tr_non, x_all, x_ends, x_starts, at_0, at_1, at_2, ix_0, ix_1,
  List.getElem?_cons_zero, List.getElem?_cons_succ, List.getElem?_nil, List.set_cons_zero, List.set_cons_succ, List.set_nil, Option.some.injEq, exists_eq_left', exists_eq_left, exists_and_left, Bool.false_eq_true, if_false, if_true, D.int.injEq, D.bl.injEq, D.ref.injEq, D.str.injEq, D.lst.injEq, D.tup.injEq, MO.lst.injEq, MO.ins.injEq, List.cons.injEq, Prod.mk.injEq, and_true, true_and, and_assoc, decide_eq_true_eq, Sto.set_same, Sto.set_set, reduceCtorEq, false_and, exists_false, false_or, or_false, ne_eq, not_false_eq_true, exists_eq', Bool.not_true, Bool.not_false, Bool.not_eq_true', decide_eq_false_iff_not, lk]; exact q
    | a :: b :: c :: r =>
      have h2 : ¬ (((r.length + 1 + 1 + 1 : Nat) : Int) = 2) := by omega
      rw [line_not (by simp)] at q
      simp only [x_spr, startD, List.map_cons, List.map_nil, List.length_cons, List.length_nil, Nat.reduceAdd, Nat.reduceSub, Int.reduceLT, Int.reduceLE, Int.reduceToNat,  Int.reducePow, Int.reduceNeg, Nat.reduceLT, Nat.reduceLeDiff, Nat.reducePow, List.replicate_succ, List.replicate_zero, List.cons_append, List.nil_append, sSeq, sIf, sRet, sRetN, sNext, sAsg, sDrop, gNm, gOf, Tg.d, Tg.ds, dVar, dCst, dNil, dCons, dOp, dUn, dChain, dBl, dAnd, dOr, dNot, dIf, dTst, dCall, dCB, dLst, dTup, dM1, gSubD, mkL, dYes, dPart, dSlc, iEnumD, iSeqD, iRng1D, iRng2D, sFor, dLc, wipeD, si_str, si_tup, si_lst, si_cst, x_slcs, x_slct, x_slcl, x_slcc, dFld, sFldD, x_frz, dMake, dMt, x_isref, x_app, x_pop,
  x_lt, x_le, x_gt, x_ge, x_eqi, x_nei, x_eqs, x_nes, x_ner, x_eqr, x_in, x_nin, x_is, x_isnt, x_add, x_adds, x_addt, x_addl, x_sub, x_mul, x_div, x_mod, x_pow, x_neg, x_int, x_abs, x_max, x_min, x_len, len_str, len_tup, len_lst, len_cst, x_idxs, x_idxt, x_idxl, x_idxc, x_idxr, x_isi, ty_str, ty_int, ty_bl, ty_non, ty_tup, ty_lst, ty_cst, ty_ins, tr_bl, tr_int, tr_str, tr_tup, tr_lst, tr_non, x_all, x_ends, x_starts, at_0, at_1, at_2, ix_0, ix_1,
  List.getElem?_cons_zero, List.getElem?_cons_succ, List.getElem?_nil, List.set_cons_zero, List.set_cons_succ, List.set_nil, Option.some.injEq, exists_eq_left', exists_eq_left, exists_and_left, Bool.false_eq_true, if_false, if_true, D.int.injEq, D.bl.injEq, D.ref.injEq, D.str.injEq, D.lst.injEq, D.tup.injEq, MO.lst.injEq, MO.ins.injEq, List.cons.injEq, Prod.mk.injEq, and_true, true_and, and_assoc, decide_eq_true_eq, Sto.set_same, Sto.set_set, reduceCtorEq, false_and, exists_false, false_or, or_false, ne_eq, not_false_eq_true, exists_eq', Bool.not_true, Bool.not_false, Bool.not_eq_true', decide_eq_false_iff_not, lk, h2]
      exact q
  | non => (have lk := hx.at_ (b := .tup) rfl m_tup); simp only [x_spr, startD, List.map_cons, List.map_nil, List.length_cons, List.length_nil, Nat.reduceAdd, Nat.reduceSub, Int.reduceLT, Int.reduceLE, Int.reduceToNat,  Int.reducePow, Int.reduceNeg, Nat.reduceLT, Nat.reduceLeDiff, Nat.reducePow, List.replicate_succ, List.replicate_zero, List.cons_append, List.nil_append, sSeq, sIf, sRet, sRetN, sNext, sAsg, sDrop, gNm, gOf, Tg.d, Tg.ds, dVar, dCst, dNil, dCons, dOp, dUn, dChain, dBl, dAnd, dOr, dNot, dIf, dTst, dCall, dCB, dLst, dTup, dM1, gSubD, mkL, dYes, dPart, dSlc, iEnumD, iSeqD, iRng1D, iRng2D, sFor, dLc, wipeD, si_str, si_tup, si_lst, si_cst, x_slcs, x_slct, x_slcl, x_slcc, dFld, sFldD, x_frz, dMake, dMt, x_isref, x_app, x_pop,
  x_lt, x_le, x_gt, x_ge, x_eqi, x_nei, x_eqs, x_nes, x_ner, x_eqr, x_in, x_nin, x_is, x_isnt, x_add, x_adds, x_addt, x_addl, x_sub, x_mul, x_div, x_mod, x_pow, x_neg, x_int, x_abs, x_max, x_min, x_len, len_str, len_tup, len_lst, len_cst, x_idxs, x_idxt, x_idxl, x_idxc, x_idxr, x_isi, ty_str, ty_int, ty_bl, ty_non, ty_tup, ty_lst, ty_cst, ty_ins, tr_bl, tr_int, tr_str, tr_tup, tr_lst, tr_non, x_all, x_ends, x_starts, at_0, at_1, at_2, ix_0, ix_1,
  List.getElem?_cons_zero, List.getElem?_cons_succ, List.getElem?_nil, List.set_cons_zero, List.set_cons_succ, List.set_nil, Option.some.injEq, exists_eq_left', exists_eq_left, exists_and_left, Bool.false_eq_true, if_false, if_true, D.int.injEq, D.bl.injEq, D.ref.injEq, D.str.injEq, D.lst.injEq, D.tup.injEq, MO.lst.injEq, MO.ins.injEq, List.cons.injEq, Prod.mk.injEq, and_true, true_and, and_assoc, decide_eq_true_eq, Sto.set_same, Sto.set_set, reduceCtorEq, false_and, exists_false, false_or, or_false, ne_eq, not_false_eq_true, exists_eq', Bool.not_true, Bool.not_false, Bool.not_eq_true', decide_eq_false_iff_not, lk, show isiR .non .tup = false from by decide]; exact q
  | bl b => (have lk := hx.at_ (b := .tup) rfl m_tup); simp only [x_spr, startD, List.map_cons, List.map_nil, List.length_cons, List.length_nil, Nat.reduceAdd, Nat.reduceSub, Int.reduceLT, Int.reduceLE, Int.reduceToNat,  Int.reducePow, Int.reduceNeg, Nat.reduceLT, Nat.reduceLeDiff, Nat.reducePow, List.replicate_succ, List.replicate_zero, List.cons_append, List.nil_append, sSeq, sIf, sRet, sRetN, sNext, sAsg, sDrop, gNm, gOf, Tg.d, Tg.ds, dVar, dCst, dNil, dCons, dOp, dUn, dChain, dBl, dAnd, dOr, dNot, dIf, dTst, dCall, dCB, dLst, dTup, dM1, gSubD, mkL, dYes, dPart, dSlc, iEnumD, iSeqD, iRng1D, iRng2D, sFor, dLc, wipeD, si_str, si_tup, si_lst, si_cst, x_slcs, x_slct, x_slcl, x_slcc, dFld, sFldD, x_frz, dMake, dMt, x_isref, x_app, x_pop,
  x_lt, x_le, x_gt, x_ge, x_eqi, x_nei, x_eqs, x_nes, x_ner, x_eqr, x_in, x_nin, x_is, x_isnt, x_add, x_adds, x_addt, x_addl, x_sub, x_mul, x_div, x_mod, x_pow, x_neg, x_int, x_abs, x_max, x_min, x_len, len_str, len_tup, len_lst, len_cst, x_idxs, x_idxt, x_idxl, x_idxc, x_idxr, x_isi, ty_str, ty_int, ty_bl, ty_non, ty_tup, ty_lst, ty_cst, ty_ins, tr_bl, tr_int, tr_str, tr_tup, tr_lst, tr_non, x_all, x_ends, x_starts, at_0, at_1, at_2, ix_0, ix_1,
  List.getElem?_cons_zero, List.getElem?_cons_succ, List.getElem?_nil, List.set_cons_zero, List.set_cons_succ, List.set_nil, Option.some.injEq, exists_eq_left', exists_eq_left, exists_and_left, Bool.false_eq_true, if_false, if_true, D.int.injEq, D.bl.injEq, D.ref.injEq, D.str.injEq, D.lst.injEq, D.tup.injEq, MO.lst.injEq, MO.ins.injEq, List.cons.injEq, Prod.mk.injEq, and_true, true_and, and_assoc, decide_eq_true_eq, Sto.set_same, Sto.set_set, reduceCtorEq, false_and, exists_false, false_or, or_false, ne_eq, not_false_eq_true, exists_eq', Bool.not_true, Bool.not_false, Bool.not_eq_true', decide_eq_false_iff_not, lk, show isiR .bl .tup = false from by decide]; exact q
  | int b => (have lk := hx.at_ (b := .tup) rfl m_tup); simp only [x_spr, startD, List.map_cons, List.map_nil, List.length_cons, List.length_nil, Nat.reduceAdd, Nat.reduceSub, Int.reduceLT, Int.reduceLE, Int.reduceToNat,  Int.reducePow, Int.reduceNeg, Nat.reduceLT, Nat.reduceLeDiff, Nat.reducePow, List.replicate_succ, List.replicate_zero, List.cons_append, List.nil_append, sSeq, sIf, sRet, sRetN, sNext, sAsg, sDrop, gNm, gOf, Tg.d, Tg.ds, dVar, dCst, dNil, dCons, dOp, dUn, dChain, dBl, dAnd, dOr, dNot, dIf, dTst, dCall, dCB, dLst, dTup, dM1, gSubD, mkL, dYes, dPart, dSlc, iEnumD, iSeqD, iRng1D, iRng2D, sFor, dLc, wipeD, si_str, si_tup, si_lst, si_cst, x_slcs, x_slct, x_slcl, x_slcc, dFld, sFldD, x_frz, dMake, dMt, x_isref, x_app, x_pop,
  x_lt, x_le, x_gt, x_ge, x_eqi, x_nei, x_eqs, x_nes, x_ner, x_eqr, x_in, x_nin, x_is, x_isnt, x_add, x_adds, x_addt, x_addl, x_sub, x_mul, x_div, x_mod, x_pow, x_neg, x_int, x_abs, x_max, x_min, x_len, len_str, len_tup, len_lst, len_cst, x_idxs, x_idxt, x_idxl, x_idxc, x_idxr, x_isi, ty_str, ty_int, ty_bl, ty_non, ty_tup, ty_lst, ty_cst, ty_ins, tr_bl, tr_int, tr_str, tr_tup, tr_lst, tr_non, x_all, x_ends, x_starts, at_0, at_1, at_2, ix_0, ix_1,
  List.getElem?_cons_zero, List.getElem?_cons_succ, List.getElem?_nil, List.set_cons_zero, List.set_cons_succ, List.set_nil, Option.some.injEq, exists_eq_left', exists_eq_left, exists_and_left, Bool.false_eq_true, if_false, if_true, D.int.injEq, D.bl.injEq, D.ref.injEq, D.str.injEq, D.lst.injEq, D.tup.injEq, MO.lst.injEq, MO.ins.injEq, List.cons.injEq, Prod.mk.injEq, and_true, true_and, and_assoc, decide_eq_true_eq, Sto.set_same, Sto.set_set, reduceCtorEq, false_and, exists_false, false_or, or_false, ne_eq, not_false_eq_true, exists_eq', Bool.not_true, Bool.not_false, Bool.not_eq_true', decide_eq_false_iff_not, lk, show isiR .int .tup = false from by decide]; exact q
  | str b => (have lk := hx.at_ (b := .tup) rfl m_tup); simp only [x_spr, startD, List.map_cons, List.map_nil, List.length_cons, List.length_nil, Nat.reduceAdd, Nat.reduceSub, Int.reduceLT, Int.reduceLE, Int.reduceToNat,  Int.reducePow, Int.reduceNeg, Nat.reduceLT, Nat.reduceLeDiff, Nat.reducePow, List.replicate_succ, List.replicate_zero, List.cons_append, List.nil_append, sSeq, sIf, sRet, sRetN, sNext, sAsg, sDrop, gNm, gOf, Tg.d, Tg.ds, dVar, dCst, dNil, dCons, dOp, dUn, dChain, dBl, dAnd, dOr, dNot, dIf, dTst, dCall, dCB, dLst, dTup, dM1, gSubD, mkL, dYes, dPart, dSlc, iEnumD, iSeqD, iRng1D, iRng2D, sFor, dLc, wipeD, si_str, si_tup, si_lst, si_cst, x_slcs, x_slct, x_slcl, x_slcc, dFld, sFldD, x_frz, dMake, dMt, x_isref, x_app, x_pop,
  x_lt, x_le, x_gt, x_ge, x_eqi, x_nei, x_eqs, x_nes, x_ner, x_eqr, x_in, x_nin, x_is, x_isnt, x_add, x_adds, x_addt, x_addl, x_sub, x_mul, x_div, x_mod, x_pow, x_neg, x_int, x_abs, x_max, x_min, x_len, len_str, len_tup, len_lst, len_cst, x_idxs, x_idxt, x_idxl, x_idxc, x_idxr, x_isi, ty_str, ty_int, ty_bl, ty_non, ty_tup, ty_lst, ty_cst, ty_ins, tr_bl, tr_int, tr_str, tr_tup, tr_lst, tr_non, x_all, x_ends, x_starts, at_0, at_1, at_2, ix_0, ix_1,
  List.getElem?_cons_zero, List.getElem?_cons_succ, List.getElem?_nil, List.set_cons_zero, List.set_cons_succ, List.set_nil, Option.some.injEq, exists_eq_left', exists_eq_left, exists_and_left, Bool.false_eq_true, if_false, if_true, D.int.injEq, D.bl.injEq, D.ref.injEq, D.str.injEq, D.lst.injEq, D.tup.injEq, MO.lst.injEq, MO.ins.injEq, List.cons.injEq, Prod.mk.injEq, and_true, true_and, and_assoc, decide_eq_true_eq, Sto.set_same, Sto.set_set, reduceCtorEq, false_and, exists_false, false_or, or_false, ne_eq, not_false_eq_true, exists_eq', Bool.not_true, Bool.not_false, Bool.not_eq_true', decide_eq_false_iff_not, lk, show isiR .str .tup = false from by decide]; exact q
  | lst b => (have lk := hx.at_ (b := .tup) rfl m_tup); simp only [x_spr, startD, List.map_cons, List.map_nil, List.length_cons, List.length_nil, Nat.reduceAdd, Nat.reduceSub, Int.reduceLT, Int.reduceLE, Int.reduceToNat,  Int.reducePow, Int.reduceNeg, Nat.reduceLT, Nat.reduceLeDiff, Nat.reducePow, List.replicate_succ, List.replicate_zero, List.cons_append, List.nil_append, sSeq, sIf, sRet, sRetN, sNext, sAsg, sDrop, gNm, gOf, Tg.d, Tg.ds, dVar, dCst, dNil, dCons, dOp, dUn, dChain, dBl, dAnd, dOr, dNot, dIf, dTst, dCall, dCB, dLst, dTup, dM1, gSubD, mkL, dYes, dPart, dSlc, iEnumD, iSeqD, iRng1D, iRng2D, sFor, dLc, wipeD, si_str, si_tup, si_lst, si_cst, x_slcs, x_slct, x_slcl, x_slcc, dFld, sFldD, x_frz, dMake, dMt, x_isref, x_app, x_pop,
  x_lt, x_le, x_gt, x_ge, x_eqi, x_nei, x_eqs, x_nes, x_ner, x_eqr, x_in, x_nin, x_is, x_isnt, x_add, x_adds, x_addt, x_addl, x_sub, x_mul, x_div, x_mod, x_pow, x_neg, x_int, x_abs, x_max, x_min, x_len, len_str, len_tup, len_lst, len_cst, x_idxs, x_idxt, x_idxl, x_idxc, x_idxr, x_isi, ty_str, ty_int, ty_bl, ty_non, ty_tup, ty_lst, ty_cst, ty_ins, tr_bl, tr_int, tr_str, tr_tup, tr_lst, tr_non, x_all, x_ends, x_starts, at_0, at_1, at_2, ix_0, ix_1,
  List.getElem?_cons_zero, List.getElem?_cons_succ, List.getElem?_nil, List.set_cons_zero, List.set_cons_succ, List.set_nil, Option.some.injEq, exists_eq_left', exists_eq_left, exists_and_left, Bool.false_eq_true, if_false, if_true, D.int.injEq, D.bl.injEq, D.ref.injEq, D.str.injEq, D.lst.injEq, D.tup.injEq, MO.lst.injEq, MO.ins.injEq, List.cons.injEq, Prod.mk.injEq, and_true, true_and, and_assoc, decide_eq_true_eq, Sto.set_same, Sto.set_set, reduceCtorEq, false_and, exists_false, false_or, or_false, ne_eq, not_false_eq_true, exists_eq', Bool.not_true, Bool.not_false, Bool.not_eq_true', decide_eq_false_iff_not, lk, show isiR .lst .tup = false from by decide]; exact q
  | cst b => (have lk := hx.at_ (b := .tup) rfl m_tup); simp only [x_spr, startD, List.map_cons, List.map_nil, List.length_cons, List.length_nil, Nat.reduceAdd, Nat.reduceSub, Int.reduceLT, Int.reduceLE, Int.reduceToNat,  Int.reducePow, Int.reduceNeg, Nat.reduceLT, Nat.reduceLeDiff, Nat.reducePow, List.replicate_succ, List.replicate_zero, List.cons_append, List.nil_append, sSeq, sIf, sRet, sRetN, sNext, sAsg, sDrop, gNm, gOf, Tg.d, Tg.ds, dVar, dCst, dNil, dCons, dOp, dUn, dChain, dBl, dAnd, dOr, dNot, dIf, dTst, dCall, dCB, dLst, dTup, dM1, gSubD, mkL, dYes, dPart, dSlc, iEnumD, iSeqD, iRng1D, iRng2D, sFor, dLc, wipeD, si_str, si_tup, si_lst, si_cst, x_slcs, x_slct, x_slcl, x_slcc, dFld, sFldD, x_frz, dMake, dMt, x_isref, x_app, x_pop,
  x_lt, x_le, x_gt, x_ge, x_eqi, x_nei, x_eqs, x_nes, x_ner, x_eqr, x_in, x_nin, x_is, x_isnt, x_add, x_adds, x_addt, x_addl, x_sub, x_mul, x_div, x_mod, x_pow, x_neg, x_int, x_abs, x_max, x_min, x_len, len_str, len_tup, len_lst, len_cst, x_idxs, x_idxt, x_idxl, x_idxc, x_idxr, x_isi, ty_str, ty_int, ty_bl, ty_non, ty_tup, ty_lst, ty_cst, ty_ins, tr_bl, tr_int, tr_str, tr_tup, tr_lst, tr_non, x_all, x_ends, x_starts, at_0, at_1, at_2, ix_0, ix_1,
  List.getElem?_cons_zero, List.getElem?_cons_succ, List.getElem?_nil, List.set_cons_zero, List.set_cons_succ, List.set_nil, Option.some.injEq, exists_eq_left', exists_eq_left, exists_and_left, Bool.false_eq_true, if_false, if_true, D.int.injEq, D.bl.injEq, D.ref.injEq, D.str.injEq, D.lst.injEq, D.tup.injEq, MO.lst.injEq, MO.ins.injEq, List.cons.injEq, Prod.mk.injEq, and_true, true_and, and_assoc, decide_eq_true_eq, Sto.set_same, Sto.set_set, reduceCtorEq, false_and, exists_false, false_or, or_false, ne_eq, not_false_eq_true, exists_eq', Bool.not_true, Bool.not_false, Bool.not_eq_true', decide_eq_false_iff_not, lk, show isiR .lst .tup = false from by decide]; exact q
  | ins C xs => (have lk := hx.at_ (b := .tup) rfl m_tup); simp only [x_spr, startD, List.map_cons, List.map_nil, List.length_cons, List.length_nil, Nat.reduceAdd, Nat.reduceSub, Int.reduceLT, Int.reduceLE, Int.reduceToNat,  Int.reducePow, Int.reduceNeg, Nat.reduceLT, Nat.reduceLeDiff, Nat.reducePow, List.replicate_succ, List.replicate_zero, List.cons_append, List.nil_append, sSeq, sIf, sRet, sRetN, sNext, sAsg, sDrop, gNm, gOf, Tg.d, Tg.ds, dVar, dCst, dNil, dCons, dOp, dUn, dChain, dBl, dAnd, dOr, dNot, dIf, dTst, dCall, dCB, dLst, dTup, dM1, gSubD, mkL, dYes, dPart, dSlc, iEnumD, iSeqD, iRng1D, iRng2D, sFor, dLc, wipeD, si_str, si_tup, si_lst, si_cst, x_slcs, x_slct, x_slcl, x_slcc, dFld, sFldD, x_frz, dMake, dMt, x_isref, x_app, x_pop,
  x_lt, x_le, x_gt, x_ge, x_eqi, x_nei, x_eqs, x_nes, x_ner, x_eqr, x_in, x_nin, x_is, x_isnt, x_add, x_adds, x_addt, x_addl, x_sub, x_mul, x_div, x_mod, x_pow, x_neg, x_int, x_abs, x_max, x_min, x_len, len_str, len_tup, len_lst, len_cst, x_idxs, x_idxt, x_idxl, x_idxc, x_idxr, x_isi, ty_str, ty_int, ty_bl, ty_non, ty_tup, ty_lst, ty_cst, ty_ins, tr_bl, tr_int, tr_str, tr_tup, tr_lst, tr_non, x_all, x_ends, x_starts, at_0, at_1, at_2, ix_0, ix_1,
  List.getElem?_cons_zero, List.getElem?_cons_succ, List.getElem?_nil, List.set_cons_zero, List.set_cons_succ, List.set_nil, Option.some.injEq, exists_eq_left', exists_eq_left, exists_and_left, Bool.false_eq_true, if_false, if_true, D.int.injEq, D.bl.injEq, D.ref.injEq, D.str.injEq, D.lst.injEq, D.tup.injEq, MO.lst.injEq, MO.ins.injEq, List.cons.injEq, Prod.mk.injEq, and_true, true_and, and_assoc, decide_eq_true_eq, Sto.set_same, Sto.set_set, reduceCtorEq, false_and, exists_false, false_or, or_false, ne_eq, not_false_eq_true, exists_eq', Bool.not_true, Bool.not_false, Bool.not_eq_true', decide_eq_false_iff_not, lk, show isiR (.own C) .tup = false from rfl]; exact q
  | rp p => exact absurd rfl (hx.1 p)
  | ref _ => obtain ⟨_, _, h, _⟩ := hx; cases h
  | ty _ => obtain ⟨_, _, h, _⟩ := hx; cases h
/-- one sign after the other -/
theorem signs_go {R : Nat → Prop} : ∀ (cs : List Nat) (_ : ∀ k ∈ cs, R k), ∃ zs, strsD (cs.map chD) = some zs ∧ zs.length = cs.length ∧ (zs.map (·.length)).sum = cs.length ∧ (Txt.join (Str.ofString "") zs).cps.toList = cs
  | [], _ => ⟨[], rfl, rfl, rfl, by rw [TL.join_eq]; decide +kernel⟩
  | c :: cs, h => by
    obtain ⟨zs, e1, e2, e3, e4⟩ := signs_go cs fun k hk => h k (List.mem_cons_of_mem _ hk)
    refine ⟨⟨#[c]⟩ :: zs, ?_, by simp [e2], ?_, ?_⟩
    · show (strsD (cs.map chD)).map _ = _
      rw [e1]
      rfl
    · rw [List.map_cons, List.sum_cons, e3]
      show 1 + cs.length = cs.length + 1
      omega
    · rw [TL.join_eq] at e4 ⊢
      cases zs with
      | nil =>
        have : cs = [] := List.length_eq_zero_iff.mp (by rw [← e2]; rfl)
        rw [this]
        rfl
      | cons z r =>
        show ((#[c] ++ (Str.ofString "").cps) ++ (Str.join (Str.ofString "") (z :: r)).cps).toList = _
        rw [Array.toList_append, Array.toList_append, e4]
        have : (Str.ofString "").cps.toList = [] := by decide +kernel
        rw [this]
        rfl
theorem app_len (a b : Str) : (a ++ b).length = a.length + b.length := by
  show (a.cps ++ b.cps).size = a.cps.size + b.cps.size
  exact Array.size_append
theorem cut_len (z : Str) (lo hi : Option Int) : (cutS z lo hi).length ≤ z.length := by
  rw [← len_list, cut_list, List.length_take, List.length_drop, len_list]
  omega
theorem word_line {z : Str} (h1 : 1 ≤ z.length) (h2 : (z.length : Int) ≤ 8) (h3 : z.cps.toList.all lowB = true) : isWordS z = true := by
  unfold isWordS
  rw [decide_eq_true h1, decide_eq_true (by omega : z.length ≤ 8), h3]
  rfl

/-! ### the law's words and lines -/
/-- a word that the law draws -/
def GoodW (z : Str) : Prop := 1 ≤ z.length ∧ z.length ≤ 8 ∧ z.cps.toList.all lowB = true
theorem GoodW.word {z : Str} (h : GoodW z) : isWordS z = true := word_line h.1 (by have := h.2.1; omega) h.2.2
def sp__law_words : DSp := fun ds S Q _ => ∃ (p : Addr) (many : Int), ds = [.ref p, .int many] ∧ 0 ≤ many ∧ many ≤ 20 ∧ Bg p S S ∧ ∀ (zs : List Str) S', Bg p S S' → (zs.length : Int) = many → (∀ z ∈ zs, GoodW z) → Q (.lst (zs.map D.str)) S'
theorem low_let : ∀ k ∈ (Str.ofString "abcdefghijklmnopqrstuvwxyz").cps.toList, lowB k = true := by
  rw [let_list]
  intro k hk
  rw [List.mem_range'_1] at hk
  unfold lowB
  rw [decide_eq_true (by omega), decide_eq_true (by omega)]
  rfl
theorem cut_low {z : Str} {lo hi : Option Int} (h : z.cps.toList.all lowB = true) : (cutS z lo hi).cps.toList.all lowB = true := by
  rw [cut_list, List.all_eq_true]
  intro k hk
  exact List.all_eq_true.mp h k (List.mem_of_mem_drop (List.mem_of_mem_take hk))
theorem app_list (a b : Str) : (a ++ b).cps.toList = a.cps.toList ++ b.cps.toList := by
  show (a.cps ++ b.cps).toList = _
  rw [Array.toList_append]
theorem app_low {a b : Str} (h1 : a.cps.toList.all lowB = true) (h2 : b.cps.toList.all lowB = true) : (a ++ b).cps.toList.all lowB = true := by
  rw [app_list, List.all_append, h1, h2]
  rfl
/-- a cut from the front -/
theorem cut_front (z : Str) {n : Int} (h0 : 0 ≤ n) (h1 : n ≤ z.length) : ((cutS z none (some n)).length : Int) = n := by
  have e : (cutS z none (some n)).length = n.toNat := by
    rw [← len_list, cut_list, List.length_take, List.length_drop, len_list]
    show min ((if n < 0 then (n + (z.length : Int)).toNat else min n.toNat z.length) - 0) (z.length - 0) = n.toNat
    rw [if_neg (by omega)]
    omega
  omega
theorem seq_ix {i : Int} {n : Nat} (h0 : 0 ≤ i) (h1 : i < n) : seqIndex? i n = some i.toNat := seqIndex_of h0 h1
theorem cut_back (z : Str) {n : Int} (h0 : 0 ≤ n) (h1 : n ≤ z.length) : ((cutS z (some n) none).length : Int) = z.length - n := by
  have e : (cutS z (some n) none).length = z.length - n.toNat := by
    rw [← len_list, cut_list, List.length_take, List.length_drop, len_list]
    show min (z.length - (if n < 0 then (n + (z.length : Int)).toNat else min n.toNat z.length)) (z.length - (if n < 0 then (n + (z.length : Int)).toNat else min n.toNat z.length)) = z.length - n.toNat
    rw [if_neg (by omega)]
    omega
  omega
theorem er_map {α β : Type} (f : α → β) : ∀ (l : List α) (k : Nat), (l.map f).eraseIdx k = (l.eraseIdx k).map f
  | [], _ => rfl
  | _ :: _, 0 => rfl
  | a :: l, k + 1 => by
    rw [List.map_cons, List.eraseIdx_cons_succ, List.eraseIdx_cons_succ, List.map_cons, er_map f l k]
theorem law_words_ok : ∀ ds S Q E, sp__law_words ds S Q E → bodySp 9 2 (R_law_words sp_draw) ds S Q E := by
  rintro ds S Q E ⟨p, many, ed, h0, h1, bg, q⟩
  subst ed
  unfold R_law_words
  have draw : ∀ (m : Int) (S1 S2 : Sto) (Q1 : DQ) (E1 : DX), 0 < m → m < 2 ^ 64 → Bg p S1 S2 → (∀ r S3, Bg p S2 S3 → 0 ≤ r → r < m → Q1 (.int r) S3) → sp_draw [.ref p, .int m] S2 Q1 E1 :=
    fun m S1 S2 Q1 E1 h0 h1 b k => ⟨p, m, rfl, h0, h1, b.self, fun z S3 b3 => k z S3 b3⟩
  (try simp only [x_spr, startD, List.map_cons, List.map_nil, List.length_cons, List.length_nil, Nat.reduceAdd, Nat.reduceSub, Int.reduceLT, Int.reduceLE, Int.reduceToNat,  Int.reducePow, Int.reduceNeg, Nat.reduceLT, Nat.reduceLeDiff, Nat.reducePow, List.replicate_succ, List.replicate_zero, List.cons_append, List.nil_append, sSeq, sIf, sRet, sRetN, sNext, sAsg, sDrop, gNm, gOf, Tg.d, Tg.ds, dVar, dCst, dNil, dCons, dOp, dUn, dChain, dBl, dAnd, dOr, dNot, dIf, dTst, dCall, dCB, dLst, dTup, dM1, gSubD, mkL, dYes, dPart, dSlc, iEnumD, iSeqD, iRng1D, iRng2D, sFor, dLc, wipeD, si_str, si_tup, si_lst, si_cst, x_slcs, x_slct, x_slcl, x_slcc, dFld, sFldD, x_frz, dMake, dMt, x_isref, x_app, x_pop,
  x_lt, x_le, x_gt, x_ge, x_eqi, x_nei, x_eqs, x_nes, x_ner, x_eqr, x_in, x_nin, x_is, x_isnt, x_add, x_adds, x_addt, x_addl, x_sub, x_mul, x_div, x_mod, x_pow, x_neg, x_int, x_abs, x_max, x_min, x_len, len_str, len_tup, len_lst, len_cst, x_idxs, x_idxt, x_idxl, x_idxc, x_idxr, x_isi, ty_str, ty_int, ty_bl, ty_non, ty_tup, ty_lst, ty_cst, ty_ins, tr_bl, tr_int, tr_str, tr_tup, tr_lst, tr_non, x_all, x_ends, x_starts, at_0, at_1, at_2, ix_0, ix_1,
  List.getElem?_cons_zero, List.getElem?_cons_succ, List.getElem?_nil, List.set_cons_zero, List.set_cons_succ, List.set_nil, Option.some.injEq, exists_eq_left', exists_eq_left, exists_and_left, Bool.false_eq_true, if_false, if_true, D.int.injEq, D.bl.injEq, D.ref.injEq, D.str.injEq, D.lst.injEq, D.tup.injEq, MO.lst.injEq, MO.ins.injEq, List.cons.injEq, Prod.mk.injEq, and_true, true_and, and_assoc, decide_eq_true_eq, Sto.set_same, Sto.set_set, reduceCtorEq, false_and, exists_false, false_or, or_false, ne_eq, not_false_eq_true, exists_eq', Bool.not_true, Bool.not_false, Bool.not_eq_true', decide_eq_false_iff_not, x_ext, sm_lst, sa_lst, sa_tup, sa_cst, x_lists, x_listl, x_listt, x_tupl, x_tupt, io_ins, x_muls, isC, dOpX, dOwn1, dMeth, dCMet, dMakeS, ownCmp, ownL, ownR, ownNe, ownBin, bkAny, bkTru, bkLen, sPar, setAll, zl, Nat.reduceMul])
  intro q1 hq1
  have n1 : q1 ≠ p := bg.ne hq1
  have b1 : Bg p S (S.set q1 (.lst ((Str.ofString "abcdefghijklmnopqrstuvwxyz").cps.toList.map chD))) := bg.new hq1
  intro q2 hq2
  have n2 : q2 ≠ p := b1.ne hq2
  have n21 : q2 ≠ q1 := fun e => by rw [e, Sto.set_same] at hq2; cases hq2
  have b2 := b1.new (o := .lst []) hq2
  have s1 := b1.no hq2
  have hL : ((Str.ofString "abcdefghijklmnopqrstuvwxyz").cps.toList).length = 26 := by decide +kernel
  refine draw 8 S _ _ _ (by decide) (by decide) b2 fun r S3 b3 r0 r1 => ?_
  (try simp only [x_spr, startD, List.map_cons, List.map_nil, List.length_cons, List.length_nil, Nat.reduceAdd, Nat.reduceSub, Int.reduceLT, Int.reduceLE, Int.reduceToNat,  Int.reducePow, Int.reduceNeg, Nat.reduceLT, Nat.reduceLeDiff, Nat.reducePow, List.replicate_succ, List.replicate_zero, List.cons_append, List.nil_append, sSeq, sIf, sRet, sRetN, sNext, sAsg, sDrop, gNm, gOf, Tg.d, Tg.ds, dVar, dCst, dNil, dCons, dOp, dUn, dChain, dBl, dAnd, dOr, dNot, dIf, dTst, dCall, dCB, dLst, dTup, dM1, gSubD, mkL, dYes, dPart, dSlc, iEnumD, iSeqD, iRng1D, iRng2D, sFor, dLc, wipeD, si_str, si_tup, si_lst, si_cst, x_slcs, x_slct, x_slcl, x_slcc, dFld, sFldD, x_frz, dMake, dMt, x_isref, x_app, x_pop,
  x_lt, x_le, x_gt, x_ge, x_eqi, x_nei, x_eqs, x_nes, x_ner, x_eqr, x_in, x_nin, x_is, x_isnt, x_add, x_adds, x_addt, x_addl, x_sub, x_mul, x_div, x_mod, x_pow, x_neg, x_int, x_abs, x_max, x_min, x_len, len_str, len_tup, len_lst, len_cst, x_idxs, x_idxt, x_idxl, x_idxc, x_idxr, x_isi, ty_str, ty_int, ty_bl, ty_non, ty_tup, ty_lst, ty_cst, ty_ins, tr_bl, tr_int, tr_str, tr_tup, tr_lst, tr_non, x_all, x_ends, x_starts, at_0, at_1, at_2, ix_0, ix_1,
  List.getElem?_cons_zero, List.getElem?_cons_succ, List.getElem?_nil, List.set_cons_zero, List.set_cons_succ, List.set_nil, Option.some.injEq, exists_eq_left', exists_eq_left, exists_and_left, Bool.false_eq_true, if_false, if_true, D.int.injEq, D.bl.injEq, D.ref.injEq, D.str.injEq, D.lst.injEq, D.tup.injEq, MO.lst.injEq, MO.ins.injEq, List.cons.injEq, Prod.mk.injEq, and_true, true_and, and_assoc, decide_eq_true_eq, Sto.set_same, Sto.set_set, reduceCtorEq, false_and, exists_false, false_or, or_false, ne_eq, not_false_eq_true, exists_eq', Bool.not_true, Bool.not_false, Bool.not_eq_true', decide_eq_false_iff_not, x_ext, sm_lst, sa_lst, sa_tup, sa_cst, x_lists, x_listl, x_listt, x_tupl, x_tupt, io_ins, x_muls, isC, dOpX, dOwn1, dMeth, dCMet, dMakeS, ownCmp, ownL, ownR, ownNe, ownBin, bkAny, bkTru, bkLen, sPar, setAll, zl, Nat.reduceMul])
  refine ⟨by omega, by omega, lt_line (by rw [rngD_len]; omega), ?_⟩
  have b30 := b2.trans b3
  have k1 : S3 q1 = some (.lst ((Str.ofString "abcdefghijklmnopqrstuvwxyz").cps.toList.map chD)) := b3.off n1 (by rw [Sto.set_ne (Ne.symm n21), Sto.set_same])
  have k2 : S3 q2 = some (.lst []) := b3.off n2 Sto.set_same
  refine lcGo_inv _ (fun i acc S' => Bg p S S' ∧ S' q1 = some (.lst ((Str.ofString "abcdefghijklmnopqrstuvwxyz").cps.toList.map chD)) ∧ S' q2 = some (.lst []) ∧ ∃ cs : List Nat, acc = cs.map chD ∧ cs.length = i ∧ ∀ k ∈ cs, lowB k = true) ⟨b30, k1, k2, [], rfl, rfl, fun _ h => by cases h⟩ ?_ ?_
  · rintro i x acc S4 Kn Ks hg ⟨b4, e1, e2, cs, ea, el, hc⟩ hk _
    (try simp only [x_spr, startD, List.map_cons, List.map_nil, List.length_cons, List.length_nil, Nat.reduceAdd, Nat.reduceSub, Int.reduceLT, Int.reduceLE, Int.reduceToNat,  Int.reducePow, Int.reduceNeg, Nat.reduceLT, Nat.reduceLeDiff, Nat.reducePow, List.replicate_succ, List.replicate_zero, List.cons_append, List.nil_append, sSeq, sIf, sRet, sRetN, sNext, sAsg, sDrop, gNm, gOf, Tg.d, Tg.ds, dVar, dCst, dNil, dCons, dOp, dUn, dChain, dBl, dAnd, dOr, dNot, dIf, dTst, dCall, dCB, dLst, dTup, dM1, gSubD, mkL, dYes, dPart, dSlc, iEnumD, iSeqD, iRng1D, iRng2D, sFor, dLc, wipeD, si_str, si_tup, si_lst, si_cst, x_slcs, x_slct, x_slcl, x_slcc, dFld, sFldD, x_frz, dMake, dMt, x_isref, x_app, x_pop,
  x_lt, x_le, x_gt, x_ge, x_eqi, x_nei, x_eqs, x_nes, x_ner, x_eqr, x_in, x_nin, x_is, x_isnt, x_add, x_adds, x_addt, x_addl, x_sub, x_mul, x_div, x_mod, x_pow, x_neg, x_int, x_abs, x_max, x_min, x_len, len_str, len_tup, len_lst, len_cst, x_idxs, x_idxt, x_idxl, x_idxc, x_idxr, x_isi, ty_str, ty_int, ty_bl, ty_non, ty_tup, ty_lst, ty_cst, ty_ins, tr_bl, tr_int, tr_str, tr_tup, tr_lst, tr_non, x_all, x_ends, x_starts, at_0, at_1, at_2, ix_0, ix_1,
  List.getElem?_cons_zero, List.getElem?_cons_succ, List.getElem?_nil, List.set_cons_zero, List.set_cons_succ, List.set_nil, Option.some.injEq, exists_eq_left', exists_eq_left, exists_and_left, Bool.false_eq_true, if_false, if_true, D.int.injEq, D.bl.injEq, D.ref.injEq, D.str.injEq, D.lst.injEq, D.tup.injEq, MO.lst.injEq, MO.ins.injEq, List.cons.injEq, Prod.mk.injEq, and_true, true_and, and_assoc, decide_eq_true_eq, Sto.set_same, Sto.set_set, reduceCtorEq, false_and, exists_false, false_or, or_false, ne_eq, not_false_eq_true, exists_eq', Bool.not_true, Bool.not_false, Bool.not_eq_true', decide_eq_false_iff_not, x_ext, sm_lst, sa_lst, sa_tup, sa_cst, x_lists, x_listl, x_listt, x_tupl, x_tupt, io_ins, x_muls, isC, dOpX, dOwn1, dMeth, dCMet, dMakeS, ownCmp, ownL, ownR, ownNe, ownBin, bkAny, bkTru, bkLen, sPar, setAll, zl, Nat.reduceMul])
    refine draw 26 S _ _ _ (by decide) (by decide) b4 fun r' S5 b5 z0 z1 => ?_
    have e1' := b5.off n1 e1
    have e2' := b5.off n2 e2
    (try simp only [x_spr, startD, List.map_cons, List.map_nil, List.length_cons, List.length_nil, Nat.reduceAdd, Nat.reduceSub, Int.reduceLT, Int.reduceLE, Int.reduceToNat,  Int.reducePow, Int.reduceNeg, Nat.reduceLT, Nat.reduceLeDiff, Nat.reducePow, List.replicate_succ, List.replicate_zero, List.cons_append, List.nil_append, sSeq, sIf, sRet, sRetN, sNext, sAsg, sDrop, gNm, gOf, Tg.d, Tg.ds, dVar, dCst, dNil, dCons, dOp, dUn, dChain, dBl, dAnd, dOr, dNot, dIf, dTst, dCall, dCB, dLst, dTup, dM1, gSubD, mkL, dYes, dPart, dSlc, iEnumD, iSeqD, iRng1D, iRng2D, sFor, dLc, wipeD, si_str, si_tup, si_lst, si_cst, x_slcs, x_slct, x_slcl, x_slcc, dFld, sFldD, x_frz, dMake, dMt, x_isref, x_app, x_pop,
  x_lt, x_le, x_gt, x_ge, x_eqi, x_nei, x_eqs, x_nes, x_ner, x_eqr, x_in, x_nin, x_is, x_isnt, x_add, x_adds, x_addt, x_addl, x_sub, x_mul, x_div, x_mod, x_pow, x_neg, x_int, x_abs, x_max, x_min, x_len, len_str, len_tup, len_lst, len_cst, x_idxs, x_idxt, x_idxl, x_idxc, x_idxr, x_isi, ty_str, ty_int, ty_bl, ty_non, ty_tup, ty_lst, ty_cst, ty_ins, tr_bl, tr_int, tr_str, tr_tup, tr_lst, tr_non, x_all, x_ends, x_starts, at_0, at_1, at_2, ix_0, ix_1,
  List.getElem?_cons_zero, List.getElem?_cons_succ, List.getElem?_nil, List.set_cons_zero, List.set_cons_succ, List.set_nil, Option.some.injEq, exists_eq_left', exists_eq_left, exists_and_left, Bool.false_eq_true, if_false, if_true, D.int.injEq, D.bl.injEq, D.ref.injEq, D.str.injEq, D.lst.injEq, D.tup.injEq, MO.lst.injEq, MO.ins.injEq, List.cons.injEq, Prod.mk.injEq, and_true, true_and, and_assoc, decide_eq_true_eq, Sto.set_same, Sto.set_set, reduceCtorEq, false_and, exists_false, false_or, or_false, ne_eq, not_false_eq_true, exists_eq', Bool.not_true, Bool.not_false, Bool.not_eq_true', decide_eq_false_iff_not, x_ext, sm_lst, sa_lst, sa_tup, sa_cst, x_lists, x_listl, x_listt, x_tupl, x_tupt, io_ins, x_muls, isC, dOpX, dOwn1, dMeth, dCMet, dMakeS, ownCmp, ownL, ownR, ownNe, ownBin, bkAny, bkTru, bkLen, sPar, setAll, zl, Nat.reduceMul, e1'])
    obtain ⟨d, hd, hm⟩ := at_in (xs := (Str.ofString "abcdefghijklmnopqrstuvwxyz").cps.toList.map chD) z0 (by rw [List.length_map, hL]; exact z1)
    obtain ⟨k, hkm, ek⟩ := List.mem_map.mp hm
    refine ⟨d, hd, hk _ _ ⟨b4.trans b5, e1', e2', cs ++ [k], by rw [ea, List.map_append, ← ek]; rfl, by rw [List.length_append, el]; rfl, fun m hm2 => ?_⟩⟩
    rcases List.mem_append.mp hm2 with h | h
    · exact hc m h
    · rw [List.mem_singleton.mp h]
      exact low_let k hkm
  · rintro acc S4 ⟨b4, e1, e2, cs, ea, el, hc⟩
    subst ea
    rw [rngD_len] at el
    obtain ⟨zs, j1, j2, j3, j4⟩ := signs_go cs hc
    have e0 : (Str.ofString "").length = 0 := by decide +kernel
    rw [x_join j1]
    refine ⟨trivial, by rw [j3, e0]; omega, ?_⟩
    generalize hst : Txt.join (Str.ofString "") zs = stem at j4 ⊢
    have sl : stem.length = r.toNat := by rw [← len_list, j4, el]
    have sw : stem.cps.toList.all lowB = true := by rw [j4, List.all_eq_true]; exact hc
    (try simp only [x_spr, startD, List.map_cons, List.map_nil, List.length_cons, List.length_nil, Nat.reduceAdd, Nat.reduceSub, Int.reduceLT, Int.reduceLE, Int.reduceToNat,  Int.reducePow, Int.reduceNeg, Nat.reduceLT, Nat.reduceLeDiff, Nat.reducePow, List.replicate_succ, List.replicate_zero, List.cons_append, List.nil_append, sSeq, sIf, sRet, sRetN, sNext, sAsg, sDrop, gNm, gOf, Tg.d, Tg.ds, dVar, dCst, dNil, dCons, dOp, dUn, dChain, dBl, dAnd, dOr, dNot, dIf, dTst, dCall, dCB, dLst, dTup, dM1, gSubD, mkL, dYes, dPart, dSlc, iEnumD, iSeqD, iRng1D, iRng2D, sFor, dLc, wipeD, si_str, si_tup, si_lst, si_cst, x_slcs, x_slct, x_slcl, x_slcc, dFld, sFldD, x_frz, dMake, dMt, x_isref, x_app, x_pop,
  x_lt, x_le, x_gt, x_ge, x_eqi, x_nei, x_eqs, x_nes, x_ner, x_eqr, x_in, x_nin, x_is, x_isnt, x_add, x_adds, x_addt, x_addl, x_sub, x_mul, x_div, x_mod, x_pow, x_neg, x_int, x_abs, x_max, x_min, x_len, len_str, len_tup, len_lst, len_cst, x_idxs, x_idxt, x_idxl, x_idxc, x_idxr, x_isi, ty_str, ty_int, ty_bl, ty_non, ty_tup, ty_lst, ty_cst, ty_ins, tr_bl, tr_int, tr_str, tr_tup, tr_lst, tr_non, x_all, x_ends, x_starts, at_0, at_1, at_2, ix_0, ix_1,
  List.getElem?_cons_zero, List.getElem?_cons_succ, List.getElem?_nil, List.set_cons_zero, List.set_cons_succ, List.set_nil, Option.some.injEq, exists_eq_left', exists_eq_left, exists_and_left, Bool.false_eq_true, if_false, if_true, D.int.injEq, D.bl.injEq, D.ref.injEq, D.str.injEq, D.lst.injEq, D.tup.injEq, MO.lst.injEq, MO.ins.injEq, List.cons.injEq, Prod.mk.injEq, and_true, true_and, and_assoc, decide_eq_true_eq, Sto.set_same, Sto.set_set, reduceCtorEq, false_and, exists_false, false_or, or_false, ne_eq, not_false_eq_true, exists_eq', Bool.not_true, Bool.not_false, Bool.not_eq_true', decide_eq_false_iff_not, x_ext, sm_lst, sa_lst, sa_tup, sa_cst, x_lists, x_listl, x_listt, x_tupl, x_tupt, io_ins, x_muls, isC, dOpX, dOwn1, dMeth, dCMet, dMakeS, ownCmp, ownL, ownR, ownNe, ownBin, bkAny, bkTru, bkLen, sPar, setAll, zl, Nat.reduceMul])
    refine draw _ S _ _ _ (by omega) (by omega) b4 fun spot S5 b5 p0 p1 => ?_
    have e1' := b5.off n1 e1
    have e2' := b5.off n2 e2
    (try simp only [x_spr, startD, List.map_cons, List.map_nil, List.length_cons, List.length_nil, Nat.reduceAdd, Nat.reduceSub, Int.reduceLT, Int.reduceLE, Int.reduceToNat,  Int.reducePow, Int.reduceNeg, Nat.reduceLT, Nat.reduceLeDiff, Nat.reducePow, List.replicate_succ, List.replicate_zero, List.cons_append, List.nil_append, sSeq, sIf, sRet, sRetN, sNext, sAsg, sDrop, gNm, gOf, Tg.d, Tg.ds, dVar, dCst, dNil, dCons, dOp, dUn, dChain, dBl, dAnd, dOr, dNot, dIf, dTst, dCall, dCB, dLst, dTup, dM1, gSubD, mkL, dYes, dPart, dSlc, iEnumD, iSeqD, iRng1D, iRng2D, sFor, dLc, wipeD, si_str, si_tup, si_lst, si_cst, x_slcs, x_slct, x_slcl, x_slcc, dFld, sFldD, x_frz, dMake, dMt, x_isref, x_app, x_pop,
  x_lt, x_le, x_gt, x_ge, x_eqi, x_nei, x_eqs, x_nes, x_ner, x_eqr, x_in, x_nin, x_is, x_isnt, x_add, x_adds, x_addt, x_addl, x_sub, x_mul, x_div, x_mod, x_pow, x_neg, x_int, x_abs, x_max, x_min, x_len, len_str, len_tup, len_lst, len_cst, x_idxs, x_idxt, x_idxl, x_idxc, x_idxr, x_isi, ty_str, ty_int, ty_bl, ty_non, ty_tup, ty_lst, ty_cst, ty_ins, tr_bl, tr_int, tr_str, tr_tup, tr_lst, tr_non, x_all, x_ends, x_starts, at_0, at_1, at_2, ix_0, ix_1,
  List.getElem?_cons_zero, List.getElem?_cons_succ, List.getElem?_nil, List.set_cons_zero, List.set_cons_succ, List.set_nil, Option.some.injEq, exists_eq_left', exists_eq_left, exists_and_left, Bool.false_eq_true, if_false, if_true, D.int.injEq, D.bl.injEq, D.ref.injEq, D.str.injEq, D.lst.injEq, D.tup.injEq, MO.lst.injEq, MO.ins.injEq, List.cons.injEq, Prod.mk.injEq, and_true, true_and, and_assoc, decide_eq_true_eq, Sto.set_same, Sto.set_set, reduceCtorEq, false_and, exists_false, false_or, or_false, ne_eq, not_false_eq_true, exists_eq', Bool.not_true, Bool.not_false, Bool.not_eq_true', decide_eq_false_iff_not, x_ext, sm_lst, sa_lst, sa_tup, sa_cst, x_lists, x_listl, x_listt, x_tupl, x_tupt, io_ins, x_muls, isC, dOpX, dOwn1, dMeth, dCMet, dMakeS, ownCmp, ownL, ownR, ownNe, ownBin, bkAny, bkTru, bkLen, sPar, setAll, zl, Nat.reduceMul])
    refine ⟨by omega, by omega, ?_⟩
    refine forGo_inv _ (fun i ρ S' => Bg p S S' ∧ ∃ (ks : List Nat) (zs : List Str) (v4 v7 v8 : Option D), ρ = [some (.ref p), some (.int many), some (.str stem), some (.int spot), v4, some (.ref q1), some (.ref q2), v7, v8] ∧ S' q1 = some (.lst (ks.map chD)) ∧ ks.length + i = 26 ∧ (∀ k ∈ ks, lowB k = true) ∧
      S' q2 = some (.lst (zs.map D.str)) ∧ zs.length = i ∧ ∀ z ∈ zs, GoodW z) ⟨b4.trans b5, _, [], none, none, none, rfl, e1', hL, low_let, e2', rfl, fun _ h => by cases h⟩ ?_ ?_
    · rintro i x ρ S6 Kn hg ⟨b6, ks, zs', v4, v7, v8, eρ, f1, f2, f3, f4, f5, f6⟩ hk
      subst eρ
      have hi : i < many.toNat := by
        have := (List.getElem?_eq_some_iff.mp hg).1
        rwa [rngD_len] at this
      (try simp only [x_spr, startD, List.map_cons, List.map_nil, List.length_cons, List.length_nil, Nat.reduceAdd, Nat.reduceSub, Int.reduceLT, Int.reduceLE, Int.reduceToNat,  Int.reducePow, Int.reduceNeg, Nat.reduceLT, Nat.reduceLeDiff, Nat.reducePow, List.replicate_succ, List.replicate_zero, List.cons_append, List.nil_append, sSeq, sIf, sRet, sRetN, sNext, sAsg, sDrop, gNm, gOf, Tg.d, Tg.ds, dVar, dCst, dNil, dCons, dOp, dUn, dChain, dBl, dAnd, dOr, dNot, dIf, dTst, dCall, dCB, dLst, dTup, dM1, gSubD, mkL, dYes, dPart, dSlc, iEnumD, iSeqD, iRng1D, iRng2D, sFor, dLc, wipeD, si_str, si_tup, si_lst, si_cst, x_slcs, x_slct, x_slcl, x_slcc, dFld, sFldD, x_frz, dMake, dMt, x_isref, x_app, x_pop,
  x_lt, x_le, x_gt, x_ge, x_eqi, x_nei, x_eqs, x_nes, x_ner, x_eqr, x_in, x_nin, x_is, x_isnt, x_add, x_adds, x_addt, x_addl, x_sub, x_mul, x_div, x_mod, x_pow, x_neg, x_int, x_abs, x_max, x_min, x_len, len_str, len_tup, len_lst, len_cst, x_idxs, x_idxt, x_idxl, x_idxc, x_idxr, x_isi, ty_str, ty_int, ty_bl, ty_non, ty_tup, ty_lst, ty_cst, ty_ins, tr_bl, tr_int, tr_str, tr_tup, tr_lst, tr_non, x_all, x_ends, x_starts, at_0, at_1, at_2, ix_0, ix_1,
  List.getElem?_cons_zero, List.getElem?_cons_succ, List.getElem?_nil, List.set_cons_zero, List.set_cons_succ, List.set_nil, Option.some.injEq, exists_eq_left', exists_eq_left, exists_and_left, Bool.false_eq_true, if_false, if_true, D.int.injEq, D.bl.injEq, D.ref.injEq, D.str.injEq, D.lst.injEq, D.tup.injEq, MO.lst.injEq, MO.ins.injEq, List.cons.injEq, Prod.mk.injEq, and_true, true_and, and_assoc, decide_eq_true_eq, Sto.set_same, Sto.set_set, reduceCtorEq, false_and, exists_false, false_or, or_false, ne_eq, not_false_eq_true, exists_eq', Bool.not_true, Bool.not_false, Bool.not_eq_true', decide_eq_false_iff_not, x_ext, sm_lst, sa_lst, sa_tup, sa_cst, x_lists, x_listl, x_listt, x_tupl, x_tupt, io_ins, x_muls, isC, dOpX, dOwn1, dMeth, dCMet, dMakeS, ownCmp, ownL, ownR, ownNe, ownBin, bkAny, bkTru, bkLen, sPar, setAll, zl, Nat.reduceMul, len_ref f1, f1])
      refine draw _ S _ _ _ (by rw [List.length_map]; omega) (by rw [List.length_map]; omega) b6 fun d S7 b7 d0 d1 => ?_
      rw [List.length_map] at d1
      have g1 := b7.off n1 f1
      have g2 := b7.off n2 f4
      have hd : d.toNat < ks.length := by omega
      (try simp only [x_spr, startD, List.map_cons, List.map_nil, List.length_cons, List.length_nil, Nat.reduceAdd, Nat.reduceSub, Int.reduceLT, Int.reduceLE, Int.reduceToNat,  Int.reducePow, Int.reduceNeg, Nat.reduceLT, Nat.reduceLeDiff, Nat.reducePow, List.replicate_succ, List.replicate_zero, List.cons_append, List.nil_append, sSeq, sIf, sRet, sRetN, sNext, sAsg, sDrop, gNm, gOf, Tg.d, Tg.ds, dVar, dCst, dNil, dCons, dOp, dUn, dChain, dBl, dAnd, dOr, dNot, dIf, dTst, dCall, dCB, dLst, dTup, dM1, gSubD, mkL, dYes, dPart, dSlc, iEnumD, iSeqD, iRng1D, iRng2D, sFor, dLc, wipeD, si_str, si_tup, si_lst, si_cst, x_slcs, x_slct, x_slcl, x_slcc, dFld, sFldD, x_frz, dMake, dMt, x_isref, x_app, x_pop,
  x_lt, x_le, x_gt, x_ge, x_eqi, x_nei, x_eqs, x_nes, x_ner, x_eqr, x_in, x_nin, x_is, x_isnt, x_add, x_adds, x_addt, x_addl, x_sub, x_mul, x_div, x_mod, x_pow, x_neg, x_int, x_abs, x_max, x_min, x_len, len_str, len_tup, len_lst, len_cst, x_idxs, x_idxt, x_idxl, x_idxc, x_idxr, x_isi, ty_str, ty_int, ty_bl, ty_non, ty_tup, ty_lst, ty_cst, ty_ins, tr_bl, tr_int, tr_str, tr_tup, tr_lst, tr_non, x_all, x_ends, x_starts, at_0, at_1, at_2, ix_0, ix_1,
  List.getElem?_cons_zero, List.getElem?_cons_succ, List.getElem?_nil, List.set_cons_zero, List.set_cons_succ, List.set_nil, Option.some.injEq, exists_eq_left', exists_eq_left, exists_and_left, Bool.false_eq_true, if_false, if_true, D.int.injEq, D.bl.injEq, D.ref.injEq, D.str.injEq, D.lst.injEq, D.tup.injEq, MO.lst.injEq, MO.ins.injEq, List.cons.injEq, Prod.mk.injEq, and_true, true_and, and_assoc, decide_eq_true_eq, Sto.set_same, Sto.set_set, reduceCtorEq, false_and, exists_false, false_or, or_false, ne_eq, not_false_eq_true, exists_eq', Bool.not_true, Bool.not_false, Bool.not_eq_true', decide_eq_false_iff_not, x_ext, sm_lst, sa_lst, sa_tup, sa_cst, x_lists, x_listl, x_listt, x_tupl, x_tupt, io_ins, x_muls, isC, dOpX, dOwn1, dMeth, dCMet, dMakeS, ownCmp, ownL, ownR, ownNe, ownBin, bkAny, bkTru, bkLen, sPar, setAll, zl, Nat.reduceMul, g1])
      refine ⟨by omega, by omega, d.toNat, seq_ix d0 (by rw [List.length_map]; exact d1), chD ks[d.toNat], by rw [List.getElem?_map, List.getElem?_eq_getElem hd]; rfl, ?_⟩
      have c0 := cut_front stem p0 (by omega)
      have c1 := cut_back stem p0 (by omega)
      have lk : (⟨#[ks[d.toNat]]⟩ : Str).length = 1 := rfl
      have b8 : Bg p S (S7.set q1 (.lst ((ks.map chD).eraseIdx d.toNat))) := (b6.trans b7).wr n1 hq1
      have g2' : (S7.set q1 (.lst ((ks.map chD).eraseIdx d.toNat))) q2 = some (.lst (zs'.map D.str)) := by rw [Sto.set_ne n21]; exact g2
      (try simp only [x_spr, startD, List.map_cons, List.map_nil, List.length_cons, List.length_nil, Nat.reduceAdd, Nat.reduceSub, Int.reduceLT, Int.reduceLE, Int.reduceToNat,  Int.reducePow, Int.reduceNeg, Nat.reduceLT, Nat.reduceLeDiff, Nat.reducePow, List.replicate_succ, List.replicate_zero, List.cons_append, List.nil_append, sSeq, sIf, sRet, sRetN, sNext, sAsg, sDrop, gNm, gOf, Tg.d, Tg.ds, dVar, dCst, dNil, dCons, dOp, dUn, dChain, dBl, dAnd, dOr, dNot, dIf, dTst, dCall, dCB, dLst, dTup, dM1, gSubD, mkL, dYes, dPart, dSlc, iEnumD, iSeqD, iRng1D, iRng2D, sFor, dLc, wipeD, si_str, si_tup, si_lst, si_cst, x_slcs, x_slct, x_slcl, x_slcc, dFld, sFldD, x_frz, dMake, dMt, x_isref, x_app, x_pop,
  x_lt, x_le, x_gt, x_ge, x_eqi, x_nei, x_eqs, x_nes, x_ner, x_eqr, x_in, x_nin, x_is, x_isnt, x_add, x_adds, x_addt, x_addl, x_sub, x_mul, x_div, x_mod, x_pow, x_neg, x_int, x_abs, x_max, x_min, x_len, len_str, len_tup, len_lst, len_cst, x_idxs, x_idxt, x_idxl, x_idxc, x_idxr, x_isi, ty_str, ty_int, ty_bl, ty_non, ty_tup, ty_lst, ty_cst, ty_ins, tr_bl, tr_int, tr_str, tr_tup, tr_lst, tr_non, x_all, x_ends, x_starts, at_0, at_1, at_2, ix_0, ix_1,
  List.getElem?_cons_zero, List.getElem?_cons_succ, List.getElem?_nil, List.set_cons_zero, List.set_cons_succ, List.set_nil, Option.some.injEq, exists_eq_left', exists_eq_left, exists_and_left, Bool.false_eq_true, if_false, if_true, D.int.injEq, D.bl.injEq, D.ref.injEq, D.str.injEq, D.lst.injEq, D.tup.injEq, MO.lst.injEq, MO.ins.injEq, List.cons.injEq, Prod.mk.injEq, and_true, true_and, and_assoc, decide_eq_true_eq, Sto.set_same, Sto.set_set, reduceCtorEq, false_and, exists_false, false_or, or_false, ne_eq, not_false_eq_true, exists_eq', Bool.not_true, Bool.not_false, Bool.not_eq_true', decide_eq_false_iff_not, x_ext, sm_lst, sa_lst, sa_tup, sa_cst, x_lists, x_listl, x_listt, x_tupl, x_tupt, io_ins, x_muls, isC, dOpX, dOwn1, dMeth, dCMet, dMakeS, ownCmp, ownL, ownR, ownNe, ownBin, bkAny, bkTru, bkLen, sPar, setAll, zl, Nat.reduceMul, chD, app_len, g2'])
      refine ⟨lt_line (by omega), lt_line (by omega), ?_⟩
      generalize hW : cutS stem none (some spot) ++ (⟨#[ks[d.toNat]]⟩ : Str) ++ cutS stem (some spot) none = W
      have lW : W.length = stem.length + 1 := by rw [← hW, app_len, app_len]; omega
      have wW : W.cps.toList.all lowB = true := by
        rw [← hW]
        refine app_low (app_low (cut_low sw) ?_) (cut_low sw)
        show (lowB ks[d.toNat] && true) = true
        rw [f3 _ (List.getElem_mem hd)]
        rfl
      refine draw _ S _ _ _ (by omega) (by omega) b8 fun r2 S9 b9 x0 x1 => ?_
      have g2'' := b9.off n2 g2'
      have g1'' := b9.off n1 Sto.set_same
      (try simp only [x_spr, startD, List.map_cons, List.map_nil, List.length_cons, List.length_nil, Nat.reduceAdd, Nat.reduceSub, Int.reduceLT, Int.reduceLE, Int.reduceToNat,  Int.reducePow, Int.reduceNeg, Nat.reduceLT, Nat.reduceLeDiff, Nat.reducePow, List.replicate_succ, List.replicate_zero, List.cons_append, List.nil_append, sSeq, sIf, sRet, sRetN, sNext, sAsg, sDrop, gNm, gOf, Tg.d, Tg.ds, dVar, dCst, dNil, dCons, dOp, dUn, dChain, dBl, dAnd, dOr, dNot, dIf, dTst, dCall, dCB, dLst, dTup, dM1, gSubD, mkL, dYes, dPart, dSlc, iEnumD, iSeqD, iRng1D, iRng2D, sFor, dLc, wipeD, si_str, si_tup, si_lst, si_cst, x_slcs, x_slct, x_slcl, x_slcc, dFld, sFldD, x_frz, dMake, dMt, x_isref, x_app, x_pop,
  x_lt, x_le, x_gt, x_ge, x_eqi, x_nei, x_eqs, x_nes, x_ner, x_eqr, x_in, x_nin, x_is, x_isnt, x_add, x_adds, x_addt, x_addl, x_sub, x_mul, x_div, x_mod, x_pow, x_neg, x_int, x_abs, x_max, x_min, x_len, len_str, len_tup, len_lst, len_cst, x_idxs, x_idxt, x_idxl, x_idxc, x_idxr, x_isi, ty_str, ty_int, ty_bl, ty_non, ty_tup, ty_lst, ty_cst, ty_ins, tr_bl, tr_int, tr_str, tr_tup, tr_lst, tr_non, x_all, x_ends, x_starts, at_0, at_1, at_2, ix_0, ix_1,
  List.getElem?_cons_zero, List.getElem?_cons_succ, List.getElem?_nil, List.set_cons_zero, List.set_cons_succ, List.set_nil, Option.some.injEq, exists_eq_left', exists_eq_left, exists_and_left, Bool.false_eq_true, if_false, if_true, D.int.injEq, D.bl.injEq, D.ref.injEq, D.str.injEq, D.lst.injEq, D.tup.injEq, MO.lst.injEq, MO.ins.injEq, List.cons.injEq, Prod.mk.injEq, and_true, true_and, and_assoc, decide_eq_true_eq, Sto.set_same, Sto.set_set, reduceCtorEq, false_and, exists_false, false_or, or_false, ne_eq, not_false_eq_true, exists_eq', Bool.not_true, Bool.not_false, Bool.not_eq_true', decide_eq_false_iff_not, x_ext, sm_lst, sa_lst, sa_tup, sa_cst, x_lists, x_listl, x_listt, x_tupl, x_tupt, io_ins, x_muls, isC, dOpX, dOwn1, dMeth, dCMet, dMakeS, ownCmp, ownL, ownR, ownNe, ownBin, bkAny, bkTru, bkLen, sPar, setAll, zl, Nat.reduceMul, g2''])
      have cW := cut_front W (n := spot + 1 + r2) (by omega) (by omega)
      refine ⟨by rw [List.length_map, f5]; exact Nat.lt_of_lt_of_le (by omega : i < 100) (lt_line (by omega)), hk _ _ ⟨(b8.trans b9).wr n2 s1, ks.eraseIdx d.toNat, zs' ++ [cutS W none (some (spot + 1 + r2))], _, _, _, rfl, ?_, ?_, ?_, ?_, ?_, ?_⟩⟩
      · rw [Sto.set_ne (Ne.symm n21), g1'', er_map]
      · rw [List.length_eraseIdx_of_lt hd]
        omega
      · exact fun k hk => f3 k (List.mem_of_mem_eraseIdx hk)
      · rw [Sto.set_same, List.map_append]
        rfl
      · rw [List.length_append, f5]
        rfl
      · intro z hz
        rcases List.mem_append.mp hz with h | h
        · exact f6 z h
        · rw [List.mem_singleton.mp h]
          exact ⟨by omega, by omega, cut_low wW⟩
    · rintro ρ S6 ⟨b6, ks, zs', v4, v7, v8, eρ, f1, f2, f3, f4, f5, f6⟩
      subst eρ
      (try simp only [x_spr, startD, List.map_cons, List.map_nil, List.length_cons, List.length_nil, Nat.reduceAdd, Nat.reduceSub, Int.reduceLT, Int.reduceLE, Int.reduceToNat,  Int.reducePow, Int.reduceNeg, Nat.reduceLT, Nat.reduceLeDiff, Nat.reducePow, List.replicate_succ, List.replicate_zero, List.cons_append, List.nil_append, sSeq, sIf, sRet, sRetN, sNext, sAsg, sDrop, gNm, gOf, Tg.d, Tg.ds, dVar, dCst, dNil, dCons, dOp, dUn, dChain, dBl, dAnd, dOr, dNot, dIf, dTst, dCall, dCB, dLst, dTup, dM1, gSubD, mkL, dYes, dPart, dSlc, iEnumD, iSeqD, iRng1D, iRng2D, sFor, dLc, wipeD, si_str, si_tup, si_lst, si_cst, x_slcs, x_slct, x_slcl, x_slcc, dFld, sFldD, x_frz, dMake, dMt, x_isref, x_app, x_pop,
  x_lt, x_le, x_gt, x_ge, x_eqi, x_nei, x_eqs, x_nes, x_ner, x_eqr, x_in, x_nin, x_is, x_isnt, x_add, x_adds, x_addt, x_addl, x_sub, x_mul, x_div, x_mod, x_pow, x_neg, x_int, x_abs, x_max, x_min, x_len, len_str, len_tup, len_lst, len_cst, x_idxs, x_idxt, x_idxl, x_idxc, x_idxr, x_isi, ty_str, ty_int, ty_bl, ty_non, ty_tup, ty_lst, ty_cst, ty_ins, tr_bl, tr_int, tr_str, tr_tup, tr_lst, tr_non, x_all, x_ends, x_starts, at_0, at_1, at_2, ix_0, ix_1,
  List.getElem?_cons_zero, List.getElem?_cons_succ, List.getElem?_nil, List.set_cons_zero, List.set_cons_succ, List.set_nil, Option.some.injEq, exists_eq_left', exists_eq_left, exists_and_left, Bool.false_eq_true, if_false, if_true, D.int.injEq, D.bl.injEq, D.ref.injEq, D.str.injEq, D.lst.injEq, D.tup.injEq, MO.lst.injEq, MO.ins.injEq, List.cons.injEq, Prod.mk.injEq, and_true, true_and, and_assoc, decide_eq_true_eq, Sto.set_same, Sto.set_set, reduceCtorEq, false_and, exists_false, false_or, or_false, ne_eq, not_false_eq_true, exists_eq', Bool.not_true, Bool.not_false, Bool.not_eq_true', decide_eq_false_iff_not, x_ext, sm_lst, sa_lst, sa_tup, sa_cst, x_lists, x_listl, x_listt, x_tupl, x_tupt, io_ins, x_muls, isC, dOpX, dOwn1, dMeth, dCMet, dMakeS, ownCmp, ownL, ownR, ownNe, ownBin, bkAny, bkTru, bkLen, sPar, setAll, zl, Nat.reduceMul])
      rw [rngD_len] at f5
      exact ⟨_, f4, q zs' _ (b6.dl n2 s1) (by omega) f6⟩
/-- a name as the law makes them -/
def GoodN (n : Str) : Prop := n = Str.ofString "" ∨ GoodW n ∨ ∃ w, GoodW w ∧ n = w ++ Str.ofString "!"
/-- a line as the law makes them -/
def GoodL (l : D) : Prop := ∃ k n, l = .tup [.str k, .str n] ∧ GoodW k ∧ GoodN n
theorem cut_app {a b : Str} : cutS (a ++ b) none (some (-(b.length : Int))) = a ∨ b.length = 0 := by
  by_cases h : b.length = 0
  · exact .inr h
  · refine .inl (str_ext ?_)
    rw [cut_list, app_list]
    show (List.drop 0 (a.cps.toList ++ b.cps.toList)).take ((if -(b.length : Int) < 0 then (-(b.length : Int) + ((a ++ b).length : Int)).toNat else min (-(b.length : Int)).toNat (a ++ b).length) - 0) = a.cps.toList
    rw [if_pos (by omega), app_len, List.drop_zero]
    have : (-(b.length : Int) + ((a.length + b.length : Nat) : Int)).toNat - 0 = a.cps.toList.length := by rw [len_list]; omega
    rw [this, List.take_left']
    rfl
theorem GoodN.name {n : Str} (h : GoodN n) : (decide (n = Str.ofString "") || isNameS n) = true := by
  rcases h with h | h | ⟨w, h, e⟩
  · rw [decide_eq_true h, Bool.true_or]
  · rw [name_eq, h.word, Bool.true_or, Bool.or_true]
  · subst e
    have e1 : (Str.ofString "!").length = 1 := by decide +kernel
    have c : cutS (w ++ Str.ofString "!") none (some (-1)) = w := by
      rcases cut_app (a := w) (b := Str.ofString "!") with h | h
      · rw [e1] at h
        exact h
      · rw [e1] at h
        cases h
    have c2 : cutS (w ++ Str.ofString "!") (some (-1)) none = Str.ofString "!" := by
      refine str_ext ?_
      rw [cut_list, app_list]
      show (List.drop (if (-1 : Int) < 0 then ((-1 : Int) + ((w ++ Str.ofString "!").length : Int)).toNat else min (-1 : Int).toNat (w ++ Str.ofString "!").length) (w.cps.toList ++ (Str.ofString "!").cps.toList)).take ((w ++ Str.ofString "!").length - (if (-1 : Int) < 0 then ((-1 : Int) + ((w ++ Str.ofString "!").length : Int)).toNat else min (-1 : Int).toNat (w ++ Str.ofString "!").length)) = _
      rw [if_pos (by decide), app_len, e1]
      have : ((-1 : Int) + ((w.length + 1 : Nat) : Int)).toNat = w.cps.toList.length := by rw [len_list]; omega
      rw [this, List.drop_left' rfl, len_list]
      have : w.length + 1 - w.length = (Str.ofString "!").cps.toList.length := by rw [bang_list]; show _ = 1; omega
      rw [this, List.take_length]
    unfold isNameS
    rw [if_pos c2, c, h.word, Bool.or_true]
abbrev Line := Str × Str
abbrev eLine : Line → D := eP D.str D.str
/-- a line that the laws draw -/
def GdL (l : Line) : Prop := GoodW l.1 ∧ GoodN l.2
theorem GdL.line {l : Line} (h : GdL l) : lineD (eLine l) = true := by
  show (isWordS l.1 && (decide (l.2 = Str.ofString "") || isNameS l.2)) = true
  rw [h.1.word, h.2.name]
  rfl
theorem isok_s {own : Isi} {z : Str} : Isok (isiB ++ own) (.str z) := isok_b rfl (by decide)
theorem isok2_l {own : Isi} {l : Line} : Isok2 (isiB ++ own) (eLine l) := ⟨isok_b rfl (by decide), fun a b e => by
  cases e
  exact ⟨isok_s, isok_s⟩⟩

/-! ### as mirrors -/
def isWordW (T : Isi) (a : D × Unit) : W Bool := fun q _ => Isok T a.1 ∧ q (wordD a.1)
def isNameW (T : Isi) (a : D × Unit) : W Bool := fun q _ => Isok T a.1 ∧ q (nameD a.1)
def isLineW (T : Isi) (a : D × Unit) : W Bool := fun q _ => Isok2 T a.1 ∧ q (lineD a.1)
theorem kp_val {ss : List Sl} {ds : List D} {S : Sto} (vb : ss.all (fun s => match s with | .v _ => true | _ => false) = true) (om : Option MO) : KpG (ss.map some) (ds.map some) S S om := by
  have no : ∀ i s, At (ss.map some) i s → s.own = true → False := fun i s a hs => by
    have := List.all_eq_true.mp vb s (List.mem_of_getElem? (at_map a))
    cases s with
    | v d => cases hs
    | o m => exact Bool.false_ne_true this
    | b => exact Bool.false_ne_true this
  exact ⟨fun p _ _ => ⟨fun ⟨i, a, _⟩ => (no i _ a rfl).elim, fun _ => rfl⟩, fun p m ⟨i, m', a, _⟩ => (no i _ a rfl).elim⟩
theorem one_T {m : D × Unit → W Bool} {g : D → Bool} {P : D → Prop} (hm : ∀ a q x, m a q x → P a.1 ∧ q (g a.1)) {ds : List D} {S : Sto} {Q : DQ} {E : DX} (h : spT (fun (a : D × Unit) => [.v (eD a.1)]) D.bl m ds S Q E) : ∃ x, ds = [x] ∧ P x ∧ Q (.bl (g x)) S := by
  obtain ⟨a, q, x, pre, ed, hl, r, h, kq, _⟩ := h
  rw [List.append_nil] at ed
  subst ed
  match ds, hl with
  | [d0], _ =>
    have v0 : d0 = a.1 := Option.some.inj (Option.some.inj (r.vl 0 _ rfl))
    subst v0
    obtain ⟨h1, h2⟩ := hm a q x h
    exact ⟨_, rfl, h1, kq _ S (kp_val rfl _) h2⟩
theorem is_word_T {T : Isi} {ds : List D} {S : Sto} {Q : DQ} {E : DX} (h : spT (fun (a : D × Unit) => [.v (eD a.1)]) D.bl (isWordW T) ds S Q E) : sp_is_word T ds S Q E := one_T (fun _ _ _ h => h) h
theorem is_name_T {T : Isi} {ds : List D} {S : Sto} {Q : DQ} {E : DX} (h : spT (fun (a : D × Unit) => [.v (eD a.1)]) D.bl (isNameW T) ds S Q E) : sp_is_name T ds S Q E := one_T (fun _ _ _ h => h) h
theorem is_line_T {T : Isi} {ds : List D} {S : Sto} {Q : DQ} {E : DX} (h : spT (fun (a : D × Unit) => [.v (eD a.1)]) D.bl (isLineW T) ds S Q E) : sp_is_line T ds S Q E := one_T (fun _ _ _ h => h) h
/-- drawn words -/
def wordsW (a : Int × Unit) : W (List Str) := fun q _ => (0 ≤ a.1 ∧ a.1 ≤ 20) ∧ ∀ zs : List Str, (zs.length : Int) = a.1 → (∀ z ∈ zs, GoodW z) → q zs
theorem words_T {ds : List D} {S : Sto} {Q : DQ} {E : DX} (h : spT (fun (a : Int × Unit) => [.b, .v (.int a.1)]) (eL D.str) wordsW ds S Q E) : sp__law_words ds S Q E := by
  obtain ⟨a, q, x, pre, ed, hl, r, ⟨⟨h0, h1⟩, hq⟩, kq, _⟩ := h
  rw [List.append_nil] at ed
  subst ed
  match ds, hl with
  | [d0, d1], _ =>
    have v1 : d1 = .int a.1 := Option.some.inj (Option.some.inj (r.vl 1 (.int a.1) rfl))
    obtain ⟨p, hp, hbg⟩ := r.bg 0 rfl
    have v0 : d0 = .ref p := Option.some.inj (Option.some.inj hp)
    subst v0 v1
    obtain ⟨x1, x2, x3, x4⟩ := hbg
    refine ⟨p, a.1, rfl, h0, h1, .refl x4 x3, fun zs S' b hl hg => kq zs S' ?_ (hq zs hl hg)⟩
    refine ⟨fun p' hp' no => ?_, fun p' m ho hm => by cases hm⟩
    have e : BgA [some .b, some (.v (.int a.1))] [some (.ref p), some (.int a.1)] p' ↔ p' = p := by
      constructor
      · rintro ⟨i, a1, b1⟩
        match i, a1, b1 with
        | 0, _, b1 => exact (D.ref.inj (Option.some.inj (Option.some.inj b1))).symm
        | 1, a1, _ => cases a1
      · rintro rfl
        exact ⟨0, rfl, rfl⟩
    refine ⟨fun z => ?_, fun z => b.2 p' (fun y => z (e.mpr y)) hp'⟩
    rw [e.mp z]
    obtain ⟨y1, y2, y3, y4⟩ := b.1
    exact ⟨y1, y2, y3, y4⟩
end DL

namespace DL
open PySem PySem.Spec PyProof.Rows L2

/-! ### isinstance over built-in types -/
theorem isiB_kit {K : PySem.W.Frag} {cA : Nat → Addr} : ∀ a b r, ((a, b), r) ∈ isiB → PySem.W.kitOne K (a.val cA) (b.val cA) = some r := by
  intro a b r h
  unfold isiB at h
  obtain ⟨a', ha, h⟩ := List.mem_flatMap.mp h
  obtain ⟨b', hb, e⟩ := List.mem_map.mp h
  cases e
  simp only [bTys, List.mem_cons, List.not_mem_nil, or_false] at ha hb
  rcases ha with e | e | e | e | e | e | e <;> subst e <;> rcases hb with e | e | e | e | e | e | e <;> subst e <;> exact kit_ty (by decide +kernel)
theorem isiB_own {C : Nat} {b : Ty} {r : Bool} : ((.own C, b), r) ∉ isiB := fun h => by
  unfold isiB at h
  obtain ⟨a', ha, h⟩ := List.mem_flatMap.mp h
  obtain ⟨b', hb, e⟩ := List.mem_map.mp h
  cases e
  simp only [bTys, List.mem_cons, List.not_mem_nil, or_false] at ha
  rcases ha with e | e | e | e | e | e | e <;> cases e
theorem isi_mk2 {c : Cfg} {l : Isi} (h1 : ∀ a b r, ((a, b), r) ∈ l → PySem.W.kitOne c.K (a.val c.cA) (b.val c.cA) = some r) (h2 : ∀ C b r, ((.own C, b), r) ∈ l → ClsOk c.K (c.cA C)) : IsiOk c (isiB ++ l) :=
  isi_mk (fun a b r h => (List.mem_append.mp h).elim (isiB_kit a b r) (h1 a b r)) fun C b r h => (List.mem_append.mp h).elim (fun z => absurd z isiB_own) (h2 C b r)
/-! ### x += y -/
def rIAdd : DR2 := fun x y S Q _ => ∃ i j, x = .int i ∧ y = .int j ∧ Q (.int (i + j)) S
def rISub : DR2 := fun x y S Q _ => ∃ i j, x = .int i ∧ y = .int j ∧ Q (.int (i - j)) S
section
variable {P : Program} {w : World} {K : PySem.W.Frag} {A : Cla} {mg : Str → Option Value} {base : Heap} {N : List Str} {sc : Scope} {fo : Str → Bool} {lv : Nat} {X : Cx} {W : WX} {ex : Expr} {p pos : Pos} {x : Str} {t : DT} {i : Nat}
theorem pip_add : PIp X .Add (liftR2 (cX X A) rIAdd) := fun pins s σ H x y v u Q I r1 r2 ⟨S, L, dx, dy, Qd, so, q1, q2, ⟨i, j, e1, e2, q⟩, kq⟩ => by
  subst e1 e2
  unfold Rep at q1 q2
  exact ip_add pins s σ H x y v u Q I r1 r2 ⟨i, j, q1, q2, kq _ H _ S .refl so (by unfold Rep; rfl) q⟩
theorem pip_sub : PIp X .Sub (liftR2 (cX X A) rISub) := fun pins s σ H x y v u Q I r1 r2 ⟨S, L, dx, dy, Qd, so, q1, q2, ⟨i, j, e1, e2, q⟩, kq⟩ => by
  subst e1 e2
  unfold Rep at q1 q2
  exact ip_sub pins s σ H x y v u Q I r1 r2 ⟨i, j, q1, q2, kq _ H _ S .refl so (by unfold Rep; rfl) q⟩
theorem In.aug {op : Operator} {R : DR2} (h : In P w K mg base N sc fo lv X W) (ck : tgB N sc fo i x = true) (ho : PIp X op (liftR2 (cX X A) R)) (he : DE X A W ex t) : DStm X A W (.AugAssign (.Name x p) op ex pos) (sAug i R t) := by
  obtain ⟨a, b, c, d⟩ := tgB_ok ck
  have := h.eS; subst this
  have := h.eN; subst this
  have := h.eF; subst this
  exact ds_aug a b c he ho d
end
theorem op_iadd : Op2 rIAdd D.int D.int D.int (fun a b q => q (a + b)) := fun a b q S Q E h k => ⟨a, b, rfl, rfl, k _ h⟩
theorem op_isub : Op2 rISub D.int D.int D.int (fun a b q => q (a - b)) := fun a b q S Q E h k => ⟨a, b, rfl, rfl, k _ h⟩
/-! ### the program's own data -/
abbrev Stretch := Int × List Line × List Line
abbrev eStretch : Stretch → D := eP3 D.int (eT eLine) (eT eLine)
def eFile (a : List Line) : D := .ins 0 [eT eLine a]
def eEdit (a : List Stretch) : D := .ins 1 [eT eStretch a]
end DL

namespace DL
open PySem PySem.Spec PyProof.Rows L2

/-! ### rules for mirrors -/
section
variable {α β κ σ τ : Type}
theorem forK_inv {xs : List τ} {a0 : σ} {body : τ → σ → M σ β σ} {nx : σ → Prop} {k : K β κ} (I : List τ → σ → Prop) (h0 : I [] a0)
    (hs : ∀ pre x post a (nx' : σ → Prop), xs = pre ++ x :: post → I pre a → (∀ a', I (pre ++ [x]) a' → nx' a') → body x a nx' ⟨k.rt, nx, nx', k.xx⟩)
    (he : ∀ a, I xs a → nx a) : forK xs a0 body nx k := by
  have gen : ∀ (post pre : List τ) (a : σ), xs = pre ++ post → I pre a → forK post a body nx k := by
    intro post
    induction post with
    | nil =>
      intro pre a e h
      rw [List.append_nil] at e
      subst e
      exact he a h
    | cons x post ih =>
      intro pre a e h
      exact hs pre x post a _ e h fun a' h' => ih (pre ++ [x]) a' (by rw [e, List.append_assoc]; rfl) h'
  exact gen xs [] a0 rfl h0
/-- each turn keeps I -/
theorem forK_keep {xs : List τ} {a0 : σ} {body : τ → σ → M σ β σ} {nx : σ → Prop} {k : K β κ} (I : σ → Prop) (h0 : I a0)
    (hs : ∀ x ∈ xs, ∀ a (nx' : σ → Prop), I a → (∀ a', I a' → nx' a') → body x a nx' ⟨k.rt, nx, nx', k.xx⟩) (he : ∀ a, I a → nx a) : forK xs a0 body nx k :=
  forK_inv (fun _ => I) h0 (fun pre x post a nx' e h k' => hs x (by rw [e]; simp) a nx' h k') he
/-- a loop that is a fold -/
theorem forK_fold {xs : List τ} {a0 : σ} {body : τ → σ → M σ β σ} {nx : σ → Prop} {k : K β κ} (f : σ → τ → σ) (hs : ∀ x ∈ xs, ∀ a (nx' : σ → Prop) (k' : K β σ), nx' (f a x) → body x a nx' k') (he : nx (xs.foldl f a0)) : forK xs a0 body nx k := by
  induction xs generalizing a0 with
  | nil => exact he
  | cons x xs ih => exact hs x (List.mem_cons_self ..) a0 _ _ (ih (fun y hy => hs y (List.mem_cons_of_mem _ hy)) he)
theorem mapK_map {xs : List τ} {f : τ → (β → Prop) → Prop} {q : List β → Prop} (g : τ → β) (h : ∀ x ∈ xs, ∀ q', q' (g x) → f x q') (hq : q (xs.map g)) : mapK xs f q := by
  induction xs generalizing q with
  | nil => exact hq
  | cons x xs ih => exact h x (List.mem_cons_self ..) _ (ih (fun y hy => h y (List.mem_cons_of_mem _ hy)) hq)
theorem mapK_all {xs : List τ} {f : τ → (β → Prop) → Prop} {q : List β → Prop} (P : τ → β → Prop) (h : ∀ x ∈ xs, ∀ q', (∀ y, P x y → q' y) → f x q') (hq : ∀ ys : List β, ys.length = xs.length → (∀ (i : Nat) (x : τ) (y : β), xs[i]? = some x → ys[i]? = some y → P x y) → q ys) : mapK xs f q := by
  induction xs generalizing q with
  | nil => exact hq [] rfl fun i x y hx => by simp at hx
  | cons x xs ih =>
    refine h x (List.mem_cons_self ..) _ fun y hy => ih (fun z hz => h z (List.mem_cons_of_mem _ hz)) fun ys hl hp => hq (y :: ys) (by simp [hl]) fun i x' y' h1 h2 => ?_
    cases i with
    | zero => simp at h1 h2; subst h1 h2; exact hy
    | succ i => exact hp i x' y' (by simpa using h1) (by simpa using h2)
theorem mapK_mem {xs : List τ} {f : τ → (β → Prop) → Prop} {q : List β → Prop} (P : β → Prop) (h : ∀ x ∈ xs, ∀ q', (∀ y, P y → q' y) → f x q') (hq : ∀ ys : List β, ys.length = xs.length → (∀ y ∈ ys, P y) → q ys) : mapK xs f q :=
  mapK_all (fun _ => P) h fun ys hl hp => hq ys hl fun y hy => by
    obtain ⟨i, hi, e⟩ := List.mem_iff_getElem.mp hy
    exact hp i (xs[i]'(by omega)) y (List.getElem?_eq_getElem _) (by rw [List.getElem?_eq_getElem hi, e])
theorem compK_filter {xs : List τ} {c : τ → (Bool → Prop) → Prop} {f : τ → (β → Prop) → Prop} {q : List β → Prop} (p : τ → Bool) (g : τ → β) (hc : ∀ x ∈ xs, ∀ q', q' (p x) → c x q') (h : ∀ x ∈ xs, p x = true → ∀ q', q' (g x) → f x q') (hq : q ((xs.filter p).map g)) : compK xs c f q := by
  induction xs generalizing q with
  | nil => exact hq
  | cons x xs ih =>
    unfold compK
    refine hc x (List.mem_cons_self ..) _ ?_
    cases hp : p x with
    | true =>
      rw [if_pos rfl]
      rw [List.filter_cons_of_pos hp, List.map_cons] at hq
      exact h x (List.mem_cons_self ..) hp _ (ih (fun y hy => hc y (List.mem_cons_of_mem _ hy)) (fun y hy => h y (List.mem_cons_of_mem _ hy)) hq)
    | false =>
      rw [if_neg Bool.false_ne_true]
      rw [List.filter_cons_of_neg (by rw [hp]; exact Bool.false_ne_true)] at hq
      exact ih (fun y hy => hc y (List.mem_cons_of_mem _ hy)) (fun y hy => h y (List.mem_cons_of_mem _ hy)) hq
theorem rng_mem {lo : Int} {n : Nat} {x : Int} (h : x ∈ rng lo n) : lo ≤ x ∧ x < lo + n := by
  obtain ⟨i, hi, e⟩ := List.mem_map.mp h
  have := List.mem_range.mp hi
  omega
theorem rng_len {lo : Int} {n : Nat} : (rng lo n).length = n := by unfold rng; rw [List.length_map, List.length_range]
theorem rng_get {lo : Int} {n i : Nat} {x : Int} (h : (rng lo n)[i]? = some x) : x = lo + i ∧ i < n := by
  unfold rng at h
  rw [List.getElem?_map] at h
  by_cases hi : i < n
  · rw [List.getElem?_range hi] at h
    cases h
    exact ⟨rfl, hi⟩
  · rw [List.getElem?_eq_none (by rw [List.length_range]; omega)] at h
    cases h
theorem rng_succ {lo : Int} {n : Nat} : rng lo (n + 1) = rng lo n ++ [lo + n] := by
  unfold rng
  rw [List.range_succ, List.map_append]
  rfl
/-- an item at a place within -/
theorem idx_in {xs : List α} {i : Int} {q : α → Prop} (h0 : 0 ≤ i) (h1 : i < xs.length) (h : ∀ a, xs[i.toNat]? = some a → a ∈ xs → q a) : idxK xs i q := by
  have hl : i.toNat < xs.length := by omega
  refine ⟨xs[i.toNat], ?_, h _ (List.getElem?_eq_getElem hl) (List.getElem_mem hl)⟩
  unfold atI ixN
  rw [if_pos h0, if_pos h1]
  exact List.getElem?_eq_getElem hl
theorem idx_at {xs : List α} {i : Nat} {a : α} {q : α → Prop} (h : xs[i]? = some a) (hq : q a) : idxK xs (i : Int) q := by
  have hl := (List.getElem?_eq_some_iff.mp h).1
  refine ⟨a, ?_, hq⟩
  unfold atI ixN
  rw [if_pos (by omega), if_pos (by omega)]
  exact h
theorem draw_ok' {n : Int} {q : Int → Prop} {x : XW} (h0 : 0 < n) (h1 : n < 2 ^ 64) (h : ∀ r, 0 ≤ r → r < n → q r) : drawW (n, ()) q x := ⟨⟨h0, h1⟩, h⟩
/-- an item that is drawn -/
theorem draw_idx {xs : List α} {q : α → Prop} {x : XW} (h0 : 0 < xs.length) (h1 : xs.length < 10000) (h : ∀ a ∈ xs, q a) : drawW ((xs.length : Int), ()) (fun i => idxK xs i q) x :=
  draw_ok' (by omega) (by omega) fun r r0 r1 => idx_in r0 r1 fun a _ ha => h a ha
theorem line_sz {n : Nat} (h : n ≤ 1000000) : n ≤ sizeLine := Nat.le_trans h (by decide)
theorem line_lt {n : Nat} (h : n < 1000000) : n < sizeLine := Nat.lt_of_lt_of_le h (by decide)
end
end DL

namespace DL
open PySem PySem.Spec PyProof.Rows L2

/-! ### raise -/
section
variable {α β κ δ : Type} {sg : Sig β κ} {os : OSt}
def raiseK (n : Nat) (m : W α) (f : α → List D) : M δ β κ := fun _ k => m (fun a => k.xx n (f a)) k.xx
theorem s_raise {res : δ → OSt} {n c : Nat} {m : W α} {f : α → List D} (hl : ∀ a, (f a).length = c) (hx : Le sg.osx os) : ImpS (rdS sg os res (raiseK n m f)) (sRaise n c (rdA os f m)) :=
  fun DD ρ S ⟨nx, k, F, g, z, h, kk⟩ => ⟨_, k.xx, g.env, h, fun v S1 k1 h1 => ⟨hl v, kk.xx n _ ρ S1 ((g.kp k1).le hx) h1⟩, fun n ds S1 k1 h1 => kk.xx n ds ρ S1 ((g.kp k1).le hx) h1⟩
/-! ### try .. except C as e: return .. -/
def tryR (n : Nat) (known : Nat → Bool) (mb : M α β κ) (hw : List D → W β) : M α β κ := fun nx k =>
  mb nx { k with xx := fun m ds => known m = true ∧ (m = n → ds ≠ [] ∧ hw ds k.rt X0) ∧ (m ≠ n → k.xx m ds) }
theorem s_tryR {res : α → OSt} {n i : Nat} {known : Nat → Bool} {mb : M α β κ} {hw : List D → W β} (osb : OSt) (l : Le osb os) (hx : Le sg.osx osb) (hp : (i != 0 || !sg.pz) = true) (hr : ∀ b, sg.rr b = none) :
    ImpS (rdS sg os res (tryR n known mb hw)) (sTry i n known (rdS { sg with osx := osb } os res mb) (fun a ds => rdS (⟨sg.eb, sg.rr, sg.rl, [], sg.pz⟩ : Sig β κ) (osb.set i (some (.v (.ref a)))) (fun (e : Empty) => nomatch e) (retK (hw ds)))) :=
  fun DD ρ S ⟨nx, k, F, g, z, h, kk⟩ => ⟨nx, _, F, g, z, h, ⟨kk.nx, kk.rt, kk.bk, kk.ct, fun m ds ρ' S' g' ⟨h0, h1, h2⟩ => ⟨h0, fun e => ⟨(h1 e).1, fun a => ⟨fun _ => False, ⟨k.rt, fun _ => False, fun _ => False, X0⟩, F, g'.set (pz_of hp z), z, (h1 e).2, ⟨(fun a => nomatch a), fun b S2 f p hb => kk.rt b S2 f (fun q m' e1 e2 => by rw [hr] at e2; cases e2) hb, fun _ _ _ _ z => z.elim, fun _ _ _ _ z => z.elim, fun _ _ _ _ _ z => z.elim⟩⟩⟩, fun ne => kk.xx m ds ρ' S' (g'.le hx) (h2 ne)⟩⟩⟩
/-- the field of the error -/
def xfW (fl : List Str) (ds : List D) (f : Str) : W D := fun q _ => ∃ d, (fl.zip ds).lookup f = some d ∧ q d
theorem i_xf {fl : List Str} {ds : List D} {f : Str} {i : Nat} {a : Addr} (hi : At os i (.v (.ref a))) : Imp (rdE os eD (xfW fl ds f)) (dXf i a f fl ds) := fun ρ S Q E ⟨q, x, r, ⟨d, hl, hq⟩, k, kx⟩ =>
  ⟨r.vl i _ hi, d, hl, k d S (.refl r) hq⟩
theorem xf_0 {fl : List Str} {ds : List D} {f : Str} {d : D} {q : D → Prop} {x : XW} (h : q d) : xfW (f :: fl) (d :: ds) f q x := ⟨d, by rw [List.zip_cons_cons, List.lookup_cons, beq_self_eq_true], h⟩
end
end DL

namespace DL
open PySem PySem.Spec PyProof.Rows L2

/-! ### x is True -/
def rIsBl (f : Bool → Bool) : DR2 := fun x y S Q _ => ∃ a b, x = .bl a ∧ y = .bl b ∧ Q (.bl (f (decide (a = b)))) S
section
variable {X : Cx} {A : Cla}
theorem opd_isB : OpD X A (compareOp .Is) (rIsBl id) := fun pins s σ H x y v u Q I rx ry ⟨S, L, dx, dy, Qd, so, r1, r2, ⟨a, b, e1, e2, h⟩, kq⟩ => by
  subst e1 e2
  unfold Rep at r1 r2
  exact op_isBl pins s σ H x y v u Q I rx ry ⟨a, b, r1, r2, kq _ H _ S .refl so (by unfold Rep; rfl) h⟩
theorem opd_isntB : OpD X A (compareOp .IsNot) (rIsBl not) := fun pins s σ H x y v u Q I rx ry ⟨S, L, dx, dy, Qd, so, r1, r2, ⟨a, b, e1, e2, h⟩, kq⟩ => by
  subst e1 e2
  unfold Rep at r1 r2
  exact op_notBl pins s σ H x y v u Q I rx ry ⟨a, b, r1, r2, kq _ H _ S .refl so (by unfold Rep; rfl) h⟩
end
theorem op_isBb : Op2 (rIsBl id) D.bl D.bl D.bl (fun a b q => q (decide (a = b))) := fun a b q S Q E h k => ⟨a, b, rfl, rfl, k _ h⟩
theorem op_isntBb : Op2 (rIsBl not) D.bl D.bl D.bl (fun a b q => q (!decide (a = b))) := fun a b q S Q E h k => ⟨a, b, rfl, rfl, k _ h⟩

/-! ### properties, -x, instances called -/
section
variable {α β κ ω δ : Type} {sg : Sig β κ} {os : OSt}
/-- nothing is raised -/
def nox {α β : Type} (m : α → W β) (c : ω → α) (mo : W ω) : W β := fun q x => mo (fun o => m (c o) q X0) x
theorem i_prop {C : Nat} {eo : ω → D} {mo : W ω} {sl : α → List Sl} {rest : α → List D} {rr : β → Option MO} {eb : β → D} {m : α → W β} (c : ω → α) (hi : ∀ o, ∃ xs, eo o = .ins C xs) (hc : ∀ o, [.v (eo o)] = sl (c o) ++ (rest (c o)).map Sl.v) (vb : ∀ o, (sl (c o)).all Sl.vb = true) :
    Imp (rdE os eb (nox m c mo)) (dProp C (spG sl rest rr eb m) (rdE os eo mo)) := fun ρ S Q E ⟨q, x, r, hm, k, kx⟩ =>
  ⟨_, x, r, hm, fun o S1 k1 h1 => ⟨by obtain ⟨xs, e⟩ := hi o; rw [e]; exact ⟨xs, rfl⟩,
    ask1 (c o) (hc o) (vb o) h1 (fun v S' hs hv => k v S' (k1.trans (kp_same (r.kp k1) hs)) hv) (fun _ _ _ _ z => z.elim)⟩, kx⟩
theorem i_recv {C : Nat} {eo : ω → D} {mo : W ω} {sl : α → List Sl} {rest : α → List D} {rr : β → Option MO} {eb : β → D} {m : α → W β} (c : ω → α) (hi : ∀ o, ∃ xs, eo o = .ins C xs) (hc : ∀ o, [.v (eo o)] = sl (c o) ++ (rest (c o)).map Sl.v) (vb : ∀ o, (sl (c o)).all Sl.vb = true) :
    Imp (rdE os eb (callW mo m c)) (dRecv C (spG sl rest rr eb m) (rdE os eo mo)) := fun ρ S Q E ⟨q, x, r, hm, k, kx⟩ =>
  ⟨_, x, r, hm, fun o S1 k1 h1 => ⟨by obtain ⟨xs, e⟩ := hi o; rw [e]; exact ⟨xs, rfl⟩,
    ask1 (c o) (hc o) (vb o) h1 (fun v S' hs hv => k v S' (k1.trans (kp_same (r.kp k1) hs)) hv) (fun n xs S' hs hx => kx n xs S' (k1.trans (kp_same (r.kp k1) hs)) hx)⟩, kx⟩
theorem i_callO {C : Nat} {eo : ω → D} {mo : W ω} {sl : α → List Sl} {rest : α → List D} {rr : β → Option MO} {eb : β → D} {m : α → W β} {cl : δ → List Sl} {ma : W δ} (c : ω → δ → α) (hi : ∀ o, ∃ xs, eo o = .ins C xs) (hc : ∀ o d, .v (eo o) :: cl d = sl (c o d) ++ (rest (c o d)).map Sl.v) (vb : ∀ o d, (sl (c o d)).all Sl.vb = true) :
    Imp (rdE os eb (methW mo ma m c)) (dCallO C (spG sl rest rr eb m) (rdE os eo mo) (rdB os cl ma)) := fun ρ S Q E ⟨q, x, r, hm, k, kx⟩ =>
  have hi' : ∀ o S, isC S C (eo o) := fun o S => by obtain ⟨xs, e⟩ := hi o; rw [e]; exact ⟨xs, rfl⟩
  ⟨_, x, r, hm, fun o S1 k1 h1 => ⟨hi' o S1, _, x, r.kp k1, h1, fun d ds S2 k2 ha h2 => by
    have k3 := k1.trans k2
    exact ⟨hi' o S2, spG_ask (cl := fun d => .v (eo o) :: cl d) (c o) (hc o) (vb o) (r.kp k3) (d := d) ⟨ds, rfl, ha⟩ h2 (fun v S' kp hv => k v S' (k3.trans kp) hv) (fun n xs S' kp hx => kx n xs S' (k3.trans kp) hx)⟩, fun n ds S2 k2 hx => kx n ds S2 (k1.trans k2) hx⟩, kx⟩
/-- extend by a list or a tuple -/
theorem s_extendA {τ : Type} {e : τ → D} {en : α → D} {f : α → List τ} {xs : List τ} {m : W α} {i : Nat} (hf : ∀ a S, seqM S (en a) = some ((f a).map e) ∨ en a = .tup ((f a).map e)) (hi : At os i (.o (eLo e xs))) (hx : Le sg.osx os) :
    ImpS (rdS sg os (fun v => os.set i (some (.o (eLo e (xs ++ f v))))) (extK m xs.length (fun v => (f v).length))) (sDrop (dMt mExtendA (dVar i) (dCons (rdE os en m) dNil))) :=
  fun DD ρ S ⟨nx, k, F, g, z, h, kk⟩ => by
    obtain ⟨p, hr, hs⟩ := g.env.ob i _ hi
    refine ⟨_, hr, ⟨p, _, rfl, hs⟩, _, k.xx, g.env, h, fun v S1 k1 ⟨hl, h1⟩ => ?_, fun n ds S1 k1 h1 => kk.xx n ds ρ S1 ((g.kp k1).le hx) h1⟩
    obtain ⟨p', hr', hs'⟩ := (g.kp k1).env.ob i _ hi
    have : some (some (D.ref p)) = some (some (D.ref p')) := hr.symm.trans hr'
    cases this
    refine ⟨p, _, _, _, rfl, rfl, hs', hf v S1, by rw [List.length_map, List.length_map]; exact hl, ?_⟩
    have e2 : (MO.lst (xs.map e ++ (f v).map e)) = eLo e (xs ++ f v) := by unfold eLo; rw [List.map_append]
    rw [e2]
    exact kk.nx v ρ _ ((g.kp k1).write hi hr) h1
end
section
variable {P : Program} {w : World} {K : PySem.W.Frag} {A : Cla} {mg : Str → Option Value} {base : Heap} {N : List Str} {sc : Scope} {fo : Str → Bool} {lv : Nat} {X : Cx} {W : WX}
variable {e fe : Expr} {es : List Expr} {p pos : Pos} {x m : Str} {t tf : DT} {ta : DTA} {C k : Nat} {f g q : Addr} {sp : DSp}
theorem In.prop (h : In P w K mg base N sc fo lv X W) (he : DE X A W e t) (c : ClsOk K (A.cA C)) (hp : PropOf K (A.cA C) m q g) (F : FnD P w (cc K A) mg base k g sp) (hk : k + 1 ≤ lv)
    (hab : attributeBase e m X.env (eval e X.env) = eval e X.env := by rfl) : DE X A W (.Attribute e m pos) (dProp C sp t) := by
  have := h.eM; subst this
  have := h.eP; subst this
  have := h.eW; subst this
  have := h.eK; subst this
  have := h.eB; subst this
  exact de_prop he c.cl hp F (h.rm.mono hk) h.tk hab
theorem In.negO (h : In P w K mg base N sc fo lv X W) (he : DE X A W e t) (d : Dn K (A.cA C) "__neg__" g) (F : FnD P w (cc K A) mg base k g sp) (hk : k ≤ lv) : DE X A W (.UnaryOp .USub e pos) (dRecv C sp t) := by
  have := h.eM; subst this
  have := h.eP; subst this
  have := h.eW; subst this
  have := h.eK; subst this
  have := h.eB; subst this
  exact de_negO he d F (h.rm.mono hk) h.tk
theorem In.callO (h : In P w K mg base N sc fo lv X W) (hf : DE X A W fe tf) (c : StX.CallO K (A.cA C) g) (F : FnD P w (cc K A) mg base k g sp) (hk : k ≤ lv) (ha : DA X A W (e :: es) ta)
    (ht : eval (.Call fe (e :: es) [] pos) X.env = (do callWith pos (← eval fe X.env) [] (backTo pos (starEach (e :: es) X.env)) (backToKw pos (keywordEach [] X.env))) := by rfl)
    (he : starEach (e :: es) X.env = (false, eval e X.env) :: starEach es X.env := by rfl) (hpl : (backTo pos (starEach es X.env)).any (·.1) = false := by rfl) : DE X A W (.Call fe (e :: es) [] pos) (dCallO C sp tf ta) := by
  have := h.eM; subst this
  have := h.eP; subst this
  have := h.eW; subst this
  have := h.eK; subst this
  have := h.eB; subst this
  exact de_callO hf c F (h.rm.mono hk) h.tk ha ht he hpl
end
end DL

namespace DL
open PySem PySem.Spec PyProof.Rows L2
open PySem.SeqAt (ltP ltL)
/-! ### x < y for tuples -/
class LtE {α : Type} (e : α → D) (lt : outParam (α → α → Bool)) : Prop where
  ok : ∀ a b, ltP (e a).p (e b).p = some (lt a b)
def ltI (a b : Int) : Bool := decide (a < b)
def ltPr {α β : Type} [DecidableEq α] [DecidableEq β] (l1 : α → α → Bool) (l2 : β → β → Bool) (a b : α × β) : Bool := if a.1 = b.1 then (if a.2 = b.2 then false else l2 a.2 b.2) else l1 a.1 b.1
def ltLs {α : Type} [DecidableEq α] (l : α → α → Bool) : List α → List α → Bool
  | [], [] => false
  | [], _ :: _ => true
  | _ :: _, [] => false
  | x :: xs, y :: ys => if x = y then ltLs l xs ys else l x y
instance : LtE D.int ltI := ⟨fun a b => by unfold D.p ltP; rfl⟩
instance : LtE D.str strLt := ⟨fun a b => by unfold D.p ltP; rfl⟩
theorem ltL_map {α : Type} {e : α → D} {n : Nat} {l : α → α → Bool} [DecidableEq α] [E : EqE e n] [O : LtE e l] : ∀ xs ys : List α, ltL (D.ps (xs.map e)) (D.ps (ys.map e)) = some (ltLs l xs ys)
  | [], [] => by unfold List.map D.ps ltL ltLs; rfl
  | [], y :: ys => by unfold List.map D.ps ltL ltLs; rfl
  | x :: xs, [] => by unfold List.map D.ps ltL ltLs; rfl
  | x :: xs, y :: ys => by
    rw [List.map_cons, List.map_cons]
    unfold D.ps ltL ltLs
    rw [eqv_dec, ltL_map xs ys, O.ok]
    by_cases h : x = y <;> simp [h]
instance {α : Type} {e : α → D} {n : Nat} {l : α → α → Bool} [DecidableEq α] [E : EqE e n] [O : LtE e l] : LtE (eT e) (ltLs l) := ⟨fun a b => by
  unfold eT D.p ltP
  exact ltL_map a b⟩
instance {α β : Type} {e1 : α → D} {e2 : β → D} {n m : Nat} {l1 : α → α → Bool} {l2 : β → β → Bool} [DecidableEq α] [DecidableEq β] [E1 : EqE e1 n] [E2 : EqE e2 m] [O1 : LtE e1 l1] [O2 : LtE e2 l2] : LtE (eP e1 e2) (ltPr l1 l2) := ⟨fun a b => by
  unfold eP D.p ltP D.ps ltL D.ps ltL D.ps ltL ltPr
  rw [eqv_dec, eqv_dec, O1.ok, O2.ok]
  by_cases h : a.1 = b.1
  · by_cases h2 : a.2 = b.2 <;> simp [h, h2]
  · simp [h]⟩
theorem op_ltT {α : Type} {e : α → D} {n : Nat} {l : α → α → Bool} [E : EqE e n] [O : LtE e l] (hn : n ≤ 32 := by decide) : Op2 dLtT e e D.bl (fun a b q => q (l a b)) := fun a b q S Q E' h k =>
  ⟨by rw [dat_view (E.dat a)]; exact dat_up hn (E.dat a), by rw [dat_view (E.dat b)]; exact dat_up hn (E.dat b), l a b, by rw [dat_view (E.dat a), dat_view (E.dat b)]; exact O.ok a b, k _ h⟩
end DL

namespace DL
open PySem PySem.Spec PyProof.Rows L2
theorem w_pu {α : Type} {a : α} {q : α → Prop} {x : XW} : pu a q x ↔ q a := Iff.rfl
theorem w_map {α β : Type} {m : W α} {g : α → β} {q : β → Prop} {x : XW} : mapW m g q x ↔ m (fun a => q (g a)) x := Iff.rfl
theorem w_un {α γ : Type} {m : W α} {f : α → (γ → Prop) → Prop} {q : γ → Prop} {x : XW} : unW m f q x ↔ m (fun a => f a q) x := Iff.rfl
theorem w_op {α β γ : Type} {m1 : W α} {m2 : W β} {f : α → β → (γ → Prop) → Prop} {q : γ → Prop} {x : XW} : opW m1 m2 f q x ↔ m1 (fun a => m2 (fun b => f a b q) x) x := Iff.rfl
theorem w_pair {α β : Type} {m1 : W α} {m2 : W β} {q : (α × β) → Prop} {x : XW} : pairW m1 m2 q x ↔ m1 (fun a => m2 (fun b => q (a, b)) x) x := Iff.rfl
theorem w_ch {α β γ : Type} {m1 : W α} {m2 : W β} {m3 : W γ} {f : α → β → (Bool → Prop) → Prop} {g : β → γ → (Bool → Prop) → Prop} {q : Bool → Prop} {x : XW} : chW m1 m2 m3 f g q x ↔ m1 (fun a => m2 (fun b => f a b (fun k => if k = true then m3 (fun c => g b c q) x else q false)) x) x := Iff.rfl
theorem w_and {m1 m2 : W Bool} {q : Bool → Prop} {x : XW} : andW m1 m2 q x ↔ m1 (fun a => if a = true then m2 q x else q false) x := Iff.rfl
theorem w_or {m1 m2 : W Bool} {q : Bool → Prop} {x : XW} : orW m1 m2 q x ↔ m1 (fun a => if a = true then q true else m2 q x) x := Iff.rfl
theorem w_if {α : Type} {mc : W Bool} {m1 m2 : W α} {q : α → Prop} {x : XW} : ifW mc m1 m2 q x ↔ mc (fun c => if c = true then m1 q x else m2 q x) x := Iff.rfl
theorem w_len {α : Type} {m : W α} {n : α → Nat} {q : α → Prop} {x : XW} : lenW m n q x ↔ m (fun a => n a ≤ sizeLine ∧ q a) x := Iff.rfl
theorem w_rng1 {m : W Int} {q : List Int → Prop} {x : XW} : rng1W m q x ↔ m (fun j => (-(2 ^ 62) ≤ j ∧ j < 2 ^ 62) ∧ q (rng 0 j.toNat)) x := Iff.rfl
theorem w_rng2 {m : W (Int × Int × Unit)} {q : List Int → Prop} {x : XW} : rng2W m q x ↔ m (fun j => (-(2 ^ 62) ≤ j.1 ∧ j.1 < 2 ^ 62 ∧ -(2 ^ 62) ≤ j.2.1 ∧ j.2.1 < 2 ^ 62) ∧ q (rng j.1 (j.2.1 - j.1).toNat)) x := Iff.rfl
theorem w_one {α : Type} {m : W α} {q : (α × Unit) → Prop} {x : XW} : oneW m q x ↔ m (fun a => q (a, ())) x := Iff.rfl
theorem w_two {α β : Type} {m : W α} {m2 : W β} {q : (α × β × Unit) → Prop} {x : XW} : twoW m m2 q x ↔ m (fun a => m2 (fun b => q (a, b, ())) x) x := Iff.rfl
theorem w_lc {τ β : Type} {mi : W (List τ)} {mc : τ → W Bool} {mf : τ → W β} {q : List β → Prop} {x : XW} : lcW mi mc mf q x ↔ mi (fun xs => xs.length ≤ sizeLine ∧ compK xs (fun x k => mc x k X0) (fun x k => mf x k X0) q) x := Iff.rfl
theorem w_lcy {τ β : Type} {mi : W (List τ)} {mf : τ → W β} {q : List β → Prop} {x : XW} : lcyW mi mf q x ↔ mi (fun xs => xs.length ≤ sizeLine ∧ mapK xs (fun x k => mf x k X0) q) x := Iff.rfl
theorem w_call {α β δ : Type} {ma : W δ} {m : α → W β} {c : δ → α} {q : β → Prop} {x : XW} : callW ma m c q x ↔ ma (fun d => m (c d) q x) x := Iff.rfl
theorem w_meth {α β δ ω : Type} {mo : W ω} {ma : W δ} {m : α → W β} {c : ω → δ → α} {q : β → Prop} {x : XW} : methW mo ma m c q x ↔ mo (fun o => ma (fun d => m (c o d) q x) x) x := Iff.rfl
theorem w_slc {α γ : Type} {m : W α} {lo hi : Option (W Int)} {g : α → Option Int → Option Int → γ} {q : γ → Prop} {x : XW} : slcW m lo hi g q x ↔ m (fun a => partW lo (fun l => partW hi (fun h => q (g a l h)) x) x) x := Iff.rfl
theorem w_p0 {q : Option Int → Prop} {x : XW} : partW none q x ↔ q none := Iff.rfl
theorem w_p1 {m : W Int} {q : Option Int → Prop} {x : XW} : partW (some m) q x ↔ m (fun i => q (some i)) x := Iff.rfl
theorem w_p3 {α β γ : Type} {m1 : W α} {m2 : W β} {m3 : W γ} {q : (α × β × γ) → Prop} {x : XW} : p3W m1 m2 m3 q x ↔ m1 (fun a => m2 (fun b => m3 (fun c => q (a, b, c)) x) x) x := Iff.rfl
theorem w_p4 {α β γ δ : Type} {m1 : W α} {m2 : W β} {m3 : W γ} {m4 : W δ} {q : (α × β × γ × δ) → Prop} {x : XW} : p4W m1 m2 m3 m4 q x ↔ m1 (fun a => m2 (fun b => m3 (fun c => m4 (fun d => q (a, b, c, d)) x) x) x) x := Iff.rfl
theorem w_it0 {α : Type} {q : List α → Prop} {x : XW} : itW ([] : List (W α)) q x ↔ q [] := Iff.rfl
theorem w_it1 {α : Type} {m : W α} {ms : List (W α)} {q : List α → Prop} {x : XW} : itW (m :: ms) q x ↔ m (fun a => itW ms (fun as => q (a :: as)) x) x := Iff.rfl
theorem w_opx {α β γ : Type} {m1 : W α} {m2 : W β} {f : α → β → W γ} {q : γ → Prop} {x : XW} : opxW m1 m2 f q x ↔ m1 (fun a => m2 (fun b => f a b q x) x) x := Iff.rfl
theorem w_olen {α ω : Type} {mo : W ω} {m : α → W Int} {c : ω → α} {q : Int → Prop} {x : XW} : olenW mo m c q x ↔ mo (fun o => m (c o) (fun n => (0 ≤ n ∧ n < 2 ^ 63) ∧ q n) x) x := Iff.rfl
theorem w_nox {α β ω : Type} {m : α → W β} {c : ω → α} {mo : W ω} {q : β → Prop} {x : XW} : nox m c mo q x ↔ mo (fun o => m (c o) q X0) x := Iff.rfl
theorem w_sq {α α1 β κ : Type} {A : M α1 β κ} {B : α1 → M α β κ} {nx : α → Prop} {k : K β κ} : sqK A B nx k ↔ A (fun a => B a nx k) k := Iff.rfl
theorem w_end {α β κ : Type} {a : α} {nx : α → Prop} {k : K β κ} : endK a nx k ↔ nx a := Iff.rfl
theorem w_bk {α β κ : Type} {a : κ} {nx : α → Prop} {k : K β κ} : bkK a nx k ↔ k.bk a := Iff.rfl
theorem w_ct {α β κ : Type} {a : κ} {nx : α → Prop} {k : K β κ} : ctK a nx k ↔ k.ct a := Iff.rfl
theorem w_no {α β κ : Type} {nx : α → Prop} {k : K β κ} : noK nx k ↔ False := Iff.rfl
theorem w_ifk {α β κ : Type} {mc : W Bool} {A B : M α β κ} {nx : α → Prop} {k : K β κ} : ifK mc A B nx k ↔ mc (fun c => if c = true then A nx k else B nx k) k.xx := Iff.rfl
theorem w_set {α β κ : Type} {m : W α} {nx : α → Prop} {k : K β κ} : setK m nx k ↔ m nx k.xx := Iff.rfl
theorem w_drop {γ β κ : Type} {m : W γ} {nx : Unit → Prop} {k : K β κ} : dropK m nx k ↔ m (fun _ => nx ()) k.xx := Iff.rfl
theorem w_ret {α β κ : Type} {m : W β} {nx : α → Prop} {k : K β κ} : retK m nx k ↔ m k.rt k.xx := Iff.rfl
theorem w_rt {α β κ : Type} {b : β} {nx : α → Prop} {k : K β κ} : rtK b nx k ↔ k.rt b := Iff.rfl
theorem w_for {σ τ β κ : Type} {mi : W (List τ)} {a : σ} {body : τ → σ → M σ β σ} {nx : σ → Prop} {k : K β κ} : forM mi a body nx k ↔ mi (fun xs => forK xs a body nx k) k.xx := Iff.rfl
theorem w_app {γ β κ : Type} {m : W γ} {n : Nat} {nx : γ → Prop} {k : K β κ} : appK m n nx k ↔ m (fun v => n < sizeLine ∧ nx v) k.xx := Iff.rfl
theorem w_ext {γ β κ : Type} {m : W γ} {n : Nat} {f : γ → Nat} {nx : γ → Prop} {k : K β κ} : extK m n f nx k ↔ m (fun v => n + f v ≤ sizeLine ∧ nx v) k.xx := Iff.rfl
theorem w_sub {τ γ β κ : Type} {m : W γ} {mi : W Int} {xs : List τ} {nx : γ × Nat → Prop} {k : K β κ} : subK m mi xs nx k ↔ m (fun a => mi (fun j => ∃ n, ixN xs.length j = some n ∧ nx (a, n)) k.xx) k.xx := Iff.rfl
theorem w_pop {γ β κ : Type} {mi : W Int} {xs : List γ} {nx : γ × Nat → Prop} {k : K β κ} : popK mi xs nx k ↔ mi (fun n => (-(2 ^ 63) ≤ n ∧ n < 2 ^ 63) ∧ ∃ l a, seqIndex? n xs.length = some l ∧ xs[l]? = some a ∧ nx (a, l)) k.xx := Iff.rfl
theorem w_aug {γ δ β κ : Type} {m : W γ} {f : γ → (δ → Prop) → Prop} {nx : δ → Prop} {k : K β κ} : augK m f nx k ↔ m (fun b => f b nx) k.xx := Iff.rfl
theorem w_bag {β κ : Type} {ma : W (List Int × Int × Unit)} {nx : Unit → Prop} {k : K β κ} : bagK ma nx k ↔ ma (fun a => (a.1.length ≤ 63 ∧ 0 ≤ a.2.1 ∧ a.2.1 < 100) ∧ nx ()) k.xx := Iff.rfl
theorem w_par2 {α γ β κ : Type} {A : W α} {B : W γ} {nx : α × γ → Prop} {k : K β κ} : par2K A B nx k ↔ A (fun a => B (fun b => nx (a, b)) k.xx) k.xx := Iff.rfl
theorem w_par3 {α γ δ β κ : Type} {A : W α} {B : W γ} {C : W δ} {nx : α × γ × δ → Prop} {k : K β κ} : par3K A B C nx k ↔ A (fun a => B (fun b => C (fun c => nx (a, b, c)) k.xx) k.xx) k.xx := Iff.rfl
theorem w_raise {α β κ δ : Type} {n : Nat} {m : W α} {f : α → List D} {nx : δ → Prop} {k : K β κ} : raiseK n m f nx k ↔ m (fun a => k.xx n (f a)) k.xx := Iff.rfl
theorem w_isw {T : Isi} {d : D} {q : Bool → Prop} {x : XW} : isWordW T (d, ()) q x ↔ Isok T d ∧ q (wordD d) := Iff.rfl
theorem w_isn {T : Isi} {d : D} {q : Bool → Prop} {x : XW} : isNameW T (d, ()) q x ↔ Isok T d ∧ q (nameD d) := Iff.rfl
theorem w_isl {T : Isi} {d : D} {q : Bool → Prop} {x : XW} : isLineW T (d, ()) q x ↔ Isok2 T d ∧ q (lineD d) := Iff.rfl
end DL

namespace DL
open PySem PySem.Spec PyProof.Rows L2
/-! ### what is shown of data -/
theorem text_len : ∀ (ts : List Str) (k : Nat) (acc : Str), (textFrom k acc ts).length ≤ acc.length + (ts.map (·.length)).sum + 2 * ts.length
  | [], k, acc => by
    show acc.length ≤ _
    omega
  | t :: r, k, acc => by
    have h := text_len r (k + 1) (acc ++ ((if k > 0 then ", " else "" : String) : Str) ++ t)
    have e : ((if k > 0 then ", " else "" : String) : Str).length ≤ 2 := by split <;> decide +kernel
    rw [app_len, app_len] at h
    rw [List.map_cons, List.sum_cons, List.length_cons]
    show (textFrom (k + 1) (acc ++ ((if k > 0 then ", " else "" : String) : Str) ++ t) r).length ≤ _
    omega
theorem all_shown : ∀ xs : List D, PyData.shownAll (D.ps xs) = xs.map fun x => x.p.shown
  | [] => by unfold D.ps PyData.shownAll; rfl
  | x :: xs => by unfold D.ps PyData.shownAll; rw [all_shown xs]; rfl
theorem sum_le {B : Nat} : ∀ (xs : List D), (∀ x ∈ xs, x.p.shown.length ≤ B) → ((xs.map fun x => x.p.shown).map (·.length)).sum ≤ xs.length * B
  | [], _ => Nat.zero_le _
  | x :: xs, h => by
    have h1 := h x (List.mem_cons_self ..)
    have h2 := sum_le xs fun y hy => h y (List.mem_cons_of_mem _ hy)
    rw [List.map_cons, List.map_cons, List.sum_cons, List.length_cons, Nat.succ_mul]
    omega
theorem list_shown {B : Nat} {xs : List D} (h : ∀ x ∈ xs, x.p.shown.length ≤ B) : (PyData.list (D.ps xs)).shown.length ≤ xs.length * B + 2 * xs.length + 3 := by
  unfold PyData.shown listText
  rw [all_shown]
  have h1 := text_len (xs.map fun x => x.p.shown) 0 "["
  have h2 := sum_le xs h
  have e1 : (("[" : String) : Str).length = 1 := by decide +kernel
  have e2 : (("]" : String) : Str).length = 1 := by decide +kernel
  rw [app_len, e2]
  rw [e1, List.length_map] at h1
  omega
theorem tup_shown {B : Nat} {xs : List D} (h : ∀ x ∈ xs, x.p.shown.length ≤ B) : (PyData.tuple (D.ps xs)).shown.length ≤ xs.length * B + 2 * xs.length + 3 := by
  unfold PyData.shown tupleText
  rw [all_shown]
  have h1 := join_len (Str.ofString ", ") (xs.map fun x => x.p.shown)
  rw [TL.join_eq] at h1
  have h2 := sum_le xs h
  have e1 : (("(" : String) : Str).length = 1 := by decide +kernel
  have e3 : ((", " : String) : Str).length = 2 := by decide +kernel
  have e2 : ((if (xs.map fun x => x.p.shown).length == 1 then ",)" else ")" : String) : Str).length ≤ 2 := by split <;> decide +kernel
  rw [app_len, app_len, e1]
  rw [e3, List.length_map] at h1
  omega
theorem GoodW.shown {z : Str} (h : ∀ c ∈ z.cps.toList, c < 16 ^ 8) {n : Nat} (hl : z.length ≤ n) : (D.str z).p.shown.length ≤ 10 * n + 2 := by
  have := PySem.StrLaws.reprText_len z h
  show (reprText z).length ≤ _
  omega
theorem low_small {z : Str} (h : z.cps.toList.all lowB = true) : ∀ c ∈ z.cps.toList, c < 16 ^ 8 := fun c hc => by
  have := List.all_eq_true.mp h c hc
  unfold lowB at this
  simp only [Bool.and_eq_true, decide_eq_true_eq] at this
  omega
theorem GoodN.small {n : Str} (h : GoodN n) : n.length ≤ 9 ∧ ∀ c ∈ n.cps.toList, c < 16 ^ 8 := by
  have e1 : (Str.ofString "!").length = 1 := by decide +kernel
  rcases h with h | h | ⟨w, h, e⟩
  · subst h
    have : (Str.ofString "").cps.toList = [] := by decide +kernel
    exact ⟨by decide +kernel, fun c hc => by rw [this] at hc; cases hc⟩
  · exact ⟨by have := h.2.1; omega, low_small h.2.2⟩
  · subst e
    refine ⟨by rw [app_len, e1]; have := h.2.1; omega, fun c hc => ?_⟩
    rw [app_list, bang_list] at hc
    rcases List.mem_append.mp hc with hc | hc
    · exact low_small h.2.2 c hc
    · rw [List.mem_singleton.mp hc]
      decide
theorem GoodL.facts {l : D} (h : GoodL l) : l.dat 1 = true ∧ l.p.showable = true ∧ l.p.shown.length ≤ 300 := by
  obtain ⟨k, n, e, hk, hn⟩ := h
  subst e
  refine ⟨rfl, rfl, ?_⟩
  have := tup_shown (B := 92) (xs := [.str k, .str n]) fun x hx => by
    simp only [List.mem_cons, List.not_mem_nil, or_false] at hx
    rcases hx with h | h
    · subst h
      exact Nat.le_trans (GoodW.shown (low_small hk.2.2) hk.2.1) (by decide)
    · subst h
      exact GoodW.shown hn.small.2 hn.small.1
  exact Nat.le_trans this (by show 2 * 92 + 2 * 2 + 3 ≤ 300; decide)
theorem all_showable : ∀ xs : List D, (∀ x ∈ xs, x.p.showable = true) → PyData.showableAll (D.ps xs) = true
  | [], _ => by unfold D.ps PyData.showableAll; rfl
  | x :: xs, h => by
    unfold D.ps PyData.showableAll
    rw [h x (List.mem_cons_self ..), all_showable xs fun y hy => h y (List.mem_cons_of_mem _ hy)]
    rfl

theorem int_shown : ∀ n : Nat, n < 1001 → (PyData.shown (.int (n : Int))).length ≤ 100 := by decide +kernel
/-- data that can be shown: their depth, the length of their text -/
structure Sh (n B : Nat) (d : D) : Prop where
  dat : d.dat n = true
  able : d.p.showable = true
  len : d.p.shown.length ≤ B
theorem Sh.up {n m B C : Nat} {d : D} (h : Sh n B d) (hn : n ≤ m) (hB : B ≤ C) : Sh m C d := ⟨dat_up hn h.dat, h.able, Nat.le_trans h.len hB⟩
theorem sh_non : Sh 0 10 .non := ⟨rfl, rfl, by decide +kernel⟩
theorem sh_bl {b : Bool} : Sh 0 10 (.bl b) := ⟨rfl, rfl, by cases b <;> decide +kernel⟩
theorem log_ok : ∀ n : Nat, n < 1001 → n.log2 < 1920 := by decide +kernel
theorem sh_nat {i : Int} (h0 : 0 ≤ i) (h1 : i ≤ 1000) : Sh 0 100 (.int i) := by
  refine ⟨rfl, ?_, ?_⟩
  · unfold D.p PyData.showable
    exact decide_eq_true (log_ok i.natAbs (by omega))
  · have := int_shown i.toNat (by omega)
    rw [Int.toNat_of_nonneg h0] at this
    exact this
theorem sh_lst {n B : Nat} {xs : List D} (h : ∀ x ∈ xs, Sh n B x) : Sh (n + 1) (xs.length * B + 2 * xs.length + 3) (.lst xs) :=
  ⟨List.all_eq_true.mpr fun x hx => (h x hx).dat, by unfold D.p PyData.showable; exact all_showable xs fun x hx => (h x hx).able, list_shown fun x hx => (h x hx).len⟩
theorem sh_tup {n B : Nat} {xs : List D} (h : ∀ x ∈ xs, Sh n B x) : Sh (n + 1) (xs.length * B + 2 * xs.length + 3) (.tup xs) :=
  ⟨List.all_eq_true.mpr fun x hx => (h x hx).dat, by unfold D.p PyData.showable; exact all_showable xs fun x hx => (h x hx).able, tup_shown fun x hx => (h x hx).len⟩
theorem sh_line {l : Line} (h : GdL l) : Sh 1 300 (eLine l) := by
  have : GoodL (eLine l) := ⟨l.1, l.2, rfl, h.1, h.2⟩
  exact ⟨this.facts.1, this.facts.2.1, this.facts.2.2⟩
theorem shL {α : Type} {e : α → D} {n B N : Nat} {xs : List α} (h : ∀ x ∈ xs, Sh n B (e x)) (hN : xs.length ≤ N) : Sh (n + 1) (N * B + 2 * N + 3) (eL e xs) := by
  have := sh_lst (n := n) (B := B) (xs := xs.map e) fun y hy => by
    obtain ⟨x, hx, e1⟩ := List.mem_map.mp hy
    subst e1
    exact h x hx
  rw [List.length_map] at this
  exact this.up (Nat.le_refl _) (by have := Nat.mul_le_mul_right B hN; omega)
theorem shT {α : Type} {e : α → D} {n B N : Nat} {xs : List α} (h : ∀ x ∈ xs, Sh n B (e x)) (hN : xs.length ≤ N) : Sh (n + 1) (N * B + 2 * N + 3) (eT e xs) := by
  have := sh_tup (n := n) (B := B) (xs := xs.map e) fun y hy => by
    obtain ⟨x, hx, e1⟩ := List.mem_map.mp hy
    subst e1
    exact h x hx
  rw [List.length_map] at this
  exact this.up (Nat.le_refl _) (by have := Nat.mul_le_mul_right B hN; omega)
theorem Sh.shwL {α : Type} {e : α → D} {n B : Nat} {xs : List α} (h : Sh n B (eL e xs)) (hn : n ≤ 16) (hB : B ≤ 16000000) : Shw (eL e xs) := ⟨dat_up hn h.dat, h.able, Nat.le_trans h.len (Nat.le_trans hB (by decide))⟩
theorem Sh.shw {n B : Nat} {d : D} (h : Sh n B d) (hn : n ≤ 16) (hB : B ≤ 16000000) : Shw d := ⟨dat_up hn h.dat, h.able, Nat.le_trans h.len (Nat.le_trans hB (by decide))⟩
theorem Sh.shwA {n B : Nat} {d : D} (h : Sh n B d) (hn : n ≤ 16) (hB : B ≤ 16000000) (hc : ∀ xs, d ≠ .cst xs := by intro _ e; cases e) : ShwA d := by
  have z := h.shw hn hB
  cases d with
  | int i =>
    have := h.able
    unfold D.p PyData.showable at this
    have l := z.2.2
    unfold D.p at l
    exact .inl ⟨i, rfl, of_decide_eq_true this, l⟩
  | lst xs => exact .inr (.inl ⟨xs, .inl rfl, z⟩)
  | tup xs => exact .inr (.inl ⟨xs, .inr rfl, z⟩)
  | non => exact .inr (.inr ⟨rfl, z.2.2⟩)
  | bl b => exact .inr (.inr ⟨rfl, z.2.2⟩)
  | str s => exact .inr (.inr ⟨rfl, z.2.2⟩)
  | cst xs => exact absurd rfl (hc xs)
  | _ => have := h.dat; revert this; cases n <;> intro this <;> cases this
/-- lines, stretches -/
theorem sh_linesL {ls : List Line} {N : Nat} (h : ∀ l ∈ ls, GdL l) (hN : ls.length ≤ N) : Sh 2 (N * 300 + 2 * N + 3) (eL eLine ls) := shL (fun l hl => sh_line (h l hl)) hN
theorem sh_linesT {ls : List Line} {N : Nat} (h : ∀ l ∈ ls, GdL l) (hN : ls.length ≤ N) : Sh 2 (N * 300 + 2 * N + 3) (eT eLine ls) := shT (fun l hl => sh_line (h l hl)) hN
theorem sh_stretch {s : Stretch} {N : Nat} (h0 : 0 ≤ s.1) (h1 : s.1 ≤ 1000) (h2 : ∀ l ∈ s.2.1, GdL l) (h3 : ∀ l ∈ s.2.2, GdL l) (h4 : s.2.1.length ≤ N) (h5 : s.2.2.length ≤ N) : Sh 3 (3 * (N * 300 + 2 * N + 103) + 9) (eStretch s) := by
  have := sh_tup (n := 2) (B := N * 300 + 2 * N + 103) (xs := [D.int s.1, eT eLine s.2.1, eT eLine s.2.2]) fun x hx => by
    simp only [List.mem_cons, List.not_mem_nil, or_false] at hx
    rcases hx with e | e | e <;> subst e
    · exact (sh_nat h0 h1).up (by decide) (by omega)
    · exact (sh_linesT h2 h4).up (by decide) (by omega)
    · exact (sh_linesT h3 h5).up (by decide) (by omega)
  exact this.up (Nat.le_refl _) (by show 3 * _ + 2 * 3 + 3 ≤ _; omega)
/-- equal data, equal texts -/
theorem no_ne {a b : Str} (h : a = b) : ¬ ((!decide (a = b)) = true) := by simp [h]
theorem no_eq {a b : Str} (h : a = b) : (!decide (a = b)) = false := by simp [h]
theorem if_no {c : Prop} [Decidable c] {a b : Prop} (h : ¬ c) (hb : b) : if c then a else b := by rw [if_neg h]; exact hb
/-! ### steps -/
section
variable {α β γ δ κ σ τ : Type}
theorem sq_i {A : M β γ κ} {B : β → M α γ κ} {nx : α → Prop} {k : K γ κ} (h : A (fun a => B a nx k) k) : sqK A B nx k := h
theorem set_i {m : W α} {nx : α → Prop} {k : K β κ} (h : m nx k.xx) : setK m nx k := h
theorem set_v {m : W α} {nx : α → Prop} {k : K β κ} (v : α) (h : ∀ (q : α → Prop) (x : XW), q v → m q x) (hq : nx v) : setK m nx k := h _ _ hq
theorem set_all {m : W α} {nx : α → Prop} {k : K β κ} (P : α → Prop) (h : ∀ (q : α → Prop) (x : XW), (∀ v, P v → q v) → m q x) (hq : ∀ v, P v → nx v) : setK m nx k := h _ _ hq
theorem par2_i {A : W α} {B : W γ} {nx : α × γ → Prop} {k : K β κ} (h : A (fun a => B (fun b => nx (a, b)) k.xx) k.xx) : par2K A B nx k := h
theorem par2_v {A : W α} {B : W γ} {nx : α × γ → Prop} {k : K β κ} (a : α) (b : γ) (ha : ∀ (q : α → Prop) (x : XW), q a → A q x) (hb : ∀ (q : γ → Prop) (x : XW), q b → B q x) (h : nx (a, b)) : par2K A B nx k := ha _ _ (hb _ _ h)
theorem par2_all {A : W α} {B : W γ} {nx : α × γ → Prop} {k : K β κ} (P : α → Prop) (P2 : γ → Prop) (ha : ∀ (q : α → Prop) (x : XW), (∀ a, P a → q a) → A q x) (hb : ∀ (q : γ → Prop) (x : XW), (∀ b, P2 b → q b) → B q x) (h : ∀ a b, P a → P2 b → nx (a, b)) : par2K A B nx k := ha _ _ fun a pa => hb _ _ fun b pb => h a b pa pb
theorem par3_v {A : W α} {B : W γ} {C : W δ} {nx : α × γ × δ → Prop} {k : K β κ} (a : α) (b : γ) (c : δ) (ha : ∀ (q : α → Prop) (x : XW), q a → A q x) (hb : ∀ (q : γ → Prop) (x : XW), q b → B q x) (hc : ∀ (q : δ → Prop) (x : XW), q c → C q x) (h : nx (a, b, c)) : par3K A B C nx k := ha _ _ (hb _ _ (hc _ _ h))
theorem par3_all {A : W α} {B : W γ} {C : W δ} {nx : α × γ × δ → Prop} {k : K β κ} (P1 : α → Prop) (P2 : γ → Prop) (P3 : δ → Prop) (ha : ∀ (q : α → Prop) (x : XW), (∀ a, P1 a → q a) → A q x) (hb : ∀ (q : γ → Prop) (x : XW), (∀ a, P2 a → q a) → B q x) (hc : ∀ (q : δ → Prop) (x : XW), (∀ a, P3 a → q a) → C q x)
    (h : ∀ w : α × γ × δ, P1 w.1 → P2 w.2.1 → P3 w.2.2 → nx w) : par3K A B C nx k := ha _ _ fun a pa => hb _ _ fun b pb => hc _ _ fun c pc => h (a, b, c) pa pb pc
theorem ifF_i {m : W Bool} {A B : M α β κ} {nx : α → Prop} {k : K β κ} (h : ∀ (q : Bool → Prop) (x : XW), q false → m q x) (hb : B nx k) : ifK m A B nx k := h _ _ (by show (if false = true then _ else _); rw [if_neg Bool.false_ne_true]; exact hb)
theorem ifT_i {m : W Bool} {A B : M α β κ} {nx : α → Prop} {k : K β κ} (h : ∀ (q : Bool → Prop) (x : XW), q true → m q x) (ha : A nx k) : ifK m A B nx k := h _ _ (by show (if true = true then _ else _); rw [if_pos rfl]; exact ha)
theorem ifB_i {m : W Bool} {A B : M α β κ} {nx : α → Prop} {k : K β κ} (b : Bool) (h : ∀ (q : Bool → Prop) (x : XW), q b → m q x) (ha : b = true → A nx k) (hb : b = false → B nx k) : ifK m A B nx k := h _ _ (by
  cases b with
  | true => exact ha rfl
  | false => exact hb rfl)
/-- either way -/
theorem ifA_i {m : W Bool} {A B : M α β κ} {nx : α → Prop} {k : K β κ} (h : ∀ (q : Bool → Prop) (x : XW), (∀ b, q b) → m q x) (ha : A nx k) (hb : B nx k) : ifK m A B nx k := h _ _ (fun b => by
  cases b with
  | true => exact ha
  | false => exact hb)
theorem end_i {a : α} {nx : α → Prop} {k : K β κ} (h : nx a) : endK a nx k := h
theorem ret_v {m : W β} {nx : α → Prop} {k : K β κ} (v : β) (h : ∀ (q : β → Prop) (x : XW), q v → m q x) (hq : k.rt v) : retK m nx k := h _ _ hq
theorem for_i {mi : W (List τ)} {a : σ} {body : τ → σ → M σ β σ} {nx : σ → Prop} {k : K β κ} (xs : List τ) (h : ∀ (q : List τ → Prop) (x : XW), q xs → mi q x) (hf : forK xs a body nx k) : forM mi a body nx k := h _ _ hf
theorem for_all {mi : W (List τ)} {a : σ} {body : τ → σ → M σ β σ} {nx : σ → Prop} {k : K β κ} (P : List τ → Prop) (h : ∀ (q : List τ → Prop) (x : XW), (∀ xs, P xs → q xs) → mi q x) (hf : ∀ xs, P xs → forK xs a body nx k) : forM mi a body nx k := h _ _ hf
/-- whichever way is taken -/
theorem if_all {m : W Bool} {A B : M α β κ} {nx : α → Prop} {k : K β κ} (P : α → Prop) (h : ∀ (q : Bool → Prop) (x : XW), (∀ b, q b) → m q x) (ha : ∀ nx' : α → Prop, (∀ v, P v → nx' v) → A nx' k) (hb : ∀ nx' : α → Prop, (∀ v, P v → nx' v) → B nx' k) (hn : ∀ v, P v → nx v) : ifK m A B nx k := h _ _ (fun b => by
  cases b with
  | true => exact ha nx hn
  | false => exact hb nx hn)
theorem try_i {n : Nat} {known : Nat → Bool} {mb : M α β κ} {hw : List D → W β} {nx : α → Prop} {k : K β κ} (h : mb nx { k with xx := fun m ds => known m = true ∧ (m = n → ds ≠ [] ∧ hw ds k.rt X0) ∧ (m ≠ n → k.xx m ds) }) : tryR n known mb hw nx k := h
theorem set_x {m : W α} {nx : α → Prop} {k : K β κ} (h : m nx k.xx) : setK m nx k := h
theorem ret_x {m : W β} {nx : α → Prop} {k : K β κ} (h : m k.rt k.xx) : retK m nx k := h
theorem drop_i {m : W γ} {nx : Unit → Prop} {k : K β κ} (h : m (fun _ => nx ()) k.xx) : dropK m nx k := h
theorem app_i {m : W γ} {n : Nat} {nx : γ → Prop} {k : K β κ} (v : γ) (h : ∀ (q : γ → Prop) (x : XW), q v → m q x) (hn : n < 1000000) (hq : nx v) : appK m n nx k := h _ _ ⟨Nat.lt_of_lt_of_le hn (by decide), hq⟩
theorem ext_i {m : W γ} {n : Nat} {f : γ → Nat} {nx : γ → Prop} {k : K β κ} (v : γ) (h : ∀ (q : γ → Prop) (x : XW), q v → m q x) (hn : n + f v ≤ 1000000) (hq : nx v) : extK m n f nx k := h _ _ ⟨Nat.le_trans hn (by decide), hq⟩
theorem bag_i {ma : W (List Int × Int × Unit)} {nx : Unit → Prop} {k : K β κ} (a : List Int) (i : Int) (h : ∀ (q : List Int × Int × Unit → Prop) (x : XW), q (a, i, ()) → ma q x) (hl : a.length ≤ 63) (h0 : 0 ≤ i) (h1 : i < 100) (hq : nx ()) : bagK ma nx k := h _ _ ⟨⟨hl, h0, h1⟩, hq⟩
end
end DL

namespace DL
open PySem PySem.Spec PyProof.Rows L2

def top (i : Nat) : Stmt := PySem.Challenge.pw_cleanmerges_k05_files_in_order.main.body.getD i (.Pass ⟨0, 0, 0, 0⟩)
def flG : Nat → List Str
  | 0 => ["lines"]
  | _ => []
def knownE : Nat → Bool := fun m => [].contains m
def isiO : Isi := [((.own 0, .str), false), ((.own 0, .tup), false), ((.own 0, .int), false), ((.own 0, .bl), false), ((.own 0, .lst), false), ((.own 0, .own 0), true), ((.non, .own 0), false), ((.bl, .own 0), false), ((.int, .own 0), false), ((.str, .own 0), false), ((.tup, .own 0), false), ((.lst, .own 0), false)]
abbrev isiG : Isi := isiB ++ isiO
theorem fl_File_lines (a : (List Line)) : ∃ C xs, eFile a = .ins C xs ∧ ((flG C).zip xs).lookup ("lines" : Str) = some ((eT eLine) a) := ⟨_, _, rfl, rfl⟩
structure Tx (P : Program) (K : PySem.W.Frag) (mg : Str → Option Value) where
  f__law_bag : Addr
  f__law_draw : Addr
  f__law_words : Addr
  f__law_pool : Addr
  f__law_lines : Addr
  f__law_near : Addr
  f_is_word : Addr
  f_is_name : Addr
  f_is_line : Addr
  f_File___init__ : Addr
  f_File_of : Addr
  f__law_is_less : Addr
  f_File___lt__ : Addr
  f_File___eq__ : Addr
  f_law : Addr
  c_File : Addr
  p__law_bag : FunP K "_law_bag" "_law_bag" (top 16) f__law_bag
  m__law_bag : mg "_law_bag" = some (.ref f__law_bag)
  k__law_bag : PySem.W.keepIn K (.ref f__law_bag) = true
  p__law_draw : FunP K "_law_draw" "_law_draw" (top 17) f__law_draw
  m__law_draw : mg "_law_draw" = some (.ref f__law_draw)
  k__law_draw : PySem.W.keepIn K (.ref f__law_draw) = true
  p__law_words : FunP K "_law_words" "_law_words" (top 18) f__law_words
  m__law_words : mg "_law_words" = some (.ref f__law_words)
  k__law_words : PySem.W.keepIn K (.ref f__law_words) = true
  p__law_pool : FunP K "_law_pool" "_law_pool" (top 19) f__law_pool
  m__law_pool : mg "_law_pool" = some (.ref f__law_pool)
  k__law_pool : PySem.W.keepIn K (.ref f__law_pool) = true
  p__law_lines : FunP K "_law_lines" "_law_lines" (top 20) f__law_lines
  m__law_lines : mg "_law_lines" = some (.ref f__law_lines)
  k__law_lines : PySem.W.keepIn K (.ref f__law_lines) = true
  p__law_near : FunP K "_law_near" "_law_near" (top 21) f__law_near
  m__law_near : mg "_law_near" = some (.ref f__law_near)
  k__law_near : PySem.W.keepIn K (.ref f__law_near) = true
  p_is_word : FunP K "is_word" "is_word" (top 8) f_is_word
  m_is_word : mg "is_word" = some (.ref f_is_word)
  k_is_word : PySem.W.keepIn K (.ref f_is_word) = true
  p_is_name : FunP K "is_name" "is_name" (top 9) f_is_name
  m_is_name : mg "is_name" = some (.ref f_is_name)
  k_is_name : PySem.W.keepIn K (.ref f_is_name) = true
  p_is_line : FunP K "is_line" "is_line" (top 10) f_is_line
  m_is_line : mg "is_line" = some (.ref f_is_line)
  k_is_line : PySem.W.keepIn K (.ref f_is_line) = true
  p_File___init__ : FunP K "__init__" "File.__init__" (inClass (top 14) 0) f_File___init__
  k_File___init__ : PySem.W.keepIn K (.ref f_File___init__) = true
  p_File_of : FunP K "of" "File.of" (inClass (top 14) 9) f_File_of
  k_File_of : PySem.W.keepIn K (.ref f_File_of) = true
  p__law_is_less : FunP K "_law_is_less" "_law_is_less" (top 22) f__law_is_less
  m__law_is_less : mg "_law_is_less" = some (.ref f__law_is_less)
  k__law_is_less : PySem.W.keepIn K (.ref f__law_is_less) = true
  p_File___lt__ : FunP K "__lt__" "File.__lt__" (inClass (top 14) 2) f_File___lt__
  k_File___lt__ : PySem.W.keepIn K (.ref f_File___lt__) = true
  p_File___eq__ : FunP K "__eq__" "File.__eq__" (inClass (top 14) 1) f_File___eq__
  k_File___eq__ : PySem.W.keepIn K (.ref f_File___eq__) = true
  p_law : FunP K "law" "law" (top 23) f_law
  m_law : mg "law" = some (.ref f_law)
  k_law : PySem.W.keepIn K (.ref f_law) = true
  z_abs : mg "abs" = none
  z_all : mg "all" = none
  z_enumerate : mg "enumerate" = none
  z_int : mg "int" = none
  z_isinstance : mg "isinstance" = none
  z_len : mg "len" = none
  z_list : mg "list" = none
  z_max : mg "max" = none
  z_min : mg "min" = none
  z_range : mg "range" = none
  z_repr : mg "repr" = none
  z_str : mg "str" = none
  z_tuple : mg "tuple" = none
  t_LETTERS : Tok
  m_LETTERS : mg "LETTERS" = some (.str ("abcdefghijklmnopqrstuvwxyz" : Str) t_LETTERS)
  t_MOST_LETTERS : Tok
  m_MOST_LETTERS : mg "MOST_LETTERS" = some (.int 8 t_MOST_LETTERS)
  m_File : mg "File" = some (.ref c_File)
  k_File : PySem.W.keepIn K (.ref c_File) = true
  ck_File : ClsOk K c_File
  n_File_lines : NoAttr K c_File "lines"
  mk_File : Mk K c_File f_File___init__
  cr_File : ClX.CRead K c_File (.type "type")
  so_File_tup : PySem.W.subIn K (.type "tuple") (.ref c_File) = some false
  so_File_lst : PySem.W.subIn K (.type "list") (.ref c_File) = some false
  so_File_non : PySem.W.subIn K (.type "NoneType") (.ref c_File) = some false
  so_File_int : PySem.W.subIn K (.type "int") (.ref c_File) = some false
  so_File_str : PySem.W.subIn K (.type "str") (.ref c_File) = some false
  so_File_bl : PySem.W.subIn K (.type "bool") (.ref c_File) = some false
  d_File___eq__ : Dn K c_File "__eq__" f_File___eq__
  d_File___lt__ : Dn K c_File "__lt__" f_File___lt__
  r_File_of : Addr
  cm_File_of : ClX.CMet K c_File (.type "type") "of" r_File_of f_File_of
  i_0 : PySem.W.kitOne K (.ref c_File) (.type "str") = some false
  i_1 : PySem.W.kitOne K (.ref c_File) (.type "tuple") = some false
  i_2 : PySem.W.kitOne K (.ref c_File) (.type "int") = some false
  i_3 : PySem.W.kitOne K (.ref c_File) (.type "bool") = some false
  i_4 : PySem.W.kitOne K (.ref c_File) (.type "list") = some false
  i_5 : PySem.W.kitOne K (.ref c_File) (.ref c_File) = some true
  i_6 : PySem.W.kitOne K (.type "NoneType") (.ref c_File) = some false
  i_7 : PySem.W.kitOne K (.type "bool") (.ref c_File) = some false
  i_8 : PySem.W.kitOne K (.type "int") (.ref c_File) = some false
  i_9 : PySem.W.kitOne K (.type "str") (.ref c_File) = some false
  i_10 : PySem.W.kitOne K (.type "tuple") (.ref c_File) = some false
  i_11 : PySem.W.kitOne K (.type "list") (.ref c_File) = some false

section
variable {P : Program} {w : World} {Kf : PySem.W.Frag} {mg : Str → Option Value} {base : Heap} {X : Cx} {Wx : WX}
def Tx.A (T : Tx P Kf mg) : Cla := ⟨fun C => match C with | 0 => T.c_File | _ => T.c_File, fun _ => .none, flG, none⟩
theorem Tx.small (T : Tx P Kf mg) : ∀ C, (T.A.fl C).length < 1000 := fun C => by
  show (flG C).length < 1000
  unfold flG
  split <;> decide
theorem Tx.fo_lines (T : Tx P Kf mg) : FldOk Kf T.A "lines" := fun C hC => by
  have hC : ("lines" : Str) ∈ flG C := hC
  unfold flG at hC
  split at hC
  · exact ⟨T.ck_File.cl, T.n_File_lines⟩
  · exact absurd hC List.not_mem_nil
theorem Tx.isi (T : Tx P Kf mg) : IsiOk (cc Kf T.A) isiG := by
  refine isi_mk2 (fun a b r hm => ?_) (fun C b r hm => ?_)
  · unfold isiO at hm
    simp only [List.mem_cons, List.not_mem_nil, or_false, Prod.mk.injEq] at hm
    rcases hm with ⟨⟨ea, eb⟩, er⟩ | ⟨⟨ea, eb⟩, er⟩ | ⟨⟨ea, eb⟩, er⟩ | ⟨⟨ea, eb⟩, er⟩ | ⟨⟨ea, eb⟩, er⟩ | ⟨⟨ea, eb⟩, er⟩ | ⟨⟨ea, eb⟩, er⟩ | ⟨⟨ea, eb⟩, er⟩ | ⟨⟨ea, eb⟩, er⟩ | ⟨⟨ea, eb⟩, er⟩ | ⟨⟨ea, eb⟩, er⟩ | ⟨⟨ea, eb⟩, er⟩
    · subst ea eb er
      exact T.i_0
    · subst ea eb er
      exact T.i_1
    · subst ea eb er
      exact T.i_2
    · subst ea eb er
      exact T.i_3
    · subst ea eb er
      exact T.i_4
    · subst ea eb er
      exact T.i_5
    · subst ea eb er
      exact T.i_6
    · subst ea eb er
      exact T.i_7
    · subst ea eb er
      exact T.i_8
    · subst ea eb er
      exact T.i_9
    · subst ea eb er
      exact T.i_10
    · subst ea eb er
      exact T.i_11
  · unfold isiO at hm
    simp only [List.mem_cons, List.not_mem_nil, or_false, Prod.mk.injEq] at hm
    rcases hm with ⟨⟨ea, eb⟩, er⟩ | ⟨⟨ea, eb⟩, er⟩ | ⟨⟨ea, eb⟩, er⟩ | ⟨⟨ea, eb⟩, er⟩ | ⟨⟨ea, eb⟩, er⟩ | ⟨⟨ea, eb⟩, er⟩ | ⟨⟨ea, eb⟩, er⟩ | ⟨⟨ea, eb⟩, er⟩ | ⟨⟨ea, eb⟩, er⟩ | ⟨⟨ea, eb⟩, er⟩ | ⟨⟨ea, eb⟩, er⟩ | ⟨⟨ea, eb⟩, er⟩
    · cases ea
      exact T.ck_File
    · cases ea
      exact T.ck_File
    · cases ea
      exact T.ck_File
    · cases ea
      exact T.ck_File
    · cases ea
      exact T.ck_File
    · cases ea
      exact T.ck_File
    · cases ea
    · cases ea
    · cases ea
    · cases ea
    · cases ea
    · cases ea
def okG_0 : Ty → Bool
  | .own 0 => true
  | .tup => true
  | .lst => true
  | .non => true
  | .int => true
  | .str => true
  | .bl => true
  | _ => false
theorem Tx.ok_File (T : Tx P Kf mg) : CmpOk Kf T.A 0 okG_0 := ⟨fun t h => by
  match t, h with
  | .own 0, _ => exact notFirst_self
  | .tup, _ => exact notFirst_sub T.so_File_tup
  | .lst, _ => exact notFirst_sub T.so_File_lst
  | .non, _ => exact notFirst_sub T.so_File_non
  | .int, _ => exact notFirst_sub T.so_File_int
  | .str, _ => exact notFirst_sub T.so_File_str
  | .bl, _ => exact notFirst_sub T.so_File_bl
, fun C h => by
  match C, h with
  | 0, _ => exact T.ck_File⟩

/-! ### _law_bag -/
def N__law_bag : List Str := ["_law_script", "_law_at", "_law_cell", "_law_mixed", "_law_spot", "_law_each"]
theorem sc__law_bag : FnScope N__law_bag ["_law_script", "_law_at"] (defScope (top 16)) := ⟨rfl, rfl, rfl, by decide +kernel, rfl, by decide +kernel, by decide +kernel⟩
def r__law_bag : DTS := sSeq (sAsg (dIf (dOp (rCmp .Lt) (dVar 1) (dCB rLen (dCons (dVar 0) (dNil)))) (dCB rAbs (dCons (dOp rIdx (dVar 0) (dVar 1)) (dNil))) (dCst (.int 0))) (gNm 2)) (sSeq (sAsg (dOp (rBin false .Add) (dOp (rBin false .Mult) (dCst (.int 7919)) (dVar 1)) (dCst (.int 331))) (gNm 3)) (sSeq (sFor (iEnumD (dCons (dSlc false (dVar 0) none (some (dCst (.int 63)))) (dNil))) (gOf (.tup [.nm 4, .nm 5])) (sSeq (sAsg (dOp (rBin false .Mod) (dCB rInt (dCons (dOp (rBin false .Add) (dOp (rBin false .Add) (dOp (rBin false .Add) (dOp (rBin false .Mult) (dVar 3) (dCst (.int 52631))) (dOp (rBin false .Mod) (dCB rInt (dCons (dVar 5) (dNil))) (dCst (.int 2147483587)))) (dOp (rBin false .Mult) (dCst (.int 257)) (dVar 4))) (dCst (.int 19))) (dNil))) (dCst (.int 2147483629))) (gNm 3)) (sNext))) (sSeq (sRet (dLst true (dCons (dIf (dOp (rCmp .GtE) (dVar 2) (dOp (rBin false .Pow) (dCst (.int 10)) (dCst (.int 18)))) (dVar 2) (dCst (.int 0))) (dCons (dVar 3) (dNil))))) (sNext))))
theorem b__law_bag (T : Tx P Kf mg) (h : In P w Kf mg base N__law_bag (defScope (top 16)) fAll 0 X Wx) (hp : HPs X) : DStms X T.A Wx (defBody (top 16)) (r__law_bag) :=
  (ds_cons (h.set (i := 2) (by decide +kernel) (de_if (pCmpT h.rm (h.var (i := 1) (by decide +kernel)) (h.bi cd_len (by decide +kernel) T.z_len rfl (pCons (h.var (i := 0) (by decide +kernel)) da_nil))) (h.bi cd_abs (by decide +kernel) T.z_abs rfl (pCons (pIdx (h.var (i := 0) (by decide +kernel)) (h.var (i := 1) (by decide +kernel))) da_nil)) de_int))
  (ds_cons (h.set (i := 3) (by decide +kernel) (pBin false (pBin false de_int (h.var (i := 1) (by decide +kernel))) de_int))
  (ds_cons (h.loop hp (h.enum (by decide +kernel) T.z_enumerate (pCons (de_slc (m := false) (h.var (i := 0) (by decide +kernel)) do_none (do_some de_int)) da_nil)) (dg_tg (g := .tup [.nm 4, .nm 5]) (h.vtup (vs_cons (h.vnm (i := 4) (by decide +kernel)) (vs_cons (h.vnm (i := 5) (by decide +kernel)) vs_nil)))) (ds_cons (h.set (i := 3) (by decide +kernel) (pBin false (h.bt cd_int (by decide +kernel) T.z_int rfl (pCons (pBin false (pBin false (pBin false (pBin false (h.var (i := 3) (by decide +kernel)) de_int) (pBin false (h.bt cd_int (by decide +kernel) T.z_int rfl (pCons (h.var (i := 5) (by decide +kernel)) da_nil)) de_int)) (pBin false de_int (h.var (i := 4) (by decide +kernel)))) de_int) da_nil)) de_int))
  ds_nil))
  (ds_cons (ds_ret (de_lst (m := true) (pCons (de_if (pCmpT h.rm (h.var (i := 2) (by decide +kernel)) (pBin false de_int de_int)) (h.var (i := 2) (by decide +kernel)) de_int) (pCons (h.var (i := 3) (by decide +kernel)) da_nil))))
  ds_nil))))
theorem dd__law_bag (T : Tx P Kf mg) : FnD P w (cc Kf T.A) mg base 1 T.f__law_bag sp_bag :=
  (fnd_mk T.p__law_bag sc__law_bag (fun _ _ _ _ _ _ us hl => match us, hl with | [_, _], _ => rfl) fun X Wx h hp => b__law_bag T h hp).imp bag_ok
/-! ### _law_draw -/
def N__law_draw : List Str := ["_law_bag_here", "_law_many", "_law_digit"]
theorem sc__law_draw : FnScope N__law_draw ["_law_bag_here", "_law_many"] (defScope (top 17)) := ⟨rfl, rfl, rfl, by decide +kernel, rfl, by decide +kernel, by decide +kernel⟩
def r__law_draw : DTS := sSeq (sIf (dOp (rCmp .Gt) (dOp rIdx (dVar 0) (dCst (.int 0))) (dCst (.int 0))) (sSeq (sAsg (dOp (rBin false .Mod) (dCB rInt (dCons (dOp rIdx (dVar 0) (dCst (.int 0))) (dNil))) (dVar 1)) (gNm 2)) (sSeq (sAsg (dOp (rBin false .FloorDiv) (dOp rIdx (dVar 0) (dCst (.int 0))) (dVar 1)) (gSubD (dVar 0) (dCst (.int 0)))) (sSeq (sRet (dVar 2)) (sNext)))) (sNext)) (sSeq (sAsg (dOp (rBin false .Mod) (dCB rInt (dCons (dOp (rBin false .Add) (dOp (rBin false .Mult) (dOp rIdx (dVar 0) (dCst (.int 1))) (dCst (.int 48271))) (dCst (.int 12347))) (dNil))) (dCst (.int 2147483647))) (gSubD (dVar 0) (dCst (.int 1)))) (sSeq (sRet (dOp (rBin false .Mod) (dOp (rBin false .FloorDiv) (dOp (rBin false .Mod) (dCB rInt (dCons (dOp (rBin false .Mult) (dOp (rBin false .FloorDiv) (dOp rIdx (dVar 0) (dCst (.int 1))) (dCst (.int 7))) (dCst (.int 40503))) (dNil))) (dCst (.int 2147483629))) (dCst (.int 32))) (dVar 1))) (sNext)))
theorem b__law_draw (T : Tx P Kf mg) (h : In P w Kf mg base N__law_draw (defScope (top 17)) fAll 0 X Wx) (hp : HPs X) : DStms X T.A Wx (defBody (top 17)) (r__law_draw) :=
  (ds_cons (ds_if (pCmpT h.rm (pIdx (h.var (i := 0) (by decide +kernel)) de_int) de_int) (ds_cons (h.set (i := 2) (by decide +kernel) (pBin false (h.bt cd_int (by decide +kernel) T.z_int rfl (pCons (pIdx (h.var (i := 0) (by decide +kernel)) de_int) da_nil)) (h.var (i := 1) (by decide +kernel))))
  (ds_cons (ds_tup (pBin false (pIdx (h.var (i := 0) (by decide +kernel)) de_int) (h.var (i := 1) (by decide +kernel))) (pSub (h.var (i := 0) (by decide +kernel)) de_int))
  (ds_cons (ds_ret (h.var (i := 2) (by decide +kernel)))
  ds_nil))) ds_nil)
  (ds_cons (ds_tup (pBin false (h.bt cd_int (by decide +kernel) T.z_int rfl (pCons (pBin false (pBin false (pIdx (h.var (i := 0) (by decide +kernel)) de_int) de_int) de_int) da_nil)) de_int) (pSub (h.var (i := 0) (by decide +kernel)) de_int))
  (ds_cons (ds_ret (pBin false (pBin false (pBin false (h.bt cd_int (by decide +kernel) T.z_int rfl (pCons (pBin false (pBin false (pIdx (h.var (i := 0) (by decide +kernel)) de_int) de_int) de_int) da_nil)) de_int) de_int) (h.var (i := 1) (by decide +kernel))))
  ds_nil)))
theorem dd__law_draw (T : Tx P Kf mg) : FnD P w (cc Kf T.A) mg base 1 T.f__law_draw sp_draw :=
  (fnd_mk T.p__law_draw sc__law_draw (fun _ _ _ _ _ _ us hl => match us, hl with | [_, _], _ => rfl) fun X Wx h hp => b__law_draw T h hp).imp draw_ok
theorem fd__law_draw (T : Tx P Kf mg) : FnD P w (cc Kf T.A) mg base 1 T.f__law_draw (spT (fun (a : Int × Unit) => [.b, .v (D.int a.1)]) D.int drawW) := (dd__law_draw T).imp fun _ _ _ _ => draw_T
/-! ### _law_words -/
def N__law_words : List Str := ["_law_bag_here", "_law_many", "_law_stem", "_law_spot", "_law_turn", "_law_letters", "_law_found", "_law_word", "_law_k"]
theorem sc__law_words : FnScope N__law_words ["_law_bag_here", "_law_many"] (defScope (top 18)) := ⟨rfl, rfl, rfl, by decide +kernel, rfl, by decide +kernel, by decide +kernel⟩
def r__law_words (sp__law_draw : DSp) : DTS := sSeq (sAsg (dTup (dCons (dCB (rListS true) (dCons (dCst (.str ("abcdefghijklmnopqrstuvwxyz" : Str))) (dNil))) (dCons (dLst true (dNil)) (dNil)))) (gOf (.tup [.nm 5, .nm 6]))) (sSeq (sAsg (dM1 mJoin (dCst (.str ("" : Str))) (dLc false (iRng1D (dCons (dCall sp__law_draw (dCons (dVar 0) (dCons (dCst (.int 8)) (dNil)))) (dNil))) (.nm 8) dYes (dOp rIdx (dVar 5) (dCall sp__law_draw (dCons (dVar 0) (dCons (dCst (.int 26)) (dNil))))) [8])) (gNm 2)) (sSeq (sAsg (dCall sp__law_draw (dCons (dVar 0) (dCons (dOp (rBin false .Add) (dCB rLen (dCons (dVar 2) (dNil))) (dCst (.int 1))) (dNil)))) (gNm 3)) (sSeq (sFor (iRng1D (dCons (dVar 1) (dNil))) (gOf (.nm 4)) (sSeq (sAsg (dOp (rBin false .Add) (dOp (rBin false .Add) (dSlc false (dVar 2) none (some (dVar 3))) (dMt mPopAt (dVar 5) (dCons (dCall sp__law_draw (dCons (dVar 0) (dCons (dCB rLen (dCons (dVar 5) (dNil))) (dNil)))) (dNil)))) (dSlc false (dVar 2) (some (dVar 3)) none)) (gNm 7)) (sSeq (sDrop (dMt mAppend (dVar 6) (dCons (dSlc false (dVar 7) none (some (dOp (rBin false .Add) (dOp (rBin false .Add) (dVar 3) (dCst (.int 1))) (dCall sp__law_draw (dCons (dVar 0) (dCons (dOp (rBin false .Add) (dOp (rBin false .Sub) (dCB rLen (dCons (dVar 2) (dNil))) (dVar 3)) (dCst (.int 1))) (dNil))))))) (dNil)))) (sNext)))) (sSeq (sRet (dFrz (dVar 6))) (sNext)))))
theorem b__law_words {sp__law_draw : DSp} (T : Tx P Kf mg) (F__law_draw : FnD P w (cc Kf T.A) mg base 1 T.f__law_draw sp__law_draw) (h : In P w Kf mg base N__law_words (defScope (top 18)) fAll 1 X Wx) (hp : HPs X) : DStms X T.A Wx (defBody (top 18)) (r__law_words sp__law_draw) :=
  (ds_cons (h.parC (by decide +kernel) (de_tup (pCons (h.bt (cd_listS (m := true) h.calm) (by decide +kernel) T.z_list rfl (pCons (pStr (by decide +kernel)) da_nil)) (pCons (de_lst (m := true) da_nil) da_nil))) (dg_tg (g := .tup [.nm 5, .nm 6]) (h.vtup (vs_cons (h.vnm (i := 5) (by decide +kernel)) (vs_cons (h.vnm (i := 6) (by decide +kernel)) vs_nil)))))
  (ds_cons (h.set (i := 2) (by decide +kernel) (pJoin (pStr (by decide +kernel)) (h.lc (m := false) (g := .nm 8) [("_law_k", 8)] (h.rng1 (by decide +kernel) T.z_range (pCons (h.call F__law_draw (by decide) (by decide +kernel) T.m__law_draw T.k__law_draw (pCons (h.var (i := 0) (by decide +kernel)) (pCons de_int da_nil))) da_nil)) (by decide +kernel) (by decide) (fun _ h => (h.vnm (i := 8) (by decide +kernel))) (fun _ h => ts_nil) (fun _ h => (pIdx (h.var (i := 5) (by decide +kernel)) (h.call F__law_draw (by decide) (by decide +kernel) T.m__law_draw T.k__law_draw (pCons (h.var (i := 0) (by decide +kernel)) (pCons de_int da_nil))))))))
  (ds_cons (h.set (i := 3) (by decide +kernel) (h.call F__law_draw (by decide) (by decide +kernel) T.m__law_draw T.k__law_draw (pCons (h.var (i := 0) (by decide +kernel)) (pCons (pBin false (h.bi cd_len (by decide +kernel) T.z_len rfl (pCons (h.var (i := 2) (by decide +kernel)) da_nil)) de_int) da_nil))))
  (ds_cons (h.loop hp (h.rng1 (by decide +kernel) T.z_range (pCons (h.var (i := 1) (by decide +kernel)) da_nil)) (dg_tg (g := .nm 4) (h.vnm (i := 4) (by decide +kernel))) (ds_cons (h.set (i := 7) (by decide +kernel) (pBin false (pBin false (de_slc (m := false) (h.var (i := 2) (by decide +kernel)) do_none (do_some (h.var (i := 3) (by decide +kernel)))) (pPopAt (h.var (i := 5) (by decide +kernel)) (pCons (h.call F__law_draw (by decide) (by decide +kernel) T.m__law_draw T.k__law_draw (pCons (h.var (i := 0) (by decide +kernel)) (pCons (h.bi cd_len (by decide +kernel) T.z_len rfl (pCons (h.var (i := 5) (by decide +kernel)) da_nil)) da_nil))) da_nil))) (de_slc (m := false) (h.var (i := 2) (by decide +kernel)) (do_some (h.var (i := 3) (by decide +kernel))) do_none)))
  (ds_cons (pExpr (pAppend (h.var (i := 6) (by decide +kernel)) (pCons (de_slc (m := false) (h.var (i := 7) (by decide +kernel)) do_none (do_some (pBin false (pBin false (h.var (i := 3) (by decide +kernel)) de_int) (h.call F__law_draw (by decide) (by decide +kernel) T.m__law_draw T.k__law_draw (pCons (h.var (i := 0) (by decide +kernel)) (pCons (pBin false (pBin false (h.bi cd_len (by decide +kernel) T.z_len rfl (pCons (h.var (i := 2) (by decide +kernel)) da_nil)) (h.var (i := 3) (by decide +kernel))) de_int) da_nil)))))) da_nil)))
  ds_nil)))
  (ds_cons (ds_ret (de_frz (h.var (i := 6) (by decide +kernel))))
  ds_nil)))))
theorem dd__law_words (T : Tx P Kf mg) : FnD P w (cc Kf T.A) mg base 2 T.f__law_words sp__law_words :=
  (fnd_mk T.p__law_words sc__law_words (fun _ _ _ _ _ _ us hl => match us, hl with | [_, _], _ => rfl) fun X Wx h hp => b__law_words T (dd__law_draw T) h hp).imp law_words_ok
theorem fd__law_words (T : Tx P Kf mg) : FnD P w (cc Kf T.A) mg base 2 T.f__law_words (spT (fun (a : Int × Unit) => [.b, .v (D.int a.1)]) (eL D.str) wordsW) := (dd__law_words T).imp fun _ _ _ _ => words_T
/-! ### _law_pool -/
def N__law_pool : List Str := ["_law_bag_here", "_law_kind", "_law_kinds", "_law_words_here", "_law_names", "_law_found", "_law_name"]
theorem sc__law_pool : FnScope N__law_pool ["_law_bag_here"] (defScope (top 19)) := ⟨rfl, rfl, rfl, by decide +kernel, rfl, by decide +kernel, by decide +kernel⟩
def mb__law_pool (a : Unit) : M Empty (List Line) Empty :=
(sqK (par2K (callW (pairW (pu (3 : Int)) (pu ())) wordsW (fun (d : Int × Unit) => d)) (callW (pairW (pu (2 : Int)) (pu ())) wordsW (fun (d : Int × Unit) => d))) fun (w1 : (List Str) × (List Str)) =>
(sqK (par2K (itW [(pu (("" : Str) : Str)), (opW (pu (w1.2 : (List Str))) (pu (0 : Int)) (fun xs i q => idxK xs i q)), (opW (opW (pu (w1.2 : (List Str))) (pu (0 : Int)) (fun xs i q => idxK xs i q)) (pu (("!" : Str) : Str)) (fun a b q => (a.length + b.length ≤ sizeLine) ∧ q (a ++ b))), (opW (pu (w1.2 : (List Str))) (pu (1 : Int)) (fun xs i q => idxK xs i q))] : W (List Str)) (itW [] : W (List Line))) fun (w2 : (List Str) × (List Line)) =>
(sqK (forM (mapW (pu (w1.1 : (List Str))) (fun a => a)) w2.2 fun (x4 : Str) (a3 : (List Line)) =>
(sqK (extK (lcyW (mapW (pu (w2.1 : (List Str))) (fun a => a)) (fun (y8 : Str) => (pairW (pu (x4 : Str)) (pu (y8 : Str))))) a3.length (fun v => v.length)) fun (w9 : (List Line)) =>
(endK (a3 ++ w9)))) fun (a10 : (List Line)) =>
(retK (pu (a10 : (List Line)))))))
theorem b__law_pool (T : Tx P Kf mg) (h : In P w Kf mg base N__law_pool (defScope (top 19)) fAll 2 X Wx) (hp : HPs X) (a : Unit) : DStms X T.A Wx (defBody (top 19)) (rdS (⟨(eL eLine), fun _ => none, (fun e => nomatch e), [], false⟩ : Sig (List Line) Empty) [some .b, none, none, none, none, none, none] (fun (e : Empty) => nomatch e) (mb__law_pool a)) :=
  (ts_cons (xs (s_par2 (e1 := (fun (a : (List Str)) => Nw.v ((eL D.str) a))) (e2 := (fun (a : (List Str)) => Nw.v ((eL D.str) a))) .nil rfl) (h.par2 (i := 2) (j := 3) (by decide +kernel) (by decide +kernel) (pCons (xe v_v (xe (i_call (cl := fun (d : Int × Unit) => [.b, .v (D.int d.1)]) (fun d => d) (fun _ => rfl) (fun _ => rfl)) (h.call (fd__law_words T) (by decide) (by decide +kernel) T.m__law_words T.k__law_words (xa (b_consB (sl := fun (a : Int × Unit) => [.v (D.int a.1)]) (i := 0) rfl) (pCons (h.var (i := 0) (by decide +kernel)) (xa (b_consV (e1 := D.int) (sl := fun (a : Unit) => [])) (pCons (xe (i_cst (e := D.int) (a := 3)) de_int) (xa b_nil da_nil)))))))) (pCons (xe v_v (xe (i_call (cl := fun (d : Int × Unit) => [.b, .v (D.int d.1)]) (fun d => d) (fun _ => rfl) (fun _ => rfl)) (h.call (fd__law_words T) (by decide) (by decide +kernel) T.m__law_words T.k__law_words (xa (b_consB (sl := fun (a : Int × Unit) => [.v (D.int a.1)]) (i := 0) rfl) (pCons (h.var (i := 0) (by decide +kernel)) (xa (b_consV (e1 := D.int) (sl := fun (a : Unit) => [])) (pCons (xe (i_cst (e := D.int) (a := 2)) de_int) (xa b_nil da_nil)))))))) da_nil)))) fun (w1 : (List Str) × (List Str)) =>
  (ts_cons (xs (s_par2 (e1 := (fun (a : (List Str)) => Nw.v ((eL D.str) a))) (e2 := (fun (a : (List Line)) => Nw.o (eLo eLine a))) .nil rfl) (h.par2 (i := 4) (j := 5) (by decide +kernel) (by decide +kernel) (pCons (xe v_v (xe (i_disp (e := D.str)) (de_lst (m := false) (xa (it_cons (it_cons (it_cons (it_cons it_nil)))) (pCons (xe (i_cst (e := D.str) (a := ("" : Str))) (pStr (by decide +kernel))) (pCons (xe (i_op op_idxL) (pIdx (xe (i_var (e := (eL D.str)) (a := w1.2) rfl) (h.var (i := 3) (by decide +kernel))) (xe (i_cst (e := D.int) (a := 0)) de_int))) (pCons (xe (i_op op_addS) (pBin false (xe (i_op op_idxL) (pIdx (xe (i_var (e := (eL D.str)) (a := w1.2) rfl) (h.var (i := 3) (by decide +kernel))) (xe (i_cst (e := D.int) (a := 0)) de_int))) (xe (i_cst (e := D.str) (a := ("!" : Str))) (pStr (by decide +kernel))))) (pCons (xe (i_op op_idxL) (pIdx (xe (i_var (e := (eL D.str)) (a := w1.2) rfl) (h.var (i := 3) (by decide +kernel))) (xe (i_cst (e := D.int) (a := 1)) de_int))) da_nil)))))))) (pCons (xe v_o (xe (n_disp (e := eLine)) (de_lst (m := true) (xa it_nil da_nil)))) da_nil)))) fun (w2 : (List Str) × (List Line)) =>
  (ts_cons (xs (s_for (e := D.str) (rs := fun (a3 : (List Line)) => [none, none, none, none, some (.v ((eL D.str) w2.1)), some (.o (eLo eLine a3)), none]) (a0 := w2.2) (g := .nm 1) (.drop (.drop (.drop (.drop (.same (.same (.drop Le.nil))))))) (fun (x4 : Str) (a3 : (List Line)) => tg_nm) .nil (fun _ => .nil) rfl) (h.loop hp (xi (i_seq (e := D.str) (f := fun a => a) sq_lst) (di_seq (xe (i_var (e := (eL D.str)) (a := w1.1) rfl) (h.var (i := 2) (by decide +kernel))))) (dg_tg (g := .nm 1) (h.vnm (i := 1) (by decide +kernel))) (dsU2 fun (x4 : Str) (a3 : (List Line)) =>
  (ts_cons (xs (s_extend (e := eLine) (en := (eL eLine)) (f := fun a => a) (xs := a3) (i := 5) (fun _ _ => rfl) rfl .nil) (pExpr (pExtend (h.var (i := 5) (by decide +kernel)) (pCons (xe (i_lcY (e := D.str) (e2 := eLine) (g := .nm 6) (vs := [6]) (fun (y8 : Str) => tg_nm)) (h.lc (m := false) (g := .nm 6) [("_law_name", 6)] (xi (i_seq (e := D.str) (f := fun a => a) sq_lst) (di_seq (xe (i_var (e := (eL D.str)) (a := w2.1) rfl) (h.var (i := 4) (by decide +kernel))))) (by decide +kernel) (by decide) (fun _ h => (h.vnm (i := 6) (by decide +kernel))) (fun _ h => ts_nil) (fun _ h => deU fun (y8 : Str) => (xe (i_p2 (e1 := D.str) (e2 := D.str)) (de_tup (pCons (xe (i_var (e := D.str) (a := x4) rfl) (h.var (i := 1) (by decide +kernel))) (pCons (xe (i_var (e := D.str) (a := y8) rfl) (h.var (i := 6) (by decide +kernel))) da_nil))))))) da_nil)))) fun (w9 : (List Line)) =>
  (t_end (a3 ++ w9) (.drop (.drop (.drop (.drop (.same (.same (.drop Le.nil)))))))))))) fun (a10 : (List Line)) =>
  (t_frz (m0 := eLo eLine a10) 5 rfl rfl (ts_last (xs (s_ret .nil (fun _ z => by cases z)) (ds_ret (xe (i_var (e := (eL eLine)) (a := a10) rfl) (h.var (i := 5) (by decide +kernel))))))))))
def m__law_pool (a : Unit) : W (List Line) := fun q x => mb__law_pool a (fun r => q (Empty.elim r)) ⟨q, fun _ => False, fun _ => False, x⟩
theorem fd__law_pool (T : Tx P Kf mg) : FnD P w (cc Kf T.A) mg base 3 T.f__law_pool (spG (fun (a : Unit) => [.b]) (fun _ => []) (fun _ => none) (eL eLine) m__law_pool) :=
  fnT (sg := (⟨(eL eLine), fun _ => none, (fun e => nomatch e), [], false⟩ : Sig (List Line) Empty)) (osf := fun (a : Unit) => [some .b, none, none, none, none, none, none]) (res := (fun (e : Empty) => nomatch e)) (mb := mb__law_pool) Empty.elim T.p__law_pool sc__law_pool (fun _ _ _ _ _ _ us hl => match us, hl with | [_], _ => rfl) (fun X Wx h hp a => b__law_pool T h hp a) (fun _ => rfl) (fun _ => ⟨rfl, rfl⟩) (fun _ => rfl) (fun _ _ _ h => h) (fun r => nomatch r) (fun r => nomatch r) rfl
/-! ### _law_lines -/
def N__law_lines : List Str := ["_law_bag_here", "_law_pool_here", "_law_many", "_law_k"]
theorem sc__law_lines : FnScope N__law_lines ["_law_bag_here", "_law_pool_here", "_law_many"] (defScope (top 20)) := ⟨rfl, rfl, rfl, by decide +kernel, rfl, by decide +kernel, by decide +kernel⟩
def mb__law_lines (a : (List Line) × Int × Unit) : M Empty (List Line) Empty :=
(retK (lcyW (rng1W (pu (a.2.1 : Int))) (fun (y1 : Int) => (opW (pu (a.1 : (List Line))) (callW (pairW (unW (oneW (pu (a.1 : (List Line)))) (fun a q => q (a.1.length : Int))) (pu ())) drawW (fun (d : Int × Unit) => d)) (fun xs i q => idxK xs i q)))))
theorem b__law_lines (T : Tx P Kf mg) (h : In P w Kf mg base N__law_lines (defScope (top 20)) fAll 1 X Wx) (hp : HPs X) (a : (List Line) × Int × Unit) : DStms X T.A Wx (defBody (top 20)) (rdS (⟨(eL eLine), fun _ => none, (fun e => nomatch e), [], false⟩ : Sig (List Line) Empty) [some .b, some (.v ((eL eLine) a.1)), some (.v (D.int a.2.1)), none] (fun (e : Empty) => nomatch e) (mb__law_lines a)) :=
  (ts_last (xs (s_ret .nil (fun _ z => by cases z)) (ds_ret (xe (i_lcY (e := D.int) (e2 := eLine) (g := .nm 3) (vs := [3]) (fun (y1 : Int) => tg_nm)) (h.lc (m := false) (g := .nm 3) [("_law_k", 3)] (xi i_rng1 (h.rng1 (by decide +kernel) T.z_range (xa a_1 (pCons (xe (i_var (e := D.int) (a := a.2.1) rfl) (h.var (i := 2) (by decide +kernel))) da_nil)))) (by decide +kernel) (by decide) (fun _ h => (h.vnm (i := 3) (by decide +kernel))) (fun _ h => ts_nil) (fun _ h => deU fun (y1 : Int) => (xe (i_op op_idxL) (pIdx (xe (i_var (e := (eL eLine)) (a := a.1) rfl) (h.var (i := 1) (by decide +kernel))) (xe (i_call (cl := fun (d : Int × Unit) => [.b, .v (D.int d.1)]) (fun d => d) (fun _ => rfl) (fun _ => rfl)) (h.call (fd__law_draw T) (by decide) (by decide +kernel) T.m__law_draw T.k__law_draw (xa (b_consB (sl := fun (a : Int × Unit) => [.v (D.int a.1)]) (i := 0) rfl) (pCons (h.var (i := 0) (by decide +kernel)) (xa (b_consV (e1 := D.int) (sl := fun (a : Unit) => [])) (pCons (xe (i_cb f_lenL) (h.bi cd_len (by decide +kernel) T.z_len rfl (xa a_1 (pCons (xe (i_var (e := (eL eLine)) (a := a.1) rfl) (h.var (i := 1) (by decide +kernel))) da_nil)))) (xa b_nil da_nil)))))))))))))))
def m__law_lines (a : (List Line) × Int × Unit) : W (List Line) := fun q x => mb__law_lines a (fun r => q (Empty.elim r)) ⟨q, fun _ => False, fun _ => False, x⟩
theorem fd__law_lines (T : Tx P Kf mg) : FnD P w (cc Kf T.A) mg base 2 T.f__law_lines (spG (fun (a : (List Line) × Int × Unit) => [.b, .v ((eL eLine) a.1), .v (D.int a.2.1)]) (fun _ => []) (fun _ => none) (eL eLine) m__law_lines) :=
  fnT (sg := (⟨(eL eLine), fun _ => none, (fun e => nomatch e), [], false⟩ : Sig (List Line) Empty)) (osf := fun (a : (List Line) × Int × Unit) => [some .b, some (.v ((eL eLine) a.1)), some (.v (D.int a.2.1)), none]) (res := (fun (e : Empty) => nomatch e)) (mb := mb__law_lines) Empty.elim T.p__law_lines sc__law_lines (fun _ _ _ _ _ _ us hl => match us, hl with | [_, _, _], _ => rfl) (fun X Wx h hp a => b__law_lines T h hp a) (fun _ => rfl) (fun _ => ⟨rfl, rfl⟩) (fun _ => rfl) (fun _ _ _ h => h) (fun r => nomatch r) (fun r => nomatch r) rfl
/-! ### _law_near -/
def N__law_near : List Str := ["_law_bag_here", "_law_pool_here", "_law_lines_here", "_law_more", "_law_spot", "_law_line", "_law_way", "_law_turned", "_law_kind", "_law_name"]
theorem sc__law_near : FnScope N__law_near ["_law_bag_here", "_law_pool_here", "_law_lines_here"] (defScope (top 21)) := ⟨rfl, rfl, rfl, by decide +kernel, rfl, by decide +kernel, by decide +kernel⟩
def mb__law_near (a : (List Line) × (List Line) × Unit) : M Empty (List Line) Empty :=
(sqK (par3K (callW (pairW (opW (unW (oneW (pu (a.2.1 : (List Line)))) (fun a q => q (a.1.length : Int))) (pu (1 : Int)) (fun a b q => q (a + b))) (pu ())) drawW (fun (d : Int × Unit) => d)) (opW (pu (a.1 : (List Line))) (callW (pairW (pu (12 : Int)) (pu ())) drawW (fun (d : Int × Unit) => d)) (fun xs i q => idxK xs i q)) (callW (pairW (pu (4 : Int)) (pu ())) drawW (fun (d : Int × Unit) => d))) fun (w1 : Int × Line × Int) =>
(sqK (ifK (opW (pu (w1.2.2 : Int)) (pu (0 : Int)) (fun a b q => q (decide (a = b)))) (retK (opW (opW (slcW (pu (a.2.1 : (List Line))) (none : Option (W Int)) (some (pu (w1.1 : Int))) (fun a l h => cutD a l h)) (itW [(pu (w1.2.1 : Line))] : W (List Line)) (fun a b q => (a.length + b.length ≤ sizeLine) ∧ q (a ++ b))) (slcW (pu (a.2.1 : (List Line))) (some (pu (w1.1 : Int))) (none : Option (W Int)) (fun a l h => cutD a l h)) (fun a b q => (a.length + b.length ≤ sizeLine) ∧ q (a ++ b)))) (endK ())) fun (_ : Unit) =>
(sqK (ifK (opW (pu (w1.2.2 : Int)) (pu (1 : Int)) (fun a b q => q (decide (a = b)))) (retK (opW (slcW (pu (a.2.1 : (List Line))) (none : Option (W Int)) (some (pu (w1.1 : Int))) (fun a l h => cutD a l h)) (slcW (pu (a.2.1 : (List Line))) (some (opW (pu (w1.1 : Int)) (pu (1 : Int)) (fun a b q => q (a + b)))) (none : Option (W Int)) (fun a l h => cutD a l h)) (fun a b q => (a.length + b.length ≤ sizeLine) ∧ q (a ++ b)))) (endK ())) fun (_ : Unit) =>
(sqK (ifK (andW (opW (pu (w1.2.2 : Int)) (pu (2 : Int)) (fun a b q => q (decide (a = b)))) (opW (pu (w1.1 : Int)) (unW (oneW (pu (a.2.1 : (List Line)))) (fun a q => q (a.1.length : Int))) (fun a b q => q (decide (a < b))))) (sqK (setK (opW (pu (a.2.1 : (List Line))) (pu (w1.1 : Int)) (fun xs i q => idxK xs i q))) fun (w2 : Line) =>
(sqK (setK (ifW (opW (pu (w2.2 : Str)) (pu (("!" : Str) : Str)) (fun a b q => q (Txt.endswith a b))) (slcW (pu (w2.2 : Str)) (none : Option (W Int)) (some (unW (pu (1 : Int)) (fun a q => q (-a)))) (fun a l h => cutS a l h)) (opW (pu (w2.2 : Str)) (pu (("!" : Str) : Str)) (fun a b q => (a.length + b.length ≤ sizeLine) ∧ q (a ++ b))))) fun (turned_ : Str) =>
(sqK (setK (pairW (pu (w2.1 : Str)) (ifW (opW (pu (w2.2 : Str)) (pu (("" : Str) : Str)) (fun a b q => q ((!decide (a = b))))) (pu (turned_ : Str)) (pu (("a" : Str) : Str))))) fun (line_ : Line) =>
(retK (opW (opW (slcW (pu (a.2.1 : (List Line))) (none : Option (W Int)) (some (pu (w1.1 : Int))) (fun a l h => cutD a l h)) (itW [(pu (line_ : Line))] : W (List Line)) (fun a b q => (a.length + b.length ≤ sizeLine) ∧ q (a ++ b))) (slcW (pu (a.2.1 : (List Line))) (some (opW (pu (w1.1 : Int)) (pu (1 : Int)) (fun a b q => q (a + b)))) (none : Option (W Int)) (fun a l h => cutD a l h)) (fun a b q => (a.length + b.length ≤ sizeLine) ∧ q (a ++ b))))))) (endK ())) fun (_ : Unit) =>
(sqK (setK (ifW (opW (pu (w1.1 : Int)) (unW (oneW (pu (a.2.1 : (List Line)))) (fun a q => q (a.1.length : Int))) (fun a b q => q (decide (a < b)))) (itW [(pu (w1.2.1 : Line))] : W (List Line)) (itW [] : W (List Line)))) fun (more_ : (List Line)) =>
(retK (opW (opW (slcW (pu (a.2.1 : (List Line))) (none : Option (W Int)) (some (pu (w1.1 : Int))) (fun a l h => cutD a l h)) (pu (more_ : (List Line))) (fun a b q => (a.length + b.length ≤ sizeLine) ∧ q (a ++ b))) (slcW (pu (a.2.1 : (List Line))) (some (opW (pu (w1.1 : Int)) (pu (1 : Int)) (fun a b q => q (a + b)))) (none : Option (W Int)) (fun a l h => cutD a l h)) (fun a b q => (a.length + b.length ≤ sizeLine) ∧ q (a ++ b)))))))))
theorem b__law_near (T : Tx P Kf mg) (h : In P w Kf mg base N__law_near (defScope (top 21)) fAll 1 X Wx) (hp : HPs X) (a : (List Line) × (List Line) × Unit) : DStms X T.A Wx (defBody (top 21)) (rdS (⟨(eL eLine), fun _ => none, (fun e => nomatch e), [], false⟩ : Sig (List Line) Empty) [some .b, some (.v ((eL eLine) a.1)), some (.v ((eL eLine) a.2.1)), none, none, none, none, none, none, none] (fun (e : Empty) => nomatch e) (mb__law_near a)) :=
  (ts_cons (xs (s_par3 (e1 := (fun (a : Int) => Nw.v (D.int a))) (e2 := (fun (a : Line) => Nw.v (eLine a))) (e3 := (fun (a : Int) => Nw.v (D.int a))) .nil rfl rfl) (h.par3 (i := 4) (j := 5) (l := 6) (by decide +kernel) (by decide +kernel) (pCons (xe v_v (xe (i_call (cl := fun (d : Int × Unit) => [.b, .v (D.int d.1)]) (fun d => d) (fun _ => rfl) (fun _ => rfl)) (h.call (fd__law_draw T) (by decide) (by decide +kernel) T.m__law_draw T.k__law_draw (xa (b_consB (sl := fun (a : Int × Unit) => [.v (D.int a.1)]) (i := 0) rfl) (pCons (h.var (i := 0) (by decide +kernel)) (xa (b_consV (e1 := D.int) (sl := fun (a : Unit) => [])) (pCons (xe (i_op op_add) (pBin false (xe (i_cb f_lenL) (h.bi cd_len (by decide +kernel) T.z_len rfl (xa a_1 (pCons (xe (i_var (e := (eL eLine)) (a := a.2.1) rfl) (h.var (i := 2) (by decide +kernel))) da_nil)))) (xe (i_cst (e := D.int) (a := 1)) de_int))) (xa b_nil da_nil)))))))) (pCons (xe v_v (xe (i_op op_idxL) (pIdx (xe (i_var (e := (eL eLine)) (a := a.1) rfl) (h.var (i := 1) (by decide +kernel))) (xe (i_call (cl := fun (d : Int × Unit) => [.b, .v (D.int d.1)]) (fun d => d) (fun _ => rfl) (fun _ => rfl)) (h.call (fd__law_draw T) (by decide) (by decide +kernel) T.m__law_draw T.k__law_draw (xa (b_consB (sl := fun (a : Int × Unit) => [.v (D.int a.1)]) (i := 0) rfl) (pCons (h.var (i := 0) (by decide +kernel)) (xa (b_consV (e1 := D.int) (sl := fun (a : Unit) => [])) (pCons (xe (i_cst (e := D.int) (a := 12)) de_int) (xa b_nil da_nil)))))))))) (pCons (xe v_v (xe (i_call (cl := fun (d : Int × Unit) => [.b, .v (D.int d.1)]) (fun d => d) (fun _ => rfl) (fun _ => rfl)) (h.call (fd__law_draw T) (by decide) (by decide +kernel) T.m__law_draw T.k__law_draw (xa (b_consB (sl := fun (a : Int × Unit) => [.v (D.int a.1)]) (i := 0) rfl) (pCons (h.var (i := 0) (by decide +kernel)) (xa (b_consV (e1 := D.int) (sl := fun (a : Unit) => [])) (pCons (xe (i_cst (e := D.int) (a := 4)) de_int) (xa b_nil da_nil)))))))) da_nil))))) fun (w1 : Int × Line × Int) =>
  (ts_cons (xs (s_if1 .nil) (ds_if (xt (i_op (op_eq (e := D.int))) (pCmpT h.rm (xe (i_var (e := D.int) (a := w1.2.2) rfl) (h.var (i := 6) (by decide +kernel))) (xe (i_cst (e := D.int) (a := 0)) de_int))) (ts_last (xs (s_ret .nil (fun _ z => by cases z)) (ds_ret (xe (i_op op_addL) (pBin false (xe (i_op op_addL) (pBin false (xe (i_slc (lo := none) (hi := (some _)) sl_L) (de_slc (m := false) (xe (i_var (e := (eL eLine)) (a := a.2.1) rfl) (h.var (i := 2) (by decide +kernel))) do_none (do_some (xe (i_var (e := D.int) (a := w1.1) rfl) (h.var (i := 4) (by decide +kernel)))))) (xe (i_disp (e := eLine)) (de_lst (m := false) (xa (it_cons it_nil) (pCons (xe (i_var (e := eLine) (a := w1.2.1) rfl) (h.var (i := 5) (by decide +kernel))) da_nil)))))) (xe (i_slc (lo := (some _)) (hi := none) sl_L) (de_slc (m := false) (xe (i_var (e := (eL eLine)) (a := a.2.1) rfl) (h.var (i := 2) (by decide +kernel))) (do_some (xe (i_var (e := D.int) (a := w1.1) rfl) (h.var (i := 4) (by decide +kernel)))) do_none))))))) (t_end () .refl))) fun _ =>
  (ts_cons (xs (s_if1 .nil) (ds_if (xt (i_op (op_eq (e := D.int))) (pCmpT h.rm (xe (i_var (e := D.int) (a := w1.2.2) rfl) (h.var (i := 6) (by decide +kernel))) (xe (i_cst (e := D.int) (a := 1)) de_int))) (ts_last (xs (s_ret .nil (fun _ z => by cases z)) (ds_ret (xe (i_op op_addL) (pBin false (xe (i_slc (lo := none) (hi := (some _)) sl_L) (de_slc (m := false) (xe (i_var (e := (eL eLine)) (a := a.2.1) rfl) (h.var (i := 2) (by decide +kernel))) do_none (do_some (xe (i_var (e := D.int) (a := w1.1) rfl) (h.var (i := 4) (by decide +kernel)))))) (xe (i_slc (lo := (some _)) (hi := none) sl_L) (de_slc (m := false) (xe (i_var (e := (eL eLine)) (a := a.2.1) rfl) (h.var (i := 2) (by decide +kernel))) (do_some (xe (i_op op_add) (pBin false (xe (i_var (e := D.int) (a := w1.1) rfl) (h.var (i := 4) (by decide +kernel))) (xe (i_cst (e := D.int) (a := 1)) de_int)))) do_none))))))) (t_end () .refl))) fun _ =>
  (ts_cons (xs (s_if1 .nil) (ds_if (dt_w (xw i_and (dw_and (xt (i_op (op_eq (e := D.int))) (pCmpT h.rm (xe (i_var (e := D.int) (a := w1.2.2) rfl) (h.var (i := 6) (by decide +kernel))) (xe (i_cst (e := D.int) (a := 2)) de_int))) (dw_and1 (xt (i_op op_lt) (pCmpT h.rm (xe (i_var (e := D.int) (a := w1.1) rfl) (h.var (i := 4) (by decide +kernel))) (xe (i_cb f_lenL) (h.bi cd_len (by decide +kernel) T.z_len rfl (xa a_1 (pCons (xe (i_var (e := (eL eLine)) (a := a.2.1) rfl) (h.var (i := 2) (by decide +kernel))) da_nil)))))))))) (ts_cons (xs (s_asg (g := .tup [.nm 8, .nm 9]) (fun (w2 : Line) => (tg_tup (tgs_cons tg_nm (tgs_cons tg_nm tgs_nil)))) .nil rfl) (ds_tup (xe (i_op op_idxL) (pIdx (xe (i_var (e := (eL eLine)) (a := a.2.1) rfl) (h.var (i := 2) (by decide +kernel))) (xe (i_var (e := D.int) (a := w1.1) rfl) (h.var (i := 4) (by decide +kernel))))) (dg_tg (g := .tup [.nm 8, .nm 9]) (h.vtup (vs_cons (h.vnm (i := 8) (by decide +kernel)) (vs_cons (h.vnm (i := 9) (by decide +kernel)) vs_nil)))))) fun (w2 : Line) =>
  (ts_cons (xs (s_set .nil rfl) (h.set (i := 7) (by decide +kernel) (xe i_if (de_if (pVal (xe (i_m1 ms_endsT) (pEnds (xe (i_var (e := D.str) (a := w2.2) rfl) (h.var (i := 9) (by decide +kernel))) (xe (i_cst (e := D.str) (a := ("!" : Str))) (pStr (by decide +kernel)))))) (xe (i_slc (lo := none) (hi := (some _)) sl_S) (de_slc (m := false) (xe (i_var (e := D.str) (a := w2.2) rfl) (h.var (i := 9) (by decide +kernel))) do_none (do_some (xe (i_un op_neg) (pNeg (xe (i_cst (e := D.int) (a := 1)) de_int)))))) (xe (i_op op_addS) (pBin false (xe (i_var (e := D.str) (a := w2.2) rfl) (h.var (i := 9) (by decide +kernel))) (xe (i_cst (e := D.str) (a := ("!" : Str))) (pStr (by decide +kernel))))))))) fun (turned_ : Str) =>
  (ts_cons (xs (s_set .nil rfl) (h.set (i := 5) (by decide +kernel) (xe (i_p2 (e1 := D.str) (e2 := D.str)) (de_tup (pCons (xe (i_var (e := D.str) (a := w2.1) rfl) (h.var (i := 8) (by decide +kernel))) (pCons (xe i_if (de_if (xt (i_op (op_ne (e := D.str))) (pCmpT h.rm (xe (i_var (e := D.str) (a := w2.2) rfl) (h.var (i := 9) (by decide +kernel))) (xe (i_cst (e := D.str) (a := ("" : Str))) (pStr (by decide +kernel))))) (xe (i_var (e := D.str) (a := turned_) rfl) (h.var (i := 7) (by decide +kernel))) (xe (i_cst (e := D.str) (a := ("a" : Str))) (pStr (by decide +kernel))))) da_nil)))))) fun (line_ : Line) =>
  (ts_last (xs (s_ret .nil (fun _ z => by cases z)) (ds_ret (xe (i_op op_addL) (pBin false (xe (i_op op_addL) (pBin false (xe (i_slc (lo := none) (hi := (some _)) sl_L) (de_slc (m := false) (xe (i_var (e := (eL eLine)) (a := a.2.1) rfl) (h.var (i := 2) (by decide +kernel))) do_none (do_some (xe (i_var (e := D.int) (a := w1.1) rfl) (h.var (i := 4) (by decide +kernel)))))) (xe (i_disp (e := eLine)) (de_lst (m := false) (xa (it_cons it_nil) (pCons (xe (i_var (e := eLine) (a := line_) rfl) (h.var (i := 5) (by decide +kernel))) da_nil)))))) (xe (i_slc (lo := (some _)) (hi := none) sl_L) (de_slc (m := false) (xe (i_var (e := (eL eLine)) (a := a.2.1) rfl) (h.var (i := 2) (by decide +kernel))) (do_some (xe (i_op op_add) (pBin false (xe (i_var (e := D.int) (a := w1.1) rfl) (h.var (i := 4) (by decide +kernel))) (xe (i_cst (e := D.int) (a := 1)) de_int)))) do_none)))))))))) (t_end () .refl))) fun _ =>
  (ts_cons (xs (s_set .nil rfl) (h.set (i := 3) (by decide +kernel) (xe i_if (de_if (xt (i_op op_lt) (pCmpT h.rm (xe (i_var (e := D.int) (a := w1.1) rfl) (h.var (i := 4) (by decide +kernel))) (xe (i_cb f_lenL) (h.bi cd_len (by decide +kernel) T.z_len rfl (xa a_1 (pCons (xe (i_var (e := (eL eLine)) (a := a.2.1) rfl) (h.var (i := 2) (by decide +kernel))) da_nil)))))) (xe (i_disp (e := eLine)) (de_lst (m := false) (xa (it_cons it_nil) (pCons (xe (i_var (e := eLine) (a := w1.2.1) rfl) (h.var (i := 5) (by decide +kernel))) da_nil)))) (xe (i_disp (e := eLine)) (de_lst (m := false) (xa it_nil da_nil))))))) fun (more_ : (List Line)) =>
  (ts_last (xs (s_ret .nil (fun _ z => by cases z)) (ds_ret (xe (i_op op_addL) (pBin false (xe (i_op op_addL) (pBin false (xe (i_slc (lo := none) (hi := (some _)) sl_L) (de_slc (m := false) (xe (i_var (e := (eL eLine)) (a := a.2.1) rfl) (h.var (i := 2) (by decide +kernel))) do_none (do_some (xe (i_var (e := D.int) (a := w1.1) rfl) (h.var (i := 4) (by decide +kernel)))))) (xe (i_var (e := (eL eLine)) (a := more_) rfl) (h.var (i := 3) (by decide +kernel))))) (xe (i_slc (lo := (some _)) (hi := none) sl_L) (de_slc (m := false) (xe (i_var (e := (eL eLine)) (a := a.2.1) rfl) (h.var (i := 2) (by decide +kernel))) (do_some (xe (i_op op_add) (pBin false (xe (i_var (e := D.int) (a := w1.1) rfl) (h.var (i := 4) (by decide +kernel))) (xe (i_cst (e := D.int) (a := 1)) de_int)))) do_none))))))))))))
def m__law_near (a : (List Line) × (List Line) × Unit) : W (List Line) := fun q x => mb__law_near a (fun r => q (Empty.elim r)) ⟨q, fun _ => False, fun _ => False, x⟩
theorem fd__law_near (T : Tx P Kf mg) : FnD P w (cc Kf T.A) mg base 2 T.f__law_near (spG (fun (a : (List Line) × (List Line) × Unit) => [.b, .v ((eL eLine) a.1), .v ((eL eLine) a.2.1)]) (fun _ => []) (fun _ => none) (eL eLine) m__law_near) :=
  fnT (sg := (⟨(eL eLine), fun _ => none, (fun e => nomatch e), [], false⟩ : Sig (List Line) Empty)) (osf := fun (a : (List Line) × (List Line) × Unit) => [some .b, some (.v ((eL eLine) a.1)), some (.v ((eL eLine) a.2.1)), none, none, none, none, none, none, none]) (res := (fun (e : Empty) => nomatch e)) (mb := mb__law_near) Empty.elim T.p__law_near sc__law_near (fun _ _ _ _ _ _ us hl => match us, hl with | [_, _, _], _ => rfl) (fun X Wx h hp a => b__law_near T h hp a) (fun _ => rfl) (fun _ => ⟨rfl, rfl⟩) (fun _ => rfl) (fun _ _ _ h => h) (fun r => nomatch r) (fun r => nomatch r) rfl
/-! ### is_word -/
def N_is_word : List Str := ["thing", "sign"]
theorem sc_is_word : FnScope N_is_word ["thing"] (defScope (top 8)) := ⟨rfl, rfl, rfl, by decide +kernel, rfl, by decide +kernel, by decide +kernel⟩
def r_is_word : DTS := sSeq (sIf (dOr (dNot (dCB (rIsiD isiG) (dCons (dVar 0) (dCons (dCst (.ty .str)) (dNil))))) (dNot (dBl (dChain (rCmp .LtE) (rCmp .LtE) (dCst (.int 1)) (dCB rLen (dCons (dVar 0) (dNil))) (dCst (.int 8)))))) (sSeq (sRet (dCst (.bl false))) (sNext)) (sNext)) (sSeq (sRet (dCB rAllD (dCons (dLc false (iSeqD (dVar 0)) (.nm 1) dYes (dOp (rCmp .In) (dVar 1) (dCst (.str ("abcdefghijklmnopqrstuvwxyz" : Str)))) [1]) (dNil)))) (sNext))
theorem b_is_word (T : Tx P Kf mg) (h : In P w Kf mg base N_is_word (defScope (top 8)) fAll 0 X Wx) (hp : HPs X) : DStms X T.A Wx (defBody (top 8)) (r_is_word) :=
  (ds_cons (ds_if (dt_w (dw_or (dt_not (pVal (h.bi (h.isi T.isi) (by decide +kernel) T.z_isinstance rfl (pCons (h.var (i := 0) (by decide +kernel)) (pCons (h.ty (T := .str) (by decide +kernel) T.z_str rfl (fun _ e => by cases e)) da_nil))))) (dw_or1 (dt_not (pChnT h.rm de_int (h.bi cd_len (by decide +kernel) T.z_len rfl (pCons (h.var (i := 0) (by decide +kernel)) da_nil)) (h.glob (v := .int 8) (by decide +kernel) T.m_MOST_LETTERS ⟨_, rfl⟩ still_int)))))) (ds_cons (ds_ret de_bl)
  ds_nil) ds_nil)
  (ds_cons (ds_ret (h.bi (cd_all h.calm) (by decide +kernel) T.z_all rfl (pCons (h.lc (m := false) (g := .nm 1) [("sign", 1)] (di_seq (h.var (i := 0) (by decide +kernel))) (by decide +kernel) (by decide) (fun _ h => (h.vnm (i := 1) (by decide +kernel))) (fun _ h => ts_nil) (fun _ h => (pCmp h.rm (h.var (i := 1) (by decide +kernel)) (h.glob (v := .str ("abcdefghijklmnopqrstuvwxyz" : Str)) (by decide +kernel) T.m_LETTERS ⟨_, rfl⟩ (still_str (sokB_ok (by decide +kernel))))))) da_nil)))
  ds_nil))
theorem dd_is_word (T : Tx P Kf mg) : FnD P w (cc Kf T.A) mg base 1 T.f_is_word (sp_is_word isiG) :=
  (fnd_mk T.p_is_word sc_is_word (fun _ _ _ _ _ _ us hl => match us, hl with | [_], _ => rfl) fun X Wx h hp => b_is_word T h hp).imp word_ok
theorem fd_is_word (T : Tx P Kf mg) : FnD P w (cc Kf T.A) mg base 1 T.f_is_word (spT (fun (a : D × Unit) => [.v (eD a.1)]) D.bl (isWordW isiG)) := (dd_is_word T).imp fun _ _ _ _ => is_word_T
/-! ### is_name -/
def N_is_name : List Str := ["thing"]
theorem sc_is_name : FnScope N_is_name ["thing"] (defScope (top 9)) := ⟨rfl, rfl, rfl, by decide +kernel, rfl, by decide +kernel, by decide +kernel⟩
def r_is_name (sp_is_word : DSp) : DTS := sSeq (sRet (dAnd (dCB (rIsiD isiG) (dCons (dVar 0) (dCons (dCst (.ty .str)) (dNil)))) (dIf (dOp (rCmp .Eq) (dSlc false (dVar 0) (some (dUn rNeg (dCst (.int 1)))) none) (dCst (.str ("!" : Str)))) (dCall sp_is_word (dCons (dSlc false (dVar 0) none (some (dUn rNeg (dCst (.int 1))))) (dNil))) (dCall sp_is_word (dCons (dVar 0) (dNil)))))) (sNext)
theorem b_is_name {sp_is_word : DSp} (T : Tx P Kf mg) (F_is_word : FnD P w (cc Kf T.A) mg base 1 T.f_is_word sp_is_word) (h : In P w Kf mg base N_is_name (defScope (top 9)) fAll 1 X Wx) (hp : HPs X) : DStms X T.A Wx (defBody (top 9)) (r_is_name sp_is_word) :=
  (ds_cons (ds_ret (de_and (h.bi (h.isi T.isi) (by decide +kernel) T.z_isinstance rfl (pCons (h.var (i := 0) (by decide +kernel)) (pCons (h.ty (T := .str) (by decide +kernel) T.z_str rfl (fun _ e => by cases e)) da_nil))) (de_one (de_if (pCmpT h.rm (de_slc (m := false) (h.var (i := 0) (by decide +kernel)) (do_some (pNeg de_int)) do_none) (pStr (by decide +kernel))) (h.call F_is_word (by decide) (by decide +kernel) T.m_is_word T.k_is_word (pCons (de_slc (m := false) (h.var (i := 0) (by decide +kernel)) do_none (do_some (pNeg de_int))) da_nil)) (h.call F_is_word (by decide) (by decide +kernel) T.m_is_word T.k_is_word (pCons (h.var (i := 0) (by decide +kernel)) da_nil))))))
  ds_nil)
theorem dd_is_name (T : Tx P Kf mg) : FnD P w (cc Kf T.A) mg base 2 T.f_is_name (sp_is_name isiG) :=
  (fnd_mk T.p_is_name sc_is_name (fun _ _ _ _ _ _ us hl => match us, hl with | [_], _ => rfl) fun X Wx h hp => b_is_name T (dd_is_word T) h hp).imp name_ok
theorem fd_is_name (T : Tx P Kf mg) : FnD P w (cc Kf T.A) mg base 2 T.f_is_name (spT (fun (a : D × Unit) => [.v (eD a.1)]) D.bl (isNameW isiG)) := (dd_is_name T).imp fun _ _ _ _ => is_name_T
/-! ### is_line -/
def N_is_line : List Str := ["thing", "kind", "name"]
theorem sc_is_line : FnScope N_is_line ["thing"] (defScope (top 10)) := ⟨rfl, rfl, rfl, by decide +kernel, rfl, by decide +kernel, by decide +kernel⟩
def r_is_line (sp_is_word : DSp) (sp_is_name : DSp) : DTS := sSeq (sIf (dOr (dNot (dCB (rIsiD isiG) (dCons (dVar 0) (dCons (dCst (.ty .tup)) (dNil))))) (dOp (rCmp .NotEq) (dCB rLen (dCons (dVar 0) (dNil))) (dCst (.int 2)))) (sSeq (sRet (dCst (.bl false))) (sNext)) (sNext)) (sSeq (sAsg (dVar 0) (gOf (.tup [.nm 1, .nm 2]))) (sSeq (sRet (dAnd (dCall sp_is_word (dCons (dVar 1) (dNil))) (dAnd (dCB (rIsiD isiG) (dCons (dVar 2) (dCons (dCst (.ty .str)) (dNil)))) (dOr (dOp (rCmp .Eq) (dVar 2) (dCst (.str ("" : Str)))) (dCall sp_is_name (dCons (dVar 2) (dNil))))))) (sNext)))
theorem b_is_line {sp_is_word : DSp} {sp_is_name : DSp} (T : Tx P Kf mg) (F_is_word : FnD P w (cc Kf T.A) mg base 1 T.f_is_word sp_is_word) (F_is_name : FnD P w (cc Kf T.A) mg base 2 T.f_is_name sp_is_name) (h : In P w Kf mg base N_is_line (defScope (top 10)) fAll 2 X Wx) (hp : HPs X) : DStms X T.A Wx (defBody (top 10)) (r_is_line sp_is_word sp_is_name) :=
  (ds_cons (ds_if (dt_w (dw_or (dt_not (pVal (h.bi (h.isi T.isi) (by decide +kernel) T.z_isinstance rfl (pCons (h.var (i := 0) (by decide +kernel)) (pCons (h.ty (T := .tup) (by decide +kernel) T.z_tuple rfl (fun _ e => by cases e)) da_nil))))) (dw_or1 (pCmpT h.rm (h.bi cd_len (by decide +kernel) T.z_len rfl (pCons (h.var (i := 0) (by decide +kernel)) da_nil)) de_int)))) (ds_cons (ds_ret de_bl)
  ds_nil) ds_nil)
  (ds_cons (ds_tup (h.var (i := 0) (by decide +kernel)) (dg_tg (g := .tup [.nm 1, .nm 2]) (h.vtup (vs_cons (h.vnm (i := 1) (by decide +kernel)) (vs_cons (h.vnm (i := 2) (by decide +kernel)) vs_nil)))))
  (ds_cons (ds_ret (de_and (h.call F_is_word (by decide) (by decide +kernel) T.m_is_word T.k_is_word (pCons (h.var (i := 1) (by decide +kernel)) da_nil)) (de_and (h.bi (h.isi T.isi) (by decide +kernel) T.z_isinstance rfl (pCons (h.var (i := 2) (by decide +kernel)) (pCons (h.ty (T := .str) (by decide +kernel) T.z_str rfl (fun _ e => by cases e)) da_nil))) (de_one (de_or (pCmp h.rm (h.var (i := 2) (by decide +kernel)) (pStr (by decide +kernel))) (de_one (h.call F_is_name (by decide) (by decide +kernel) T.m_is_name T.k_is_name (pCons (h.var (i := 2) (by decide +kernel)) da_nil))))))))
  ds_nil)))
theorem dd_is_line (T : Tx P Kf mg) : FnD P w (cc Kf T.A) mg base 3 T.f_is_line (sp_is_line isiG) :=
  (fnd_mk T.p_is_line sc_is_line (fun _ _ _ _ _ _ us hl => match us, hl with | [_], _ => rfl) fun X Wx h hp => b_is_line T (dd_is_word T) (dd_is_name T) h hp).imp line_ok
theorem fd_is_line (T : Tx P Kf mg) : FnD P w (cc Kf T.A) mg base 3 T.f_is_line (spT (fun (a : D × Unit) => [.v (eD a.1)]) D.bl (isLineW isiG)) := (dd_is_line T).imp fun _ _ _ _ => is_line_T
/-! ### File.__init__ -/
def N_File___init__ : List Str := ["self", "lines", "index", "line"]
theorem sc_File___init__ : FnScope N_File___init__ ["self", "lines"] (defScope (inClass (top 14) 0)) := ⟨rfl, rfl, rfl, by decide +kernel, rfl, by decide +kernel, by decide +kernel⟩
def mb_File___init__ (a : (List Line)) : M (List Line) (List Line) Empty :=
(sqK (forM (mapW (pu (a : (List Line))) (fun a => enumT 0 a)) () fun (x2 : (Int × Line)) (a1 : Unit) =>
(sqK (ifK (mapW (callW (pairW (mapW (pu (x2.2 : Line)) eLine) (pu ())) (isLineW isiG) (fun (d : D × Unit) => d)) (fun a => !a)) noK (endK ())) fun (_ : Unit) =>
(endK ()))) fun (a4 : Unit) =>
(sqK (setK (pu (a : (List Line)))) fun (lines_f : (List Line)) =>
(endK lines_f)))
theorem b_File___init__ (T : Tx P Kf mg) (h : In P w Kf mg base N_File___init__ (defScope (inClass (top 14) 0)) fAll 3 X Wx) (hp : HPs X) (a : (List Line)) : DStms X T.A Wx (defBody (inClass (top 14) 0)) (rdS (⟨fun _ => D.non, fun b => some (.ins 0 [eT eLine b]), (fun e => nomatch e), [], true⟩ : Sig (List Line) Empty) [some (.o (.ins 0 [])), some (.v ((eT eLine) a)), none, none] (fun (b : (List Line)) => [some (.o (.ins 0 [eT eLine b])), none, none, none]) (mb_File___init__ a)) :=
  (ts_cons (xs (s_for (e := (eP D.int eLine)) (rs := fun (a1 : Unit) => [some (.o (.ins 0 [])), some (.v ((eT eLine) a)), none, none]) (a0 := ()) (g := .tup [.nm 2, .nm 3]) (.same (.same (.drop (.drop Le.nil)))) (fun (x2 : (Int × Line)) (a1 : Unit) => (tg_tup (tgs_cons tg_nm (tgs_cons tg_nm tgs_nil)))) .nil (fun _ => .nil) rfl) (h.loop hp (xi (i_enum (e := eLine) (f := fun a => a) (fun a S => ⟨sq_tup a S, trivial⟩)) (h.enum (by decide +kernel) T.z_enumerate (xa a_1 (pCons (xe (i_var (e := (eT eLine)) (a := a) rfl) (h.var (i := 1) (by decide +kernel))) da_nil)))) (dg_tg (g := .tup [.nm 2, .nm 3]) (h.vtup (vs_cons (h.vnm (i := 2) (by decide +kernel)) (vs_cons (h.vnm (i := 3) (by decide +kernel)) vs_nil)))) (dsU2 fun (x2 : (Int × Line)) (a1 : Unit) =>
  (ts_cons (xs (s_if1 .nil) (ds_if (xt (i_not tru_bl) (dt_not (pVal (xe (i_call (cl := fun (d : D × Unit) => [.v (eD d.1)]) (fun d => d) (fun _ => rfl) (fun _ => rfl)) (h.call (fd_is_line T) (by decide) (by decide +kernel) T.m_is_line T.k_is_line (xa (b_consV (e1 := eD) (sl := fun (a : Unit) => [])) (pCons (xe (i_as (e := eLine) (e' := eD) eLine (fun _ => rfl)) (xe (i_var (e := eLine) (a := x2.2) rfl) (h.var (i := 3) (by decide +kernel)))) (xa b_nil da_nil)))))))) (ts_last (xs s_never ds_never)) (t_end () .refl))) fun _ =>
  (t_end () (.same (.same (.drop (.drop Le.nil))))))))) fun (a4 : Unit) =>
  (ts_cons (xs (s_fld (C := 0) (xs := []) (ys := fun (lines_f : (List Line)) => [(eT eLine) lines_f]) (e := (eT eLine)) (i := 0) rfl (fun _ => rfl) .nil) (h.sfld (T.fo_lines) T.small (h.var (i := 0) (by decide +kernel)) (xe (i_var (e := (eT eLine)) (a := a) rfl) (h.var (i := 1) (by decide +kernel))))) fun (lines_f : (List Line)) =>
  (t_end lines_f (.same (.drop (.drop (.drop Le.nil)))))))
def m_File___init__ (a : (List Line)) : W (List Line) := fun q x => (a.length ≤ sizeLine) ∧ mb_File___init__ a (fun r => q ((fun b => b) r)) ⟨q, fun _ => False, fun _ => False, x⟩
theorem fd_File___init__ (T : Tx P Kf mg) : FnD P w (cc Kf T.A) mg base 4 T.f_File___init__ (spG (fun (a : (List Line)) => [.o (.ins 0 [])]) (fun a => a.map eLine) (fun b => some (.ins 0 [eT eLine b])) (fun _ => D.non) m_File___init__) :=
  fnTS (ps := ["self"]) (sg := (⟨fun _ => D.non, fun b => some (.ins 0 [eT eLine b]), (fun e => nomatch e), [], true⟩ : Sig (List Line) Empty)) (osf := fun (a : (List Line)) => [some (.o (.ins 0 [])), some (.v ((eT eLine) a)), none, none]) (res := (fun (b : (List Line)) => [some (.o (.ins 0 [eT eLine b])), none, none, none])) (mb := mb_File___init__) (fun b => b) T.p_File___init__ sc_File___init__ (fun _ _ _ _ _ _ us rest hl => match us, hl, rest with | [_], _, [] => rfl | [_], _, _ :: _ => rfl) (fun X Wx h hp a => b_File___init__ T h hp a) (fun _ => rfl) (fun _ => ⟨rfl, rfl⟩) (fun _ => rfl) (fun a q x h => by rw [List.length_map]; exact h) (fun _ => rfl) (fun _ _ m e => by cases e; rfl) rfl
/-! ### File.of -/
def N_File_of : List Str := ["cls", "lines"]
theorem sc_File_of : FnScope N_File_of ["cls", "lines"] (defScope (inClass (top 14) 9)) := ⟨rfl, rfl, rfl, by decide +kernel, rfl, by decide +kernel, by decide +kernel⟩
def mb_File_of (a : Unit × (List Line) × Unit) : M Empty (List Line) Empty :=
(retK (mapW (callW (pu (a.2.1 : (List Line))) m_File___init__ (fun (d : (List Line)) => d)) (fun (b : (List Line)) => b)))
theorem b_File_of (T : Tx P Kf mg) (h : In P w Kf mg base N_File_of (defScope (inClass (top 14) 9)) fAll 5 X Wx) (hp : HPs X) (a : Unit × (List Line) × Unit) : DStms X T.A Wx (defBody (inClass (top 14) 9)) (rdS (⟨eFile, fun _ => none, (fun e => nomatch e), [], false⟩ : Sig (List Line) Empty) [some (.v ((fun (_ : Unit) => D.ty (.own 0)) a.1)), some (.v ((eL eLine) a.2.1))] (fun (e : Empty) => nomatch e) (mb_File_of a)) :=
  (ts_last (xs (s_ret .nil (fun _ z => by cases z)) (ds_ret (xe (i_as (e := fun (b : (List Line)) => D.ins 0 [eT eLine b]) (e' := eFile) (fun b => b) (fun _ => rfl)) (xe (i_makeS (C := 0) (fs := fun (b : (List Line)) => [eT eLine b]) (ey := (eL eLine)) (i_var (e := fun (_ : Unit) => D.ty (.own 0)) (a := ()) rfl) (fun d => d) (fun _ => rfl) (fun _ _ => rfl) (fun _ => rfl)) (h.makeS (C := 0) (mm := false) T.mk_File (fd_File___init__ T) (by decide) (h.var (i := 0) (by decide +kernel)) (xe (i_var (e := (eL eLine)) (a := a.2.1) rfl) (h.var (i := 1) (by decide +kernel)))))))))
def m_File_of (a : Unit × (List Line) × Unit) : W (List Line) := fun q x => mb_File_of a (fun r => q (Empty.elim r)) ⟨q, fun _ => False, fun _ => False, x⟩
theorem fd_File_of (T : Tx P Kf mg) : FnD P w (cc Kf T.A) mg base 6 T.f_File_of (spG (fun (a : Unit × (List Line) × Unit) => [.v ((fun (_ : Unit) => D.ty (.own 0)) a.1), .v ((eL eLine) a.2.1)]) (fun _ => []) (fun _ => none) eFile m_File_of) :=
  fnT (sg := (⟨eFile, fun _ => none, (fun e => nomatch e), [], false⟩ : Sig (List Line) Empty)) (osf := fun (a : Unit × (List Line) × Unit) => [some (.v ((fun (_ : Unit) => D.ty (.own 0)) a.1)), some (.v ((eL eLine) a.2.1))]) (res := (fun (e : Empty) => nomatch e)) (mb := mb_File_of) Empty.elim T.p_File_of sc_File_of (fun _ _ _ _ _ _ us hl => match us, hl with | [_, _], _ => rfl) (fun X Wx h hp a => b_File_of T h hp a) (fun _ => rfl) (fun _ => ⟨rfl, rfl⟩) (fun _ => rfl) (fun _ _ _ h => h) (fun r => nomatch r) (fun r => nomatch r) rfl
/-! ### _law_is_less -/
def N__law_is_less : List Str := ["_law_one", "_law_other", "_law_k"]
theorem sc__law_is_less : FnScope N__law_is_less ["_law_one", "_law_other"] (defScope (top 22)) := ⟨rfl, rfl, rfl, by decide +kernel, rfl, by decide +kernel, by decide +kernel⟩
def mb__law_is_less (a : (List Line) × (List Line) × Unit) : M Empty Bool Empty :=
(sqK (ifK (opW (unW (oneW (pu (a.1 : (List Line)))) (fun a q => q (a.1.length : Int))) (unW (oneW (pu (a.2.1 : (List Line)))) (fun a q => q (a.1.length : Int))) (fun a b q => q ((!decide (a = b))))) (retK (opW (unW (oneW (pu (a.1 : (List Line)))) (fun a q => q (a.1.length : Int))) (unW (oneW (pu (a.2.1 : (List Line)))) (fun a q => q (a.1.length : Int))) (fun a b q => q (decide (a < b))))) (endK ())) fun (_ : Unit) =>
(sqK (forM (rng1W (unW (oneW (pu (a.1 : (List Line)))) (fun a q => q (a.1.length : Int)))) () fun (x2 : Int) (a1 : Unit) =>
(sqK (ifK (opW (opW (pu (a.1 : (List Line))) (pu (x2 : Int)) (fun xs i q => idxK xs i q)) (opW (pu (a.2.1 : (List Line))) (pu (x2 : Int)) (fun xs i q => idxK xs i q)) (fun a b q => q ((!decide (a = b))))) (retK (opW (opW (pu (a.1 : (List Line))) (pu (x2 : Int)) (fun xs i q => idxK xs i q)) (opW (pu (a.2.1 : (List Line))) (pu (x2 : Int)) (fun xs i q => idxK xs i q)) (fun a b q => q ((ltPr strLt strLt) a b)))) (endK ())) fun (_ : Unit) =>
(endK ()))) fun (a4 : Unit) =>
(retK (pu (false : Bool)))))
theorem b__law_is_less (T : Tx P Kf mg) (h : In P w Kf mg base N__law_is_less (defScope (top 22)) fAll 0 X Wx) (hp : HPs X) (a : (List Line) × (List Line) × Unit) : DStms X T.A Wx (defBody (top 22)) (rdS (⟨D.bl, fun _ => none, (fun e => nomatch e), [], false⟩ : Sig Bool Empty) [some (.v ((eL eLine) a.1)), some (.v ((eL eLine) a.2.1)), none] (fun (e : Empty) => nomatch e) (mb__law_is_less a)) :=
  (ts_cons (xs (s_if1 .nil) (ds_if (xt (i_op (op_ne (e := D.int))) (pCmpT h.rm (xe (i_cb f_lenL) (h.bi cd_len (by decide +kernel) T.z_len rfl (xa a_1 (pCons (xe (i_var (e := (eL eLine)) (a := a.1) rfl) (h.var (i := 0) (by decide +kernel))) da_nil)))) (xe (i_cb f_lenL) (h.bi cd_len (by decide +kernel) T.z_len rfl (xa a_1 (pCons (xe (i_var (e := (eL eLine)) (a := a.2.1) rfl) (h.var (i := 1) (by decide +kernel))) da_nil)))))) (ts_last (xs (s_ret .nil (fun _ z => by cases z)) (ds_ret (xe (i_op op_lt) (pCmp h.rm (xe (i_cb f_lenL) (h.bi cd_len (by decide +kernel) T.z_len rfl (xa a_1 (pCons (xe (i_var (e := (eL eLine)) (a := a.1) rfl) (h.var (i := 0) (by decide +kernel))) da_nil)))) (xe (i_cb f_lenL) (h.bi cd_len (by decide +kernel) T.z_len rfl (xa a_1 (pCons (xe (i_var (e := (eL eLine)) (a := a.2.1) rfl) (h.var (i := 1) (by decide +kernel))) da_nil))))))))) (t_end () .refl))) fun _ =>
  (ts_cons (xs (s_for (e := D.int) (rs := fun (a1 : Unit) => [some (.v ((eL eLine) a.1)), some (.v ((eL eLine) a.2.1)), none]) (a0 := ()) (g := .nm 2) (.same (.same (.drop Le.nil))) (fun (x2 : Int) (a1 : Unit) => tg_nm) .nil (fun _ => .nil) rfl) (h.loop hp (xi i_rng1 (h.rng1 (by decide +kernel) T.z_range (xa a_1 (pCons (xe (i_cb f_lenL) (h.bi cd_len (by decide +kernel) T.z_len rfl (xa a_1 (pCons (xe (i_var (e := (eL eLine)) (a := a.1) rfl) (h.var (i := 0) (by decide +kernel))) da_nil)))) da_nil)))) (dg_tg (g := .nm 2) (h.vnm (i := 2) (by decide +kernel))) (dsU2 fun (x2 : Int) (a1 : Unit) =>
  (ts_cons (xs (s_if1 .nil) (ds_if (xt (i_op (op_ne (e := eLine))) (pCmpT h.rm (xe (i_op op_idxL) (pIdx (xe (i_var (e := (eL eLine)) (a := a.1) rfl) (h.var (i := 0) (by decide +kernel))) (xe (i_var (e := D.int) (a := x2) rfl) (h.var (i := 2) (by decide +kernel))))) (xe (i_op op_idxL) (pIdx (xe (i_var (e := (eL eLine)) (a := a.2.1) rfl) (h.var (i := 1) (by decide +kernel))) (xe (i_var (e := D.int) (a := x2) rfl) (h.var (i := 2) (by decide +kernel))))))) (ts_last (xs (s_ret .nil (fun _ z => by cases z)) (ds_ret (xe (i_op (op_ltT (e := eLine))) (de_cmp (opd_ltT h.rm) (xe (i_op op_idxL) (pIdx (xe (i_var (e := (eL eLine)) (a := a.1) rfl) (h.var (i := 0) (by decide +kernel))) (xe (i_var (e := D.int) (a := x2) rfl) (h.var (i := 2) (by decide +kernel))))) (xe (i_op op_idxL) (pIdx (xe (i_var (e := (eL eLine)) (a := a.2.1) rfl) (h.var (i := 1) (by decide +kernel))) (xe (i_var (e := D.int) (a := x2) rfl) (h.var (i := 2) (by decide +kernel))))) (by first | exact nobehind _ (by decide) (by decide) | rfl)))))) (t_end () .refl))) fun _ =>
  (t_end () (.same (.same (.drop Le.nil)))))))) fun (a4 : Unit) =>
  (ts_last (xs (s_ret .nil (fun _ z => by cases z)) (ds_ret (xe (i_cst (e := D.bl) (a := false)) de_bl))))))
def m__law_is_less (a : (List Line) × (List Line) × Unit) : W Bool := fun q x => mb__law_is_less a (fun r => q (Empty.elim r)) ⟨q, fun _ => False, fun _ => False, x⟩
theorem fd__law_is_less (T : Tx P Kf mg) : FnD P w (cc Kf T.A) mg base 1 T.f__law_is_less (spG (fun (a : (List Line) × (List Line) × Unit) => [.v ((eL eLine) a.1), .v ((eL eLine) a.2.1)]) (fun _ => []) (fun _ => none) D.bl m__law_is_less) :=
  fnT (sg := (⟨D.bl, fun _ => none, (fun e => nomatch e), [], false⟩ : Sig Bool Empty)) (osf := fun (a : (List Line) × (List Line) × Unit) => [some (.v ((eL eLine) a.1)), some (.v ((eL eLine) a.2.1)), none]) (res := (fun (e : Empty) => nomatch e)) (mb := mb__law_is_less) Empty.elim T.p__law_is_less sc__law_is_less (fun _ _ _ _ _ _ us hl => match us, hl with | [_, _], _ => rfl) (fun X Wx h hp a => b__law_is_less T h hp a) (fun _ => rfl) (fun _ => ⟨rfl, rfl⟩) (fun _ => rfl) (fun _ _ _ h => h) (fun r => nomatch r) (fun r => nomatch r) rfl
/-! ### File.__lt__ -/
def N_File___lt__ : List Str := ["self", "other"]
theorem sc_File___lt__ : FnScope N_File___lt__ ["self", "other"] (defScope (inClass (top 14) 2)) := ⟨rfl, rfl, rfl, by decide +kernel, rfl, by decide +kernel, by decide +kernel⟩
def mb_File___lt__ (a : (List Line) × (List Line) × Unit) : M Empty Bool Empty :=
(sqK (ifK (mapW (unW (twoW (mapW (pu (a.2.1 : (List Line))) eFile) (pu (() : Unit))) (fun a q => isiK isiG (eD a.1) (.own 0) q)) (fun a => !a)) noK (endK ())) fun (_ : Unit) =>
(retK (opW (pairW (unW (oneW (mapW (pu (a.1 : (List Line))) (fun (a : (List Line)) => a))) (fun a q => q (a.1.length : Int))) (mapW (pu (a.1 : (List Line))) (fun (a : (List Line)) => a))) (pairW (unW (oneW (mapW (pu (a.2.1 : (List Line))) (fun (a : (List Line)) => a))) (fun a q => q (a.1.length : Int))) (mapW (pu (a.2.1 : (List Line))) (fun (a : (List Line)) => a))) (fun a b q => q ((ltPr ltI (ltLs (ltPr strLt strLt))) a b)))))
theorem b_File___lt__ (T : Tx P Kf mg) (h : In P w Kf mg base N_File___lt__ (defScope (inClass (top 14) 2)) fAll 0 X Wx) (hp : HPs X) (a : (List Line) × (List Line) × Unit) : DStms X T.A Wx (defBody (inClass (top 14) 2)) (rdS (⟨D.bl, fun _ => none, (fun e => nomatch e), [], false⟩ : Sig Bool Empty) [some (.v (eFile a.1)), some (.v (eFile a.2.1))] (fun (e : Empty) => nomatch e) (mb_File___lt__ a)) :=
  (ts_cons (xs (s_if1 .nil) (ds_if (xt (i_not tru_bl) (dt_not (pVal (xe (i_cb (f_isi (e1 := eD) (t := (.own 0)))) (h.bi (h.isi T.isi) (by decide +kernel) T.z_isinstance rfl (xa a_2 (pCons (xe (i_as (e := eFile) (e' := eD) eFile (fun _ => rfl)) (xe (i_var (e := eFile) (a := a.2.1) rfl) (h.var (i := 1) (by decide +kernel)))) (pCons (xe (i_cst (e := fun (_ : Unit) => D.ty (.own 0)) (a := ())) (h.cls (by decide +kernel) T.m_File)) da_nil)))))))) (ts_last (xs s_never ds_never)) (t_end () .refl))) fun _ =>
  (ts_last (xs (s_ret .nil (fun _ z => by cases z)) (ds_ret (xe (i_op (op_ltT (e := (eP D.int (eT eLine))))) (de_cmp (opd_ltT h.rm) (xe (i_p2 (e1 := D.int) (e2 := (eT eLine))) (de_tup (pCons (xe (i_cb f_lenT) (h.bi cd_len (by decide +kernel) T.z_len rfl (xa a_1 (pCons (xe (i_fld (e := eFile) (e2 := (eT eLine)) (g := fun (a : (List Line)) => a) fl_File_lines) (h.fld (T.fo_lines) (xe (i_var (e := eFile) (a := a.1) rfl) (h.var (i := 0) (by decide +kernel))))) da_nil)))) (pCons (xe (i_fld (e := eFile) (e2 := (eT eLine)) (g := fun (a : (List Line)) => a) fl_File_lines) (h.fld (T.fo_lines) (xe (i_var (e := eFile) (a := a.1) rfl) (h.var (i := 0) (by decide +kernel))))) da_nil)))) (xe (i_p2 (e1 := D.int) (e2 := (eT eLine))) (de_tup (pCons (xe (i_cb f_lenT) (h.bi cd_len (by decide +kernel) T.z_len rfl (xa a_1 (pCons (xe (i_fld (e := eFile) (e2 := (eT eLine)) (g := fun (a : (List Line)) => a) fl_File_lines) (h.fld (T.fo_lines) (xe (i_var (e := eFile) (a := a.2.1) rfl) (h.var (i := 1) (by decide +kernel))))) da_nil)))) (pCons (xe (i_fld (e := eFile) (e2 := (eT eLine)) (g := fun (a : (List Line)) => a) fl_File_lines) (h.fld (T.fo_lines) (xe (i_var (e := eFile) (a := a.2.1) rfl) (h.var (i := 1) (by decide +kernel))))) da_nil)))) (by first | exact nobehind _ (by decide) (by decide) | rfl)))))))
def m_File___lt__ (a : (List Line) × (List Line) × Unit) : W Bool := fun q x => mb_File___lt__ a (fun r => q (Empty.elim r)) ⟨q, fun _ => False, fun _ => False, x⟩
theorem fd_File___lt__ (T : Tx P Kf mg) : FnD P w (cc Kf T.A) mg base 1 T.f_File___lt__ (spG (fun (a : (List Line) × (List Line) × Unit) => [.v (eFile a.1), .v (eFile a.2.1)]) (fun _ => []) (fun _ => none) D.bl m_File___lt__) :=
  fnT (sg := (⟨D.bl, fun _ => none, (fun e => nomatch e), [], false⟩ : Sig Bool Empty)) (osf := fun (a : (List Line) × (List Line) × Unit) => [some (.v (eFile a.1)), some (.v (eFile a.2.1))]) (res := (fun (e : Empty) => nomatch e)) (mb := mb_File___lt__) Empty.elim T.p_File___lt__ sc_File___lt__ (fun _ _ _ _ _ _ us hl => match us, hl with | [_, _], _ => rfl) (fun X Wx h hp a => b_File___lt__ T h hp a) (fun _ => rfl) (fun _ => ⟨rfl, rfl⟩) (fun _ => rfl) (fun _ _ _ h => h) (fun r => nomatch r) (fun r => nomatch r) rfl
/-! ### File.__eq__ -/
def N_File___eq__ : List Str := ["self", "other"]
theorem sc_File___eq__ : FnScope N_File___eq__ ["self", "other"] (defScope (inClass (top 14) 1)) := ⟨rfl, rfl, rfl, by decide +kernel, rfl, by decide +kernel, by decide +kernel⟩
def mb_File___eq__ (a : (List Line) × (List Line) × Unit) : M Empty Bool Empty :=
(retK (andW (unW (twoW (mapW (pu (a.2.1 : (List Line))) eFile) (pu (() : Unit))) (fun a q => isiK isiG (eD a.1) (.own 0) q)) (opW (mapW (pu (a.1 : (List Line))) (fun (a : (List Line)) => a)) (mapW (pu (a.2.1 : (List Line))) (fun (a : (List Line)) => a)) (fun a b q => q (decide (a = b))))))
theorem b_File___eq__ (T : Tx P Kf mg) (h : In P w Kf mg base N_File___eq__ (defScope (inClass (top 14) 1)) fAll 0 X Wx) (hp : HPs X) (a : (List Line) × (List Line) × Unit) : DStms X T.A Wx (defBody (inClass (top 14) 1)) (rdS (⟨D.bl, fun _ => none, (fun e => nomatch e), [], false⟩ : Sig Bool Empty) [some (.v (eFile a.1)), some (.v (eFile a.2.1))] (fun (e : Empty) => nomatch e) (mb_File___eq__ a)) :=
  (ts_last (xs (s_ret .nil (fun _ z => by cases z)) (ds_ret (xe i_and (de_and (xe (i_cb (f_isi (e1 := eD) (t := (.own 0)))) (h.bi (h.isi T.isi) (by decide +kernel) T.z_isinstance rfl (xa a_2 (pCons (xe (i_as (e := eFile) (e' := eD) eFile (fun _ => rfl)) (xe (i_var (e := eFile) (a := a.2.1) rfl) (h.var (i := 1) (by decide +kernel)))) (pCons (xe (i_cst (e := fun (_ : Unit) => D.ty (.own 0)) (a := ())) (h.cls (by decide +kernel) T.m_File)) da_nil))))) (de_one (xe (i_op (op_eq (e := (eT eLine)))) (pCmp h.rm (xe (i_fld (e := eFile) (e2 := (eT eLine)) (g := fun (a : (List Line)) => a) fl_File_lines) (h.fld (T.fo_lines) (xe (i_var (e := eFile) (a := a.1) rfl) (h.var (i := 0) (by decide +kernel))))) (xe (i_fld (e := eFile) (e2 := (eT eLine)) (g := fun (a : (List Line)) => a) fl_File_lines) (h.fld (T.fo_lines) (xe (i_var (e := eFile) (a := a.2.1) rfl) (h.var (i := 1) (by decide +kernel)))))))))))))
def m_File___eq__ (a : (List Line) × (List Line) × Unit) : W Bool := fun q x => mb_File___eq__ a (fun r => q (Empty.elim r)) ⟨q, fun _ => False, fun _ => False, x⟩
theorem fd_File___eq__ (T : Tx P Kf mg) : FnD P w (cc Kf T.A) mg base 1 T.f_File___eq__ (spG (fun (a : (List Line) × (List Line) × Unit) => [.v (eFile a.1), .v (eFile a.2.1)]) (fun _ => []) (fun _ => none) D.bl m_File___eq__) :=
  fnT (sg := (⟨D.bl, fun _ => none, (fun e => nomatch e), [], false⟩ : Sig Bool Empty)) (osf := fun (a : (List Line) × (List Line) × Unit) => [some (.v (eFile a.1)), some (.v (eFile a.2.1))]) (res := (fun (e : Empty) => nomatch e)) (mb := mb_File___eq__) Empty.elim T.p_File___eq__ sc_File___eq__ (fun _ _ _ _ _ _ us hl => match us, hl with | [_, _], _ => rfl) (fun X Wx h hp a => b_File___eq__ T h hp a) (fun _ => rfl) (fun _ => ⟨rfl, rfl⟩) (fun _ => rfl) (fun _ _ _ h => h) (fun r => nomatch r) (fun r => nomatch r) rfl
/-! ### law -/
def N_law : List Str := ["_law_script", "_law_at", "_law_bag_here", "_law_pool_here", "_law_rows", "_law_turn", "_law_files", "_law_k", "_law_one", "_law_lines_here", "_law_m", "_law_other", "_law_told", "_law_third", "_law_is_less_here", "_law_is_equal"]
theorem sc_law : FnScope N_law ["_law_script"] (defScope (top 23)) := ⟨rfl, rfl, rfl, by decide +kernel, rfl, by decide +kernel, by decide +kernel⟩
def mb_law (a : (List Int) × Unit) : M Empty Bool Empty :=
(sqK (forM (rng1W (unW (twoW (pu (1 : Int)) (unW (twoW (pu (4 : Int)) (unW (oneW (pu (a.1 : (List Int)))) (fun a q => q (a.1.length : Int)))) (fun a q => q (if a.2.1 < a.1 then a.2.1 else a.1)))) (fun a q => q (if a.2.1 > a.1 then a.2.1 else a.1)))) () fun (x2 : Int) (a1 : Unit) =>
(sqK (bagK (twoW (pu (a.1 : (List Int))) (pu (x2 : Int)))) fun (_ : Unit) =>
(sqK (setK (callW (pu ()) m__law_pool (fun (d : Unit) => d))) fun (pool_ : (List Line)) =>
(sqK (setK (itW [(callW (pairW (pu (pool_ : (List Line))) (pairW (callW (pairW (pu (6 : Int)) (pu ())) drawW (fun (d : Int × Unit) => d)) (pu ()))) m__law_lines (fun (d : (List Line) × Int × Unit) => d))] : W (List (List Line)))) fun (rows_ : (List (List Line))) =>
(sqK (forM (rng1W (opW (pu (1 : Int)) (callW (pairW (pu (7 : Int)) (pu ())) drawW (fun (d : Int × Unit) => d)) (fun a b q => q (a + b)))) rows_ fun (x48 : Int) (a47 : (List (List Line))) =>
(sqK (appK (callW (pairW (pu (pool_ : (List Line))) (pairW (unW (callW (pairW (pu ((a47.length : Int) : Int)) (pu ())) drawW (fun (d : Int × Unit) => d)) (fun j q => idxK a47 j q)) (pu ()))) m__law_near (fun (d : (List Line) × (List Line) × Unit) => d)) a47.length) fun (w51 : (List Line)) =>
(endK (a47 ++ [w51])))) fun (a52 : (List (List Line))) =>
(sqK (setK (lcyW (mapW (pu (a52 : (List (List Line)))) (fun a => a)) (fun (y53 : (List Line)) => (callW (pairW (pu (y53 : (List Line))) (pu ())) m_File_of (fun (d : (List Line) × Unit) => ((), d)))))) fun (files_ : (List (List Line))) =>
(sqK (forM (mapW (pu (files_ : (List (List Line)))) (fun a => enumT 0 a)) () fun (x55 : (Int × (List Line))) (a54 : Unit) =>
(sqK (forM (mapW (pu (files_ : (List (List Line)))) (fun a => enumT 0 a)) () fun (x72 : (Int × (List Line))) (a71 : Unit) =>
(sqK (par2K (callW (pairW (opW (pu (a52 : (List (List Line)))) (pu (x55.1 : Int)) (fun xs i q => idxK xs i q)) (pairW (opW (pu (a52 : (List (List Line)))) (pu (x72.1 : Int)) (fun xs i q => idxK xs i q)) (pu ()))) m__law_is_less (fun (d : (List Line) × (List Line) × Unit) => d)) (opW (opW (pu (a52 : (List (List Line)))) (pu (x55.1 : Int)) (fun xs i q => idxK xs i q)) (opW (pu (a52 : (List (List Line)))) (pu (x72.1 : Int)) (fun xs i q => idxK xs i q)) (fun a b q => q (decide (a = b))))) fun (w79 : Bool × Bool) =>
(sqK (setK (itW [(opxW (pu (x55.2 : (List Line))) (pu (x72.2 : (List Line))) (fun a b => m_File___lt__ (a, b, ()))), (opxW (pu (x55.2 : (List Line))) (pu (x72.2 : (List Line))) (fun a b => m_File___eq__ (a, b, ()))), (opxW (pu (x72.2 : (List Line))) (pu (x55.2 : (List Line))) (fun a b => m_File___lt__ (a, b, ())))] : W (List Bool))) fun (told_ : (List Bool)) =>
(sqK (ifK (opW (unW (oneW (pu (told_ : (List Bool)))) (fun a q => (Shw ((eL D.bl) a.1)) ∧ q (((eL D.bl) a.1).p))) (unW (oneW (itW [(pu (w79.1 : Bool)), (pu (w79.2 : Bool)), (andW (mapW (pu (w79.1 : Bool)) (fun a => !a)) (mapW (pu (w79.2 : Bool)) (fun a => !a)))] : W (List Bool))) (fun a q => (Shw ((eL D.bl) a.1)) ∧ q (((eL D.bl) a.1).p))) (fun a b q => q ((!decide (PyData.shown a = PyData.shown b))))) (retK (pu (false : Bool))) (endK ())) fun (_ : Unit) =>
(sqK (forM (mapW (pu (files_ : (List (List Line)))) (fun a => a)) () fun (x81 : (List Line)) (a80 : Unit) =>
(sqK (ifK (andW (opxW (pu (x55.2 : (List Line))) (pu (x72.2 : (List Line))) (fun a b => m_File___lt__ (a, b, ()))) (andW (opxW (pu (x72.2 : (List Line))) (pu (x81 : (List Line))) (fun a b => m_File___lt__ (a, b, ()))) (mapW (opxW (pu (x55.2 : (List Line))) (pu (x81 : (List Line))) (fun a b => m_File___lt__ (a, b, ()))) (fun a => !a)))) (retK (pu (false : Bool))) (endK ())) fun (_ : Unit) =>
(endK ()))) fun (a83 : Unit) =>
(endK ())))))) fun (a84 : Unit) =>
(endK ()))) fun (a85 : Unit) =>
(sqK (forM (mapW (pu (files_ : (List (List Line)))) (fun a => enumT 0 a)) () fun (x87 : (Int × (List Line))) (a86 : Unit) =>
(sqK (ifK (opW (unW (oneW (mapW (pu (x87.2 : (List Line))) (fun (a : (List Line)) => a))) (fun a q => (Shw ((eT eLine) a.1)) ∧ q (((eT eLine) a.1).p))) (unW (oneW (unW (oneW (opW (pu (a52 : (List (List Line)))) (pu (x87.1 : Int)) (fun xs i q => idxK xs i q))) (fun a q => q a.1))) (fun a q => (Shw ((eT eLine) a.1)) ∧ q (((eT eLine) a.1).p))) (fun a b q => q ((!decide (PyData.shown a = PyData.shown b))))) (retK (pu (false : Bool))) (endK ())) fun (_ : Unit) =>
(endK ()))) fun (a89 : Unit) =>
(endK ()))))))))) fun (a90 : Unit) =>
(retK (pu (true : Bool))))
theorem b_law (T : Tx P Kf mg) (h : In P w Kf mg base N_law (defScope (top 23)) fAll 6 X Wx) (hp : HPs X) (a : (List Int) × Unit) : DStms X T.A Wx (defBody (top 23)) (rdS (⟨D.bl, fun _ => none, (fun e => nomatch e), [], false⟩ : Sig Bool Empty) [some (.v (eC a.1)), none, none, none, none, none, none, none, none, none, none, none, none, none, none, none] (fun (e : Empty) => nomatch e) (mb_law a)) :=
  (ts_cons (xs (s_for (e := D.int) (rs := fun (a1 : Unit) => [some (.v (eC a.1)), none, none, none, none, none, none, none, none, none, none, none, none, none, none, none]) (a0 := ()) (g := .nm 1) (.same (.drop (.drop (.drop (.drop (.drop (.drop (.drop (.drop (.drop (.drop (.drop (.drop (.drop (.drop (.drop Le.nil)))))))))))))))) (fun (x2 : Int) (a1 : Unit) => tg_nm) .nil (fun _ => .nil) rfl) (h.loop hp (xi i_rng1 (h.rng1 (by decide +kernel) T.z_range (xa a_1 (pCons (xe (i_cb f_max) (h.bi (cd_max h.calm) (by decide +kernel) T.z_max rfl (xa a_2 (pCons (xe (i_cst (e := D.int) (a := 1)) de_int) (pCons (xe (i_cb f_min) (h.bi (cd_min h.calm) (by decide +kernel) T.z_min rfl (xa a_2 (pCons (xe (i_cst (e := D.int) (a := 4)) de_int) (pCons (xe (i_cb f_lenC) (h.bi cd_len (by decide +kernel) T.z_len rfl (xa a_1 (pCons (xe (i_var (e := eC) (a := a.1) rfl) (h.var (i := 0) (by decide +kernel))) da_nil)))) da_nil))))) da_nil))))) da_nil)))) (dg_tg (g := .nm 1) (h.vnm (i := 1) (by decide +kernel))) (dsU2 fun (x2 : Int) (a1 : Unit) =>
  (ts_cons (xs (s_bag .nil rfl) (h.set (i := 2) (by decide +kernel) (h.call (dd__law_bag T) (by decide) (by decide +kernel) T.m__law_bag T.k__law_bag (xa a_2 (pCons (xe (i_var (e := eC) (a := a.1) rfl) (h.var (i := 0) (by decide +kernel))) (pCons (xe (i_var (e := D.int) (a := x2) rfl) (h.var (i := 1) (by decide +kernel))) da_nil)))))) fun (_ : Unit) =>
  (ts_cons (xs (s_set .nil rfl) (h.set (i := 3) (by decide +kernel) (xe (i_call (cl := fun (d : Unit) => [.b]) (fun d => d) (fun _ => rfl) (fun _ => rfl)) (h.call (fd__law_pool T) (by decide) (by decide +kernel) T.m__law_pool T.k__law_pool (xa (b_consB (sl := fun (a : Unit) => []) (i := 2) rfl) (pCons (h.var (i := 2) (by decide +kernel)) (xa b_nil da_nil))))))) fun (pool_ : (List Line)) =>
  (ts_cons (xs (s_new .nil rfl) (xs (asg_mono (n_disp (e := (eL eLine)))) (h.set (i := 4) (by decide +kernel) (de_lst (m := true) (xa (it_cons it_nil) (pCons (xe (i_call (cl := fun (d : (List Line) × Int × Unit) => [.b, .v ((eL eLine) d.1), .v (D.int d.2.1)]) (fun d => d) (fun _ => rfl) (fun _ => rfl)) (h.call (fd__law_lines T) (by decide) (by decide +kernel) T.m__law_lines T.k__law_lines (xa (b_consB (sl := fun (a : (List Line) × Int × Unit) => [.v ((eL eLine) a.1), .v (D.int a.2.1)]) (i := 2) rfl) (pCons (h.var (i := 2) (by decide +kernel)) (xa (b_consV (e1 := (eL eLine)) (sl := fun (a : Int × Unit) => [.v (D.int a.1)])) (pCons (xe (i_var (e := (eL eLine)) (a := pool_) rfl) (h.var (i := 3) (by decide +kernel))) (xa (b_consV (e1 := D.int) (sl := fun (a : Unit) => [])) (pCons (xe (i_call (cl := fun (d : Int × Unit) => [.b, .v (D.int d.1)]) (fun d => d) (fun _ => rfl) (fun _ => rfl)) (h.call (fd__law_draw T) (by decide) (by decide +kernel) T.m__law_draw T.k__law_draw (xa (b_consB (sl := fun (a : Int × Unit) => [.v (D.int a.1)]) (i := 2) rfl) (pCons (h.var (i := 2) (by decide +kernel)) (xa (b_consV (e1 := D.int) (sl := fun (a : Unit) => [])) (pCons (xe (i_cst (e := D.int) (a := 6)) de_int) (xa b_nil da_nil))))))) (xa b_nil da_nil))))))))) da_nil)))))) fun (rows_ : (List (List Line))) =>
  (ts_cons (xs (s_for (e := D.int) (rs := fun (a47 : (List (List Line))) => [some (.v (eC a.1)), none, some .b, some (.v ((eL eLine) pool_)), some (.o (eLo (eL eLine) a47)), none, none, none, none, none, none, none, none, none, none, none]) (a0 := rows_) (g := .nm 5) (.same (.drop (.same (.same (.same (.drop (.drop (.drop (.drop (.drop (.drop (.drop (.drop (.drop (.drop (.drop Le.nil)))))))))))))))) (fun (x48 : Int) (a47 : (List (List Line))) => tg_nm) .nil (fun _ => .nil) rfl) (h.loop hp (xi i_rng1 (h.rng1 (by decide +kernel) T.z_range (xa a_1 (pCons (xe (i_op op_add) (pBin false (xe (i_cst (e := D.int) (a := 1)) de_int) (xe (i_call (cl := fun (d : Int × Unit) => [.b, .v (D.int d.1)]) (fun d => d) (fun _ => rfl) (fun _ => rfl)) (h.call (fd__law_draw T) (by decide) (by decide +kernel) T.m__law_draw T.k__law_draw (xa (b_consB (sl := fun (a : Int × Unit) => [.v (D.int a.1)]) (i := 2) rfl) (pCons (h.var (i := 2) (by decide +kernel)) (xa (b_consV (e1 := D.int) (sl := fun (a : Unit) => [])) (pCons (xe (i_cst (e := D.int) (a := 7)) de_int) (xa b_nil da_nil))))))))) da_nil)))) (dg_tg (g := .nm 5) (h.vnm (i := 5) (by decide +kernel))) (dsU2 fun (x48 : Int) (a47 : (List (List Line))) =>
  (ts_cons (xs (s_append (e := (eL eLine)) (xs := a47) (i := 4) rfl .nil) (pExpr (pAppend (h.var (i := 4) (by decide +kernel)) (pCons (xe (i_call (cl := fun (d : (List Line) × (List Line) × Unit) => [.b, .v ((eL eLine) d.1), .v ((eL eLine) d.2.1)]) (fun d => d) (fun _ => rfl) (fun _ => rfl)) (h.call (fd__law_near T) (by decide) (by decide +kernel) T.m__law_near T.k__law_near (xa (b_consB (sl := fun (a : (List Line) × (List Line) × Unit) => [.v ((eL eLine) a.1), .v ((eL eLine) a.2.1)]) (i := 2) rfl) (pCons (h.var (i := 2) (by decide +kernel)) (xa (b_consV (e1 := (eL eLine)) (sl := fun (a : (List Line) × Unit) => [.v ((eL eLine) a.1)])) (pCons (xe (i_var (e := (eL eLine)) (a := pool_) rfl) (h.var (i := 3) (by decide +kernel))) (xa (b_consV (e1 := (eL eLine)) (sl := fun (a : Unit) => [])) (pCons (xe (i_idxO (e := (eL eLine)) (xs := a47) (i := 4) rfl) (pIdx (h.var (i := 4) (by decide +kernel)) (xe (i_call (cl := fun (d : Int × Unit) => [.b, .v (D.int d.1)]) (fun d => d) (fun _ => rfl) (fun _ => rfl)) (h.call (fd__law_draw T) (by decide) (by decide +kernel) T.m__law_draw T.k__law_draw (xa (b_consB (sl := fun (a : Int × Unit) => [.v (D.int a.1)]) (i := 2) rfl) (pCons (h.var (i := 2) (by decide +kernel)) (xa (b_consV (e1 := D.int) (sl := fun (a : Unit) => [])) (pCons (xe (i_lenO (e := (eL eLine)) (xs := a47) (i := 4) rfl) (h.bi cd_len (by decide +kernel) T.z_len rfl (pCons (h.var (i := 4) (by decide +kernel)) da_nil))) (xa b_nil da_nil))))))))) (xa b_nil da_nil))))))))) da_nil)))) fun (w51 : (List Line)) =>
  (t_end (a47 ++ [w51]) (.same (.drop (.same (.same (.same (.drop (.drop (.drop (.drop (.drop (.drop (.drop (.drop (.drop (.drop (.drop Le.nil))))))))))))))))))))) fun (a52 : (List (List Line))) =>
  (t_frz (m0 := eLo (eL eLine) a52) 4 rfl rfl (ts_cons (xs (s_set .nil rfl) (xs (asg_mono (i_lcY (e := (eL eLine)) (e2 := eFile) (g := .nm 9) (vs := [9]) (fun (y53 : (List Line)) => tg_nm))) (h.setLc (i0 := 6) (m := false) (g := .nm 9) (by decide +kernel) rfl rfl [("_law_lines_here", 9)] (xi (i_seq (e := (eL eLine)) (f := fun a => a) sq_lst) (di_seq (xe (i_var (e := (eL (eL eLine))) (a := a52) rfl) (h.var (i := 4) (by decide +kernel))))) (by decide +kernel) (by decide) (fun _ h => (h.vnm (i := 9) (by decide +kernel))) (fun _ h => ts_nil) (fun _ h => deU fun (y53 : (List Line)) => (xe (i_cmet (C := 0) (cl := fun (d : (List Line) × Unit) => [.v ((eL eLine) d.1)]) (fun d => ((), d)) (fun _ => rfl) (fun _ => rfl)) (h.cmet (C := 0) (by decide +kernel) T.m_File T.cr_File T.cm_File_of (fd_File_of T) (by decide) (xa (b_consV (e1 := (eL eLine)) (sl := fun (a : Unit) => [])) (pCons (xe (i_var (e := (eL eLine)) (a := y53) rfl) (h.var (i := 9) (by decide +kernel))) (xa b_nil da_nil))))))))) fun (files_ : (List (List Line))) =>
  (ts_cons (xs (s_for (e := (eP D.int eFile)) (rs := fun (a54 : Unit) => [some (.v (eC a.1)), none, none, none, some (.v ((eL (eL eLine)) a52)), none, some (.v ((eL eFile) files_)), none, none, none, none, none, none, none, none, none]) (a0 := ()) (g := .tup [.nm 7, .nm 8]) (.same (.drop (.drop (.drop (.same (.drop (.same (.drop (.drop (.drop (.drop (.drop (.drop (.drop (.drop (.drop Le.nil)))))))))))))))) (fun (x55 : (Int × (List Line))) (a54 : Unit) => (tg_tup (tgs_cons tg_nm (tgs_cons tg_nm tgs_nil)))) .nil (fun _ => .nil) rfl) (h.loop hp (xi (i_enum (e := eFile) (f := fun a => a) (fun a S => ⟨sq_lst a S, trivial⟩)) (h.enum (by decide +kernel) T.z_enumerate (xa a_1 (pCons (xe (i_var (e := (eL eFile)) (a := files_) rfl) (h.var (i := 6) (by decide +kernel))) da_nil)))) (dg_tg (g := .tup [.nm 7, .nm 8]) (h.vtup (vs_cons (h.vnm (i := 7) (by decide +kernel)) (vs_cons (h.vnm (i := 8) (by decide +kernel)) vs_nil)))) (dsU2 fun (x55 : (Int × (List Line))) (a54 : Unit) =>
  (ts_cons (xs (s_for (e := (eP D.int eFile)) (rs := fun (a71 : Unit) => [some (.v (eC a.1)), none, none, none, some (.v ((eL (eL eLine)) a52)), none, some (.v ((eL eFile) files_)), some (.v (D.int x55.1)), some (.v (eFile x55.2)), none, none, none, none, none, none, none]) (a0 := ()) (g := .tup [.nm 10, .nm 11]) (.same (.drop (.drop (.drop (.same (.drop (.same (.same (.same (.drop (.drop (.drop (.drop (.drop (.drop (.drop Le.nil)))))))))))))))) (fun (x72 : (Int × (List Line))) (a71 : Unit) => (tg_tup (tgs_cons tg_nm (tgs_cons tg_nm tgs_nil)))) .nil (fun _ => .nil) rfl) (h.loop hp (xi (i_enum (e := eFile) (f := fun a => a) (fun a S => ⟨sq_lst a S, trivial⟩)) (h.enum (by decide +kernel) T.z_enumerate (xa a_1 (pCons (xe (i_var (e := (eL eFile)) (a := files_) rfl) (h.var (i := 6) (by decide +kernel))) da_nil)))) (dg_tg (g := .tup [.nm 10, .nm 11]) (h.vtup (vs_cons (h.vnm (i := 10) (by decide +kernel)) (vs_cons (h.vnm (i := 11) (by decide +kernel)) vs_nil)))) (dsU2 fun (x72 : (Int × (List Line))) (a71 : Unit) =>
  (ts_cons (xs (s_par2 (e1 := (fun (a : Bool) => Nw.v (D.bl a))) (e2 := (fun (a : Bool) => Nw.v (D.bl a))) .nil rfl) (h.par2 (i := 14) (j := 15) (by decide +kernel) (by decide +kernel) (pCons (xe v_v (xe (i_call (cl := fun (d : (List Line) × (List Line) × Unit) => [.v ((eL eLine) d.1), .v ((eL eLine) d.2.1)]) (fun d => d) (fun _ => rfl) (fun _ => rfl)) (h.call (fd__law_is_less T) (by decide) (by decide +kernel) T.m__law_is_less T.k__law_is_less (xa (b_consV (e1 := (eL eLine)) (sl := fun (a : (List Line) × Unit) => [.v ((eL eLine) a.1)])) (pCons (xe (i_op op_idxL) (pIdx (xe (i_var (e := (eL (eL eLine))) (a := a52) rfl) (h.var (i := 4) (by decide +kernel))) (xe (i_var (e := D.int) (a := x55.1) rfl) (h.var (i := 7) (by decide +kernel))))) (xa (b_consV (e1 := (eL eLine)) (sl := fun (a : Unit) => [])) (pCons (xe (i_op op_idxL) (pIdx (xe (i_var (e := (eL (eL eLine))) (a := a52) rfl) (h.var (i := 4) (by decide +kernel))) (xe (i_var (e := D.int) (a := x72.1) rfl) (h.var (i := 10) (by decide +kernel))))) (xa b_nil da_nil)))))))) (pCons (xe v_v (xe (i_op (op_eq (e := (eL eLine)))) (pCmp h.rm (xe (i_op op_idxL) (pIdx (xe (i_var (e := (eL (eL eLine))) (a := a52) rfl) (h.var (i := 4) (by decide +kernel))) (xe (i_var (e := D.int) (a := x55.1) rfl) (h.var (i := 7) (by decide +kernel))))) (xe (i_op op_idxL) (pIdx (xe (i_var (e := (eL (eL eLine))) (a := a52) rfl) (h.var (i := 4) (by decide +kernel))) (xe (i_var (e := D.int) (a := x72.1) rfl) (h.var (i := 10) (by decide +kernel)))))))) da_nil)))) fun (w79 : Bool × Bool) =>
  (ts_cons (xs (s_set .nil rfl) (h.set (i := 12) (by decide +kernel) (xe (i_disp (e := D.bl)) (de_lst (m := false) (xa (it_cons (it_cons (it_cons it_nil))) (pCons (xe (i_opX (o_cmp (C := 0) (e1 := eFile) (e2 := eFile) (fun a b => (a, b, ())) (fun _ => ⟨_, rfl⟩) (fun _ _ => ⟨_, rfl, rfl⟩) (fun _ _ => rfl) (fun _ _ => rfl))) (de_cmpX (h.cmpO (C := 0) T.d_File___lt__ (fd_File___lt__ T) (by decide) T.ok_File) (xe (i_var (e := eFile) (a := x55.2) rfl) (h.var (i := 8) (by decide +kernel))) (xe (i_var (e := eFile) (a := x72.2) rfl) (h.var (i := 11) (by decide +kernel))))) (pCons (xe (i_opX (o_cmp (C := 0) (e1 := eFile) (e2 := eFile) (fun a b => (a, b, ())) (fun _ => ⟨_, rfl⟩) (fun _ _ => ⟨_, rfl, rfl⟩) (fun _ _ => rfl) (fun _ _ => rfl))) (de_cmpX (h.cmpO (C := 0) T.d_File___eq__ (fd_File___eq__ T) (by decide) T.ok_File) (xe (i_var (e := eFile) (a := x55.2) rfl) (h.var (i := 8) (by decide +kernel))) (xe (i_var (e := eFile) (a := x72.2) rfl) (h.var (i := 11) (by decide +kernel))))) (pCons (xe (i_opX (o_cmp (C := 0) (e1 := eFile) (e2 := eFile) (fun a b => (a, b, ())) (fun _ => ⟨_, rfl⟩) (fun _ _ => ⟨_, rfl, rfl⟩) (fun _ _ => rfl) (fun _ _ => rfl))) (de_cmpX (h.cmpO (C := 0) T.d_File___lt__ (fd_File___lt__ T) (by decide) T.ok_File) (xe (i_var (e := eFile) (a := x72.2) rfl) (h.var (i := 11) (by decide +kernel))) (xe (i_var (e := eFile) (a := x55.2) rfl) (h.var (i := 8) (by decide +kernel))))) da_nil)))))))) fun (told_ : (List Bool)) =>
  (ts_cons (xs (s_if1 .nil) (ds_if (xt (i_op op_neR) (pCmpT h.rm (xe (i_cb (f_reprL (e1 := (eL D.bl)) (fun _ => ⟨_, .inl rfl⟩))) (h.bi (cd_repr h.rm) (by decide +kernel) T.z_repr rfl (xa a_1 (pCons (xe (i_var (e := (eL D.bl)) (a := told_) rfl) (h.var (i := 12) (by decide +kernel))) da_nil)))) (xe (i_cb (f_reprL (e1 := (eL D.bl)) (fun _ => ⟨_, .inl rfl⟩))) (h.bi (cd_repr h.rm) (by decide +kernel) T.z_repr rfl (xa a_1 (pCons (xe (i_disp (e := D.bl)) (de_lst (m := false) (xa (it_cons (it_cons (it_cons it_nil))) (pCons (xe (i_var (e := D.bl) (a := w79.1) rfl) (h.var (i := 14) (by decide +kernel))) (pCons (xe (i_var (e := D.bl) (a := w79.2) rfl) (h.var (i := 15) (by decide +kernel))) (pCons (xe i_and (de_and (xe (i_not tru_bl) (de_not (xe (i_var (e := D.bl) (a := w79.1) rfl) (h.var (i := 14) (by decide +kernel))))) (de_one (xe (i_not tru_bl) (de_not (xe (i_var (e := D.bl) (a := w79.2) rfl) (h.var (i := 15) (by decide +kernel)))))))) da_nil)))))) da_nil)))))) (ts_last (xs (s_ret .nil (fun _ z => by cases z)) (ds_ret (xe (i_cst (e := D.bl) (a := false)) de_bl)))) (t_end () .refl))) fun _ =>
  (ts_cons (xs (s_for (e := eFile) (rs := fun (a80 : Unit) => [some (.v (eC a.1)), none, none, none, some (.v ((eL (eL eLine)) a52)), none, some (.v ((eL eFile) files_)), some (.v (D.int x55.1)), some (.v (eFile x55.2)), none, none, some (.v (eFile x72.2)), none, none, none, none]) (a0 := ()) (g := .nm 13) (.same (.drop (.drop (.drop (.same (.drop (.same (.same (.same (.drop (.drop (.same (.drop (.drop (.drop (.drop Le.nil)))))))))))))))) (fun (x81 : (List Line)) (a80 : Unit) => tg_nm) .nil (fun _ => .nil) rfl) (h.loop hp (xi (i_seq (e := eFile) (f := fun a => a) sq_lst) (di_seq (xe (i_var (e := (eL eFile)) (a := files_) rfl) (h.var (i := 6) (by decide +kernel))))) (dg_tg (g := .nm 13) (h.vnm (i := 13) (by decide +kernel))) (dsU2 fun (x81 : (List Line)) (a80 : Unit) =>
  (ts_cons (xs (s_if1 .nil) (ds_if (dt_w (xw i_and (dw_and (xt (i_opX (o_cmp (C := 0) (e1 := eFile) (e2 := eFile) (fun a b => (a, b, ())) (fun _ => ⟨_, rfl⟩) (fun _ _ => ⟨_, rfl, rfl⟩) (fun _ _ => rfl) (fun _ _ => rfl))) (dt_cmpX (h.cmpO (C := 0) T.d_File___lt__ (fd_File___lt__ T) (by decide) T.ok_File) (xe (i_var (e := eFile) (a := x55.2) rfl) (h.var (i := 8) (by decide +kernel))) (xe (i_var (e := eFile) (a := x72.2) rfl) (h.var (i := 11) (by decide +kernel))))) (xw i_and (dw_and (xt (i_opX (o_cmp (C := 0) (e1 := eFile) (e2 := eFile) (fun a b => (a, b, ())) (fun _ => ⟨_, rfl⟩) (fun _ _ => ⟨_, rfl, rfl⟩) (fun _ _ => rfl) (fun _ _ => rfl))) (dt_cmpX (h.cmpO (C := 0) T.d_File___lt__ (fd_File___lt__ T) (by decide) T.ok_File) (xe (i_var (e := eFile) (a := x72.2) rfl) (h.var (i := 11) (by decide +kernel))) (xe (i_var (e := eFile) (a := x81) rfl) (h.var (i := 13) (by decide +kernel))))) (dw_and1 (xt (i_not tru_bl) (dt_not (xt (i_opX (o_cmp (C := 0) (e1 := eFile) (e2 := eFile) (fun a b => (a, b, ())) (fun _ => ⟨_, rfl⟩) (fun _ _ => ⟨_, rfl, rfl⟩) (fun _ _ => rfl) (fun _ _ => rfl))) (dt_cmpX (h.cmpO (C := 0) T.d_File___lt__ (fd_File___lt__ T) (by decide) T.ok_File) (xe (i_var (e := eFile) (a := x55.2) rfl) (h.var (i := 8) (by decide +kernel))) (xe (i_var (e := eFile) (a := x81) rfl) (h.var (i := 13) (by decide +kernel))))))))))))) (ts_last (xs (s_ret .nil (fun _ z => by cases z)) (ds_ret (xe (i_cst (e := D.bl) (a := false)) de_bl)))) (t_end () .refl))) fun _ =>
  (t_end () (.same (.drop (.drop (.drop (.same (.drop (.same (.same (.same (.drop (.drop (.same (.drop (.drop (.drop (.drop Le.nil))))))))))))))))))))) fun (a83 : Unit) =>
  (t_end () (.same (.drop (.drop (.drop (.same (.drop (.same (.same (.same (.drop (.drop (.drop (.drop (.drop (.drop (.drop Le.nil)))))))))))))))))))))))) fun (a84 : Unit) =>
  (t_end () (.same (.drop (.drop (.drop (.same (.drop (.same (.drop (.drop (.drop (.drop (.drop (.drop (.drop (.drop (.drop Le.nil))))))))))))))))))))) fun (a85 : Unit) =>
  (ts_cons (xs (s_for (e := (eP D.int eFile)) (rs := fun (a86 : Unit) => [some (.v (eC a.1)), none, none, none, some (.v ((eL (eL eLine)) a52)), none, none, none, none, none, none, none, none, none, none, none]) (a0 := ()) (g := .tup [.nm 7, .nm 8]) (.same (.drop (.drop (.drop (.same (.drop (.drop (.drop (.drop (.drop (.drop (.drop (.drop (.drop (.drop (.drop Le.nil)))))))))))))))) (fun (x87 : (Int × (List Line))) (a86 : Unit) => (tg_tup (tgs_cons tg_nm (tgs_cons tg_nm tgs_nil)))) .nil (fun _ => .nil) rfl) (h.loop hp (xi (i_enum (e := eFile) (f := fun a => a) (fun a S => ⟨sq_lst a S, trivial⟩)) (h.enum (by decide +kernel) T.z_enumerate (xa a_1 (pCons (xe (i_var (e := (eL eFile)) (a := files_) rfl) (h.var (i := 6) (by decide +kernel))) da_nil)))) (dg_tg (g := .tup [.nm 7, .nm 8]) (h.vtup (vs_cons (h.vnm (i := 7) (by decide +kernel)) (vs_cons (h.vnm (i := 8) (by decide +kernel)) vs_nil)))) (dsU2 fun (x87 : (Int × (List Line))) (a86 : Unit) =>
  (ts_cons (xs (s_if1 .nil) (ds_if (xt (i_op op_neR) (pCmpT h.rm (xe (i_cb (f_reprL (e1 := (eT eLine)) (fun _ => ⟨_, .inr rfl⟩))) (h.bi (cd_repr h.rm) (by decide +kernel) T.z_repr rfl (xa a_1 (pCons (xe (i_fld (e := eFile) (e2 := (eT eLine)) (g := fun (a : (List Line)) => a) fl_File_lines) (h.fld (T.fo_lines) (xe (i_var (e := eFile) (a := x87.2) rfl) (h.var (i := 8) (by decide +kernel))))) da_nil)))) (xe (i_cb (f_reprL (e1 := (eT eLine)) (fun _ => ⟨_, .inr rfl⟩))) (h.bi (cd_repr h.rm) (by decide +kernel) T.z_repr rfl (xa a_1 (pCons (xe (i_cb f_tupL) (h.bt cd_tup (by decide +kernel) T.z_tuple rfl (xa a_1 (pCons (xe (i_op op_idxL) (pIdx (xe (i_var (e := (eL (eL eLine))) (a := a52) rfl) (h.var (i := 4) (by decide +kernel))) (xe (i_var (e := D.int) (a := x87.1) rfl) (h.var (i := 7) (by decide +kernel))))) da_nil)))) da_nil)))))) (ts_last (xs (s_ret .nil (fun _ z => by cases z)) (ds_ret (xe (i_cst (e := D.bl) (a := false)) de_bl)))) (t_end () .refl))) fun _ =>
  (t_end () (.same (.drop (.drop (.drop (.same (.drop (.drop (.drop (.drop (.drop (.drop (.drop (.drop (.drop (.drop (.drop Le.nil))))))))))))))))))))) fun (a89 : Unit) =>
  (t_end () (.same (.drop (.drop (.drop (.drop (.drop (.drop (.drop (.drop (.drop (.drop (.drop (.drop (.drop (.drop (.drop Le.nil)))))))))))))))))))))))))))) fun (a90 : Unit) =>
  (ts_last (xs (s_ret .nil (fun _ z => by cases z)) (ds_ret (xe (i_cst (e := D.bl) (a := true)) de_bl)))))
def m_law (a : (List Int) × Unit) : W Bool := fun q x => mb_law a (fun r => q (Empty.elim r)) ⟨q, fun _ => False, fun _ => False, x⟩
theorem fd_law (T : Tx P Kf mg) : FnD P w (cc Kf T.A) mg base 7 T.f_law (spG (fun (a : (List Int) × Unit) => [.v (eC a.1)]) (fun _ => []) (fun _ => none) D.bl m_law) :=
  fnT (sg := (⟨D.bl, fun _ => none, (fun e => nomatch e), [], false⟩ : Sig Bool Empty)) (osf := fun (a : (List Int) × Unit) => [some (.v (eC a.1)), none, none, none, none, none, none, none, none, none, none, none, none, none, none, none]) (res := (fun (e : Empty) => nomatch e)) (mb := mb_law) Empty.elim T.p_law sc_law (fun _ _ _ _ _ _ us hl => match us, hl with | [_], _ => rfl) (fun X Wx h hp a => b_law T h hp a) (fun _ => rfl) (fun _ => ⟨rfl, rfl⟩) (fun _ => rfl) (fun _ _ _ h => h) (fun r => nomatch r) (fun r => nomatch r) rfl
end
end DL

namespace DL
open PySem PySem.Spec PyProof.Rows L2
/-! ### pools, lines -/
theorem str_len0 : (Str.ofString "").length = 0 := by decide +kernel
theorem str_len1 : (Str.ofString "!").length = 1 := by decide +kernel
theorem GoodN.nil : GoodN (Str.ofString "") := .inl rfl
theorem pool_spec {q : List Line → Prop} {x : XW} (h : ∀ pool : List Line, pool.length = 12 → (∀ l ∈ pool, GdL l) → q pool) : m__law_pool () q x := by
  unfold m__law_pool mb__law_pool
  (try simp (config := {implicitDefEqProofs := false}) only [w_pu, w_map, w_un, w_op, w_pair, w_ch, w_and, w_or, w_if, w_len, w_rng1, w_rng2, w_one, w_two, w_lc, w_lcy, w_call, w_meth, w_slc, w_p0, w_p1, w_p3, w_p4, w_it0, w_it1, w_opx, w_olen, w_nox, w_sq, w_end, w_bk, w_ct, w_no, w_ifk, w_set, w_drop, w_ret, w_rt, w_for, w_app, w_ext, w_sub, w_pop, w_aug, w_bag, w_par2, w_par3, w_raise, w_isw, w_isn, w_isl, if_true, Bool.false_eq_true, if_false, Bool.not_true, Bool.not_false, Bool.not_eq_true', decide_eq_true_eq, decide_eq_false_iff_not, true_and, and_true, id])
  refine ⟨⟨by decide, by decide⟩, fun ws hl hg => ⟨⟨by decide, by decide⟩, fun vs hl2 hg2 => ?_⟩⟩
  match vs, hl2, hg2 with
  | [a, b], _, hg2 =>
    have ga := hg2 a (by simp)
    have gb := hg2 b (by simp)
    refine idx_at (i := 0) rfl (idx_at (i := 0) rfl ⟨?_, idx_at (i := 1) rfl ?_⟩)
    · have := ga.2.1; exact line_sz (by rw [str_len1]; omega)
    refine forK_inv (fun pre acc => acc.length = 4 * pre.length ∧ ∀ l ∈ acc, GdL l) ⟨rfl, fun _ h => by cases h⟩ ?_ ?_
    · rintro pre w post acc nx' e ⟨hlen, hacc⟩ k
      have hw := hg w (by rw [e]; simp)
      have hpl : pre.length ≤ 3 := by
        have := congrArg List.length e
        simp at this
        omega
      refine ⟨line_sz (by simp), ?_⟩
      refine mapK_map (fun n => (w, n)) (fun _ _ _ h => h) ⟨line_sz (by simp [hlen]; omega), k _ ⟨by simp [hlen]; omega, fun l hl => ?_⟩⟩
      rcases List.mem_append.mp hl with h | h
      · exact hacc l h
      · obtain ⟨n, hn, e⟩ := List.mem_map.mp h
        subst e
        simp only [List.mem_cons, List.not_mem_nil, or_false] at hn
        rcases hn with h | h | h | h <;> subst h
        · exact ⟨hw, .nil⟩
        · exact ⟨hw, .inr (.inl ga)⟩
        · exact ⟨hw, .inr (.inr ⟨_, ga, rfl⟩)⟩
        · exact ⟨hw, .inr (.inl gb)⟩
    · rintro acc ⟨h1, h2⟩
      exact h acc (by rw [h1]; omega) h2
theorem lines_spec {pool : List Line} {n : Int} {q : List Line → Prop} {x : XW} (h0 : 0 < pool.length) (h1 : pool.length < 10000) (hn : 0 ≤ n) (hn2 : n ≤ 10000) (hg : ∀ l ∈ pool, GdL l)
    (h : ∀ ls : List Line, (ls.length : Int) = n → (∀ l ∈ ls, GdL l ∧ l ∈ pool) → q ls) : m__law_lines (pool, n, ()) q x := by
  unfold m__law_lines mb__law_lines
  (try simp (config := {implicitDefEqProofs := false}) only [w_pu, w_map, w_un, w_op, w_pair, w_ch, w_and, w_or, w_if, w_len, w_rng1, w_rng2, w_one, w_two, w_lc, w_lcy, w_call, w_meth, w_slc, w_p0, w_p1, w_p3, w_p4, w_it0, w_it1, w_opx, w_olen, w_nox, w_sq, w_end, w_bk, w_ct, w_no, w_ifk, w_set, w_drop, w_ret, w_rt, w_for, w_app, w_ext, w_sub, w_pop, w_aug, w_bag, w_par2, w_par3, w_raise, w_isw, w_isn, w_isl, if_true, Bool.false_eq_true, if_false, Bool.not_true, Bool.not_false, Bool.not_eq_true', decide_eq_true_eq, decide_eq_false_iff_not, true_and, and_true, id])
  refine ⟨⟨by omega, by omega⟩, line_sz (by rw [rng_len]; omega), ?_⟩
  refine mapK_mem (fun l => GdL l ∧ l ∈ pool) (fun y _ q' k => draw_idx h0 h1 fun a ha => k a ⟨hg a ha, ha⟩) fun ys hl hp => h ys ?_ hp
  rw [hl, rng_len]
  omega

/-! ### pairs with an index, cuts (of edits.src: for laws without edits) -/
theorem enumT_split {τ : Type} : ∀ {xs : List τ} {k : Nat} {pre post : List (Int × τ)} {x : Int × τ}, enumT k xs = pre ++ x :: post → ∃ p r, xs = p ++ x.2 :: r ∧ pre = enumT k p ∧ x.1 = k + p.length := by
  intro xs
  induction xs with
  | nil => intro k pre post x h; cases pre <;> cases h
  | cons y xs ih =>
    intro k pre post x h
    cases pre with
    | nil =>
      have e : (((k : Nat) : Int), y) = x := (List.cons.inj h).1
      subst e
      exact ⟨[], xs, rfl, rfl, by simp⟩
    | cons z pre =>
      obtain ⟨e1, e2⟩ := List.cons.inj h
      obtain ⟨p, r, a, b, c⟩ := ih e2
      refine ⟨y :: p, r, by rw [a]; rfl, by rw [← e1, b]; rfl, ?_⟩
      rw [c]
      simp
      omega
theorem cut_mem {τ : Type} {xs : List τ} {lo hi : Option Int} {x : τ} (h : x ∈ cutD xs lo hi) : x ∈ xs := by
  unfold cutD at h
  exact List.mem_of_mem_drop (List.mem_of_mem_take h)
theorem cut_size {τ : Type} {xs : List τ} {lo hi : Option Int} : (cutD xs lo hi).length ≤ xs.length := by
  unfold cutD
  rw [List.length_take, List.length_drop]
  omega
theorem cut_two {τ : Type} {xs : List τ} {a n : Int} (h0 : 0 ≤ a) (h1 : 0 ≤ n) : cutD xs (some a) (some (a + n)) = (xs.drop a.toNat).take n.toNat := by
  unfold cutD
  show (xs.drop (if a < 0 then (a + (xs.length : Int)).toNat else min a.toNat xs.length)).take ((if a + n < 0 then (a + n + (xs.length : Int)).toNat else min (a + n).toNat xs.length) - (if a < 0 then (a + (xs.length : Int)).toNat else min a.toNat xs.length)) = _
  rw [if_neg (by omega), if_neg (by omega)]
  by_cases h : a.toNat ≤ xs.length
  · rw [Nat.min_eq_left h]
    by_cases h2 : (a + n).toNat ≤ xs.length
    · rw [Nat.min_eq_left h2]
      congr 1
      omega
    · rw [Nat.min_eq_right (by omega), List.take_of_length_le (by rw [List.length_drop]; omega), List.take_of_length_le (by rw [List.length_drop]; omega)]
  · rw [Nat.min_eq_right (by omega : xs.length ≤ a.toNat), List.drop_length, List.drop_eq_nil_of_le (by omega : xs.length ≤ a.toNat), List.take_nil, List.take_nil]

/-! ### files -/
theorem file_init {ls : List Line} {q : List Line → Prop} {x : XW} (hl : ls.length ≤ 1000000) (hg : ∀ l ∈ ls, GdL l) (h : q ls) : m_File___init__ ls q x := by
  unfold m_File___init__ mb_File___init__
  refine ⟨line_sz hl, ?_⟩
  refine sq_i (for_i (enumT 0 ls) (fun q x hq => hq) ?_)
  refine forK_keep (fun _ => True) trivial (fun y hy _ nx' _ k => ?_) fun _ _ => ?_
  · refine sq_i (ifF_i (fun q x hq => ?_) (end_i (end_i (k _ trivial))))
    (try simp (config := {implicitDefEqProofs := false}) only [w_pu, w_map, w_un, w_op, w_pair, w_ch, w_and, w_or, w_if, w_len, w_rng1, w_rng2, w_one, w_two, w_lc, w_lcy, w_call, w_meth, w_slc, w_p0, w_p1, w_p3, w_p4, w_it0, w_it1, w_opx, w_olen, w_nox, w_sq, w_end, w_bk, w_ct, w_no, w_ifk, w_set, w_drop, w_ret, w_rt, w_for, w_app, w_ext, w_sub, w_pop, w_aug, w_bag, w_par2, w_par3, w_raise, w_isw, w_isn, w_isl, if_true, Bool.false_eq_true, if_false, Bool.not_true, Bool.not_false, Bool.not_eq_true', decide_eq_true_eq, decide_eq_false_iff_not, true_and, and_true, id])
    refine ⟨isok2_l, ?_⟩
    have : GdL y.2 := hg y.2 (by
      obtain ⟨a, b, e⟩ := List.append_of_mem hy
      obtain ⟨p, r, e1, _, _⟩ := enumT_split e
      rw [e1]; simp)
    rw [this.line]
    exact hq
  · exact h

theorem file_of {ls : List Line} {q : List Line → Prop} {x : XW} (hl : ls.length ≤ 1000000) (hg : ∀ l ∈ ls, GdL l) (h : q ls) : m_File_of ((), ls, ()) q x := file_init hl hg h
theorem isi_file {a : List Line} {q : Bool → Prop} (h : q true) : isiK isiG (eFile a) (.own 0) q := ⟨.own 0, true, rfl, by decide, h⟩
theorem file_eq {a b : List Line} {q : Bool → Prop} {x : XW} (h : q (decide (a = b))) : m_File___eq__ (a, b, ()) q x := by
  unfold m_File___eq__ mb_File___eq__
  refine ret_v _ (fun q x hq => ?_) h
  (try simp (config := {implicitDefEqProofs := false}) only [w_pu, w_map, w_un, w_op, w_pair, w_ch, w_and, w_or, w_if, w_len, w_rng1, w_rng2, w_one, w_two, w_lc, w_lcy, w_call, w_meth, w_slc, w_p0, w_p1, w_p3, w_p4, w_it0, w_it1, w_opx, w_olen, w_nox, w_sq, w_end, w_bk, w_ct, w_no, w_ifk, w_set, w_drop, w_ret, w_rt, w_for, w_app, w_ext, w_sub, w_pop, w_aug, w_bag, w_par2, w_par3, w_raise, w_isw, w_isn, w_isl, if_true, Bool.false_eq_true, if_false, Bool.not_true, Bool.not_false, Bool.not_eq_true', decide_eq_true_eq, decide_eq_false_iff_not, true_and, and_true, id])
  exact isi_file hq

/-! ### strict total orders -/
structure SO {α : Type} (l : α → α → Bool) : Prop where
  irr : ∀ a, l a a = false
  tot : ∀ a b, a ≠ b → l a b = !l b a
  trn : ∀ a b c, l a b = true → l b c = true → l a c = true
theorem so_int : SO ltI := ⟨fun a => by simp [ltI], fun a b h => by
  unfold ltI
  by_cases h1 : a < b
  · rw [decide_eq_true h1, decide_eq_false (by omega)]; rfl
  · rw [decide_eq_false h1, decide_eq_true (by omega)]; rfl, fun a b c h1 h2 => by
  unfold ltI at *
  have h1 := of_decide_eq_true h1
  have h2 := of_decide_eq_true h2
  exact decide_eq_true (by omega)⟩
theorem nl_irr : ∀ a : List Nat, ¬ a < a
  | [] => by simp
  | x :: xs => by rw [List.cons_lt_cons_iff]; rintro (h | ⟨_, h⟩); exact Nat.lt_irrefl _ h; exact nl_irr xs h
theorem nl_asm : ∀ {a b : List Nat}, a < b → ¬ b < a
  | [], [], h => by simp at h
  | [], _ :: _, _ => by simp
  | _ :: _, [], h => by simp at h
  | x :: xs, y :: ys, h => by
    rw [List.cons_lt_cons_iff] at h ⊢
    rintro (h2 | ⟨e, h2⟩)
    · rcases h with h | ⟨e, _⟩ <;> omega
    · rcases h with h | ⟨_, h⟩
      · omega
      · exact nl_asm h h2
theorem nl_tot : ∀ {a b : List Nat}, a ≠ b → ¬ a < b → b < a
  | [], [], h, _ => absurd rfl h
  | [], _ :: _, _, h => by simp at h
  | _ :: _, [], _, _ => by simp
  | x :: xs, y :: ys, h, h2 => by
    rw [List.cons_lt_cons_iff] at h2 ⊢
    by_cases e : x = y
    · subst e
      refine .inr ⟨rfl, nl_tot (fun z => h (by rw [z])) fun z => h2 (.inr ⟨rfl, z⟩)⟩
    · refine .inl ?_
      have : ¬ x < y := fun z => h2 (.inl z)
      omega
theorem nl_trn : ∀ {a b c : List Nat}, a < b → b < c → a < c
  | _, [], _, h, _ => by simp at h
  | _, _ :: _, [], _, h => by simp at h
  | [], _ :: _, _ :: _, _, _ => by simp
  | x :: xs, y :: ys, z :: zs, h, h2 => by
    rw [List.cons_lt_cons_iff] at h h2 ⊢
    rcases h with h | ⟨e, h⟩ <;> rcases h2 with h2 | ⟨e2, h2⟩
    · exact .inl (by omega)
    · exact .inl (by omega)
    · exact .inl (by omega)
    · exact .inr ⟨by omega, nl_trn h h2⟩
theorem so_str : SO strLt := ⟨fun a => decide_eq_false (nl_irr _), fun a b h => by
  unfold strLt
  by_cases h1 : a.cps.toList < b.cps.toList
  · rw [decide_eq_true h1, decide_eq_false (nl_asm h1)]; rfl
  · rw [decide_eq_false h1, decide_eq_true (nl_tot (fun z => h (str_ext z)) h1)]; rfl, fun a b c h1 h2 => decide_eq_true (nl_trn (of_decide_eq_true h1) (of_decide_eq_true h2))⟩
theorem so_pair {α β : Type} [DecidableEq α] [DecidableEq β] {l1 : α → α → Bool} {l2 : β → β → Bool} (h1 : SO l1) (h2 : SO l2) : SO (ltPr l1 l2) := ⟨fun a => by simp [ltPr], fun a b h => by
  unfold ltPr
  by_cases e : a.1 = b.1
  · have e2 : a.2 ≠ b.2 := fun z => h (Prod.ext e z)
    rw [if_pos e, if_pos e.symm, if_neg e2, if_neg (Ne.symm e2)]
    exact h2.tot _ _ e2
  · rw [if_neg e, if_neg (Ne.symm e)]
    exact h1.tot _ _ e, fun a b c x y => by
  unfold ltPr at *
  by_cases e : a.1 = b.1
  · rw [if_pos e] at x
    by_cases e2 : a.2 = b.2
    · rw [if_pos e2] at x; cases x
    · rw [if_neg e2] at x
      by_cases f : b.1 = c.1
      · rw [if_pos f] at y
        by_cases f2 : b.2 = c.2
        · rw [if_pos f2] at y; cases y
        · rw [if_neg f2] at y
          have t := h2.trn _ _ _ x y
          rw [if_pos (e.trans f), if_neg (fun z => by rw [z, h2.irr] at t; cases t)]
          exact t
      · rw [if_neg f] at y
        rw [if_neg (fun z => f (e.symm.trans z)), e]
        exact y
  · rw [if_neg e] at x
    by_cases f : b.1 = c.1
    · rw [← f, if_neg e]
      exact x
    · rw [if_neg f] at y
      have t := h1.trn _ _ _ x y
      rw [if_neg (fun z => by rw [z, h1.irr] at t; cases t)]
      exact t⟩
theorem ls_irr {α : Type} [DecidableEq α] {l : α → α → Bool} : ∀ a : List α, ltLs l a a = false
  | [] => rfl
  | x :: xs => by unfold ltLs; rw [if_pos rfl]; exact ls_irr xs
theorem ls_tot {α : Type} [DecidableEq α] {l : α → α → Bool} (h : SO l) : ∀ a b : List α, a ≠ b → ltLs l a b = !ltLs l b a
  | [], [], n => absurd rfl n
  | [], _ :: _, _ => rfl
  | _ :: _, [], _ => rfl
  | x :: xs, y :: ys, n => by
    unfold ltLs
    by_cases e : x = y
    · rw [if_pos e, if_pos e.symm]
      exact ls_tot h xs ys fun z => n (by rw [e, z])
    · rw [if_neg e, if_neg (Ne.symm e)]
      exact h.tot _ _ e
theorem ls_trn {α : Type} [DecidableEq α] {l : α → α → Bool} (h : SO l) : ∀ a b c : List α, ltLs l a b = true → ltLs l b c = true → ltLs l a c = true
  | [], [], _, x, _ => by cases x
  | _ :: _, [], _, x, _ => by cases x
  | _, _ :: _, [], _, y => by cases y
  | [], _ :: _, _ :: _, _, _ => rfl
  | p :: ps, q :: qs, r :: rs, x, y => by
    unfold ltLs at *
    by_cases e : p = q
    · rw [if_pos e] at x
      by_cases f : q = r
      · rw [if_pos f] at y
        rw [if_pos (e.trans f)]
        exact ls_trn h ps qs rs x y
      · rw [if_neg f] at y
        rw [e, if_neg f]
        exact y
    · rw [if_neg e] at x
      by_cases f : q = r
      · rw [← f, if_neg e]
        exact x
      · rw [if_neg f] at y
        have t := h.trn _ _ _ x y
        rw [if_neg (fun z => by rw [z, h.irr] at t; cases t)]
        exact t
theorem so_list {α : Type} [DecidableEq α] {l : α → α → Bool} (h : SO l) : SO (ltLs l) := ⟨ls_irr, ls_tot h, ls_trn h⟩
/-- by the first place that differs -/
theorem ls_at {α : Type} [DecidableEq α] {l : α → α → Bool} : ∀ {k : Nat} {a b : List α} {x y : α}, (∀ j, j < k → a[j]? = b[j]?) → a[k]? = some x → b[k]? = some y → x ≠ y → ltLs l a b = l x y
  | _, [], _, _, _, _, h, _, _ => by simp at h
  | _, _ :: _, [], _, _, _, _, h, _ => by simp at h
  | 0, p :: ps, q :: qs, x, y, _, h1, h2, n => by
    have e1 : p = x := by simpa using h1
    have e2 : q = y := by simpa using h2
    subst e1 e2
    unfold ltLs
    rw [if_neg n]
  | k + 1, p :: ps, q :: qs, x, y, hh, h1, h2, n => by
    have e : p = q := by simpa using hh 0 (by omega)
    unfold ltLs
    rw [if_pos e]
    exact ls_at (k := k) (fun j hj => by simpa using hh (j + 1) (by omega)) (by simpa using h1) (by simpa using h2) n
/-- the order of files -/
abbrev ltLine : Line → Line → Bool := ltPr strLt strLt
def ltF (a b : List Line) : Bool := ltPr ltI (ltLs ltLine) ((a.length : Int), a) ((b.length : Int), b)
theorem so_file : SO ltF := by
  have h := so_pair so_int (so_list (so_pair so_str so_str))
  exact ⟨fun a => h.irr _, fun a b n => h.tot _ _ fun z => n (congrArg (·.2) z), fun a b c x y => h.trn _ _ _ x y⟩

end DL

namespace DL
open PySem PySem.Spec PyProof.Rows L2
theorem bang_len : (Str.ofString "!").length = 1 := by decide +kernel
theorem bang_cut (w : Str) : cutS (w ++ Str.ofString "!") none (some (-1)) = w := by
  rcases cut_app (a := w) (b := Str.ofString "!") with h | h
  · rw [bang_len] at h
    exact h
  · rw [bang_len] at h
    cases h
theorem bang_end (w : Str) : Txt.endswith (w ++ Str.ofString "!") (Str.ofString "!") = true := by
  rw [ends_cut]
  refine decide_eq_true (str_ext ?_)
  rw [cut_list, app_list]
  show (List.drop (if (-1 : Int) < 0 then ((-1 : Int) + ((w ++ Str.ofString "!").length : Int)).toNat else min (-1 : Int).toNat (w ++ Str.ofString "!").length) (w.cps.toList ++ (Str.ofString "!").cps.toList)).take ((w ++ Str.ofString "!").length - (if (-1 : Int) < 0 then ((-1 : Int) + ((w ++ Str.ofString "!").length : Int)).toNat else min (-1 : Int).toNat (w ++ Str.ofString "!").length)) = _
  rw [if_pos (by decide), app_len, bang_len]
  have : ((-1 : Int) + ((w.length + 1 : Nat) : Int)).toNat = w.cps.toList.length := by rw [len_list]; omega
  rw [this, List.drop_left' rfl, len_list]
  have : w.length + 1 - w.length = (Str.ofString "!").cps.toList.length := by rw [bang_list]; show _ = 1; omega
  rw [this, List.take_length]
theorem cut_good {z : Str} (h : GoodW z) : GoodN (cutS z none (some (-1))) := by
  by_cases e : (cutS z none (some (-1))).length = 0
  · refine .inl (str_ext ?_)
    have : (cutS z none (some (-1))).cps.toList = [] := List.length_eq_zero_iff.mp (by rw [len_list]; exact e)
    rw [this]
    decide +kernel
  · exact .inr (.inl ⟨by omega, Nat.le_trans (cut_len ..) h.2.1, cut_low h.2.2⟩)
theorem turn_yes {n : Str} (g : GoodN n) (h : Txt.endswith n (Str.ofString "!") = true) : GoodN (cutS n none (some (-1))) := by
  rcases g with e | g | ⟨w, g, e⟩
  · subst e
    exact absurd h (by decide +kernel)
  · exact cut_good g
  · rw [e, bang_cut]
    exact .inr (.inl g)
theorem turn_no {n : Str} (g : GoodN n) (h : ¬ Txt.endswith n (Str.ofString "!") = true) (h0 : n ≠ Str.ofString "") : GoodN (n ++ Str.ofString "!") := by
  rcases g with e | g | ⟨w, g, e⟩
  · exact absurd e h0
  · exact .inr (.inr ⟨n, g, rfl⟩)
  · rw [e] at h
    exact absurd (bang_end w) h
theorem good_a : GoodN (Str.ofString "a") := .inr (.inl ⟨by decide +kernel, by decide +kernel, by decide +kernel⟩)
theorem name_len {n : Str} (g : GoodN n) : n.length ≤ 9 := by
  rcases g with e | g | ⟨w, g, e⟩
  · rw [e]; decide +kernel
  · have := g.2.1; omega
  · rw [e, app_len, bang_len]; have := g.2.1; omega
def turnN (n : Str) : Str := if Txt.endswith n (Str.ofString "!") = true then cutS n none (some (-1)) else n ++ Str.ofString "!"
theorem turn_ok {n : Str} (g : GoodN n) : GoodN (if (!decide (n = Str.ofString "")) = true then turnN n else Str.ofString "a") := by
  by_cases h0 : n = Str.ofString ""
  · rw [if_neg (by simp [h0])]
    exact good_a
  · rw [if_pos (by simp [h0])]
    unfold turnN
    by_cases h : Txt.endswith n (Str.ofString "!") = true
    · rw [if_pos h]; exact turn_yes g h
    · rw [if_neg h]; exact turn_no g h h0
theorem near_spec {pool base : List Line} {N : Nat} {q : List Line → Prop} {x : XW} (pl : pool.length = 12) (pg : ∀ l ∈ pool, GdL l) (bg : ∀ l ∈ base, GdL l) (bl : base.length ≤ N) (hN : N ≤ 1000) (h : ∀ ls : List Line, (∀ l ∈ ls, GdL l) → ls.length ≤ 2 * N + 1 → q ls) : m__law_near (pool, base, ()) q x := by
  unfold m__law_near mb__law_near
  have cg : ∀ lo hi, ∀ l ∈ cutD base lo hi, GdL l := fun lo hi l hl => bg l (cut_mem hl)
  have cl : ∀ lo hi, (cutD base lo hi).length ≤ N := fun lo hi => Nat.le_trans cut_size bl
  refine sq_i (par3_all (fun n : Int => 0 ≤ n) (fun l : Line => GdL l) (fun n : Int => 0 ≤ n) (fun q x hq => ?_) (fun q x hq => ?_) (fun q x hq => ?_) fun w hw hl hn => ?_)
  · (try simp (config := {implicitDefEqProofs := false}) only [w_pu, w_map, w_un, w_op, w_pair, w_ch, w_and, w_or, w_if, w_len, w_rng1, w_rng2, w_one, w_two, w_lc, w_lcy, w_call, w_meth, w_slc, w_p0, w_p1, w_p3, w_p4, w_it0, w_it1, w_opx, w_olen, w_nox, w_sq, w_end, w_bk, w_ct, w_no, w_ifk, w_set, w_drop, w_ret, w_rt, w_for, w_app, w_ext, w_sub, w_pop, w_aug, w_bag, w_par2, w_par3, w_raise, w_isw, w_isn, w_isl, if_true, Bool.false_eq_true, if_false, Bool.not_true, Bool.not_false, Bool.not_eq_true', decide_eq_true_eq, decide_eq_false_iff_not, true_and, and_true, id])
    exact draw_ok' (by omega) (by omega) fun r h0 _ => hq r h0
  · (try simp (config := {implicitDefEqProofs := false}) only [w_pu, w_map, w_un, w_op, w_pair, w_ch, w_and, w_or, w_if, w_len, w_rng1, w_rng2, w_one, w_two, w_lc, w_lcy, w_call, w_meth, w_slc, w_p0, w_p1, w_p3, w_p4, w_it0, w_it1, w_opx, w_olen, w_nox, w_sq, w_end, w_bk, w_ct, w_no, w_ifk, w_set, w_drop, w_ret, w_rt, w_for, w_app, w_ext, w_sub, w_pop, w_aug, w_bag, w_par2, w_par3, w_raise, w_isw, w_isn, w_isl, if_true, Bool.false_eq_true, if_false, Bool.not_true, Bool.not_false, Bool.not_eq_true', decide_eq_true_eq, decide_eq_false_iff_not, true_and, and_true, id])
    exact draw_ok' (by decide) (by decide) fun r h0 h1 => idx_in h0 (by omega) fun a _ ha => hq a (pg a ha)
  · (try simp (config := {implicitDefEqProofs := false}) only [w_pu, w_map, w_un, w_op, w_pair, w_ch, w_and, w_or, w_if, w_len, w_rng1, w_rng2, w_one, w_two, w_lc, w_lcy, w_call, w_meth, w_slc, w_p0, w_p1, w_p3, w_p4, w_it0, w_it1, w_opx, w_olen, w_nox, w_sq, w_end, w_bk, w_ct, w_no, w_ifk, w_set, w_drop, w_ret, w_rt, w_for, w_app, w_ext, w_sub, w_pop, w_aug, w_bag, w_par2, w_par3, w_raise, w_isw, w_isn, w_isl, if_true, Bool.false_eq_true, if_false, Bool.not_true, Bool.not_false, Bool.not_eq_true', decide_eq_true_eq, decide_eq_false_iff_not, true_and, and_true, id])
    exact draw_ok' (by decide) (by decide) fun r h0 _ => hq r h0
  have two : ∀ {a b : List Line}, (∀ l ∈ a, GdL l) → (∀ l ∈ b, GdL l) → ∀ l ∈ a ++ b, GdL l := fun ha hb l hl => (List.mem_append.mp hl).elim (ha l) (hb l)
  have h1 := cl none (some w.1)
  have h2 := cl (some (w.1 + 1)) none
  have h3 := cl (some w.1) none
  have mid : (cutD base none (some w.1)).length + 1 ≤ sizeLine := line_sz (by omega)
  have put : ∀ (l : Line) (hi : Option Int) , GdL l → ∀ {q : List Line → Prop}, q (cutD base none (some w.1) ++ [l] ++ cutD base hi none) → ((cutD base none (some w.1)).length + [l].length ≤ sizeLine ∧ ((cutD base none (some w.1) ++ [l]).length + (cutD base hi none).length ≤ sizeLine) ∧ q (cutD base none (some w.1) ++ [l] ++ cutD base hi none)) := fun l hi g q hq =>
    ⟨mid, line_sz (by have := cl hi none; simp only [List.length_append, List.length_cons, List.length_nil]; omega), hq⟩
  have fin : ∀ (l : Line) (hi : Option Int), GdL l → q (cutD base none (some w.1) ++ [l] ++ cutD base hi none) := fun l hi g =>
    h _ (two (two (cg _ _) fun l' hl' => by rw [List.mem_singleton.mp hl']; exact g) (cg _ _)) (by have := cl hi none; simp only [List.length_append, List.length_cons, List.length_nil]; omega)
  refine sq_i (ifA_i (fun q x hq => hq _) ?_ (end_i ?_))
  · exact ret_v (cutD base none (some w.1) ++ [w.2.1] ++ cutD base (some w.1) none) (fun q x hq => put _ _ hl hq) (fin _ _ hl)
  refine sq_i (ifA_i (fun q x hq => hq _) ?_ (end_i ?_))
  · exact ret_v (cutD base none (some w.1) ++ cutD base (some (w.1 + 1)) none) (fun q x hq => ⟨line_sz (by show (cutD base none (some w.1)).length + (cutD base (some (w.1 + 1)) none).length ≤ _; omega), hq⟩) (h _ (two (cg _ _) (cg _ _)) (by rw [List.length_append]; omega))
  refine sq_i ?_
  refine ifB_i (decide (w.2.2 = 2) && decide (w.1 < (base.length : Int))) (fun q x hq => ?_) (fun e => ?_) (fun _ => end_i ?_)
  · (try simp (config := {implicitDefEqProofs := false}) only [w_pu, w_map, w_un, w_op, w_pair, w_ch, w_and, w_or, w_if, w_len, w_rng1, w_rng2, w_one, w_two, w_lc, w_lcy, w_call, w_meth, w_slc, w_p0, w_p1, w_p3, w_p4, w_it0, w_it1, w_opx, w_olen, w_nox, w_sq, w_end, w_bk, w_ct, w_no, w_ifk, w_set, w_drop, w_ret, w_rt, w_for, w_app, w_ext, w_sub, w_pop, w_aug, w_bag, w_par2, w_par3, w_raise, w_isw, w_isn, w_isl, if_true, Bool.false_eq_true, if_false, Bool.not_true, Bool.not_false, Bool.not_eq_true', decide_eq_true_eq, decide_eq_false_iff_not, true_and, and_true, id])
    by_cases e : w.2.2 = 2 <;> simpa [e] using hq
  · have lt : w.1 < (base.length : Int) := of_decide_eq_true (Bool.and_eq_true_iff.mp e).2
    refine sq_i (set_all (fun l : Line => GdL l) (fun q x hq => idx_in hw lt fun a _ ha => hq a (bg a ha)) fun l gl => ?_)
    refine sq_i (set_v (turnN l.2) (fun q x hq => ?_) ?_)
    · (try simp (config := {implicitDefEqProofs := false}) only [w_pu, w_map, w_un, w_op, w_pair, w_ch, w_and, w_or, w_if, w_len, w_rng1, w_rng2, w_one, w_two, w_lc, w_lcy, w_call, w_meth, w_slc, w_p0, w_p1, w_p3, w_p4, w_it0, w_it1, w_opx, w_olen, w_nox, w_sq, w_end, w_bk, w_ct, w_no, w_ifk, w_set, w_drop, w_ret, w_rt, w_for, w_app, w_ext, w_sub, w_pop, w_aug, w_bag, w_par2, w_par3, w_raise, w_isw, w_isn, w_isl, if_true, Bool.false_eq_true, if_false, Bool.not_true, Bool.not_false, Bool.not_eq_true', decide_eq_true_eq, decide_eq_false_iff_not, true_and, and_true, id])
      unfold turnN at hq
      by_cases e : Txt.endswith l.2 (Str.ofString "!") = true
      · rw [if_pos e] at hq
        rw [if_pos e]
        exact hq
      · rw [if_neg e] at hq
        rw [if_neg e]
        exact ⟨line_sz (by rw [bang_len]; have := name_len gl.2; omega), hq⟩
    refine sq_i (set_v (l.1, if (!decide (l.2 = Str.ofString "")) = true then turnN l.2 else Str.ofString "a") (fun q x hq => ?_) ?_)
    · (try simp (config := {implicitDefEqProofs := false}) only [w_pu, w_map, w_un, w_op, w_pair, w_ch, w_and, w_or, w_if, w_len, w_rng1, w_rng2, w_one, w_two, w_lc, w_lcy, w_call, w_meth, w_slc, w_p0, w_p1, w_p3, w_p4, w_it0, w_it1, w_opx, w_olen, w_nox, w_sq, w_end, w_bk, w_ct, w_no, w_ifk, w_set, w_drop, w_ret, w_rt, w_for, w_app, w_ext, w_sub, w_pop, w_aug, w_bag, w_par2, w_par3, w_raise, w_isw, w_isn, w_isl, if_true, Bool.false_eq_true, if_false, Bool.not_true, Bool.not_false, Bool.not_eq_true', decide_eq_true_eq, decide_eq_false_iff_not, true_and, and_true, id])
      by_cases e : l.2 = Str.ofString "" <;> simpa [e] using hq
    have g2 : GdL (l.1, if (!decide (l.2 = Str.ofString "")) = true then turnN l.2 else Str.ofString "a") := ⟨gl.1, turn_ok gl.2⟩
    exact ret_v (cutD base none (some w.1) ++ [(l.1, if (!decide (l.2 = Str.ofString "")) = true then turnN l.2 else Str.ofString "a")] ++ cutD base (some (w.1 + 1)) none) (fun q x hq => put _ _ g2 hq) (fin _ _ g2)
  · refine sq_i (set_all (fun m : List Line => (∀ l ∈ m, GdL l) ∧ m.length ≤ 1) (fun q x hq => ?_) fun m ⟨mg, ml⟩ => ?_)
    · (try simp (config := {implicitDefEqProofs := false}) only [w_pu, w_map, w_un, w_op, w_pair, w_ch, w_and, w_or, w_if, w_len, w_rng1, w_rng2, w_one, w_two, w_lc, w_lcy, w_call, w_meth, w_slc, w_p0, w_p1, w_p3, w_p4, w_it0, w_it1, w_opx, w_olen, w_nox, w_sq, w_end, w_bk, w_ct, w_no, w_ifk, w_set, w_drop, w_ret, w_rt, w_for, w_app, w_ext, w_sub, w_pop, w_aug, w_bag, w_par2, w_par3, w_raise, w_isw, w_isn, w_isl, if_true, Bool.false_eq_true, if_false, Bool.not_true, Bool.not_false, Bool.not_eq_true', decide_eq_true_eq, decide_eq_false_iff_not, true_and, and_true, id])
      split
      · exact hq _ ⟨fun l' hl' => by rw [List.mem_singleton.mp hl']; exact hl, by simp⟩
      · exact hq _ ⟨(fun _ h => by cases h), by simp⟩
    · exact ret_v (cutD base none (some w.1) ++ m ++ cutD base (some (w.1 + 1)) none) (fun q x hq => ⟨line_sz (by show (cutD base none (some w.1)).length + m.length ≤ _; omega), line_sz (by show (cutD base none (some w.1) ++ m).length + (cutD base (some (w.1 + 1)) none).length ≤ _; simp only [List.length_append]; omega), hq⟩)
        (h _ (two (two (cg _ _) mg) (cg _ _)) (by simp only [List.length_append]; omega))
theorem is_less_eq {a b : List Line} {q : Bool → Prop} {x : XW} (hl : a.length ≤ 100000) (h : q (ltF a b)) : m__law_is_less (a, b, ()) q x := by
  unfold m__law_is_less mb__law_is_less
  refine sq_i (ifB_i (!decide ((a.length : Int) = (b.length : Int))) (fun q x hq => hq) (fun e => ?_) fun e => end_i ?_)
  · have e : ¬ (a.length : Int) = (b.length : Int) := by simpa using e
    refine ret_v (ltF a b) (fun q x hq => ?_) h
    unfold ltF ltPr ltI at hq
    rw [if_neg e] at hq
    exact hq
  · have e : (a.length : Int) = (b.length : Int) := by simpa using e
    have el : a.length = b.length := by omega
    have hF : a ≠ b → ltF a b = ltLs ltLine a b := fun n => by
      unfold ltF ltPr
      rw [if_pos e, if_neg n]
    refine sq_i (for_i (rng 0 a.length) (fun q x hq => ⟨⟨by dsimp only; omega, by dsimp only; omega⟩, hq⟩) ?_)
    refine forK_inv (fun pre _ => ∀ j, j < pre.length → a[j]? = b[j]?) (fun j hj => absurd hj (by simp)) ?_ ?_
    · rintro pre y post _ nx' eq hp kk
      obtain ⟨ey, hy⟩ : y = (pre.length : Int) ∧ pre.length < a.length := by
        have := rng_get (lo := 0) (n := a.length) (i := pre.length) (x := y) (by rw [eq, List.getElem?_append_right (Nat.le_refl _), Nat.sub_self]; rfl)
        exact ⟨by rw [this.1]; omega, this.2⟩
      have hyb : pre.length < b.length := by omega
      have ga : a[pre.length]? = some a[pre.length] := List.getElem?_eq_getElem hy
      have gb : b[pre.length]? = some b[pre.length] := List.getElem?_eq_getElem hyb
      subst ey
      refine sq_i (ifB_i (!decide (a[pre.length] = b[pre.length])) (fun q x hq => ?_) (fun e2 => ?_) fun e2 => end_i (end_i (kk _ fun j hj => ?_)))
      · exact idx_at ga (idx_at gb hq)
      · have e2 : a[pre.length] ≠ b[pre.length] := by simpa using e2
        have hh := ls_at (l := ltLine) hp ga gb e2
        have n : a ≠ b := fun z => e2 (Option.some.inj (ga.symm.trans ((congrArg (fun l : List Line => l[pre.length]?) z).trans gb)))
        refine ret_v (ltF a b) (fun q x hq => idx_at ga (idx_at gb ?_)) h
        rw [hF n, hh] at hq
        exact hq
      · have e2 : a[pre.length] = b[pre.length] := by simpa using e2
        rw [List.length_append] at hj
        by_cases hj2 : j < pre.length
        · exact hp j hj2
        · have : j = pre.length := by simp at hj; omega
          subst this
          rw [ga, gb, e2]
    · intro _ hall
      rw [rng_len] at hall
      have ab : a = b := List.ext_getElem? fun j => by
        by_cases hj : j < a.length
        · exact hall j (by omega)
        · rw [List.getElem?_eq_none (by omega), List.getElem?_eq_none (by omega)]
      refine ret_v false (fun q x hq => hq) ?_
      rw [ab, so_file.irr] at h
      exact h
theorem lt_eq {a b : List Line} {q : Bool → Prop} {x : XW} (h : q (ltF a b)) : m_File___lt__ (a, b, ()) q x := by
  unfold m_File___lt__ mb_File___lt__
  refine sq_i (ifF_i (fun q x hq => isi_file hq) (end_i ?_))
  exact ret_v (ltF a b) (fun q x hq => hq) h
theorem enumT_mem {τ : Type} {xs : List τ} {k : Nat} {y : Int × τ} (h : y ∈ enumT k xs) : ∃ n : Nat, y.1 = ((k + n : Nat) : Int) ∧ xs[n]? = some y.2 := by
  obtain ⟨a, b, e⟩ := List.append_of_mem h
  obtain ⟨p, r, e1, _, e3⟩ := enumT_split e
  refine ⟨p.length, by omega, ?_⟩
  rw [e1, List.getElem?_append_right (Nat.le_refl _), Nat.sub_self]
  rfl
theorem shw_bools {bs : List Bool} (h : bs.length ≤ 3) : Shw (eL D.bl bs) := (shL (n := 0) (B := 10) (N := 3) (fun _ _ => sh_bl) h).shw (by decide) (by decide)
theorem shw_linesT {ls : List Line} (h : ∀ l ∈ ls, GdL l) (hN : ls.length ≤ 3000) : Shw (eT eLine ls) := (sh_linesT h hN).shw (by decide) (by decide)
theorem pow_le7 {k : Nat} (h : k ≤ 7) : 2 ^ k ≤ 128 := Nat.le_trans (Nat.pow_le_pow_right (by decide) h) (by decide)
def GdF (ls : List Line) : Prop := (∀ l ∈ ls, GdL l) ∧ ls.length ≤ 1000
theorem law_true (zs : List Int) (hz : zs.length ≤ 63) : m_law (zs, ()) (fun r => r = true) X0 := by
  unfold m_law mb_law
  refine sq_i (for_all (fun xs => ∀ y ∈ xs, 0 ≤ y ∧ y < 4) (fun q x hq => ?_) fun xs hxs => ?_)
  · (try simp (config := {implicitDefEqProofs := false}) only [w_pu, w_map, w_un, w_op, w_pair, w_ch, w_and, w_or, w_if, w_len, w_rng1, w_rng2, w_one, w_two, w_lc, w_lcy, w_call, w_meth, w_slc, w_p0, w_p1, w_p3, w_p4, w_it0, w_it1, w_opx, w_olen, w_nox, w_sq, w_end, w_bk, w_ct, w_no, w_ifk, w_set, w_drop, w_ret, w_rt, w_for, w_app, w_ext, w_sub, w_pop, w_aug, w_bag, w_par2, w_par3, w_raise, w_isw, w_isn, w_isl, if_true, Bool.false_eq_true, if_false, Bool.not_true, Bool.not_false, Bool.not_eq_true', decide_eq_true_eq, decide_eq_false_iff_not, true_and, and_true, id])
    refine ⟨⟨by split <;> split <;> omega, by split <;> split <;> omega⟩, hq _ fun y hy => ?_⟩
    have hy := rng_mem hy
    revert hy
    split <;> split <;> omega
  refine forK_keep (fun _ => True) trivial (fun y hy _ nx' _ k => ?_) fun _ _ => ret_v true (fun q x hq => hq) rfl
  obtain ⟨y0, y1⟩ := hxs y hy
  refine sq_i (bag_i zs y (fun q x hq => hq) hz y0 (by omega) ?_)
  refine sq_i (set_all (fun pool : List Line => pool.length = 12 ∧ ∀ l ∈ pool, GdL l) (fun q x hq => pool_spec fun pool pl pg => hq _ ⟨pl, pg⟩) fun pool ⟨pl, pg⟩ => ?_)
  have p0 : 0 < pool.length := by omega
  have p1 : pool.length < 10000 := by omega
  refine sq_i (set_all (fun rows : List (List Line) => rows.length = 1 ∧ ∀ r ∈ rows, (∀ l ∈ r, GdL l) ∧ r.length ≤ 5) (fun q x hq => ?_) fun rows0 ⟨r0l, r0g⟩ => ?_)
  · (try simp (config := {implicitDefEqProofs := false}) only [w_pu, w_map, w_un, w_op, w_pair, w_ch, w_and, w_or, w_if, w_len, w_rng1, w_rng2, w_one, w_two, w_lc, w_lcy, w_call, w_meth, w_slc, w_p0, w_p1, w_p3, w_p4, w_it0, w_it1, w_opx, w_olen, w_nox, w_sq, w_end, w_bk, w_ct, w_no, w_ifk, w_set, w_drop, w_ret, w_rt, w_for, w_app, w_ext, w_sub, w_pop, w_aug, w_bag, w_par2, w_par3, w_raise, w_isw, w_isn, w_isl, if_true, Bool.false_eq_true, if_false, Bool.not_true, Bool.not_false, Bool.not_eq_true', decide_eq_true_eq, decide_eq_false_iff_not, true_and, and_true, id])
    refine draw_ok' (by decide) (by decide) fun n n0 n1 => lines_spec p0 p1 n0 (by omega) pg fun ls hl hg => hq _ ⟨rfl, fun r hr => ?_⟩
    rw [List.mem_singleton.mp hr]
    exact ⟨fun l hl => (hg l hl).1, by omega⟩
  refine sq_i (for_all (fun xs => xs.length ≤ 7) (fun q x hq => ?_) fun xs2 hx2 => ?_)
  · (try simp (config := {implicitDefEqProofs := false}) only [w_pu, w_map, w_un, w_op, w_pair, w_ch, w_and, w_or, w_if, w_len, w_rng1, w_rng2, w_one, w_two, w_lc, w_lcy, w_call, w_meth, w_slc, w_p0, w_p1, w_p3, w_p4, w_it0, w_it1, w_opx, w_olen, w_nox, w_sq, w_end, w_bk, w_ct, w_no, w_ifk, w_set, w_drop, w_ret, w_rt, w_for, w_app, w_ext, w_sub, w_pop, w_aug, w_bag, w_par2, w_par3, w_raise, w_isw, w_isn, w_isl, if_true, Bool.false_eq_true, if_false, Bool.not_true, Bool.not_false, Bool.not_eq_true', decide_eq_true_eq, decide_eq_false_iff_not, true_and, and_true, id])
    exact draw_ok' (by decide) (by decide) fun r h0 h1 => ⟨⟨by omega, by omega⟩, hq _ (by rw [rng_len]; omega)⟩
  refine forK_inv (fun pre rows => rows.length = pre.length + 1 ∧ ∀ r ∈ rows, (∀ l ∈ r, GdL l) ∧ r.length + 1 ≤ 6 * 2 ^ pre.length) ⟨r0l, fun r hr => ⟨(r0g r hr).1, by have := (r0g r hr).2; show _ ≤ 6 * 2 ^ 0; omega⟩⟩ ?_ ?_
  · rintro pre t post rows nx2 e ⟨rl, rg⟩ kk
    have pl7 : pre.length ≤ 6 := by
      have := congrArg List.length e
      simp at this
      omega
    have hp := pow_le7 (k := pre.length) (by omega)
    have hp1 : 1 ≤ 2 ^ pre.length := Nat.one_le_two_pow
    refine sq_i ?_
    show appK _ _ _ _
    refine (?_ : ∀ (nx : List Line → Prop), (∀ v : List Line, ((∀ l ∈ v, GdL l) ∧ v.length + 1 ≤ 6 * 2 ^ (pre.length + 1)) → nx v) → appK _ _ nx _) _ fun v ⟨vg, vl⟩ => end_i (kk _ ⟨by simp [rl], fun r hr => ?_⟩)
    · intro nx hnx
      show (callW _ _ _) _ _
      (try simp (config := {implicitDefEqProofs := false}) only [w_pu, w_map, w_un, w_op, w_pair, w_ch, w_and, w_or, w_if, w_len, w_rng1, w_rng2, w_one, w_two, w_lc, w_lcy, w_call, w_meth, w_slc, w_p0, w_p1, w_p3, w_p4, w_it0, w_it1, w_opx, w_olen, w_nox, w_sq, w_end, w_bk, w_ct, w_no, w_ifk, w_set, w_drop, w_ret, w_rt, w_for, w_app, w_ext, w_sub, w_pop, w_aug, w_bag, w_par2, w_par3, w_raise, w_isw, w_isn, w_isl, if_true, Bool.false_eq_true, if_false, Bool.not_true, Bool.not_false, Bool.not_eq_true', decide_eq_true_eq, decide_eq_false_iff_not, true_and, and_true, id])
      refine draw_ok' (by omega) (by omega) fun r h0 h1 => idx_in h0 (by omega) fun a _ ha => near_spec (N := 6 * 2 ^ pre.length - 1) pl pg (rg a ha).1 (by have := (rg a ha).2; omega) (by omega) fun ls lg ll => ⟨Nat.lt_of_lt_of_le (by omega : rows.length < 1000000) (by decide), hnx ls ⟨lg, by rw [Nat.pow_succ]; omega⟩⟩
    · rw [List.length_append, List.length_singleton, Nat.pow_succ]
      rcases List.mem_append.mp hr with h | h
      · exact ⟨(rg r h).1, by have := (rg r h).2; omega⟩
      · rw [List.mem_singleton.mp h]
        exact ⟨vg, by rw [Nat.pow_succ] at vl; exact vl⟩
  · rintro R ⟨Rl, Rg'⟩
    have Rg : ∀ r ∈ R, GdF r := fun r hr => ⟨(Rg' r hr).1, by have := (Rg' r hr).2; have := pow_le7 hx2; omega⟩
    have R8 : R.length ≤ 8 := by omega
    refine sq_i (set_v R (fun q x hq => ?_) ?_)
    · (try simp (config := {implicitDefEqProofs := false}) only [w_pu, w_map, w_un, w_op, w_pair, w_ch, w_and, w_or, w_if, w_len, w_rng1, w_rng2, w_one, w_two, w_lc, w_lcy, w_call, w_meth, w_slc, w_p0, w_p1, w_p3, w_p4, w_it0, w_it1, w_opx, w_olen, w_nox, w_sq, w_end, w_bk, w_ct, w_no, w_ifk, w_set, w_drop, w_ret, w_rt, w_for, w_app, w_ext, w_sub, w_pop, w_aug, w_bag, w_par2, w_par3, w_raise, w_isw, w_isn, w_isl, if_true, Bool.false_eq_true, if_false, Bool.not_true, Bool.not_false, Bool.not_eq_true', decide_eq_true_eq, decide_eq_false_iff_not, true_and, and_true, id])
      refine ⟨line_sz (by omega), ?_⟩
      refine mapK_map id (fun y hy q' hq => file_of (by have := (Rg y hy).2; omega) (Rg y hy).1 hq) ?_
      rw [List.map_id]
      exact hq
    refine sq_i (for_i (enumT 0 R) (fun q x hq => hq) ?_)
    refine forK_keep (fun _ => True) trivial (fun u hu _ nx3 _ k3 => ?_) fun _ _ => ?_
    · obtain ⟨m, hm, gm⟩ := enumT_mem hu
      rw [Nat.zero_add] at hm
      have gu := Rg u.2 (List.mem_of_getElem? gm)
      refine sq_i (for_i (enumT 0 R) (fun q x hq => hq) ?_)
      refine forK_keep (fun _ => True) trivial (fun v hv _ nx4 _ k4 => ?_) fun _ _ => end_i (k3 _ trivial)
      obtain ⟨m2, hm2, gm2⟩ := enumT_mem hv
      rw [Nat.zero_add] at hm2
      have gv := Rg v.2 (List.mem_of_getElem? gm2)
      refine sq_i (par2_v (ltF u.2 v.2) (decide (u.2 = v.2)) (fun q x hq => ?_) (fun q x hq => ?_) ?_)
      · (try simp (config := {implicitDefEqProofs := false}) only [w_pu, w_map, w_un, w_op, w_pair, w_ch, w_and, w_or, w_if, w_len, w_rng1, w_rng2, w_one, w_two, w_lc, w_lcy, w_call, w_meth, w_slc, w_p0, w_p1, w_p3, w_p4, w_it0, w_it1, w_opx, w_olen, w_nox, w_sq, w_end, w_bk, w_ct, w_no, w_ifk, w_set, w_drop, w_ret, w_rt, w_for, w_app, w_ext, w_sub, w_pop, w_aug, w_bag, w_par2, w_par3, w_raise, w_isw, w_isn, w_isl, if_true, Bool.false_eq_true, if_false, Bool.not_true, Bool.not_false, Bool.not_eq_true', decide_eq_true_eq, decide_eq_false_iff_not, true_and, and_true, id])
        rw [hm, hm2]
        exact idx_at gm (idx_at gm2 (is_less_eq (by have := gu.2; omega) hq))
      · (try simp (config := {implicitDefEqProofs := false}) only [w_pu, w_map, w_un, w_op, w_pair, w_ch, w_and, w_or, w_if, w_len, w_rng1, w_rng2, w_one, w_two, w_lc, w_lcy, w_call, w_meth, w_slc, w_p0, w_p1, w_p3, w_p4, w_it0, w_it1, w_opx, w_olen, w_nox, w_sq, w_end, w_bk, w_ct, w_no, w_ifk, w_set, w_drop, w_ret, w_rt, w_for, w_app, w_ext, w_sub, w_pop, w_aug, w_bag, w_par2, w_par3, w_raise, w_isw, w_isn, w_isl, if_true, Bool.false_eq_true, if_false, Bool.not_true, Bool.not_false, Bool.not_eq_true', decide_eq_true_eq, decide_eq_false_iff_not, true_and, and_true, id])
        rw [hm, hm2]
        exact idx_at gm (idx_at gm2 hq)
      refine sq_i (set_v [ltF u.2 v.2, decide (u.2 = v.2), ltF v.2 u.2] (fun q x hq => ?_) ?_)
      · (try simp (config := {implicitDefEqProofs := false}) only [w_pu, w_map, w_un, w_op, w_pair, w_ch, w_and, w_or, w_if, w_len, w_rng1, w_rng2, w_one, w_two, w_lc, w_lcy, w_call, w_meth, w_slc, w_p0, w_p1, w_p3, w_p4, w_it0, w_it1, w_opx, w_olen, w_nox, w_sq, w_end, w_bk, w_ct, w_no, w_ifk, w_set, w_drop, w_ret, w_rt, w_for, w_app, w_ext, w_sub, w_pop, w_aug, w_bag, w_par2, w_par3, w_raise, w_isw, w_isn, w_isl, if_true, Bool.false_eq_true, if_false, Bool.not_true, Bool.not_false, Bool.not_eq_true', decide_eq_true_eq, decide_eq_false_iff_not, true_and, and_true, id])
        exact lt_eq (file_eq (lt_eq hq))
      refine sq_i (ifF_i (fun q x hq => ?_) (end_i ?_))
      · (try simp (config := {implicitDefEqProofs := false}) only [w_pu, w_map, w_un, w_op, w_pair, w_ch, w_and, w_or, w_if, w_len, w_rng1, w_rng2, w_one, w_two, w_lc, w_lcy, w_call, w_meth, w_slc, w_p0, w_p1, w_p3, w_p4, w_it0, w_it1, w_opx, w_olen, w_nox, w_sq, w_end, w_bk, w_ct, w_no, w_ifk, w_set, w_drop, w_ret, w_rt, w_for, w_app, w_ext, w_sub, w_pop, w_aug, w_bag, w_par2, w_par3, w_raise, w_isw, w_isn, w_isl, if_true, Bool.false_eq_true, if_false, Bool.not_true, Bool.not_false, Bool.not_eq_true', decide_eq_true_eq, decide_eq_false_iff_not, true_and, and_true, id])
        have key : ltF v.2 u.2 = (!ltF u.2 v.2 && !decide (u.2 = v.2)) := by
          by_cases e : u.2 = v.2
          · rw [e, so_file.irr, decide_eq_true rfl]; rfl
          · rw [so_file.tot _ _ (Ne.symm e), decide_eq_false e]; simp
        rw [key]
        refine ⟨shw_bools (Nat.le_refl 3), ?_⟩
        cases ltF u.2 v.2 <;> cases decide (u.2 = v.2) <;> exact ⟨shw_bools (Nat.le_refl 3), by simpa using hq⟩
      refine sq_i (for_i R (fun q x hq => hq) ?_)
      refine forK_keep (fun _ => True) trivial (fun t ht _ nx5 _ k5 => ?_) fun _ _ => end_i (k4 _ trivial)
      refine sq_i (ifF_i (fun q x hq => ?_) (end_i (end_i (k5 _ trivial))))
      (try simp (config := {implicitDefEqProofs := false}) only [w_pu, w_map, w_un, w_op, w_pair, w_ch, w_and, w_or, w_if, w_len, w_rng1, w_rng2, w_one, w_two, w_lc, w_lcy, w_call, w_meth, w_slc, w_p0, w_p1, w_p3, w_p4, w_it0, w_it1, w_opx, w_olen, w_nox, w_sq, w_end, w_bk, w_ct, w_no, w_ifk, w_set, w_drop, w_ret, w_rt, w_for, w_app, w_ext, w_sub, w_pop, w_aug, w_bag, w_par2, w_par3, w_raise, w_isw, w_isn, w_isl, if_true, Bool.false_eq_true, if_false, Bool.not_true, Bool.not_false, Bool.not_eq_true', decide_eq_true_eq, decide_eq_false_iff_not, true_and, and_true, id])
      refine lt_eq ?_
      by_cases e1 : ltF u.2 v.2 = true
      · rw [if_pos e1]
        refine lt_eq ?_
        by_cases e2 : ltF v.2 t = true
        · rw [if_pos e2]
          refine lt_eq ?_
          rw [so_file.trn _ _ _ e1 e2]
          exact hq
        · rw [if_neg e2]
          exact hq
      · rw [if_neg e1]
        exact hq
    · refine sq_i (for_i (enumT 0 R) (fun q x hq => hq) ?_)
      refine forK_keep (fun _ => True) trivial (fun u hu _ nx3 _ k3 => ?_) fun _ _ => end_i (k _ trivial)
      obtain ⟨m, hm, gm⟩ := enumT_mem hu
      rw [Nat.zero_add] at hm
      have gu := Rg u.2 (List.mem_of_getElem? gm)
      have sh := shw_linesT gu.1 (Nat.le_trans gu.2 (by decide))
      refine sq_i (ifF_i (fun q x hq => ?_) (end_i (end_i (k3 _ trivial))))
      (try simp (config := {implicitDefEqProofs := false}) only [w_pu, w_map, w_un, w_op, w_pair, w_ch, w_and, w_or, w_if, w_len, w_rng1, w_rng2, w_one, w_two, w_lc, w_lcy, w_call, w_meth, w_slc, w_p0, w_p1, w_p3, w_p4, w_it0, w_it1, w_opx, w_olen, w_nox, w_sq, w_end, w_bk, w_ct, w_no, w_ifk, w_set, w_drop, w_ret, w_rt, w_for, w_app, w_ext, w_sub, w_pop, w_aug, w_bag, w_par2, w_par3, w_raise, w_isw, w_isn, w_isl, if_true, Bool.false_eq_true, if_false, Bool.not_true, Bool.not_false, Bool.not_eq_true', decide_eq_true_eq, decide_eq_false_iff_not, true_and, and_true, id])
      rw [hm]
      refine ⟨sh, idx_at gm ⟨sh, ?_⟩⟩
      simpa using hq
end DL

namespace DL
open PySem PySem.Spec PyProof.Rows L2

/-! ### the head -/
theorem all_mk {l : PySem.W.OpenLaw} {w : World} {K : PySem.W.Frag} {h : Heap} {mg : Str → Option Value} {fa : Addr} (X : K.In h) (G : h.Ns mainGlobals mg) (hfa : mg "law" = some (.ref fa))
    {f__law_bag f__law_draw f__law_words f__law_pool f__law_lines f__law_near f_is_word f_is_name f_is_line f_File___init__ f_File_of r_File_of f__law_is_less f_File___lt__ f_File___eq__ f_law c_File : Addr} {od0 od1 od2 od3 od4 od5 od6 od7 od8 od9 od10 od11 od12 od13 od14 an0 an1 an2 an3 an4 an5 an6 an7 an8 an9 an10 an11 an12 an13 an14 : Option Addr} {sl0 sl1 sl2 sl3 sl4 sl5 sl6 sl7 sl8 sl9 sl10 sl11 sl12 sl13 sl14 : Array (Option Value)} {oc0 kV0 dc0 pm0 cd0 ct0 oc1 kV1 dc1 pm1 cd1 ct1 oc2 kV2 dc2 pm2 cd2 ct2 oc3 kV3 dc3 pm3 cd3 ct3 oc4 kV4 dc4 pm4 cd4 ct4 oc5 kV5 dc5 pm5 cd5 ct5 oc6 kV6 dc6 pm6 cd6 ct6 oc7 kV7 dc7 pm7 cd7 ct7 oc8 kV8 dc8 pm8 cd8 ct8 oc9 kV9 dc9 pm9 cd9 ct9 oc10 kV10 dc10 pm10 cd10 ct10 oc11 kV11 dc11 pm11 cd11 ct11 oc12 kV12 dc12 pm12 cd12 ct12 oc13 kV13 dc13 pm13 cd13 ct13 oc14 kV14 dc14 pm14 cd14 ct14 : Value} {rest10 : List Value} {t_LETTERS t_MOST_LETTERS : Tok}
    (m_File : PySem.W.nsIn K mainGlobals "File" = some (some (.ref c_File)))
    (a0 : PySem.W.nsIn K mainGlobals "_law_bag" = some (some (.ref f__law_bag)))
    (l0 : K.lookup f__law_bag = some ⟨oc0, od0, .func (PySem.W.fnOf "_law_bag" "_law_bag" (defArgs (top 16)) (defBody (top 16)) (defScope (top 16)) .none kV0 dc0 pm0 an0 cd0 ct0), sl0⟩)
    (e0 : PySem.W.codeIn K cd0 "_law_bag" = true)
    (k0 : PySem.W.keepIn K (.ref f__law_bag) = true)
    (a1 : PySem.W.nsIn K mainGlobals "_law_draw" = some (some (.ref f__law_draw)))
    (l1 : K.lookup f__law_draw = some ⟨oc1, od1, .func (PySem.W.fnOf "_law_draw" "_law_draw" (defArgs (top 17)) (defBody (top 17)) (defScope (top 17)) .none kV1 dc1 pm1 an1 cd1 ct1), sl1⟩)
    (e1 : PySem.W.codeIn K cd1 "_law_draw" = true)
    (k1 : PySem.W.keepIn K (.ref f__law_draw) = true)
    (a2 : PySem.W.nsIn K mainGlobals "_law_words" = some (some (.ref f__law_words)))
    (l2 : K.lookup f__law_words = some ⟨oc2, od2, .func (PySem.W.fnOf "_law_words" "_law_words" (defArgs (top 18)) (defBody (top 18)) (defScope (top 18)) .none kV2 dc2 pm2 an2 cd2 ct2), sl2⟩)
    (e2 : PySem.W.codeIn K cd2 "_law_words" = true)
    (k2 : PySem.W.keepIn K (.ref f__law_words) = true)
    (a3 : PySem.W.nsIn K mainGlobals "_law_pool" = some (some (.ref f__law_pool)))
    (l3 : K.lookup f__law_pool = some ⟨oc3, od3, .func (PySem.W.fnOf "_law_pool" "_law_pool" (defArgs (top 19)) (defBody (top 19)) (defScope (top 19)) .none kV3 dc3 pm3 an3 cd3 ct3), sl3⟩)
    (e3 : PySem.W.codeIn K cd3 "_law_pool" = true)
    (k3 : PySem.W.keepIn K (.ref f__law_pool) = true)
    (a4 : PySem.W.nsIn K mainGlobals "_law_lines" = some (some (.ref f__law_lines)))
    (l4 : K.lookup f__law_lines = some ⟨oc4, od4, .func (PySem.W.fnOf "_law_lines" "_law_lines" (defArgs (top 20)) (defBody (top 20)) (defScope (top 20)) .none kV4 dc4 pm4 an4 cd4 ct4), sl4⟩)
    (e4 : PySem.W.codeIn K cd4 "_law_lines" = true)
    (k4 : PySem.W.keepIn K (.ref f__law_lines) = true)
    (a5 : PySem.W.nsIn K mainGlobals "_law_near" = some (some (.ref f__law_near)))
    (l5 : K.lookup f__law_near = some ⟨oc5, od5, .func (PySem.W.fnOf "_law_near" "_law_near" (defArgs (top 21)) (defBody (top 21)) (defScope (top 21)) .none kV5 dc5 pm5 an5 cd5 ct5), sl5⟩)
    (e5 : PySem.W.codeIn K cd5 "_law_near" = true)
    (k5 : PySem.W.keepIn K (.ref f__law_near) = true)
    (a6 : PySem.W.nsIn K mainGlobals "is_word" = some (some (.ref f_is_word)))
    (l6 : K.lookup f_is_word = some ⟨oc6, od6, .func (PySem.W.fnOf "is_word" "is_word" (defArgs (top 8)) (defBody (top 8)) (defScope (top 8)) .none kV6 dc6 pm6 an6 cd6 ct6), sl6⟩)
    (e6 : PySem.W.codeIn K cd6 "is_word" = true)
    (k6 : PySem.W.keepIn K (.ref f_is_word) = true)
    (a7 : PySem.W.nsIn K mainGlobals "is_name" = some (some (.ref f_is_name)))
    (l7 : K.lookup f_is_name = some ⟨oc7, od7, .func (PySem.W.fnOf "is_name" "is_name" (defArgs (top 9)) (defBody (top 9)) (defScope (top 9)) .none kV7 dc7 pm7 an7 cd7 ct7), sl7⟩)
    (e7 : PySem.W.codeIn K cd7 "is_name" = true)
    (k7 : PySem.W.keepIn K (.ref f_is_name) = true)
    (a8 : PySem.W.nsIn K mainGlobals "is_line" = some (some (.ref f_is_line)))
    (l8 : K.lookup f_is_line = some ⟨oc8, od8, .func (PySem.W.fnOf "is_line" "is_line" (defArgs (top 10)) (defBody (top 10)) (defScope (top 10)) .none kV8 dc8 pm8 an8 cd8 ct8), sl8⟩)
    (e8 : PySem.W.codeIn K cd8 "is_line" = true)
    (k8 : PySem.W.keepIn K (.ref f_is_line) = true)
    (a9 : PySem.W.findIn K (.ref c_File) "__init__" = some (some (.ref f_File___init__)))
    (i9 : PySem.W.isFn K (.ref f_File___init__) = true)
    (l9 : K.lookup f_File___init__ = some ⟨oc9, od9, .func (PySem.W.fnOf "__init__" "File.__init__" (defArgs (inClass (top 14) 0)) (defBody (inClass (top 14) 0)) (defScope (inClass (top 14) 0)) .none kV9 dc9 pm9 an9 cd9 ct9), sl9⟩)
    (e9 : PySem.W.codeIn K cd9 "File.__init__" = true)
    (k9 : PySem.W.keepIn K (.ref f_File___init__) = true)
    (a10 : PySem.W.findCls K (.ref c_File) (.type "type") "of" = some (.get (.builtin "classmethod.__get__") (.ref r_File_of) .none (.ref c_File)))
    (i10 : PySem.W.recIn K r_File_of "classmethod" = some (.ref f_File_of :: rest10))
    (fi10 : PySem.W.fnIn K f_File_of = true)
    (l10 : K.lookup f_File_of = some ⟨oc10, od10, .func (PySem.W.fnOf "of" "File.of" (defArgs (inClass (top 14) 9)) (defBody (inClass (top 14) 9)) (defScope (inClass (top 14) 9)) .none kV10 dc10 pm10 an10 cd10 ct10), sl10⟩)
    (e10 : PySem.W.codeIn K cd10 "File.of" = true)
    (k10 : PySem.W.keepIn K (.ref f_File_of) = true)
    (a11 : PySem.W.nsIn K mainGlobals "_law_is_less" = some (some (.ref f__law_is_less)))
    (l11 : K.lookup f__law_is_less = some ⟨oc11, od11, .func (PySem.W.fnOf "_law_is_less" "_law_is_less" (defArgs (top 22)) (defBody (top 22)) (defScope (top 22)) .none kV11 dc11 pm11 an11 cd11 ct11), sl11⟩)
    (e11 : PySem.W.codeIn K cd11 "_law_is_less" = true)
    (k11 : PySem.W.keepIn K (.ref f__law_is_less) = true)
    (a12 : PySem.W.findIn K (.ref c_File) "__lt__" = some (some (.ref f_File___lt__)))
    (i12 : PySem.W.isFn K (.ref f_File___lt__) = true)
    (l12 : K.lookup f_File___lt__ = some ⟨oc12, od12, .func (PySem.W.fnOf "__lt__" "File.__lt__" (defArgs (inClass (top 14) 2)) (defBody (inClass (top 14) 2)) (defScope (inClass (top 14) 2)) .none kV12 dc12 pm12 an12 cd12 ct12), sl12⟩)
    (e12 : PySem.W.codeIn K cd12 "File.__lt__" = true)
    (k12 : PySem.W.keepIn K (.ref f_File___lt__) = true)
    (a13 : PySem.W.findIn K (.ref c_File) "__eq__" = some (some (.ref f_File___eq__)))
    (i13 : PySem.W.isFn K (.ref f_File___eq__) = true)
    (l13 : K.lookup f_File___eq__ = some ⟨oc13, od13, .func (PySem.W.fnOf "__eq__" "File.__eq__" (defArgs (inClass (top 14) 1)) (defBody (inClass (top 14) 1)) (defScope (inClass (top 14) 1)) .none kV13 dc13 pm13 an13 cd13 ct13), sl13⟩)
    (e13 : PySem.W.codeIn K cd13 "File.__eq__" = true)
    (k13 : PySem.W.keepIn K (.ref f_File___eq__) = true)
    (a14 : PySem.W.nsIn K mainGlobals "law" = some (some (.ref f_law)))
    (l14 : K.lookup f_law = some ⟨oc14, od14, .func (PySem.W.fnOf "law" "law" (defArgs (top 23)) (defBody (top 23)) (defScope (top 23)) .none kV14 dc14 pm14 an14 cd14 ct14), sl14⟩)
    (e14 : PySem.W.codeIn K cd14 "law" = true)
    (k14 : PySem.W.keepIn K (.ref f_law) = true)
    (z_abs : PySem.W.nsIn K mainGlobals "abs" = some none)
    (z_all : PySem.W.nsIn K mainGlobals "all" = some none)
    (z_enumerate : PySem.W.nsIn K mainGlobals "enumerate" = some none)
    (z_int : PySem.W.nsIn K mainGlobals "int" = some none)
    (z_isinstance : PySem.W.nsIn K mainGlobals "isinstance" = some none)
    (z_len : PySem.W.nsIn K mainGlobals "len" = some none)
    (z_list : PySem.W.nsIn K mainGlobals "list" = some none)
    (z_max : PySem.W.nsIn K mainGlobals "max" = some none)
    (z_min : PySem.W.nsIn K mainGlobals "min" = some none)
    (z_range : PySem.W.nsIn K mainGlobals "range" = some none)
    (z_repr : PySem.W.nsIn K mainGlobals "repr" = some none)
    (z_str : PySem.W.nsIn K mainGlobals "str" = some none)
    (z_tuple : PySem.W.nsIn K mainGlobals "tuple" = some none)
    (m_LETTERS : PySem.W.nsIn K mainGlobals "LETTERS" = some (some (.str ("abcdefghijklmnopqrstuvwxyz" : Str) t_LETTERS)))
    (m_MOST_LETTERS : PySem.W.nsIn K mainGlobals "MOST_LETTERS" = some (some (.int 8 t_MOST_LETTERS)))
    (k_File : PySem.W.keepIn K (.ref c_File) = true)
    (pg_File : PySem.W.plainGet K c_File Str.empty = true)
    (hd_File : PySem.W.hasDictIn K c_File = true)
    (po_File : PySem.W.plainOver K c_File = true)
    (sa_File : PySem.W.findIn K (.ref c_File) "__setattr__" = some (some (.builtin "object.__setattr__")))
    (ha_File : PySem.W.findIn K (.ref c_File) "__class__" = some (some (.builtin "object.__class__")))
    (mr_File : PySem.W.mroIn K c_File (.type "object") = some true)
    (n_File_lines : PySem.W.findIn K (.ref c_File) "lines" = some none)
    (rd_File : PySem.W.readsIn K c_File (.type "type") = true)
    (ga_File : PySem.W.specialIn K (.ref c_File) "__getattribute__" = some (some (.builtin "type.__getattribute__")))
    (so_File_tup : PySem.W.subIn K (.type "tuple") (.ref c_File) = some false)
    (so_File_lst : PySem.W.subIn K (.type "list") (.ref c_File) = some false)
    (so_File_non : PySem.W.subIn K (.type "NoneType") (.ref c_File) = some false)
    (so_File_int : PySem.W.subIn K (.type "int") (.ref c_File) = some false)
    (so_File_str : PySem.W.subIn K (.type "str") (.ref c_File) = some false)
    (so_File_bl : PySem.W.subIn K (.type "bool") (.ref c_File) = some false)
    (mk_File : PySem.W.makesIn K c_File = true)
    (hgs : PySem.W.specialIn K (.builtin "object.__class__") "__get__" = some (some (.builtin "getset_descriptor.__get__")))
    (htk : PySem.W.takesIn K (.builtin "object.__class__") = some true)
    (q0 : PySem.W.subIn K (.ref c_File) (.type "str") = some false)
    (q1 : PySem.W.subIn K (.ref c_File) (.type "tuple") = some false)
    (q2 : PySem.W.subIn K (.ref c_File) (.type "int") = some false)
    (q3 : PySem.W.subIn K (.ref c_File) (.type "bool") = some false)
    (q4 : PySem.W.subIn K (.ref c_File) (.type "list") = some false)
    (cs_File : PySem.W.clsIn K c_File = some cl_File)
    (ct_File : PySem.W.typeIn K (.ref c_File) = some (.type "type"))
    (q6 : PySem.W.subIn K (.type "NoneType") (.ref c_File) = some false)
    (q7 : PySem.W.subIn K (.type "bool") (.ref c_File) = some false)
    (q8 : PySem.W.subIn K (.type "int") (.ref c_File) = some false)
    (q9 : PySem.W.subIn K (.type "str") (.ref c_File) = some false)
    (q10 : PySem.W.subIn K (.type "tuple") (.ref c_File) = some false)
    (q11 : PySem.W.subIn K (.type "list") (.ref c_File) = some false)
    : ∃ A : Cla, A.gh = none ∧ ∀ base : Heap, K.In base → base.Ns mainGlobals mg → FnD l.prog w (cc K A) mg base 7 fa (spT (fun (a : List Int × Unit) => [.v (eC a.1)]) D.bl m_law) := by
  have e := hfa.symm.trans (PySem.W.mg_of X G a14)
  cases e
  let T : Tx l.prog K mg := {
    f__law_bag := f__law_bag
    p__law_bag := ⟨_, _, _, _, _, _, _, _, _, l0, e0⟩
    m__law_bag := PySem.W.mg_of X G a0
    k__law_bag := k0
    f__law_draw := f__law_draw
    p__law_draw := ⟨_, _, _, _, _, _, _, _, _, l1, e1⟩
    m__law_draw := PySem.W.mg_of X G a1
    k__law_draw := k1
    f__law_words := f__law_words
    p__law_words := ⟨_, _, _, _, _, _, _, _, _, l2, e2⟩
    m__law_words := PySem.W.mg_of X G a2
    k__law_words := k2
    f__law_pool := f__law_pool
    p__law_pool := ⟨_, _, _, _, _, _, _, _, _, l3, e3⟩
    m__law_pool := PySem.W.mg_of X G a3
    k__law_pool := k3
    f__law_lines := f__law_lines
    p__law_lines := ⟨_, _, _, _, _, _, _, _, _, l4, e4⟩
    m__law_lines := PySem.W.mg_of X G a4
    k__law_lines := k4
    f__law_near := f__law_near
    p__law_near := ⟨_, _, _, _, _, _, _, _, _, l5, e5⟩
    m__law_near := PySem.W.mg_of X G a5
    k__law_near := k5
    f_is_word := f_is_word
    p_is_word := ⟨_, _, _, _, _, _, _, _, _, l6, e6⟩
    m_is_word := PySem.W.mg_of X G a6
    k_is_word := k6
    f_is_name := f_is_name
    p_is_name := ⟨_, _, _, _, _, _, _, _, _, l7, e7⟩
    m_is_name := PySem.W.mg_of X G a7
    k_is_name := k7
    f_is_line := f_is_line
    p_is_line := ⟨_, _, _, _, _, _, _, _, _, l8, e8⟩
    m_is_line := PySem.W.mg_of X G a8
    k_is_line := k8
    f_File___init__ := f_File___init__
    p_File___init__ := ⟨_, _, _, _, _, _, _, _, _, l9, e9⟩
    k_File___init__ := k9
    f_File_of := f_File_of
    p_File_of := ⟨_, _, _, _, _, _, _, _, _, l10, e10⟩
    k_File_of := k10
    r_File_of := r_File_of
    cm_File_of := ⟨a10, ⟨_, i10⟩, fi10⟩
    f__law_is_less := f__law_is_less
    p__law_is_less := ⟨_, _, _, _, _, _, _, _, _, l11, e11⟩
    m__law_is_less := PySem.W.mg_of X G a11
    k__law_is_less := k11
    f_File___lt__ := f_File___lt__
    p_File___lt__ := ⟨_, _, _, _, _, _, _, _, _, l12, e12⟩
    k_File___lt__ := k12
    d_File___lt__ := ⟨a12, i12⟩
    f_File___eq__ := f_File___eq__
    p_File___eq__ := ⟨_, _, _, _, _, _, _, _, _, l13, e13⟩
    k_File___eq__ := k13
    d_File___eq__ := ⟨a13, i13⟩
    f_law := fa
    p_law := ⟨_, _, _, _, _, _, _, _, _, l14, e14⟩
    m_law := PySem.W.mg_of X G a14
    k_law := k14
    z_abs := PySem.W.mg_none_of X G z_abs
    z_all := PySem.W.mg_none_of X G z_all
    z_enumerate := PySem.W.mg_none_of X G z_enumerate
    z_int := PySem.W.mg_none_of X G z_int
    z_isinstance := PySem.W.mg_none_of X G z_isinstance
    z_len := PySem.W.mg_none_of X G z_len
    z_list := PySem.W.mg_none_of X G z_list
    z_max := PySem.W.mg_none_of X G z_max
    z_min := PySem.W.mg_none_of X G z_min
    z_range := PySem.W.mg_none_of X G z_range
    z_repr := PySem.W.mg_none_of X G z_repr
    z_str := PySem.W.mg_none_of X G z_str
    z_tuple := PySem.W.mg_none_of X G z_tuple
    t_LETTERS := t_LETTERS
    m_LETTERS := PySem.W.mg_of X G m_LETTERS
    t_MOST_LETTERS := t_MOST_LETTERS
    m_MOST_LETTERS := PySem.W.mg_of X G m_MOST_LETTERS
    c_File := c_File
    m_File := PySem.W.mg_of X G m_File
    k_File := k_File
    ck_File := ⟨⟨pg_File, hd_File, po_File, sa_File⟩, ha_File, hgs, htk, mr_File⟩
    n_File_lines := n_File_lines
    cr_File := ⟨rd_File, ga_File⟩
    so_File_tup := so_File_tup
    so_File_lst := so_File_lst
    so_File_non := so_File_non
    so_File_int := so_File_int
    so_File_str := so_File_str
    so_File_bl := so_File_bl
    mk_File := ⟨mk_File, a9, i9, k_File⟩
    i_0 := kit_rt (by decide +kernel) q0
    i_1 := kit_rt (by decide +kernel) q1
    i_2 := kit_rt (by decide +kernel) q2
    i_3 := kit_rt (by decide +kernel) q3
    i_4 := kit_rt (by decide +kernel) q4
    i_5 := kit_self
    i_6 := kit_xr rfl cs_File ct_File q6
    i_7 := kit_xr rfl cs_File ct_File q7
    i_8 := kit_xr rfl cs_File ct_File q8
    i_9 := kit_xr rfl cs_File ct_File q9
    i_10 := kit_xr rfl cs_File ct_File q10
    i_11 := kit_xr rfl cs_File ct_File q11
  }
  exact ⟨T.A, rfl, fun base _ _ => fd_law T⟩
end DL

open PySem PySem.W PyProof.Rows in
set_option maxRecDepth 100000 in
set_option maxHeartbeats 0 in
theorem PySem.Challenge.cw_cleanmerges_k05_files_in_order_holds : PySem.Challenge.rw_cleanmerges_k05_files_in_order.Holds := by
  w_on; o_law; k_head; (case hw => w_witness2)
  k_fill
  refine DL.walkD (l := PySem.Challenge.rw_cleanmerges_k05_files_in_order) (n := 63) (k := 7) (DL.spT (fun (a : List Int × Unit) => [.v (DL.eC a.1)]) DL.D.bl DL.m_law) rfl (by decide) rfl ⟨rfl, by decide, by decide⟩ (fun w h Y => PySem.W.kIn_of Y) (DL.asks_T (sp := DL.sp_bag) DL.law_true) ?F
  case F =>
    intro w mg fa h KX G hmg
    refine' DL.all_mk KX G hmg ?m_File ?a0 ?l0 ?e0 ?k0 ?a1 ?l1 ?e1 ?k1 ?a2 ?l2 ?e2 ?k2 ?a3 ?l3 ?e3 ?k3 ?a4 ?l4 ?e4 ?k4 ?a5 ?l5 ?e5 ?k5 ?a6 ?l6 ?e6 ?k6 ?a7 ?l7 ?e7 ?k7 ?a8 ?l8 ?e8 ?k8 ?a9 ?i9 ?l9 ?e9 ?k9 ?a10 ?i10 ?fi10 ?l10 ?e10 ?k10 ?a11 ?l11 ?e11 ?k11 ?a12 ?i12 ?l12 ?e12 ?k12 ?a13 ?i13 ?l13 ?e13 ?k13 ?a14 ?l14 ?e14 ?k14 ?z_abs ?z_all ?z_enumerate ?z_int ?z_isinstance ?z_len ?z_list ?z_max ?z_min ?z_range ?z_repr ?z_str ?z_tuple ?m_LETTERS ?m_MOST_LETTERS ?k_File ?pg_File ?hd_File ?po_File ?sa_File ?ha_File ?mr_File ?n_File_lines ?rd_File ?ga_File ?so_File_tup ?so_File_lst ?so_File_non ?so_File_int ?so_File_str ?so_File_bl ?mk_File ?hgs ?htk ?q0 ?q1 ?q2 ?q3 ?q4 ?cs_File ?ct_File ?q6 ?q7 ?q8 ?q9 ?q10 ?q11
    (case m_File => k_is)
    (case a0 => k_is)
    (case l0 => k_is)
    (case e0 => k_is)
    (case k0 => k_is)
    (case a1 => k_is)
    (case l1 => k_is)
    (case e1 => k_is)
    (case k1 => k_is)
    (case a2 => k_is)
    (case l2 => k_is)
    (case e2 => k_is)
    (case k2 => k_is)
    (case a3 => k_is)
    (case l3 => k_is)
    (case e3 => k_is)
    (case k3 => k_is)
    (case a4 => k_is)
    (case l4 => k_is)
    (case e4 => k_is)
    (case k4 => k_is)
    (case a5 => k_is)
    (case l5 => k_is)
    (case e5 => k_is)
    (case k5 => k_is)
    (case a6 => k_is)
    (case l6 => k_is)
    (case e6 => k_is)
    (case k6 => k_is)
    (case a7 => k_is)
    (case l7 => k_is)
    (case e7 => k_is)
    (case k7 => k_is)
    (case a8 => k_is)
    (case l8 => k_is)
    (case e8 => k_is)
    (case k8 => k_is)
    (case a9 => k_is)
    (case i9 => k_is)
    (case l9 => k_is)
    (case e9 => k_is)
    (case k9 => k_is)
    (case a10 => k_is)
    (case i10 => k_is)
    (case fi10 => k_is)
    (case l10 => k_is)
    (case e10 => k_is)
    (case k10 => k_is)
    (case a11 => k_is)
    (case l11 => k_is)
    (case e11 => k_is)
    (case k11 => k_is)
    (case a12 => k_is)
    (case i12 => k_is)
    (case l12 => k_is)
    (case e12 => k_is)
    (case k12 => k_is)
    (case a13 => k_is)
    (case i13 => k_is)
    (case l13 => k_is)
    (case e13 => k_is)
    (case k13 => k_is)
    (case a14 => k_is)
    (case l14 => k_is)
    (case e14 => k_is)
    (case k14 => k_is)
    (case z_abs => k_is)
    (case z_all => k_is)
    (case z_enumerate => k_is)
    (case z_int => k_is)
    (case z_isinstance => k_is)
    (case z_len => k_is)
    (case z_list => k_is)
    (case z_max => k_is)
    (case z_min => k_is)
    (case z_range => k_is)
    (case z_repr => k_is)
    (case z_str => k_is)
    (case z_tuple => k_is)
    (case m_LETTERS => k_is)
    (case m_MOST_LETTERS => k_is)
    (case k_File => k_is)
    (case pg_File => k_is)
    (case hd_File => k_is)
    (case po_File => k_is)
    (case sa_File => k_is)
    (case ha_File => k_is)
    (case mr_File => k_is)
    (case n_File_lines => k_is)
    (case rd_File => k_is)
    (case ga_File => k_is)
    (case so_File_tup => k_is)
    (case so_File_lst => k_is)
    (case so_File_non => k_is)
    (case so_File_int => k_is)
    (case so_File_str => k_is)
    (case so_File_bl => k_is)
    (case mk_File => k_is)
    (case hgs => k_is)
    (case htk => k_is)
    (case q0 => k_is)
    (case q1 => k_is)
    (case q2 => k_is)
    (case q3 => k_is)
    (case q4 => k_is)
    (case cs_File => k_is)
    (case ct_File => k_is)
    (case q6 => k_is)
    (case q7 => k_is)
    (case q8 => k_is)
    (case q9 => k_is)
    (case q10 => k_is)
    (case q11 => k_is)
#print axioms PySem.Challenge.cw_cleanmerges_k05_files_in_order_holds
