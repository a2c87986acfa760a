import PyProof.Rows.All
import HandS.ForMost
import HandS.ForExc
import HandS.Flow
import HandS.IsInst
import HandS.Wide
import HandS.StrMore
import HandS.Star
import HandS.Style
import HandS.Conv
import HandS.TupAny
import HandS.Deep
import PyProof.ReprRoads
import KE.GoesEnum
import HandS.RaiseMore
import HandS.Zip
import HandS.SlotsOwn
import HandS.More
import HandS.ClsMeth
import KE.KOpsOwn
import PyProof.CollectStr
import PyProof.ListRange
import PyProof.InstEq
import PySem.Challenge.RW_cleanmerges_k02_files_made
import Wide.All
import OpenK.AllK
import Wide.FinOn
set_option Elab.async false
set_option linter.all false
set_option maxRecDepth 100000
set_option maxHeartbeats 4000000
namespace DL
open PySem PySem.Spec PyProof.Rows L2

/-- the types that a value may have -/
inductive Ty where
  | non | bl | int | str | tup | lst | dct | own (C : Nat)
  deriving DecidableEq
inductive D where
  | non | bl (b : Bool) | int (i : Int) | str (x : Str) | ref (a : Addr) | ty (t : Ty) | rp (p : PyData)
  | tup (xs : List D) | lst (xs : List D) | cst (xs : List D) | ins (C : Nat) (xs : List D)
instance : Inhabited D := ⟨.non⟩
/-- the written part; the classes' places; the errors' classes -/
structure Cfg where
  K : PySem.W.Frag
  cA : Nat → Addr
  cv : Nat → Value
  fl : Nat → List Str
def Ty.name : Ty → String
  | .non => "NoneType" | .bl => "bool" | .int => "int" | .str => "str" | .tup => "tuple" | .lst => "list" | .dct => "dict" | .own _ => "object"
/-- a class as a value -/
def Ty.v (cA : Nat → Addr) : Ty → V
  | .own C => .ref (cA C)
  | t => .ty t.name

/-- a text of a bounded size -/
def SOk (x : Str) : Prop := x.length ≤ sizeLine ∧ x.cps.all (· < 0x110000) = true
/-- what stands at a place that may change -/
inductive MO where
  | lst (xs : List D) | ins (C : Nat) (xs : List D)
abbrev Sto := Addr → Option MO
abbrev Lk := Addr → Prop
def Sto.set (S : Sto) (a : Addr) (o : MO) : Sto := fun b => if b = a then some o else S b
def Sto.del (S : Sto) (a : Addr) : Sto := fun b => if b = a then none else S b
theorem Sto.set_same {S : Sto} {a : Addr} {o : MO} : S.set a o a = some o := if_pos rfl
theorem Sto.set_ne {S : Sto} {a b : Addr} {o : MO} (h : b ≠ a) : S.set a o b = S b := if_neg h
theorem Sto.set_set {S : Sto} {a : Addr} {o o' : MO} : (S.set a o).set a o' = S.set a o' := by
  funext b; unfold Sto.set; by_cases h : b = a <;> simp [h]

section
variable (c : Cfg) (L : Lk) (H : Hp) (S : Sto)
/-- not tracked: an object of the written part -/
abbrev hp0 : Hp := fun _ => none
/-- tracked, frozen, not locked -/
def Fz (p : Addr) : Prop := S p = none ∧ ¬ L p
def FT (p : Addr) (vs : List V) : Prop := (Rd H p (.tup vs) ∧ Fz L S p) ∨ SqT c.K hp0 p vs
def FL (p : Addr) (vs : List V) : Prop := (Rd H p (.lst vs) ∧ Fz L S p) ∨ SqL c.K hp0 p vs
mutual
def Rep : D → V → Prop
  | .non, v => v = .non
  | .bl b, v => v = .bl b
  | .int i, v => v = .int i
  | .str x, v => v = .str x ∧ SOk x
  | .ref a, v => v = .ref a
  | .rp p, v => v = .str p.shown ∧ p.shown.length ≤ sizeLine
  | .ty t, v => v = t.v c.cA
  | .tup ds, v => ∃ p vs, v = .ref p ∧ FT c L H S p vs ∧ Reps ds vs
  | .lst ds, v => ∃ p vs, v = .ref p ∧ H p = some (.lst vs) ∧ Fz L S p ∧ Reps ds vs
  | .cst ds, v => ∃ p vs, v = .ref p ∧ FL c L H S p vs ∧ Reps ds vs
  | .ins C ds, v => ∃ p dx vs, v = .ref p ∧ H p = some (.ins (c.cA C) dx ((c.fl C).zip vs)) ∧ Fz L S p ∧ Reps ds vs
def Reps : List D → List V → Prop
  | [], vs => vs = []
  | d :: ds, vs => ∃ v ws, vs = v :: ws ∧ Rep d v ∧ Reps ds ws
end
def MR (p : Addr) : MO → Prop
  | .lst ds => ∃ vs, H p = some (.lst vs) ∧ Reps c L H S ds vs
  | .ins C ds => ∃ dx vs, H p = some (.ins (c.cA C) dx ((c.fl C).zip vs)) ∧ Reps c L H S ds vs
/-- the store is held -/
structure StoR : Prop where
  at_ : ∀ p o, S p = some o → MR c L H S p o ∧ ¬ L p
  lk : ∀ p, L p → H p ≠ none
end
/-- what is frozen or locked stays -/
def Ext (H : Hp) (S : Sto) (H' : Hp) (S' : Sto) : Prop := ∀ p o, H p = some o → S p = none → H' p = some o ∧ S' p = none
section
variable {c : Cfg} {L : Lk} {H H1 H2 : Hp} {S S1 S2 : Sto}
theorem Ext.refl : Ext H S H S := fun _ _ h s => ⟨h, s⟩
theorem Ext.trans (a : Ext H S H1 S1) (b : Ext H1 S1 H2 S2) : Ext H S H2 S2 := fun p o h s => by
  obtain ⟨h1, s1⟩ := a p o h s
  exact b p o h1 s1
theorem FT.ext {p : Addr} {vs : List V} (e : Ext H S H1 S1) : FT c L H S p vs → FT c L H1 S1 p vs
  | .inr h => .inr h
  | .inl ⟨.inl h, s, l⟩ => by
    obtain ⟨h1, s1⟩ := e _ _ h s
    exact .inl ⟨.inl h1, s1, l⟩
  | .inl ⟨.inr ⟨o, h⟩, s, l⟩ => by
    obtain ⟨h1, s1⟩ := e _ _ h s
    exact .inl ⟨.inr ⟨o, h1⟩, s1, l⟩
theorem FL.ext {p : Addr} {vs : List V} (e : Ext H S H1 S1) : FL c L H S p vs → FL c L H1 S1 p vs
  | .inr h => .inr h
  | .inl ⟨.inl h, s, l⟩ => by
    obtain ⟨h1, s1⟩ := e _ _ h s
    exact .inl ⟨.inl h1, s1, l⟩
  | .inl ⟨.inr ⟨o, h⟩, s, l⟩ => by
    obtain ⟨h1, s1⟩ := e _ _ h s
    exact .inl ⟨.inr ⟨o, h1⟩, s1, l⟩
mutual
theorem Rep.ext (e : Ext H S H1 S1) : ∀ (d : D) (v : V), Rep c L H S d v → Rep c L H1 S1 d v
  | .non, v, h => by unfold Rep at h ⊢; exact h
  | .bl b, v, h => by unfold Rep at h ⊢; exact h
  | .int i, v, h => by unfold Rep at h ⊢; exact h
  | .str x, v, h => by unfold Rep at h ⊢; exact h
  | .ref a, v, h => by unfold Rep at h ⊢; exact h
  | .rp p, v, h => by unfold Rep at h ⊢; exact h
  | .ty n, v, h => by unfold Rep at h ⊢; exact h
  | .tup ds, v, h => by
    unfold Rep at h ⊢
    obtain ⟨p, vs, ev, f, r⟩ := h
    exact ⟨p, vs, ev, f.ext e, Reps.ext e ds vs r⟩
  | .lst ds, v, h => by
    unfold Rep at h ⊢
    obtain ⟨p, vs, ev, f, ⟨s, l⟩, r⟩ := h
    obtain ⟨h1, s1⟩ := e _ _ f s
    exact ⟨p, vs, ev, h1, ⟨s1, l⟩, Reps.ext e ds vs r⟩
  | .cst ds, v, h => by
    unfold Rep at h ⊢
    obtain ⟨p, vs, ev, f, r⟩ := h
    exact ⟨p, vs, ev, f.ext e, Reps.ext e ds vs r⟩
  | .ins C ds, v, h => by
    unfold Rep at h ⊢
    obtain ⟨p, dx, vs, ev, f, ⟨s, l⟩, r⟩ := h
    obtain ⟨h1, s1⟩ := e _ _ f s
    exact ⟨p, dx, vs, ev, h1, ⟨s1, l⟩, Reps.ext e ds vs r⟩
theorem Reps.ext (e : Ext H S H1 S1) : ∀ (ds : List D) (vs : List V), Reps c L H S ds vs → Reps c L H1 S1 ds vs
  | [], vs, h => by unfold Reps at h ⊢; exact h
  | d :: ds, vs, h => by
    unfold Reps at h ⊢
    obtain ⟨v, ws, ev, r, rs⟩ := h
    exact ⟨v, ws, ev, Rep.ext e d v r, Reps.ext e ds ws rs⟩
end
/-- the locked set may shrink -/
theorem FT.unlock {L' : Lk} (l : ∀ p, L' p → L p) {p : Addr} {vs : List V} : FT c L H S p vs → FT c L' H S p vs
  | .inr h => .inr h
  | .inl ⟨h, s, n⟩ => .inl ⟨h, s, fun z => n (l _ z)⟩
theorem FL.unlock {L' : Lk} (l : ∀ p, L' p → L p) {p : Addr} {vs : List V} : FL c L H S p vs → FL c L' H S p vs
  | .inr h => .inr h
  | .inl ⟨h, s, n⟩ => .inl ⟨h, s, fun z => n (l _ z)⟩
mutual
theorem Rep.unlock {L' : Lk} (l : ∀ p, L' p → L p) : ∀ (d : D) (v : V), Rep c L H S d v → Rep c L' H S d v
  | .non, v, h => by unfold Rep at h ⊢; exact h
  | .bl b, v, h => by unfold Rep at h ⊢; exact h
  | .int i, v, h => by unfold Rep at h ⊢; exact h
  | .str x, v, h => by unfold Rep at h ⊢; exact h
  | .ref a, v, h => by unfold Rep at h ⊢; exact h
  | .rp p, v, h => by unfold Rep at h ⊢; exact h
  | .ty n, v, h => by unfold Rep at h ⊢; exact h
  | .tup ds, v, h => by
    unfold Rep at h ⊢
    obtain ⟨p, vs, ev, f, r⟩ := h
    exact ⟨p, vs, ev, f.unlock l, Reps.unlock l ds vs r⟩
  | .lst ds, v, h => by
    unfold Rep at h ⊢
    obtain ⟨p, vs, ev, f, ⟨s, n⟩, r⟩ := h
    exact ⟨p, vs, ev, f, ⟨s, fun z => n (l _ z)⟩, Reps.unlock l ds vs r⟩
  | .cst ds, v, h => by
    unfold Rep at h ⊢
    obtain ⟨p, vs, ev, f, r⟩ := h
    exact ⟨p, vs, ev, f.unlock l, Reps.unlock l ds vs r⟩
  | .ins C ds, v, h => by
    unfold Rep at h ⊢
    obtain ⟨p, dx, vs, ev, f, ⟨s, n⟩, r⟩ := h
    exact ⟨p, dx, vs, ev, f, ⟨s, fun z => n (l _ z)⟩, Reps.unlock l ds vs r⟩
theorem Reps.unlock {L' : Lk} (l : ∀ p, L' p → L p) : ∀ (ds : List D) (vs : List V), Reps c L H S ds vs → Reps c L' H S ds vs
  | [], vs, h => by unfold Reps at h ⊢; exact h
  | d :: ds, vs, h => by
    unfold Reps at h ⊢
    obtain ⟨v, ws, ev, r, rs⟩ := h
    exact ⟨v, ws, ev, Rep.unlock l d v r, Reps.unlock l ds ws rs⟩
end
/-- places that are not tracked are locked -/
abbrev Lk.add (L : Lk) (q : Addr) : Lk := fun p => L p ∨ p = q
theorem FT.lock {L' : Lk} (n : ∀ p, L' p → L p ∨ H p = none) {p : Addr} {vs : List V} : FT c L H S p vs → FT c L' H S p vs
  | .inr h => .inr h
  | .inl ⟨h, s, l⟩ => .inl ⟨h, s, fun z => (n p z).elim l fun e => by
    rcases h with h | ⟨o, h⟩ <;> (rw [e] at h; cases h)⟩
theorem FL.lock {L' : Lk} (n : ∀ p, L' p → L p ∨ H p = none) {p : Addr} {vs : List V} : FL c L H S p vs → FL c L' H S p vs
  | .inr h => .inr h
  | .inl ⟨h, s, l⟩ => .inl ⟨h, s, fun z => (n p z).elim l fun e => by
    rcases h with h | ⟨o, h⟩ <;> (rw [e] at h; cases h)⟩
mutual
theorem Rep.lock {L' : Lk} (n : ∀ p, L' p → L p ∨ H p = none) : ∀ (d : D) (v : V), Rep c L H S d v → Rep c L' H S d v
  | .non, v, h => by unfold Rep at h ⊢; exact h
  | .bl b, v, h => by unfold Rep at h ⊢; exact h
  | .int i, v, h => by unfold Rep at h ⊢; exact h
  | .str x, v, h => by unfold Rep at h ⊢; exact h
  | .ref a, v, h => by unfold Rep at h ⊢; exact h
  | .rp p, v, h => by unfold Rep at h ⊢; exact h
  | .ty m, v, h => by unfold Rep at h ⊢; exact h
  | .tup ds, v, h => by
    unfold Rep at h ⊢
    obtain ⟨p, vs, ev, f, r⟩ := h
    exact ⟨p, vs, ev, f.lock n, Reps.lock n ds vs r⟩
  | .lst ds, v, h => by
    unfold Rep at h ⊢
    obtain ⟨p, vs, ev, f, ⟨s, l⟩, r⟩ := h
    exact ⟨p, vs, ev, f, ⟨s, fun z => (n p z).elim l fun e => by rw [e] at f; cases f⟩, Reps.lock n ds vs r⟩
  | .cst ds, v, h => by
    unfold Rep at h ⊢
    obtain ⟨p, vs, ev, f, r⟩ := h
    exact ⟨p, vs, ev, f.lock n, Reps.lock n ds vs r⟩
  | .ins C ds, v, h => by
    unfold Rep at h ⊢
    obtain ⟨p, dx, vs, ev, f, ⟨s, l⟩, r⟩ := h
    exact ⟨p, dx, vs, ev, f, ⟨s, fun z => (n p z).elim l fun e => by rw [e] at f; cases f⟩, Reps.lock n ds vs r⟩
theorem Reps.lock {L' : Lk} (n : ∀ p, L' p → L p ∨ H p = none) : ∀ (ds : List D) (vs : List V), Reps c L H S ds vs → Reps c L' H S ds vs
  | [], vs, h => by unfold Reps at h ⊢; exact h
  | d :: ds, vs, h => by
    unfold Reps at h ⊢
    obtain ⟨v, ws, ev, r, rs⟩ := h
    exact ⟨v, ws, ev, Rep.lock n d v r, Reps.lock n ds ws rs⟩
end
/-- what is locked may change: heap and store differ at q alone -/
theorem FT.aside {L' : Lk} {q : Addr} (l : L q) (l' : ∀ p, L' p → L p) (hk : ∀ p, p ≠ q → H1 p = H p) (sk : ∀ p, p ≠ q → S1 p = S p) {p : Addr} {vs : List V} : FT c L H S p vs → FT c L' H1 S1 p vs
  | .inr h => .inr h
  | .inl ⟨h, s, n⟩ => by
    have ne : p ≠ q := fun e => n (e ▸ l)
    exact .inl ⟨by unfold Rd at h ⊢; rw [hk p ne]; exact h, by rw [sk p ne]; exact s, fun z => n (l' _ z)⟩
theorem FL.aside {L' : Lk} {q : Addr} (l : L q) (l' : ∀ p, L' p → L p) (hk : ∀ p, p ≠ q → H1 p = H p) (sk : ∀ p, p ≠ q → S1 p = S p) {p : Addr} {vs : List V} : FL c L H S p vs → FL c L' H1 S1 p vs
  | .inr h => .inr h
  | .inl ⟨h, s, n⟩ => by
    have ne : p ≠ q := fun e => n (e ▸ l)
    exact .inl ⟨by unfold Rd at h ⊢; rw [hk p ne]; exact h, by rw [sk p ne]; exact s, fun z => n (l' _ z)⟩
mutual
theorem Rep.aside {L' : Lk} {q : Addr} (l : L q) (l' : ∀ p, L' p → L p) (hk : ∀ p, p ≠ q → H1 p = H p) (sk : ∀ p, p ≠ q → S1 p = S p) : ∀ (d : D) (v : V), Rep c L H S d v → Rep c L' H1 S1 d v
  | .non, v, h => by unfold Rep at h ⊢; exact h
  | .bl b, v, h => by unfold Rep at h ⊢; exact h
  | .int i, v, h => by unfold Rep at h ⊢; exact h
  | .str x, v, h => by unfold Rep at h ⊢; exact h
  | .ref a, v, h => by unfold Rep at h ⊢; exact h
  | .rp p, v, h => by unfold Rep at h ⊢; exact h
  | .ty m, v, h => by unfold Rep at h ⊢; exact h
  | .tup ds, v, h => by
    unfold Rep at h ⊢
    obtain ⟨p, vs, ev, f, r⟩ := h
    exact ⟨p, vs, ev, f.aside l l' hk sk, Reps.aside l l' hk sk ds vs r⟩
  | .lst ds, v, h => by
    unfold Rep at h ⊢
    obtain ⟨p, vs, ev, f, ⟨s, n⟩, r⟩ := h
    have ne : p ≠ q := fun e => n (e ▸ l)
    exact ⟨p, vs, ev, by rw [hk p ne]; exact f, ⟨by rw [sk p ne]; exact s, fun z => n (l' _ z)⟩, Reps.aside l l' hk sk ds vs r⟩
  | .cst ds, v, h => by
    unfold Rep at h ⊢
    obtain ⟨p, vs, ev, f, r⟩ := h
    exact ⟨p, vs, ev, f.aside l l' hk sk, Reps.aside l l' hk sk ds vs r⟩
  | .ins C ds, v, h => by
    unfold Rep at h ⊢
    obtain ⟨p, dx, vs, ev, f, ⟨s, n⟩, r⟩ := h
    have ne : p ≠ q := fun e => n (e ▸ l)
    exact ⟨p, dx, vs, ev, by rw [hk p ne]; exact f, ⟨by rw [sk p ne]; exact s, fun z => n (l' _ z)⟩, Reps.aside l l' hk sk ds vs r⟩
theorem Reps.aside {L' : Lk} {q : Addr} (l : L q) (l' : ∀ p, L' p → L p) (hk : ∀ p, p ≠ q → H1 p = H p) (sk : ∀ p, p ≠ q → S1 p = S p) : ∀ (ds : List D) (vs : List V), Reps c L H S ds vs → Reps c L' H1 S1 ds vs
  | [], vs, h => by unfold Reps at h ⊢; exact h
  | d :: ds, vs, h => by
    unfold Reps at h ⊢
    obtain ⟨v, ws, ev, r, rs⟩ := h
    exact ⟨v, ws, ev, Rep.aside l l' hk sk d v r, Reps.aside l l' hk sk ds ws rs⟩
end
theorem Reps.length : ∀ {ds : List D} {vs : List V}, Reps c L H S ds vs → vs.length = ds.length
  | [], vs, h => by unfold Reps at h; subst h; rfl
  | d :: ds, vs, h => by
    unfold Reps at h
    obtain ⟨v, ws, ev, r, rs⟩ := h
    subst ev
    simp [Reps.length rs]
theorem Reps.nil : Reps c L H S [] [] := by unfold Reps; rfl
theorem Reps.cons {d : D} {v : V} {ds : List D} {vs : List V} (r : Rep c L H S d v) (rs : Reps c L H S ds vs) : Reps c L H S (d :: ds) (v :: vs) := by unfold Reps; exact ⟨v, vs, rfl, r, rs⟩
theorem Reps.of_cons {d : D} {ds : List D} {vs : List V} (h : Reps c L H S (d :: ds) vs) : ∃ v ws, vs = v :: ws ∧ Rep c L H S d v ∧ Reps c L H S ds ws := by unfold Reps at h; exact h
theorem Reps.of_nil {vs : List V} (h : Reps c L H S [] vs) : vs = [] := by unfold Reps at h; exact h
theorem Reps.append : ∀ {ds es : List D} {vs ws : List V}, Reps c L H S ds vs → Reps c L H S es ws → Reps c L H S (ds ++ es) (vs ++ ws)
  | [], es, vs, ws, h, k => by rw [h.of_nil]; exact k
  | d :: ds, es, vs, ws, h, k => by
    obtain ⟨v, us, ev, r, rs⟩ := h.of_cons
    subst ev
    exact Reps.cons r (Reps.append rs k)
theorem Reps.get : ∀ {ds : List D} {vs : List V} {i : Nat} {d : D}, Reps c L H S ds vs → ds[i]? = some d → ∃ v, vs[i]? = some v ∧ Rep c L H S d v
  | [], _, _, _, h, e => by simp at e
  | d :: ds, vs, 0, x, h, e => by
    obtain ⟨v, ws, ev, r, rs⟩ := h.of_cons
    simp at e
    subst ev e
    exact ⟨v, rfl, r⟩
  | d :: ds, vs, i + 1, x, h, e => by
    obtain ⟨v, ws, ev, r, rs⟩ := h.of_cons
    subst ev
    obtain ⟨u, h1, h2⟩ := Reps.get (i := i) (d := x) rs (by simpa using e)
    exact ⟨u, by simpa using h1, h2⟩
theorem Reps.getV : ∀ {ds : List D} {vs : List V} {i : Nat} {v : V}, Reps c L H S ds vs → vs[i]? = some v → ∃ d, ds[i]? = some d ∧ Rep c L H S d v
  | [], _, _, _, h, e => by rw [h.of_nil] at e; simp at e
  | d :: ds, vs, 0, x, h, e => by
    obtain ⟨v, ws, ev, r, rs⟩ := h.of_cons
    subst ev
    simp at e
    subst e
    exact ⟨d, rfl, r⟩
  | d :: ds, vs, i + 1, x, h, e => by
    obtain ⟨v, ws, ev, r, rs⟩ := h.of_cons
    subst ev
    obtain ⟨u, h1, h2⟩ := Reps.getV (i := i) (v := x) rs (by simpa using e)
    exact ⟨u, by simpa using h1, h2⟩
theorem Reps.set {d : D} {v : V} (r : Rep c L H S d v) : ∀ {ds : List D} {vs : List V} (i : Nat), Reps c L H S ds vs → Reps c L H S (ds.set i d) (vs.set i v)
  | [], vs, i, h => by rw [h.of_nil]; exact .nil
  | e :: ds, vs, 0, h => by
    obtain ⟨u, ws, ev, q, rs⟩ := h.of_cons
    subst ev
    exact .cons r rs
  | e :: ds, vs, i + 1, h => by
    obtain ⟨u, ws, ev, q, rs⟩ := h.of_cons
    subst ev
    exact .cons q (Reps.set r i rs)
theorem Reps.take : ∀ {ds : List D} {vs : List V} (n : Nat), Reps c L H S ds vs → Reps c L H S (ds.take n) (vs.take n)
  | ds, vs, 0, h => by simp; exact .nil
  | [], vs, n + 1, h => by rw [h.of_nil]; exact .nil
  | d :: ds, vs, n + 1, h => by
    obtain ⟨v, ws, ev, r, rs⟩ := h.of_cons
    subst ev
    exact .cons r (Reps.take n rs)
theorem Reps.drop : ∀ {ds : List D} {vs : List V} (n : Nat), Reps c L H S ds vs → Reps c L H S (ds.drop n) (vs.drop n)
  | ds, vs, 0, h => by simpa using h
  | [], vs, n + 1, h => by rw [h.of_nil]; simp; exact .nil
  | d :: ds, vs, n + 1, h => by
    obtain ⟨v, ws, ev, r, rs⟩ := h.of_cons
    subst ev
    simpa using Reps.drop n rs
theorem Reps.int : ∀ (ns : List Int), Reps c L H S (ns.map D.int) (ns.map V.int)
  | [] => .nil
  | n :: ns => .cons (by unfold Rep; rfl) (Reps.int ns)

/-- the store under growth -/
theorem StoR.keep (R : StoR c L H S) (e : Ext H S H1 S) (k : ∀ p o, S p = some o → H1 p = H p) : StoR c L H1 S where
  at_ := fun p o h => by
    obtain ⟨m, l⟩ := R.at_ p o h
    refine ⟨?_, l⟩
    cases o with
    | lst ds =>
      obtain ⟨vs, hp, r⟩ := m
      exact ⟨vs, (k p _ h).trans hp, r.ext e⟩
    | ins C ds =>
      obtain ⟨dx, vs, hp, r⟩ := m
      exact ⟨dx, vs, (k p _ h).trans hp, r.ext e⟩
  lk := fun p l => by
    have n := R.lk p l
    cases q : H p with
    | none => exact absurd q n
    | some o =>
      cases s : S p with
      | none => rw [(e p o q s).1]; simp
      | some u => rw [k p u s, q]; simp
theorem StoR.free (R : StoR c L H S) {p : Addr} (n : H p = none) : S p = none ∧ ¬ L p := by
  refine ⟨?_, fun l => R.lk p l n⟩
  cases s : S p with
  | none => rfl
  | some o =>
    obtain ⟨m, _⟩ := R.at_ p o s
    cases o with
    | lst ds => obtain ⟨vs, hp, _⟩ := m; rw [n] at hp; cases hp
    | ins C ds => obtain ⟨dx, vs, hp, _⟩ := m; rw [n] at hp; cases hp
theorem Ext.upd {p : Addr} {o : HO} (n : H p = none) : Ext H S (upd H p o) S := fun q u h s => ⟨by rw [upd_ne (ne_of_none h n)]; exact h, s⟩
/-- a new frozen object -/
theorem StoR.upd {p : Addr} {o : HO} (R : StoR c L H S) (n : H p = none) : StoR c L (L2.upd H p o) S :=
  R.keep (Ext.upd n) fun q u s => upd_ne fun e => by subst e; rw [(R.free n).1] at s; cases s
/-- a new object that may change -/
theorem StoR.new {p : Addr} {o : HO} {m : MO} (R : StoR c L H S) (n : H p = none) (h : MR c L (L2.upd H p o) (S.set p m) p m) : StoR c L (L2.upd H p o) (S.set p m) where
  at_ := fun q u s => by
    by_cases e : q = p
    · subst e
      rw [Sto.set_same] at s
      cases s
      exact ⟨h, (R.free n).2⟩
    · rw [Sto.set_ne e] at s
      obtain ⟨m1, l⟩ := R.at_ q u s
      refine ⟨?_, l⟩
      have x : Ext H S (L2.upd H p o) (S.set p m) := fun b w hb sb => by
        have nb : b ≠ p := ne_of_none hb n
        exact ⟨by rw [upd_ne nb]; exact hb, by rw [Sto.set_ne nb]; exact sb⟩
      cases u with
      | lst ds =>
        obtain ⟨vs, hp, r⟩ := m1
        exact ⟨vs, by rw [upd_ne e]; exact hp, r.ext x⟩
      | ins C ds =>
        obtain ⟨dx, vs, hp, r⟩ := m1
        exact ⟨dx, vs, by rw [upd_ne e]; exact hp, r.ext x⟩
  lk := fun q l => by
    by_cases e : q = p
    · subst e; rw [upd_same]; simp
    · rw [upd_ne e]; exact R.lk q l
theorem Ext.new {p : Addr} {o : HO} {m : MO} (n : H p = none) : Ext H S (L2.upd H p o) (S.set p m) := fun b w hb sb => by
  have nb : b ≠ p := ne_of_none hb n
  exact ⟨by rw [upd_ne nb]; exact hb, by rw [Sto.set_ne nb]; exact sb⟩
theorem Ext.write {p : Addr} {o : HO} {m m' : MO} (s : S p = some m') : Ext H S (L2.upd H p o) (S.set p m) := fun b w hb sb => by
  have nb : b ≠ p := fun e => by subst e; rw [s] at sb; cases sb
  exact ⟨by rw [upd_ne nb]; exact hb, by rw [Sto.set_ne nb]; exact sb⟩
/-- a change in place -/
theorem StoR.write {p : Addr} {o : HO} {m m' : MO} (R : StoR c L H S) (s : S p = some m') (h : MR c L (L2.upd H p o) (S.set p m) p m) : StoR c L (L2.upd H p o) (S.set p m) where
  at_ := fun q u t => by
    by_cases e : q = p
    · subst e
      rw [Sto.set_same] at t
      cases t
      exact ⟨h, (R.at_ _ _ s).2⟩
    · rw [Sto.set_ne e] at t
      obtain ⟨m1, l⟩ := R.at_ q u t
      refine ⟨?_, l⟩
      have x : Ext H S (L2.upd H p o) (S.set p m) := Ext.write s
      cases u with
      | lst ds =>
        obtain ⟨vs, hp, r⟩ := m1
        exact ⟨vs, by rw [upd_ne e]; exact hp, r.ext x⟩
      | ins C ds =>
        obtain ⟨dx, vs, hp, r⟩ := m1
        exact ⟨dx, vs, by rw [upd_ne e]; exact hp, r.ext x⟩
  lk := fun q l => by
    by_cases e : q = p
    · subst e; rw [upd_same]; simp
    · rw [upd_ne e]; exact R.lk q l
/-- the locked set: smaller; what is not tracked is added -/
theorem StoR.unlock {L' : Lk} (l : ∀ p, L' p → L p) (R : StoR c L H S) : StoR c L' H S where
  at_ := fun p o h => by
    obtain ⟨m, n⟩ := R.at_ p o h
    refine ⟨?_, fun z => n (l _ z)⟩
    cases o with
    | lst ds =>
      obtain ⟨vs, hp, r⟩ := m
      exact ⟨vs, hp, r.unlock l⟩
    | ins C ds =>
      obtain ⟨dx, vs, hp, r⟩ := m
      exact ⟨dx, vs, hp, r.unlock l⟩
  lk := fun p z => R.lk p (l _ z)
/-- a new object, locked -/
theorem StoR.lockNew {q : Addr} {o : HO} (n : H q = none) (R : StoR c L H S) : StoR c (L.add q) (L2.upd H q o) S where
  at_ := fun p m h => by
    obtain ⟨mr, nl⟩ := R.at_ p m h
    have ne : p ≠ q := fun e => by subst e; rw [(R.free n).1] at h; cases h
    have hl : ∀ p, (L.add q) p → L p ∨ H p = none := fun p z => z.elim .inl fun e => .inr (by rw [e]; exact n)
    have x : Ext H S (L2.upd H q o) S := Ext.upd n
    refine ⟨?_, fun z => z.elim nl ne⟩
    cases m with
    | lst ds =>
      obtain ⟨vs, hp, r⟩ := mr
      exact ⟨vs, by rw [upd_ne ne]; exact hp, (r.lock hl).ext x⟩
    | ins C ds =>
      obtain ⟨dx, vs, hp, r⟩ := mr
      exact ⟨dx, vs, by rw [upd_ne ne]; exact hp, (r.lock hl).ext x⟩
  lk := fun p z => by
    by_cases e : p = q
    · subst e; rw [upd_same]; simp
    · rw [upd_ne e]; exact R.lk p (z.resolve_right e)
/-- the locked object is written -/
theorem StoR.lockWrite {q : Addr} {o : HO} (l : L q) (R : StoR c L H S) : StoR c L (L2.upd H q o) S where
  at_ := fun p m h => by
    obtain ⟨mr, nl⟩ := R.at_ p m h
    have ne : p ≠ q := fun e => nl (e ▸ l)
    refine ⟨?_, nl⟩
    cases m with
    | lst ds =>
      obtain ⟨vs, hp, r⟩ := mr
      exact ⟨vs, by rw [upd_ne ne]; exact hp, r.aside l (fun _ z => z) (fun p e => upd_ne e) fun _ _ => rfl⟩
    | ins C ds =>
      obtain ⟨dx, vs, hp, r⟩ := mr
      exact ⟨dx, vs, by rw [upd_ne ne]; exact hp, r.aside l (fun _ z => z) (fun p e => upd_ne e) fun _ _ => rfl⟩
  lk := fun p z => by
    by_cases e : p = q
    · subst e; rw [upd_same]; simp
    · rw [upd_ne e]; exact R.lk p z
/-- the locked object is let go, as one that may change -/
theorem StoR.lockThaw {q : Addr} {m : MO} (nl : ¬ L q) (R : StoR c (L.add q) H S) (h : MR c L H (S.set q m) q m) : StoR c L H (S.set q m) where
  at_ := fun p o t => by
    by_cases e : p = q
    · subst e
      rw [Sto.set_same] at t
      cases t
      exact ⟨h, nl⟩
    · rw [Sto.set_ne e] at t
      obtain ⟨mr, n⟩ := R.at_ p o t
      refine ⟨?_, fun z => n (.inl z)⟩
      cases o with
      | lst ds =>
        obtain ⟨vs, hp, r⟩ := mr
        exact ⟨vs, hp, r.aside (q := q) (.inr rfl) (fun _ z => .inl z) (fun _ _ => rfl) fun p e => Sto.set_ne e⟩
      | ins C ds =>
        obtain ⟨dx, vs, hp, r⟩ := mr
        exact ⟨dx, vs, hp, r.aside (q := q) (.inr rfl) (fun _ z => .inl z) (fun _ _ => rfl) fun p e => Sto.set_ne e⟩
  lk := fun p z => R.lk p (.inl z)
end
end DL

namespace DL
open PySem PySem.Spec PyProof.Rows L2

abbrev DSt := List (Option D)
abbrev DQ := D → Sto → Prop
/-- an exception: its class, its fields -/
abbrev DX := Nat → List D → Sto → Prop
abbrev DT := DSt → Sto → DQ → DX → Prop
abbrev DTA := DSt → Sto → (List D → Sto → Prop) → DX → Prop
abbrev DTT := DSt → Sto → (Bool → Sto → Prop) → DX → Prop
abbrev DR1 := D → Sto → DQ → DX → Prop
abbrev DR2 := D → D → Sto → DQ → DX → Prop
abbrev DRA := List D → Sto → DQ → DX → Prop
abbrev DX0 : DX := fun _ _ _ => False

section
variable (c : Cfg) (L : Lk) (H : Hp) (S : Sto)
structure EnvR (ρ : DSt) (σ : L2.St) : Prop where
  len : ρ.length = σ.length
  at_ : ∀ (i : Nat) (d : D), ρ[i]? = some (some d) → ∃ v, σ[i]? = some (some v) ∧ Rep c L H S d v
def XRep (n : Nat) (a : Option Addr) (ds : List D) : Prop := (a = none ∧ ds = []) ∨ ∃ p vs, a = some p ∧ H p = some (.xd ((c.fl n).zip vs)) ∧ Fz L S p ∧ Reps c L H S ds vs
/-- what is wanted of a value, of a list of values, of a truth, of an exception -/
def KQ (Q : VK) (Qd : DQ) : Prop := ∀ v H' d S', Ext H S H' S' → StoR c L H' S' → Rep c L H' S' d v → Qd d S' → Q v H'
def KA (Q : List V → Hp → Prop) (Qd : List D → Sto → Prop) : Prop := ∀ vs H' ds S', Ext H S H' S' → StoR c L H' S' → Reps c L H' S' ds vs → Qd ds S' → Q vs H'
def KT (Q : Bool → Hp → Prop) (Qd : Bool → Sto → Prop) : Prop := ∀ b H' S', Ext H S H' S' → StoR c L H' S' → Qd b S' → Q b H'
def KX (E : XK) (Ed : DX) : Prop := ∀ n a H' ds S', Ext H S H' S' → StoR c L H' S' → XRep c L H' S' n a ds → Ed n ds S' → E (c.cv n) a H'
end
section
variable {c : Cfg} {L : Lk} {H H1 H2 : Hp} {S S1 S2 : Sto} {ρ : DSt} {σ : L2.St}
theorem EnvR.ext (e : Ext H S H1 S1) (s : EnvR c L H S ρ σ) : EnvR c L H1 S1 ρ σ := ⟨s.len, fun i d h => by
  obtain ⟨v, a, r⟩ := s.at_ i d h
  exact ⟨v, a, r.ext e⟩⟩
theorem EnvR.set {i : Nat} {d : D} {v : V} (s : EnvR c L H S ρ σ) (r : Rep c L H S d v) : EnvR c L H S (ρ.set i (some d)) (σ.set i (some v)) := ⟨by simp [s.len], fun j x h => by
  by_cases e : i = j
  · subst e
    have hl : i < ρ.length := by
      have := (List.getElem?_eq_some_iff.mp h).1
      simpa using this
    rw [List.getElem?_set_self hl] at h
    cases h
    exact ⟨v, List.getElem?_set_self (by rw [← s.len]; exact hl), r⟩
  · rw [List.getElem?_set_ne e] at h ⊢
    exact s.at_ j x h⟩
theorem EnvR.lock {L' : Lk} (n : ∀ p, L' p → L p ∨ H p = none) (s : EnvR c L H S ρ σ) : EnvR c L' H S ρ σ := ⟨s.len, fun i d h => by
  obtain ⟨v, a, r⟩ := s.at_ i d h
  exact ⟨v, a, r.lock n⟩⟩
theorem KQ.ext {Q : VK} {Qd : DQ} (e : Ext H S H1 S1) (k : KQ c L H S Q Qd) : KQ c L H1 S1 Q Qd := fun v H' d S' x => k v H' d S' (e.trans x)
theorem KA.ext {Q : List V → Hp → Prop} {Qd : List D → Sto → Prop} (e : Ext H S H1 S1) (k : KA c L H S Q Qd) : KA c L H1 S1 Q Qd := fun v H' d S' x => k v H' d S' (e.trans x)
theorem KT.ext {Q : Bool → Hp → Prop} {Qd : Bool → Sto → Prop} (e : Ext H S H1 S1) (k : KT c L H S Q Qd) : KT c L H1 S1 Q Qd := fun v H' S' x => k v H' S' (e.trans x)
theorem KX.ext {E : XK} {Ed : DX} (e : Ext H S H1 S1) (k : KX c L H S E Ed) : KX c L H1 S1 E Ed := fun n a H' ds S' x => k n a H' ds S' (e.trans x)
theorem KX.none : KX c L H S E0 DX0 := fun _ _ _ _ _ _ _ _ h => h
theorem KX.zero {E : XK} : KX c L H S E DX0 := fun _ _ _ _ _ _ _ _ h => h.elim
end

/-- the classes' places; the errors' classes -/
structure Cla where
  cA : Nat → Addr
  cv : Nat → Value
  fl : Nat → List Str
abbrev cX (X : Cx) (A : Cla) : Cfg := ⟨X.K, A.cA, A.cv, A.fl⟩
/-- the readings over data -/
def liftE (c : Cfg) (W : WX) (t : DT) : TE := fun σ H Q => ∃ ρ S L Qd Ed, EnvR c L H S ρ σ ∧ StoR c L H S ∧ t ρ S Qd Ed ∧ KQ c L H S Q Qd ∧ KX c L H S (fun k a H' => W k a σ H') Ed
def liftA (c : Cfg) (W : WX) (t : DTA) : TA := fun σ H Q => ∃ ρ S L Qd Ed, EnvR c L H S ρ σ ∧ StoR c L H S ∧ t ρ S Qd Ed ∧ KA c L H S Q Qd ∧ KX c L H S (fun k a H' => W k a σ H') Ed
def liftT (c : Cfg) (W : WX) (t : DTT) : TT := fun σ H Q => ∃ ρ S L Qd Ed, EnvR c L H S ρ σ ∧ StoR c L H S ∧ t ρ S Qd Ed ∧ KT c L H S Q Qd ∧ KX c L H S (fun k a H' => W k a σ H') Ed
/-- operators, calls, by values -/
def liftR1 (c : Cfg) (R : DR1) : V → Hp → VK → Prop := fun x H Q => ∃ S L dx Qd, StoR c L H S ∧ Rep c L H S dx x ∧ R dx S Qd DX0 ∧ KQ c L H S Q Qd
def liftR2 (c : Cfg) (R : DR2) : R2 := fun x y H Q => ∃ S L dx dy Qd, StoR c L H S ∧ Rep c L H S dx x ∧ Rep c L H S dy y ∧ R dx dy S Qd DX0 ∧ KQ c L H S Q Qd
def liftRA (c : Cfg) (R : DRA) : List V → Hp → VK → Prop := fun xs H Q => ∃ S L ds Qd, StoR c L H S ∧ Reps c L H S ds xs ∧ R ds S Qd DX0 ∧ KQ c L H S Q Qd

section
variable {X : Cx} {A : Cla} {W : WX} {e a b e3 : Expr} {es : List Expr} {pos : Pos}
theorem PE.mono {t t' : TE} (h : PE X e t) (m : ∀ σ H Q, t' σ H Q → t σ H Q) : PE X e t' := ⟨fun pins s σ H Q I q => h.run pins s σ H Q I (m σ H Q q)⟩
theorem PT.mono {t t' : TT} (h : PT X e t) (m : ∀ σ H Q, t' σ H Q → t σ H Q) : PT X e t' := ⟨fun pins s σ H Q I q => h.run pins s σ H Q I (m σ H Q q)⟩
theorem PW.mono {t t' : TT} (h : PW X e t) (m : ∀ σ H Q, t' σ H Q → t σ H Q) : PW X e t' := ⟨fun wh pins s σ H Q I q => h.run wh pins s σ H Q I (m σ H Q q)⟩
theorem PA.mono {t t' : TA} (h : PA X es t) (m : ∀ σ H Q, t' σ H Q → t σ H Q) : PA X es t' := ⟨fun p pins s σ H Q I q => h.run p pins s σ H Q I (m σ H Q q)⟩
theorem PS.mono {st : Stmt} {t t' : TS} (h : PS X st t) (m : ∀ D σ H, t' D σ H → t D σ H) : PS X st t' := ⟨fun pins s σ H D I q => h.run pins s σ H D I (m D σ H q)⟩
theorem PSs.mono {st : List Stmt} {t t' : TS} (h : PSs X st t) (m : ∀ D σ H, t' D σ H → t D σ H) : PSs X st t' := ⟨fun pins s σ H D I q => h.run pins s σ H D I (m D σ H q)⟩

/-- an expression has the reading t over data, whatever is wished of exceptions -/
abbrev DE (X : Cx) (A : Cla) (W : WX) (e : Expr) (t : DT) : Prop := PE X e (liftE (cX X A) W t)
abbrev DA (X : Cx) (A : Cla) (W : WX) (es : List Expr) (t : DTA) : Prop := PA X es (liftA (cX X A) W t)
abbrev DTst (X : Cx) (A : Cla) (W : WX) (e : Expr) (t : DTT) : Prop := PT X e (liftT (cX X A) W t)
abbrev DWst (X : Cx) (A : Cla) (W : WX) (e : Expr) (t : DTT) : Prop := PW X e (liftT (cX X A) W t)
abbrev OpD (X : Cx) (A : Cla) (f : Value → Value → Sem Value) (R : DR2) : Prop := OpR X f (liftR2 (cX X A) R)
abbrev CallD (X : Cx) (A : Cla) (f : Value) (R : DRA) : Prop := CallR X f (liftRA (cX X A) R)

/-! ### names, constants -/
def dVar (i : Nat) : DT := fun ρ S Q _ => ∃ d, ρ[i]? = some (some d) ∧ Q d S
def dCst (d : D) : DT := fun _ S Q _ => Q d S
theorem de_var {i : Nat} {x : Str} (hN : X.N[i]? = some x) (hv : Vis X.env.scope x) (hd : (x == ("__debug__" : Str)) = false) (hcd : (x == ("__classdict__" : Str)) = false) : DE X A W (.Name x pos) (dVar i) :=
  PE.mono (pe_var hN hv hd hcd) fun σ H Q ⟨ρ, S, L, Qd, Ed, sl, so, ⟨d, hd, h⟩, kq, _⟩ => by
    obtain ⟨v, e, r⟩ := sl.at_ i d hd
    exact ⟨v, e, kq v H d S .refl so r h⟩
theorem de_int {i : Int} {j : Nat} : DE X A W (.Constant (.int i) j pos) (dCst (.int i)) :=
  PE.mono pe_int fun σ H Q ⟨ρ, S, L, Qd, Ed, sl, so, h, kq, _⟩ => kq _ H _ S .refl so (by unfold Rep; rfl) h
theorem de_bl {i : Bool} {j : Nat} : DE X A W (.Constant (.bool i) j pos) (dCst (.bl i)) :=
  PE.mono pe_bl fun σ H Q ⟨ρ, S, L, Qd, Ed, sl, so, h, kq, _⟩ => kq _ H _ S .refl so (by unfold Rep; rfl) h
theorem de_non {j : Nat} : DE X A W (.Constant .none j pos) (dCst .non) :=
  PE.mono pe_non fun σ H Q ⟨ρ, S, L, Qd, Ed, sl, so, h, kq, _⟩ => kq _ H _ S .refl so (by unfold Rep; rfl) h
theorem de_str {x : Str} {j : Nat} (hx : SOk x) : DE X A W (.Constant (.str x) j pos) (dCst (.str x)) :=
  PE.mono pe_str fun σ H Q ⟨ρ, S, L, Qd, Ed, sl, so, h, kq, _⟩ => kq _ H _ S .refl so (by unfold Rep; exact ⟨rfl, hx⟩) h
/-- a constant of the module or a builtin's own name: a value that says nothing of the heap -/
def Still (d : D) (v : V) : Prop := ∀ c L H S, Rep c L H S d v
theorem de_tC {v : V} {d : D} (h : PE X e (tC v)) (st : Still d v) : DE X A W e (dCst d) :=
  PE.mono h fun σ H Q ⟨ρ, S, L, Qd, Ed, sl, so, h, kq, _⟩ => kq _ H _ S .refl so (st _ _ _ _) h

/-! ### argument lists, displays -/
def dNil : DTA := fun _ S Q _ => Q [] S
def dCons (t : DT) (u : DTA) : DTA := fun ρ S Q E => t ρ S (fun x S1 => u ρ S1 (fun xs S2 => Q (x :: xs) S2) E) E
theorem da_nil : DA X A W [] dNil := PA.mono pa_nil fun σ H Q ⟨ρ, S, L, Qd, Ed, sl, so, h, ka, _⟩ => ka [] H [] S .refl so .nil h
theorem da_cons {t : DT} {u : DTA} (h1 : DE X A W e t) (h2 : DA X A W es u) (hs : starEach (e :: es) X.env = (false, eval e X.env) :: starEach es X.env) : DA X A W (e :: es) (dCons t u) :=
  PA.mono (pa_cons h1 h2 hs) fun σ H Q ⟨ρ, S, L, Qd, Ed, sl, so, h, ka, kx⟩ =>
    ⟨ρ, S, L, _, Ed, sl, so, h, fun v H1 d S1 e1 so1 r1 q1 =>
      ⟨ρ, S1, L, _, Ed, sl.ext e1, so1, q1, fun vs H2 ds S2 e2 so2 r2 q2 => ka (v :: vs) H2 (d :: ds) S2 (e1.trans e2) so2 (.cons (r1.ext e2) r2) q2, kx.ext e1⟩, kx⟩
/-- a new list: frozen, or one that may change -/
def mkL (m : Bool) (ds : List D) (S : Sto) (Q : DQ) : Prop := if m = true then ∀ p, S p = none → Q (.ref p) (S.set p (.lst ds)) else Q (.lst ds) S
theorem mkL_ok {c : Cfg} {L : Lk} {H : Hp} {S : Sto} {m : Bool} {ds : List D} {vs : List V} {Q : VK} {Qd : DQ} (h : mkL m ds S Qd) (kq : KQ c L H S Q Qd) (so : StoR c L H S) (r : Reps c L H S ds vs) :
    ∀ p, H p = none → Q (.ref p) (upd H p (.lst vs)) := fun p hp => by
  have fr := so.free hp
  cases m with
  | true =>
    have h' := h
    unfold mkL at h'
    rw [if_pos rfl] at h'
    have x : Ext H S (upd H p (.lst vs)) (S.set p (.lst ds)) := Ext.new hp
    exact kq _ _ _ _ x (so.new hp ⟨vs, upd_same, r.ext x⟩) (by unfold Rep; rfl) (h' p fr.1)
  | false =>
    have h' : Qd (.lst ds) S := h
    have x : Ext H S (upd H p (.lst vs)) S := Ext.upd hp
    exact kq _ _ _ _ x (so.upd hp) (by unfold Rep; exact ⟨p, vs, rfl, upd_same, ⟨fr.1, fr.2⟩, r.ext x⟩) h'
theorem mkT_ok {c : Cfg} {L : Lk} {H : Hp} {S : Sto} {ds : List D} {vs : List V} {Q : VK} {Qd : DQ} (h : Qd (.tup ds) S) (kq : KQ c L H S Q Qd) (so : StoR c L H S) (r : Reps c L H S ds vs) :
    ∀ p, H p = none → Q (.ref p) (upd H p (.tup vs)) := fun p hp => by
  have fr := so.free hp
  have x : Ext H S (upd H p (.tup vs)) S := Ext.upd hp
  exact kq _ _ _ _ x (so.upd hp) (by unfold Rep; exact ⟨p, vs, rfl, .inl ⟨.inl upd_same, fr.1, fr.2⟩, r.ext x⟩) h
def dLst (m : Bool) (t : DTA) : DT := fun ρ S Q E => t ρ S (fun ds S1 => ds.length ≤ sizeLine ∧ mkL m ds S1 Q) E
def dTup (t : DTA) : DT := fun ρ S Q E => t ρ S (fun ds S1 => ds.length ≤ sizeLine ∧ Q (.tup ds) S1) E
theorem de_lst {m : Bool} {t : DTA} (h : DA X A W es t) : DE X A W (.List es pos) (dLst m t) :=
  PE.mono (pe_lst h) fun σ H Q ⟨ρ, S, L, Qd, Ed, sl, so, h, kq, kx⟩ =>
    ⟨ρ, S, L, _, Ed, sl, so, h, fun vs H1 ds S1 e1 so1 r1 ⟨z, q1⟩ => ⟨by rw [r1.length]; exact z, mkL_ok q1 (kq.ext e1) so1 r1⟩, kx⟩
theorem de_tup {k : Nat} {t : DTA} (h : DA X A W es t) : DE X A W (.Tuple es k pos) (dTup t) :=
  PE.mono (pe_tup h) fun σ H Q ⟨ρ, S, L, Qd, Ed, sl, so, h, kq, kx⟩ =>
    ⟨ρ, S, L, _, Ed, sl, so, h, fun vs H1 ds S1 e1 so1 r1 ⟨z, q1⟩ => ⟨by rw [r1.length]; exact z, mkT_ok q1 (kq.ext e1) so1 r1⟩, kx⟩

/-! ### operators -/
def dOp (R : DR2) (t u : DT) : DT := fun ρ S Q E => t ρ S (fun x S1 => u ρ S1 (fun y S2 => R x y S2 Q DX0) E) E
theorem tOp_lift {t u : DT} {R : DR2} {σ : L2.St} {H : Hp} {Q : VK} (h : liftE (cX X A) W (dOp R t u) σ H Q) : tOp (liftR2 (cX X A) R) (liftE (cX X A) W t) (liftE (cX X A) W u) σ H Q := by
  obtain ⟨ρ, S, L, Qd, Ed, sl, so, h, kq, kx⟩ := h
  exact ⟨ρ, S, L, _, Ed, sl, so, h, fun v H1 d S1 e1 so1 r1 q1 => ⟨ρ, S1, L, _, Ed, sl.ext e1, so1, q1, fun w H2 d2 S2 e2 so2 r2 q2 =>
    ⟨S2, L, d, d2, Qd, so2, r1.ext e2, r2, q2, kq.ext (e1.trans e2)⟩, kx.ext e1⟩, kx⟩
theorem de_op {op : Operator} {t u : DT} {R : DR2} (o : OpD X A (binaryOp op) R) (ha : DE X A W a t) (hb : DE X A W b u) : DE X A W (.BinOp a op b pos) (dOp R t u) := PE.mono (pe_op o ha hb) fun _ _ _ => tOp_lift
theorem de_cmp {op : CmpOp} {t u : DT} {R : DR2} (o : OpD X A (compareOp op) R) (ha : DE X A W a t) (hb : DE X A W b u) (hm : behindInMarks op b = false) : DE X A W (.Compare a [op] [b] pos) (dOp R t u) := PE.mono (pe_cmpR o ha hb hm) fun _ _ _ => tOp_lift
def dUn (R : DR1) (t : DT) : DT := fun ρ S Q E => t ρ S (fun x S1 => R x S1 Q DX0) E
theorem de_un {op : UnaryOp} {t : DT} {R : DR1} (o : UnR X (unaryOp op) (liftR1 (cX X A) R)) (ha : DE X A W a t) : DE X A W (.UnaryOp op a pos) (dUn R t) := by
  refine PE.mono (t := tUn (liftR1 (cX X A) R) (liftE (cX X A) W t)) ?_ fun σ H Q ⟨ρ, S, L, Qd, Ed, sl, so, h, kq, kx⟩ =>
    ⟨ρ, S, L, _, Ed, sl, so, h, fun v H1 d S1 e1 so1 r1 q1 => ⟨S1, L, d, Qd, so1, r1, q1, kq.ext e1⟩, kx⟩
  exact pe_un o ha
/-- a chain of two comparisons -/
def dChain (R R' : DR2) (t u w : DT) : DT := fun ρ S Q E => t ρ S (fun x S1 => u ρ S1 (fun y S2 => R x y S2 (fun z S3 => ∃ k, z = .bl k ∧ (if k = true then w ρ S3 (fun v S4 => R' y v S4 Q DX0) E else Q (.bl false) S3)) DX0) E) E
theorem tChain_lift {t u w : DT} {R R' : DR2} {σ : L2.St} {H : Hp} {Q : VK} (h : liftE (cX X A) W (dChain R R' t u w) σ H Q) : tChain (liftR2 (cX X A) R) (liftR2 (cX X A) R') (liftE (cX X A) W t) (liftE (cX X A) W u) (liftE (cX X A) W w) σ H Q := by
  obtain ⟨ρ, S, L, Qd, Ed, sl, so, h, kq, kx⟩ := h
  refine ⟨ρ, S, L, _, Ed, sl, so, h, fun v H1 d S1 e1 so1 r1 q1 => ⟨ρ, S1, L, _, Ed, sl.ext e1, so1, q1, fun v2 H2 d2 S2 e2 so2 r2 q2 =>
    ⟨S2, L, d, d2, _, so2, r1.ext e2, r2, q2, fun z H3 d3 S3 e3 so3 r3 q3 => ?_⟩, kx.ext e1⟩, kx⟩
  obtain ⟨k, ez, q3⟩ := q3
  subst ez
  have ez : z = V.bl k := by unfold Rep at r3; exact r3
  refine ⟨k, ez, ?_⟩
  cases k with
  | true =>
    rw [if_pos rfl] at q3 ⊢
    have x3 := (e1.trans e2).trans e3
    exact ⟨ρ, S3, L, _, Ed, sl.ext x3, so3, q3, fun v4 H4 d4 S4 e4 so4 r4 q4 => ⟨S4, L, d2, d4, Qd, so4, (r2.ext e3).ext e4, r4, q4, kq.ext (x3.trans e4)⟩, kx.ext x3⟩
  | false =>
    rw [if_neg Bool.false_ne_true] at q3 ⊢
    exact kq _ _ _ _ ((e1.trans e2).trans e3) so3 (by unfold Rep; rfl) q3
end
end DL

namespace DL
open PySem PySem.Spec PyProof.Rows L2

/-! ### truth -/
def truth (S : Sto) : D → Option Bool
  | .non => some false
  | .bl b => some b
  | .int i => some (i != 0)
  | .str x => some ((x.length : Int) != 0)
  | .tup xs => some (!xs.isEmpty)
  | .lst xs => some (!xs.isEmpty)
  | .cst xs => some (!xs.isEmpty)
  | .ref p => match S p with
    | some (.lst xs) => some (!xs.isEmpty)
    | _ => none
  | _ => none
section
variable {c : Cfg} {L : Lk} {H H1 H2 : Hp} {S S1 S2 : Sto}
theorem FT.sq {p : Addr} {vs : List V} : FT c L H S p vs → SqT c.K H p vs
  | .inl h => .inl h.1
  | .inr (.inl (.inl h)) => by cases h
  | .inr (.inl (.inr ⟨o, h⟩)) => by cases h
  | .inr (.inr h) => .inr h
theorem FL.sq {p : Addr} {vs : List V} : FL c L H S p vs → SqL c.K H p vs
  | .inl h => .inl h.1
  | .inr (.inl (.inl h)) => by cases h
  | .inr (.inl (.inr ⟨o, h⟩)) => by cases h
  | .inr (.inr h) => .inr h
theorem Reps.isEmpty {ds : List D} {vs : List V} (r : Reps c L H S ds vs) : vs.isEmpty = ds.isEmpty := by
  cases ds with
  | nil => rw [r.of_nil]; rfl
  | cons d ds =>
    obtain ⟨v, ws, ev, _, _⟩ := r.of_cons
    subst ev
    rfl
theorem truth_ok {d : D} {v : V} {k : Bool} (so : StoR c L H S) (r : Rep c L H S d v) (h : truth S d = some k) : TruV c.K v H k := by
  cases d with
  | non => unfold Rep at r; subst r; cases h; rfl
  | bl b => unfold Rep at r; subst r; cases h; rfl
  | int i => unfold Rep at r; subst r; cases h; rfl
  | str x => unfold Rep at r; obtain ⟨r, z⟩ := r; subst r; cases h; exact ⟨z.1, rfl⟩
  | ty n => cases h
  | rp p => cases h
  | ins C ds => cases h
  | tup ds =>
    unfold Rep at r
    obtain ⟨p, vs, ev, f, rs⟩ := r
    subst ev
    cases h
    exact .inr (.inl ⟨vs, f.sq, by rw [rs.isEmpty]⟩)
  | lst ds =>
    unfold Rep at r
    obtain ⟨p, vs, ev, f, _, rs⟩ := r
    subst ev
    cases h
    exact .inl ⟨vs, SqL.of f, by rw [rs.isEmpty]⟩
  | cst ds =>
    unfold Rep at r
    obtain ⟨p, vs, ev, f, rs⟩ := r
    subst ev
    cases h
    exact .inl ⟨vs, f.sq, by rw [rs.isEmpty]⟩
  | ref p =>
    unfold Rep at r
    subst r
    have h : (match S p with | some (.lst xs) => some (!xs.isEmpty) | _ => none) = some k := h
    cases s : S p with
    | none => rw [s] at h; cases h
    | some o =>
      rw [s] at h
      cases o with
      | ins C ds => cases h
      | lst ds =>
        cases h
        obtain ⟨⟨vs, hp, rs⟩, _⟩ := so.at_ p _ s
        exact .inl ⟨vs, SqL.of hp, by rw [rs.isEmpty]⟩
end

section
variable {X : Cx} {A : Cla} {W : WX} {e a b e3 : Expr} {es rest : List Expr} {pos : Pos} {t u w : DT}
/-- an expression as a test -/
def dTst (t : DT) : DTT := fun ρ S Q E => t ρ S (fun x S1 => ∃ k, truth S1 x = some k ∧ Q k S1) E
theorem dt_val (h : DE X A W e t) (he : ∀ whole, isTrue e X.env whole = (do let v ← whole; standAt e.pos; holding [v] (truthy v))) : DTst X A W e (dTst t) :=
  PT.mono (pt_truth h he) fun σ H Q ⟨ρ, S, L, Qd, Ed, sl, so, h, kq, kx⟩ =>
    ⟨ρ, S, L, _, Ed, sl, so, h, fun v H1 d S1 e1 so1 r1 ⟨k, tk, q1⟩ => ⟨k, truth_ok so1 r1 tk, kq k H1 S1 e1 so1 q1⟩, kx⟩
/-- a comparison as a test: whatever it gives, by its truth -/
theorem pt_cmpT {op : CmpOp} {r : R2} {ta tb : TE} (ho : OpR X (compareOp op) r) (ha : PE X a ta) (hb : PE X b tb) (hm : behindInMarks op b = false) :
    PT X (.Compare a [op] [b] pos) (fun σ H Q => tOp r ta tb σ H fun x H' => ∃ k, TruV X.K x H' k ∧ Q k H') := by
  refine ⟨fun pins s σ H Q I h => ?_⟩
  exact wpAny_isTrue_Compare1 (thn (ha.run pins s σ H _ I h) fun v s1 ⟨x, H1, I1, r1, q1⟩ => thn (hb.run pins s1 σ H1 _ I1 q1) fun u s2 ⟨y, H2, I2, r2, q2⟩ =>
    thn (ho pins s2 σ H2 x y v u _ I2 r1 r2 q2) fun c s3 ⟨z, H3, I3, r3, k, e, q3⟩ => tru_ok pins s3 σ H3 z c Q I3 r3 ⟨k, e, q3⟩) hm
theorem dt_cmp {op : CmpOp} {R : DR2} (o : OpD X A (compareOp op) R) (ha : DE X A W a t) (hb : DE X A W b u) (hm : behindInMarks op b = false) : DTst X A W (.Compare a [op] [b] pos) (dTst (dOp R t u)) :=
  PT.mono (pt_cmpT o ha hb hm) fun σ H Q ⟨ρ, S, L, Qd, Ed, sl, so, h, kq, kx⟩ =>
    tOp_lift ⟨ρ, S, L, _, Ed, sl, so, h, fun v H1 d S1 e1 so1 r1 ⟨k, tk, q1⟩ => ⟨k, truth_ok so1 r1 tk, kq k H1 S1 e1 so1 q1⟩, kx⟩
theorem de_chain {op op' : CmpOp} {R R' : DR2} (o : OpD X A (compareOp op) R) (o' : OpD X A (compareOp op') R') (ha : DE X A W a t) (hb : DE X A W b u) (hc : DE X A W e3 w) (hm : lastMarks [op, op'] [b, e3] = false) :
    DE X A W (.Compare a [op, op'] [b, e3] pos) (dChain R R' t u w) := PE.mono (pe_chain o o' ha hb hc hm) fun _ _ _ => tChain_lift
/-- a chain as a test gives a truth -/
def dBl (t : DT) : DT := fun ρ S Q E => t ρ S (fun x S1 => ∃ k, x = .bl k ∧ Q x S1) E
theorem dt_chain {op op' : CmpOp} {R R' : DR2} (o : OpD X A (compareOp op) R) (o' : OpD X A (compareOp op') R') (ha : DE X A W a t) (hb : DE X A W b u) (hc : DE X A W e3 w) (hm : lastMarks [op, op'] [b, e3] = false) :
    DTst X A W (.Compare a [op, op'] [b, e3] pos) (dTst (dBl (dChain R R' t u w))) :=
  PT.mono (pt_chain o o' ha hb hc hm) fun σ H Q ⟨ρ, S, L, Qd, Ed, sl, so, h, kq, kx⟩ =>
    tChain_lift ⟨ρ, S, L, _, Ed, sl, so, h, fun v H1 d S1 e1 so1 r1 ⟨k, ed, k', tk, q1⟩ => by
      subst ed
      cases tk
      unfold Rep at r1
      exact ⟨k, r1, kq k H1 S1 e1 so1 q1⟩, kx⟩

/-! ### and, or, not -/
def dAnd (t u : DT) : DT := fun ρ S Q E => t ρ S (fun x S1 => ∃ k, truth S1 x = some k ∧ if k = true then u ρ S1 Q E else Q x S1) E
def dOr (t u : DT) : DT := fun ρ S Q E => t ρ S (fun x S1 => ∃ k, truth S1 x = some k ∧ if k = true then Q x S1 else u ρ S1 Q E) E
def dNot (t : DT) : DT := fun ρ S Q E => t ρ S (fun x S1 => ∃ k, truth S1 x = some k ∧ Q (.bl (!k)) S1) E
def dIf (c t u : DT) : DT := fun ρ S Q E => c ρ S (fun x S1 => ∃ k, truth S1 x = some k ∧ if k = true then t ρ S1 Q E else u ρ S1 Q E) E
theorem de_and (ha : DE X A W a t) (hb : DE X A W (.BoolOp .And (b :: rest) pos) u) : DE X A W (.BoolOp .And (a :: b :: rest) pos) (dAnd t u) :=
  PE.mono (pe_andT ha hb) fun σ H Q ⟨ρ, S, L, Qd, Ed, sl, so, h, kq, kx⟩ =>
    ⟨ρ, S, L, _, Ed, sl, so, h, fun v H1 d S1 e1 so1 r1 ⟨k, tk, q1⟩ => ⟨k, truth_ok so1 r1 tk, by
      cases k with
      | true => exact ⟨ρ, S1, L, Qd, Ed, sl.ext e1, so1, q1, kq.ext e1, kx.ext e1⟩
      | false => exact kq v H1 d S1 e1 so1 r1 q1⟩, kx⟩
theorem de_or (ha : DE X A W a t) (hb : DE X A W (.BoolOp .Or (b :: rest) pos) u) : DE X A W (.BoolOp .Or (a :: b :: rest) pos) (dOr t u) :=
  PE.mono (pe_orT ha hb) fun σ H Q ⟨ρ, S, L, Qd, Ed, sl, so, h, kq, kx⟩ =>
    ⟨ρ, S, L, _, Ed, sl, so, h, fun v H1 d S1 e1 so1 r1 ⟨k, tk, q1⟩ => ⟨k, truth_ok so1 r1 tk, by
      cases k with
      | true => exact kq v H1 d S1 e1 so1 r1 q1
      | false => exact ⟨ρ, S1, L, Qd, Ed, sl.ext e1, so1, q1, kq.ext e1, kx.ext e1⟩⟩, kx⟩
theorem de_one {op : BoolOp} (h : DE X A W a t) : DE X A W (.BoolOp op [a] pos) t := pe_one h
theorem de_not (ha : DE X A W a t) : DE X A W (.UnaryOp .Not a pos) (dNot t) :=
  PE.mono (pe_notT ha) fun σ H Q ⟨ρ, S, L, Qd, Ed, sl, so, h, kq, kx⟩ =>
    ⟨ρ, S, L, _, Ed, sl, so, h, fun v H1 d S1 e1 so1 r1 ⟨k, tk, q1⟩ => ⟨k, truth_ok so1 r1 tk, kq _ H1 _ S1 e1 so1 (by unfold Rep; rfl) q1⟩, kx⟩
theorem dt_not (ha : DTst X A W a (dTst t)) : DTst X A W (.UnaryOp .Not a pos) (dTst (dNot t)) :=
  PT.mono (pt_not ha) fun σ H Q ⟨ρ, S, L, Qd, Ed, sl, so, h, kq, kx⟩ =>
    ⟨ρ, S, L, fun k S1 => Qd (!k) S1, Ed, sl, so, by
      have h : t ρ S (fun x S1 => ∃ k, truth S1 x = some k ∧ ∃ k', some (!k) = some k' ∧ Qd k' S1) Ed := h
      have e : (fun (x : D) (S1 : Sto) => ∃ k, truth S1 x = some k ∧ ∃ k', some (!k) = some k' ∧ Qd k' S1) = (fun x S1 => ∃ k, truth S1 x = some k ∧ Qd (!k) S1) := by
        funext x S1
        apply propext
        constructor
        · rintro ⟨k, h1, k', h2, h3⟩
          cases h2
          exact ⟨k, h1, h3⟩
        · rintro ⟨k, h1, h3⟩
          exact ⟨k, h1, _, rfl, h3⟩
      rw [e] at h
      exact h, fun k H1 S1 e1 so1 q1 => kq _ H1 S1 e1 so1 q1, kx⟩
/-- and, or as tests -/
theorem dTst_and : dTst (dAnd t u) = fun ρ S Q E => t ρ S (fun x S1 => ∃ k, truth S1 x = some k ∧ if k = true then dTst u ρ S1 Q E else Q false S1) E := by
  funext ρ S Q E
  show t ρ S _ E = t ρ S _ E
  congr 1
  funext x S1
  apply propext
  constructor
  · rintro ⟨k, h1, h2⟩
    refine ⟨k, h1, ?_⟩
    cases k with
    | true => exact h2
    | false =>
      obtain ⟨k', e, q⟩ := h2
      rw [h1] at e
      cases e
      exact q
  · rintro ⟨k, h1, h2⟩
    refine ⟨k, h1, ?_⟩
    cases k with
    | true => exact h2
    | false => exact ⟨false, h1, h2⟩
theorem dTst_or : dTst (dOr t u) = fun ρ S Q E => t ρ S (fun x S1 => ∃ k, truth S1 x = some k ∧ if k = true then Q true S1 else dTst u ρ S1 Q E) E := by
  funext ρ S Q E
  show t ρ S _ E = t ρ S _ E
  congr 1
  funext x S1
  apply propext
  constructor
  · rintro ⟨k, h1, h2⟩
    refine ⟨k, h1, ?_⟩
    cases k with
    | false => exact h2
    | true =>
      obtain ⟨k', e, q⟩ := h2
      rw [h1] at e
      cases e
      exact q
  · rintro ⟨k, h1, h2⟩
    refine ⟨k, h1, ?_⟩
    cases k with
    | false => exact h2
    | true => exact ⟨true, h1, h2⟩
theorem dw_and (ha : DTst X A W a (dTst t)) (hb : DWst X A W (.BoolOp .And (b :: rest) pos) (dTst u)) : DWst X A W (.BoolOp .And (a :: b :: rest) pos) (dTst (dAnd t u)) :=
  PW.mono (pw_and ha hb) fun σ H Q ⟨ρ, S, L, Qd, Ed, sl, so, h, kq, kx⟩ => by
    rw [dTst_and] at h
    refine ⟨ρ, S, L, fun k S1 => if k = true then dTst u ρ S1 Qd Ed else Qd false S1, Ed, sl, so, h, fun k H1 S1 e1 so1 q1 => ?_, kx⟩
    cases k with
    | true => exact ⟨ρ, S1, L, Qd, Ed, sl.ext e1, so1, q1, kq.ext e1, kx.ext e1⟩
    | false => exact kq false H1 S1 e1 so1 q1
theorem dw_or (ha : DTst X A W a (dTst t)) (hb : DWst X A W (.BoolOp .Or (b :: rest) pos) (dTst u)) : DWst X A W (.BoolOp .Or (a :: b :: rest) pos) (dTst (dOr t u)) :=
  PW.mono (pw_or ha hb) fun σ H Q ⟨ρ, S, L, Qd, Ed, sl, so, h, kq, kx⟩ => by
    rw [dTst_or] at h
    refine ⟨ρ, S, L, fun k S1 => if k = true then Qd true S1 else dTst u ρ S1 Qd Ed, Ed, sl, so, h, fun k H1 S1 e1 so1 q1 => ?_, kx⟩
    cases k with
    | false => exact ⟨ρ, S1, L, Qd, Ed, sl.ext e1, so1, q1, kq.ext e1, kx.ext e1⟩
    | true => exact kq true H1 S1 e1 so1 q1
theorem dw_and1 (ha : DTst X A W a (dTst t)) : DWst X A W (.BoolOp .And [a] pos) (dTst t) := pw_and1 ha
theorem dw_or1 (ha : DTst X A W a (dTst t)) : DWst X A W (.BoolOp .Or [a] pos) (dTst t) := pw_or1 ha
theorem dt_w (h : DWst X A W e (dTst t)) : DTst X A W e (dTst t) := PW.pt h
theorem de_if {b2 : Expr} {tc : DT} (hc : DTst X A W e3 (dTst tc)) (ha : DE X A W a t) (hb : DE X A W b2 u) : DE X A W (.IfExp e3 a b2 pos) (dIf tc t u) :=
  PE.mono (pe_ifExp hc ha hb) fun σ H Q ⟨ρ, S, L, Qd, Ed, sl, so, h, kq, kx⟩ =>
    ⟨ρ, S, L, fun k S1 => if k = true then t ρ S1 Qd Ed else u ρ S1 Qd Ed, Ed, sl, so, h, fun k H1 S1 e1 so1 q1 => by
      cases k with
      | true => exact ⟨ρ, S1, L, Qd, Ed, sl.ext e1, so1, q1, kq.ext e1, kx.ext e1⟩
      | false => exact ⟨ρ, S1, L, Qd, Ed, sl.ext e1, so1, q1, kq.ext e1, kx.ext e1⟩, kx⟩
end
end DL

namespace DL
open PySem PySem.Spec PyProof.Rows L2

abbrev DP := DSt → Sto → Prop
/-- what is wanted behind a statement, over data -/
structure DEnds where
  nx : DP
  rt : DQ
  bk : DP := fun _ _ => False
  ct : DP := fun _ _ => False
  xx : DSt → DX := fun _ => DX0
abbrev DTS := DEnds → DSt → Sto → Prop
abbrev DTG := D → DSt → Sto → DP → DX → Prop
abbrev DTGs := List D → DSt → Sto → DP → DX → Prop
section
variable (c : Cfg) (L : Lk) (H : Hp) (S : Sto)
def KP (Q : L2.St → Hp → Prop) (Qd : DP) : Prop := ∀ σ' H' ρ' S', Ext H S H' S' → StoR c L H' S' → EnvR c L H' S' ρ' σ' → Qd ρ' S' → Q σ' H'
def KXs (W : WX) (E : DSt → DX) : Prop := ∀ n a σ' H' ρ' ds S', Ext H S H' S' → StoR c L H' S' → EnvR c L H' S' ρ' σ' → XRep c L H' S' n a ds → E ρ' n ds S' → W (c.cv n) a σ' H'
structure KS (W : WX) (D : Ends) (DD : DEnds) : Prop where
  nx : KP c L H S D.nx DD.nx
  rt : KQ c L H S D.rt DD.rt
  bk : KP c L H S D.bk DD.bk
  ct : KP c L H S D.ct DD.ct
  xx : KXs c L H S W DD.xx
end
section
variable {c : Cfg} {L : Lk} {H H1 H2 : Hp} {S S1 S2 : Sto} {ρ : DSt} {σ : L2.St}
theorem KP.ext {Q : L2.St → Hp → Prop} {Qd : DP} (e : Ext H S H1 S1) (k : KP c L H S Q Qd) : KP c L H1 S1 Q Qd := fun v H' d S' x => k v H' d S' (e.trans x)
theorem KXs.ext {W : WX} {E : DSt → DX} (e : Ext H S H1 S1) (k : KXs c L H S W E) : KXs c L H1 S1 W E := fun n a σ' H' ρ' ds S' x => k n a σ' H' ρ' ds S' (e.trans x)
theorem KS.ext {W : WX} {D : Ends} {DD : DEnds} (e : Ext H S H1 S1) (k : KS c L H S W D DD) : KS c L H1 S1 W D DD := ⟨k.nx.ext e, k.rt.ext e, k.bk.ext e, k.ct.ext e, k.xx.ext e⟩
/-- at the slots as they stand -/
theorem KXs.at_ {W : WX} {E : DSt → DX} (k : KXs c L H S W E) (sl : EnvR c L H S ρ σ) : KX c L H S (fun n a H' => W n a σ H') (E ρ) := fun n a H' ds S' x so r e => k n a σ H' ρ ds S' x so (sl.ext x) r e
end
def liftS (c : Cfg) (W : WX) (t : DTS) : TS := fun D σ H => ∃ ρ S L DD, EnvR c L H S ρ σ ∧ StoR c L H S ∧ t DD ρ S ∧ KS c L H S W D DD
def liftG (c : Cfg) (W : WX) (g : DTG) : TG := fun v σ H Q => ∃ ρ S L d Qd Ed, EnvR c L H S ρ σ ∧ StoR c L H S ∧ Rep c L H S d v ∧ g d ρ S Qd Ed ∧ KP c L H S Q Qd ∧ KX c L H S (fun n a H' => W n a σ H') Ed
def liftGs (c : Cfg) (W : WX) (g : DTGs) : TGs := fun vs σ H Q => ∃ ρ S L ds Qd Ed, EnvR c L H S ρ σ ∧ StoR c L H S ∧ Reps c L H S ds vs ∧ g ds ρ S Qd Ed ∧ KP c L H S Q Qd ∧ KX c L H S (fun n a H' => W n a σ H') Ed

section
variable {X : Cx} {A : Cla} {W : WX} {e a b e3 : Expr} {es : List Expr} {st : Stmt} {rest sts body orelse : List Stmt} {pos : Pos} {t u w : DTS} {te : DT}
abbrev DStm (X : Cx) (A : Cla) (W : WX) (st : Stmt) (t : DTS) : Prop := PS X st (liftS (cX X A) W t)
abbrev DStms (X : Cx) (A : Cla) (W : WX) (sts : List Stmt) (t : DTS) : Prop := PSs X sts (liftS (cX X A) W t)
abbrev DTgt (X : Cx) (A : Cla) (W : WX) (e : Expr) (g : DTG) : Prop := PG X e (liftG (cX X A) W g)
abbrev DTgts (X : Cx) (A : Cla) (W : WX) (es : List Expr) (g : DTGs) : Prop := PGs X es (liftGs (cX X A) W g)
theorem PG.mono {t t' : TG} (h : PG X e t) (m : ∀ v σ H Q, t' v σ H Q → t v σ H Q) : PG X e t' := ⟨fun pins s σ H v u Q I r q => h.run pins s σ H v u Q I r (m v σ H Q q)⟩
theorem PGs.mono {t t' : TGs} (h : PGs X es t) (m : ∀ v σ H Q, t' v σ H Q → t v σ H Q) : PGs X es t' := ⟨fun pins s σ H v u Q I r q => h.run pins s σ H v u Q I r (m v σ H Q q)⟩

/-! ### blocks -/
def sNext : DTS := fun D ρ S => D.nx ρ S
def sSeq (t u : DTS) : DTS := fun D ρ S => t { D with nx := u D } ρ S
theorem ds_nil : DStms X A W [] sNext := PSs.mono pss_nil fun D σ H ⟨ρ, S, L, DD, sl, so, h, k⟩ => k.nx σ H ρ S .refl so sl h
theorem ds_cons (h1 : DStm X A W st t) (h2 : DStms X A W rest u) : DStms X A W (st :: rest) (sSeq t u) :=
  PSs.mono (pss_cons h1 h2) fun D σ H ⟨ρ, S, L, DD, sl, so, h, k⟩ =>
    ⟨ρ, S, L, { DD with nx := u DD }, sl, so, h, ⟨fun σ' H' ρ' S' x so' sl' q => ⟨ρ', S', L, DD, sl', so', q, k.ext x⟩, k.rt, k.bk, k.ct, k.xx⟩⟩
def sPass : DTS := sNext
theorem ds_pass : DStm X A W (.Pass pos) sNext := PS.mono ps_pass fun D σ H ⟨ρ, S, L, DD, sl, so, h, k⟩ => k.nx σ H ρ S .refl so sl h
def sBreak : DTS := fun D ρ S => D.bk ρ S
def sCont : DTS := fun D ρ S => D.ct ρ S
theorem ds_break : DStm X A W (.Break pos) sBreak := PS.mono ps_break fun D σ H ⟨ρ, S, L, DD, sl, so, h, k⟩ => k.bk σ H ρ S .refl so sl h
theorem ds_continue : DStm X A W (.Continue pos) sCont := PS.mono ps_continue fun D σ H ⟨ρ, S, L, DD, sl, so, h, k⟩ => k.ct σ H ρ S .refl so sl h
theorem ds_doc {x : Str} {j : Nat} {p : Pos} : DStm X A W (.Expr (.Constant (.str x) j p) pos) sNext := PS.mono ps_doc fun D σ H ⟨ρ, S, L, DD, sl, so, h, k⟩ => k.nx σ H ρ S .refl so sl h
def sDrop (t : DT) : DTS := fun D ρ S => t ρ S (fun _ S1 => D.nx ρ S1) (D.xx ρ)
def sRet (t : DT) : DTS := fun D ρ S => t ρ S D.rt (D.xx ρ)
theorem ds_expr (he : DE X A W e te) (hs : swapsWith e none pos.line X.env = pure false) : DStm X A W (.Expr e pos) (sDrop te) :=
  PS.mono (ps_expr he hs) fun D σ H ⟨ρ, S, L, DD, sl, so, h, k⟩ =>
    ⟨ρ, S, L, _, _, sl, so, h, fun v H1 d S1 e1 so1 r1 q1 => k.nx σ H1 ρ S1 e1 so1 (sl.ext e1) q1, k.xx.at_ sl⟩
theorem ds_ret (he : DE X A W e te) : DStm X A W (.Return (some e) pos) (sRet te) :=
  PS.mono (ps_ret he) fun D σ H ⟨ρ, S, L, DD, sl, so, h, k⟩ => ⟨ρ, S, L, _, _, sl, so, h, k.rt, k.xx.at_ sl⟩
def sRetN : DTS := fun D _ S => D.rt .non S
theorem ds_retN : DStm X A W (.Return none pos) sRetN := PS.mono ps_retN fun D σ H ⟨ρ, S, L, DD, sl, so, h, k⟩ => k.rt _ H _ S .refl so (by unfold Rep; rfl) h
def sIf (tc : DT) (t u : DTS) : DTS := fun D ρ S => tc ρ S (fun x S1 => ∃ k, truth S1 x = some k ∧ if k = true then t D ρ S1 else u D ρ S1) (D.xx ρ)
theorem ds_if {tc : DT} {p q : List Stmt} (hc : DTst X A W e (dTst tc)) (ha : DStms X A W p t) (hb : DStms X A W q u) : DStm X A W (.If e p q pos) (sIf tc t u) :=
  PS.mono (ps_if hc ha hb) fun D σ H ⟨ρ, S, L, DD, sl, so, h, k⟩ =>
    ⟨ρ, S, L, fun k S1 => if k = true then t DD ρ S1 else u DD ρ S1, _, sl, so, h, fun b H1 S1 e1 so1 q1 => by
      cases b with
      | true => exact ⟨ρ, S1, L, DD, sl.ext e1, so1, q1, k.ext e1⟩
      | false => exact ⟨ρ, S1, L, DD, sl.ext e1, so1, q1, k.ext e1⟩, k.xx.at_ sl⟩
def sNever : DTS := fun _ _ _ => False
theorem ds_never : DStm X A W st sNever := PS.mono ps_never fun D σ H ⟨_, _, _, _, _, _, h, _⟩ => h

/-! ### targets -/
def gNm (i : Nat) : DTG := fun d ρ S Q _ => Q (ρ.set i (some d)) S
theorem dg_name {i : Nat} {x : Str} (hN : X.N.Nodup) (hi : X.N[i]? = some x) (hx : Loc X.env.scope x) (hf : X.fn x = true ∨ X.env.scope.names.lookup x = some .local) : DTgt X A W (.Name x pos) (gNm i) :=
  PG.mono (pg_name hN hi hx hf) fun v σ H Q ⟨ρ, S, L, d, Qd, Ed, sl, so, r, h, kp, _⟩ => kp _ H _ S .refl so (sl.set r) h
def gsNil : DTGs := fun ds ρ S Q _ => ds = [] ∧ Q ρ S
def gsCons (g : DTG) (gs : DTGs) : DTGs := fun ds ρ S Q E => ∃ d r, ds = d :: r ∧ g d ρ S (fun ρ1 S1 => gs r ρ1 S1 Q E) E
/-- targets that cannot raise -/
theorem dgs_nil : DTgts X A W [] gsNil := PGs.mono pgs_nil fun vs σ H Q ⟨ρ, S, L, ds, Qd, Ed, sl, so, r, ⟨e, h⟩, kp, _⟩ => by
  subst e
  exact ⟨r.of_nil, kp σ H ρ S .refl so sl h⟩
def gPlain (g : DTG) : Prop := ∀ d ρ S Q E, g d ρ S Q E → g d ρ S Q DX0
def gsPlain (g : DTGs) : Prop := ∀ d ρ S Q E, g d ρ S Q E → g d ρ S Q DX0
theorem dgs_cons {g : DTG} {gs : DTGs} (h1 : DTgt X A W e g) (h2 : DTgts X A W es gs) (p1 : gPlain g) (p2 : gsPlain gs) (hs : (assignEach (e :: es) X.env).map (·.2) = assign e X.env :: (assignEach es X.env).map (·.2)) : DTgts X A W (e :: es) (gsCons g gs) :=
  PGs.mono (pgs_cons h1 h2 hs) fun vs σ H Q ⟨ρ, S, L, ds, Qd, Ed, sl, so, r, h, kp, kx⟩ => by
    obtain ⟨d, ds', ed, h⟩ := h
    subst ed
    obtain ⟨v, ws, ev, r1, rs⟩ := r.of_cons
    exact ⟨v, ws, ev, ρ, S, L, d, _, DX0, sl, so, r1, p1 _ _ _ _ _ h, fun σ' H' ρ' S' x so' sl' q => ⟨ρ', S', L, ds', _, DX0, sl', so', rs.ext x, p2 _ _ _ _ _ q, kp.ext x, KX.zero⟩, KX.zero⟩
def gTupl (n : Nat) (gs : DTGs) : DTG := fun d ρ S Q E => ∃ ds, d = .tup ds ∧ ds.length = n ∧ gs ds ρ S Q E
theorem dg_tup {k n : Nat} {gs : DTGs} (hc : X.calm = true) (h : DTgts X A W es gs) (hn : (assignEach es X.env).length = n) (hst : (assignEach es X.env).findIdx? (·.1) = none) : DTgt X A W (.Tuple es k pos) (gTupl n gs) :=
  PG.mono (pg_tup hc h hn hst) fun v σ H Q ⟨ρ, S, L, d, Qd, Ed, sl, so, r, ⟨ds, ed, hl, h⟩, kp, kx⟩ => by
    subst ed
    unfold Rep at r
    obtain ⟨p, vs, ev, f, rs⟩ := r
    exact ⟨p, vs, ev, f.sq, by rw [rs.length]; exact hl, ρ, S, L, ds, Qd, Ed, sl, so, rs, h, kp, kx⟩
theorem gNm_plain {i : Nat} : gPlain (gNm i) := fun _ _ _ _ _ h => h
theorem gsNil_plain : gsPlain gsNil := fun _ _ _ _ _ h => h
theorem gsCons_plain {g : DTG} {gs : DTGs} (h2 : ∀ d ρ S Q E, g d ρ S Q E ↔ g d ρ S Q DX0) (h3 : ∀ d ρ S Q E, gs d ρ S Q E ↔ gs d ρ S Q DX0) : ∀ d ρ S Q E, gsCons g gs d ρ S Q E ↔ gsCons g gs d ρ S Q DX0 := fun d ρ S Q E => by
  unfold gsCons
  have e : (fun ρ1 S1 => ∀ r, gs r ρ1 S1 Q E ↔ gs r ρ1 S1 Q DX0) = fun _ _ => True := by
    funext ρ1 S1
    exact eq_true fun r => h3 _ _ _ _ _
  constructor
  · rintro ⟨x, r, ed, h⟩
    refine ⟨x, r, ed, ?_⟩
    have := (h2 _ _ _ _ _).mp h
    have e2 : (fun ρ1 S1 => gs r ρ1 S1 Q E) = fun ρ1 S1 => gs r ρ1 S1 Q DX0 := by
      funext ρ1 S1
      exact propext (h3 _ _ _ _ _)
    rw [e2] at this
    exact this
  · rintro ⟨x, r, ed, h⟩
    refine ⟨x, r, ed, ?_⟩
    have := (h2 _ _ _ _ E).mpr h
    have e2 : (fun ρ1 S1 => gs r ρ1 S1 Q DX0) = fun ρ1 S1 => gs r ρ1 S1 Q E := by
      funext ρ1 S1
      exact propext (h3 _ _ _ _ _).symm
    rw [e2] at this
    exact this

/-! ### assignments -/
def sAsg (t : DT) (g : DTG) : DTS := fun D ρ S => t ρ S (fun x S1 => g x ρ S1 D.nx (D.xx ρ)) (D.xx ρ)
theorem ds_asg {tg : Expr} {g : DTG} (he : DE X A W e te) (hg : DTgt X A W tg g) (hs : swapsWithSole [tg] e pos.line X.env = pure false) (hw : swappedStores [tg] e X.env = pure none) (h1 : (assignEach [tg] X.env).map (·.2) = [assign tg X.env]) :
    DStm X A W (.Assign [tg] e pos) (sAsg te g) :=
  PS.mono (ps_asg he hg hs hw h1) fun D σ H ⟨ρ, S, L, DD, sl, so, h, k⟩ =>
    ⟨ρ, S, L, _, _, sl, so, h, fun v H1 d S1 e1 so1 r1 q1 => ⟨ρ, S1, L, d, DD.nx, _, sl.ext e1, so1, r1, q1, k.nx.ext e1, (k.xx.at_ sl).ext e1⟩, k.xx.at_ sl⟩
theorem ds_set {i : Nat} {x : Str} {p : Pos} (hN : X.N.Nodup) (hi : X.N[i]? = some x) (hx : Loc X.env.scope x) (he : DE X A W e te) (hs : swapsWith e (some (.Name x p)) pos.line X.env = pure false) (hf : X.fn x = true ∨ X.env.scope.names.lookup x = some .local) :
    DStm X A W (.Assign [.Name x p] e pos) (sAsg te (gNm i)) :=
  PS.mono (ps_set hN hi hx he hs hf) fun D σ H ⟨ρ, S, L, DD, sl, so, h, k⟩ =>
    ⟨ρ, S, L, _, _, sl, so, h, fun v H1 d S1 e1 so1 r1 q1 => k.nx _ H1 _ S1 e1 so1 ((sl.ext e1).set r1) q1, k.xx.at_ sl⟩
/-- name op= e -/
def sAug (i : Nat) (R : DR2) (t : DT) : DTS := fun D ρ S => ∃ x, ρ[i]? = some (some x) ∧ t ρ S (fun y S1 => R x y S1 (fun z S2 => D.nx (ρ.set i (some z)) S2) DX0) (D.xx ρ)
theorem ds_aug {i : Nat} {x : Str} {op : Operator} {R : DR2} {p : Pos} (hN : X.N.Nodup) (hi : X.N[i]? = some x) (hx : Loc X.env.scope x) (he : DE X A W e te) (ho : PIp X op (liftR2 (cX X A) R)) (hf : X.fn x = true ∨ X.env.scope.names.lookup x = some .local) :
    DStm X A W (.AugAssign (.Name x p) op e pos) (sAug i R te) :=
  PS.mono (ps_aug hN hi hx he ho hf) fun D σ H ⟨ρ, S, L, DD, sl, so, ⟨d, hd, h⟩, k⟩ => by
    obtain ⟨v, ev, r⟩ := sl.at_ i d hd
    exact ⟨v, ev, ρ, S, L, _, _, sl, so, h, fun w H1 y S1 e1 so1 r1 q1 => ⟨S1, L, d, y, _, so1, r.ext e1, r1, q1, fun z H2 d2 S2 e2 so2 r2 q2 => k.nx _ H2 _ S2 (e1.trans e2) so2 ((sl.ext (e1.trans e2)).set r2) q2⟩, k.xx.at_ sl⟩
end
end DL

namespace DL
open PySem PySem.Spec PyProof.Rows L2

/-! ### what is walked -/
/-- the iterator J walks the data ds, as long as G holds of the store -/
def ItD (c : Cfg) (L : Lk) (G : Sto → Prop) (H : Hp) (S : Sto) (J : It) (ds : List D) : Prop :=
  ∀ (L' : Lk) H' S', (∀ p, L' p → L p ∨ H p = none) → Ext H S H' S' → StoR c L' H' S' → G S' →
    (∀ (i : Nat) (d : D), ds[i]? = some d → J.go i H' ∧ ∀ x H'', J.yld i H' x H'' → Ext H' S' H'' S' ∧ StoR c L' H'' S' ∧ Rep c L' H'' S' d x) ∧ (∀ i, ds.length ≤ i → J.stop i H')
abbrev DTI := DSt → Sto → (List D → (Sto → Prop) → Sto → Prop) → DX → Prop
def KI (c : Cfg) (L : Lk) (H : Hp) (S : Sto) (R : It → Hp → Prop) (Rd : List D → (Sto → Prop) → Sto → Prop) : Prop := ∀ J H' ds G S', Ext H S H' S' → StoR c L H' S' → ItD c L G H' S' J ds → Rd ds G S' → R J H'
def liftI (c : Cfg) (W : WX) (t : DTI) : TI := fun σ H R => ∃ ρ S L Rd Ed, EnvR c L H S ρ σ ∧ StoR c L H S ∧ t ρ S Rd Ed ∧ KI c L H S R Rd ∧ KX c L H S (fun n a H' => W n a σ H') Ed
abbrev noG : Sto → Prop := fun _ => True

/-- the turns of a for -/
def forGo (g : DTG) (G : Sto → Prop) (body : DTS) (DD : DEnds) : List D → DSt → Sto → Prop
  | [], ρ, S => G S ∧ DD.nx ρ S
  | x :: xs, ρ, S => G S ∧ g x ρ S (fun ρ1 S1 => body { DD with nx := forGo g G body DD xs, ct := forGo g G body DD xs, bk := DD.nx } ρ1 S1) (DD.xx ρ)
def sFor (i : DTI) (g : DTG) (body : DTS) : DTS := fun D ρ S => i ρ S (fun ds G S1 => forGo g G body D ds ρ S1) (D.xx ρ)
section
variable {X : Cx} {A : Cla} {W : WX} {tg iter elt : Expr} {body : List Stmt} {pos : Pos}
abbrev DItr (X : Cx) (A : Cla) (W : WX) (tg iter : Expr) (t : DTI) : Prop := PI X tg iter (liftI (cX X A) W t)
theorem PI.mono {t t' : TI} (h : PI X tg iter t) (m : ∀ σ H R, t' σ H R → t σ H R) : PI X tg iter t' := ⟨fun pins s σ H R I q => h.run pins s σ H R I (m σ H R q)⟩
theorem ds_for {i : DTI} {g : DTG} {tb : DTS} (hp : PassesOwn (model X.prog X.w) X.A X.env X.xe) (hc : X.calm = true) (hi : DItr X A W tg iter i) (hg : DTgt X A W tg g) (hb : DStms X A W body tb) (hs : ∀ x, foldedSetIterable iter X.env x = pure x) :
    DStm X A W (.For tg iter body [] pos) (sFor i g tb) :=
  PS.mono (ps_for hp hc hi hg hb hs) fun D σ H ⟨ρ, S, L, DD, sl, so, h, k⟩ => by
    refine ⟨ρ, S, L, _, _, sl, so, h, fun J H1 ds G S1 e1 so1 it q1 => ?_, k.xx.at_ sl⟩
    refine ⟨fun j m σ' H' => m = ds.length - j ∧ ∃ ρ' S', EnvR (cX X A) L H' S' ρ' σ' ∧ StoR (cX X A) L H' S' ∧ Ext H1 S1 H' S' ∧ forGo g G tb DD (ds.drop j) ρ' S', ⟨ds.length, rfl, ρ, S1, sl.ext e1, so1, .refl, q1⟩, ?_⟩
    rintro j m σ' H' ⟨em, ρ', S', sl', so', e', q'⟩
    by_cases hj : j < ds.length
    · right
      rw [List.drop_eq_getElem_cons hj] at q'
      obtain ⟨gs, q'⟩ := q'
      obtain ⟨go, _⟩ := it L H' S' (fun _ z => .inl z) e' so' gs
      obtain ⟨g1, y1⟩ := go j ds[j] (List.getElem?_eq_getElem hj)
      refine ⟨g1, fun σ2 H2 => ∃ ρ2 S2, EnvR (cX X A) L H2 S2 ρ2 σ2 ∧ StoR (cX X A) L H2 S2 ∧ Ext H1 S1 H2 S2 ∧ forGo g G tb DD (ds.drop (j + 1)) ρ2 S2, fun σ2 H2 ⟨ρ2, S2, a, b, c, d⟩ => ⟨ds.length - (j + 1), by omega, rfl, ρ2, S2, a, b, c, d⟩, fun x H'' hy => ?_⟩
      obtain ⟨ex, sx, rx⟩ := y1 x H'' hy
      have k' := (k.ext e1).ext (e'.trans ex)
      refine ⟨ρ', S', L, ds[j], _, _, sl'.ext ex, sx, rx, q', fun σ2 H2 ρ2 S2 x2 so2 sl2 q2 => ?_, k'.xx.at_ (sl'.ext ex)⟩
      have x3 := (e'.trans ex).trans x2
      refine ⟨ρ2, S2, L, _, sl2, so2, q2, ⟨fun σ3 H3 ρ3 S3 x4 so3 sl3 q3 => ⟨ρ3, S3, sl3, so3, x3.trans x4, q3⟩, (k'.ext x2).rt, (k'.ext x2).nx, fun σ3 H3 ρ3 S3 x4 so3 sl3 q3 => ⟨ρ3, S3, sl3, so3, x3.trans x4, q3⟩, (k'.ext x2).xx⟩⟩
    · left
      have hn : ds.drop j = [] := List.drop_eq_nil_of_le (by omega)
      rw [hn] at q'
      obtain ⟨gs, q'⟩ := q'
      obtain ⟨_, st⟩ := it L H' S' (fun _ z => .inl z) e' so' gs
      exact ⟨st j (by omega), k.nx σ' H' ρ' S' (e1.trans e') so' sl' q'⟩

/-! ### while -/
def sWhile (tc : DT) (body : DTS) : DTS := fun D ρ S => ∃ I : Nat → DSt → Sto → Prop, (∃ m, I m ρ S) ∧ ∀ m ρ S, I m ρ S → tc ρ S (fun x S1 => ∃ k, truth S1 x = some k ∧
  if k = true then body { D with nx := fun ρ' S' => ∃ m', m' < m ∧ I m' ρ' S', ct := fun ρ' S' => ∃ m', m' < m ∧ I m' ρ' S', bk := D.nx } ρ S1 else D.nx ρ S1) (D.xx ρ)

end
/-! ### targets that are names -/
inductive Tg where
  | nm (i : Nat) | tup (gs : List Tg)
mutual
def Tg.v (K : PySem.W.Frag) : Tg → TG
  | .nm i => gName i
  | .tup gs => gTup K gs.length (Tg.vs K gs)
def Tg.vs (K : PySem.W.Frag) : List Tg → TGs
  | [] => gNil
  | g :: gs => gCons (Tg.v K g) (Tg.vs K gs)
end
mutual
/-- what is stored, the slots behind it -/
def Tg.d : Tg → D → DSt → DP → Sto → Prop
  | .nm i, x, ρ, Q, S => Q (ρ.set i (some x)) S
  | .tup gs, x, ρ, Q, S => ∃ ds, x = .tup ds ∧ Tg.ds gs ds ρ Q S
def Tg.ds : List Tg → List D → DSt → DP → Sto → Prop
  | [], ds, ρ, Q, S => ds = [] ∧ Q ρ S
  | g :: gs, ds, ρ, Q, S => ∃ x r, ds = x :: r ∧ Tg.d g x ρ (fun ρ1 S1 => Tg.ds gs r ρ1 Q S1) S
end
mutual
def Tg.slots : Tg → List Nat
  | .nm i => [i]
  | .tup gs => Tg.slotss gs
def Tg.slotss : List Tg → List Nat
  | [] => []
  | g :: gs => Tg.slots g ++ Tg.slotss gs
end
theorem wipe_set {σ : L2.St} {i : Nat} {x : Option V} : ∀ {vs : List Nat}, i ∈ vs → wipe (σ.set i x) vs = wipe σ vs
  | [], h => by cases h
  | v :: vs, h => by
    show (wipe (σ.set i x) vs).set v none = (wipe σ vs).set v none
    by_cases e : i ∈ vs
    · rw [wipe_set e]
    · have ev : i = v := by
        rcases List.mem_cons.mp h with h | h
        · exact h
        · exact absurd h e
      subst ev
      have gen : ∀ (vs : List Nat), i ∉ vs → wipe (σ.set i x) vs = (wipe σ vs).set i x := by
        intro vs
        induction vs with
        | nil => intro _; rfl
        | cons w ws ih =>
          intro hn
          show (wipe (σ.set i x) ws).set w none = ((wipe σ ws).set w none).set i x
          rw [ih fun z => hn (List.mem_cons_of_mem _ z)]
          exact List.set_comm _ _ fun z => hn (z ▸ List.mem_cons_self)
      rw [gen vs e, List.set_set]
theorem wipe_wipe {σ : L2.St} {vs : List Nat} : ∀ {ws : List Nat}, (∀ i ∈ ws, i ∈ vs) → wipe (wipe σ ws) vs = wipe σ vs
  | [], _ => rfl
  | w :: ws, h => by
    show wipe ((wipe σ ws).set w none) vs = _
    rw [wipe_set (h w List.mem_cons_self), wipe_wipe fun i hi => h i (List.mem_cons_of_mem _ hi)]
section
variable {c : Cfg} {L : Lk} {H : Hp} {S : Sto}
mutual
theorem Tg.ok (vs : List Nat) : ∀ (g : Tg) (v : V) (σ : L2.St) (d : D) (ρ : DSt) (Qd : DP) (Q : L2.St → Hp → Prop), EnvR c L H S ρ σ → Rep c L H S d v → g.d d ρ Qd S →
    (∀ ρ' σ', EnvR c L H S ρ' σ' → ((∀ i ∈ g.slots, i ∈ vs) → wipe σ' vs = wipe σ vs) → Qd ρ' S → Q σ' H) → g.v c.K v σ H Q
  | .nm i, v, σ, d, ρ, Qd, Q, sl, r, h, k => by
    unfold Tg.d at h
    unfold Tg.v
    exact k _ _ (sl.set r) (fun hi => wipe_set (hi i (by unfold Tg.slots; simp))) h
  | .tup gs, v, σ, d, ρ, Qd, Q, sl, r, h, k => by
    unfold Tg.d at h
    unfold Tg.v
    obtain ⟨ds, ed, h⟩ := h
    subst ed
    unfold Rep at r
    obtain ⟨p, ws, ev, f, rs⟩ := r
    refine ⟨p, ws, ev, f.sq, ?_, Tg.oks vs gs ws σ ds ρ Qd Q sl rs h fun ρ' σ' a b => k ρ' σ' a fun z => b fun i hi => z i (by unfold Tg.slots; exact hi)⟩
    rw [rs.length]
    exact Tg.ds_len gs ds ρ Qd h
theorem Tg.oks (vs : List Nat) : ∀ (gs : List Tg) (ws : List V) (σ : L2.St) (ds : List D) (ρ : DSt) (Qd : DP) (Q : L2.St → Hp → Prop), EnvR c L H S ρ σ → Reps c L H S ds ws → Tg.ds gs ds ρ Qd S →
    (∀ ρ' σ', EnvR c L H S ρ' σ' → ((∀ i ∈ Tg.slotss gs, i ∈ vs) → wipe σ' vs = wipe σ vs) → Qd ρ' S → Q σ' H) → Tg.vs c.K gs ws σ H Q
  | [], ws, σ, ds, ρ, Qd, Q, sl, rs, h, k => by
    unfold Tg.ds at h
    unfold Tg.vs
    obtain ⟨e, h⟩ := h
    subst e
    exact ⟨rs.of_nil, k ρ σ sl (fun _ => rfl) h⟩
  | g :: gs, ws, σ, ds, ρ, Qd, Q, sl, rs, h, k => by
    unfold Tg.ds at h
    unfold Tg.vs
    obtain ⟨x, r, e, h⟩ := h
    subst e
    obtain ⟨v, us, ev, r1, rs1⟩ := rs.of_cons
    refine ⟨v, us, ev, Tg.ok vs g v σ x ρ _ _ sl r1 h fun ρ1 σ1 sl1 w1 q1 => Tg.oks vs gs us σ1 r ρ1 Qd Q sl1 rs1 q1 fun ρ2 σ2 sl2 w2 q2 => k ρ2 σ2 sl2 (fun z => ?_) q2⟩
    rw [w2 fun i hi => z i (by unfold Tg.slotss; exact List.mem_append_right _ hi), w1 fun i hi => z i (by unfold Tg.slotss; exact List.mem_append_left _ hi)]
theorem Tg.ds_len : ∀ (gs : List Tg) (ds : List D) (ρ : DSt) (Qd : DP), Tg.ds gs ds ρ Qd S → ds.length = gs.length
  | [], ds, ρ, Qd, h => by
    unfold Tg.ds at h
    rw [h.1]
    rfl
  | g :: gs, ds, ρ, Qd, h => by
    unfold Tg.ds at h
    obtain ⟨x, r, e, h⟩ := h
    subst e
    have : ∀ (g : Tg) (x : D) (ρ : DSt) (P : DP), g.d x ρ P S → ∃ ρ', P ρ' S := Tg.d_some
    obtain ⟨ρ', q⟩ := this g x ρ _ h
    simp [Tg.ds_len gs r ρ' Qd q]
theorem Tg.d_some : ∀ (g : Tg) (x : D) (ρ : DSt) (P : DP), g.d x ρ P S → ∃ ρ', P ρ' S
  | .nm i, x, ρ, P, h => by
    unfold Tg.d at h
    exact ⟨_, h⟩
  | .tup gs, x, ρ, P, h => by
    unfold Tg.d at h
    obtain ⟨ds, e, h⟩ := h
    exact Tg.ds_some gs ds ρ P h
theorem Tg.ds_some : ∀ (gs : List Tg) (ds : List D) (ρ : DSt) (P : DP), Tg.ds gs ds ρ P S → ∃ ρ', P ρ' S
  | [], ds, ρ, P, h => by
    unfold Tg.ds at h
    exact ⟨ρ, h.2⟩
  | g :: gs, ds, ρ, P, h => by
    unfold Tg.ds at h
    obtain ⟨x, r, e, h⟩ := h
    obtain ⟨ρ1, q⟩ := Tg.d_some g x ρ _ h
    exact Tg.ds_some gs r ρ1 P q
end
end
def Tg.g (g : Tg) : DTG := fun d ρ S Q _ => g.d d ρ Q S
theorem dg_of {X : Cx} {A : Cla} {W : WX} {e : Expr} {g : Tg} (h : PG X e (g.v X.K)) : DTgt X A W e g.g :=
  PG.mono h fun v σ H Q ⟨ρ, S, L, d, Qd, Ed, sl, so, r, h, kp, _⟩ => Tg.ok (c := cX X A) [] g v σ d ρ Qd Q sl r h fun ρ' σ' sl' _ q => kp σ' H ρ' S .refl so sl' q

/-! ### comprehensions -/
def wipeD (ρ : DSt) : List Nat → DSt
  | [] => ρ
  | v :: vs => (wipeD ρ vs).set v none
theorem EnvR.wipe {c : Cfg} {L : Lk} {H : Hp} {S : Sto} {ρ : DSt} {σ : L2.St} (s : EnvR c L H S ρ σ) : ∀ vs : List Nat, EnvR c L H S (wipeD ρ vs) (L2.wipe σ vs)
  | [] => s
  | v :: vs => by
    have ih := EnvR.wipe s vs
    refine ⟨by unfold wipeD L2.wipe; simp [ih.len], fun i d h => ?_⟩
    have h : ((wipeD ρ vs).set v none)[i]? = some (some d) := h
    show ∃ w, ((L2.wipe σ vs).set v none)[i]? = some (some w) ∧ _
    by_cases e : v = i
    · subst e
      by_cases hl : v < (wipeD ρ vs).length
      · rw [List.getElem?_set_self hl] at h; cases h
      · rw [List.getElem?_eq_none (by simpa using hl)] at h; cases h
    · rw [List.getElem?_set_ne e] at h ⊢
      exact ih.at_ i d h
/-- the turns of a comprehension; Q is told the items -/
def lcGo (g : Tg) (G : Sto → Prop) (tc : DTT) (te : DT) (ρ : DSt) (Q : List D → Sto → Prop) : List D → List D → Sto → Prop
  | [], acc, S => G S ∧ Q acc S
  | x :: xs, acc, S => G S ∧ g.d x ρ (fun ρ1 S1 => tc ρ1 S1 (fun b S2 => if b = true then te ρ1 S2 (fun y S3 => lcGo g G tc te ρ Q xs (acc ++ [y]) S3) DX0 else lcGo g G tc te ρ Q xs acc S2) DX0) S
def dLc (m : Bool) (i : DTI) (g : Tg) (tc : DTT) (te : DT) (vs : List Nat) : DT := fun ρ S Q E => i ρ S (fun ds G S1 => ds.length ≤ sizeLine ∧ lcGo g G tc te (wipeD ρ vs) (fun ys S2 => mkL m ys S2 Q) ds [] S1) E
section
variable {X : Cx} {A : Cla} {W : WX} {tg iter elt : Expr} {ifs : List Expr} {scope : Scope} {own : List (Str × Nat)} {pos : Pos}
abbrev W0 : WX := fun _ _ _ _ => False
theorem lc_lift {m : Bool} {i : DTI} {g : Tg} {tc : DTT} {te : DT} (hsl : ∀ j ∈ g.slots, j ∈ own.map (·.2)) {σ : L2.St} {H : Hp} {Q : VK} (h0 : liftE (cX X A) W (dLc m i g tc te (own.map (·.2))) σ H Q) :
    tLc (liftI (cX X A) W i) (g.v X.K) (liftT (cX X A) W0 tc) (liftE (cX X A) W0 te) (own.map (·.2)) σ H Q := by
  obtain ⟨ρ, S, L, Qd, Ed, sl, so, h, kq, kx⟩ := h0
  refine ⟨ρ, S, L, _, _, sl, so, h, fun J H1 ds G S1 e1 so1 it ⟨hz, q1⟩ => ?_, kx⟩
  intro D0 hD
  have fr := so1.free hD
  have hl : ∀ p, (L.add D0) p → L p ∨ H1 p = none := fun p z => z.elim .inl fun e => .inr (by rw [e]; exact hD)
  have sl1 := (sl.ext e1).lock hl
  refine ⟨fun j m' H' => m' = ds.length - j ∧ ∃ S' acc vs, H' D0 = some (.lst vs) ∧ S' D0 = none ∧ StoR (cX X A) (L.add D0) H' S' ∧ Ext H1 S1 H' S' ∧ Reps (cX X A) (L.add D0) H' S' acc vs ∧ acc.length ≤ j ∧
    lcGo g G tc te (wipeD ρ (own.map (·.2))) (fun ys S2 => mkL m ys S2 Qd) (ds.drop j) acc S', ?_, ?_⟩
  · exact ⟨ds.length, rfl, S1, [], [], upd_same, fr.1, so1.lockNew hD, Ext.upd hD, .nil, Nat.le_refl _, q1⟩
  · rintro j m' H' ⟨em, S', acc, vs, hd, sd, so', e', ra, la, q'⟩
    by_cases hj : j < ds.length
    · right
      rw [List.drop_eq_getElem_cons hj] at q'
      obtain ⟨gs, q'⟩ := q'
      obtain ⟨go, _⟩ := it _ H' S' hl e' so' gs
      obtain ⟨g1, y1⟩ := go j ds[j] (List.getElem?_eq_getElem hj)
      refine ⟨g1, fun H5 => ∃ S5 acc5 vs5, H5 D0 = some (.lst vs5) ∧ S5 D0 = none ∧ StoR (cX X A) (L.add D0) H5 S5 ∧ Ext H1 S1 H5 S5 ∧ Reps (cX X A) (L.add D0) H5 S5 acc5 vs5 ∧ acc5.length ≤ j + 1 ∧
        lcGo g G tc te (wipeD ρ (own.map (·.2))) (fun ys S2 => mkL m ys S2 Qd) (ds.drop (j + 1)) acc5 S5, fun H5 w5 => ⟨ds.length - (j + 1), by omega, rfl, w5⟩, fun x H'' hy => ?_⟩
      obtain ⟨ex, sx, rx⟩ := y1 x H'' hy
      have sl2 := (sl1.ext (show Ext H1 S1 H'' S' from e'.trans ex)).wipe (own.map (·.2))
      obtain ⟨hd2, sd2⟩ := ex D0 _ hd sd
      refine Tg.ok (c := cX X A) (L := L.add D0) (S := S') (own.map (·.2)) g x _ ds[j] _ _ _ sl2 rx q' fun ρ3 σ3 sl3 w3 q3 => ⟨(w3 hsl).trans (wipe_wipe fun _ z => z), ρ3, S', L.add D0, _, DX0, sl3, sx, q3, fun b H3 S3 e3 so3 q3 => ?_, KX.zero⟩
      cases b with
      | false =>
        obtain ⟨hd3, sd3⟩ := e3 D0 _ hd2 sd2
        exact ⟨S3, acc, vs, hd3, sd3, so3, (e'.trans ex).trans e3, (ra.ext ex).ext e3, by omega, q3⟩
      | true =>
        refine ⟨ρ3, S3, L.add D0, _, DX0, sl3.ext e3, so3, q3, fun y H4 dy S4 e4 so4 ry q4 => ?_, KX.zero⟩
        have ex4 := (ex.trans e3).trans e4
        obtain ⟨hd4, sd4⟩ := ex4 D0 _ hd sd
        have ra4 := ra.ext ex4
        have lD : (L.add D0) D0 := .inr rfl
        refine ⟨vs, hd4, by rw [ra.length]; omega, S4, acc ++ [dy], vs ++ [y], upd_same, sd4, so4.lockWrite lD, fun p o hp sp => ?_, ?_, by rw [List.length_append, List.length_singleton]; omega, q4⟩
        · have ne : p ≠ D0 := fun e => by rw [e, hD] at hp; cases hp
          rw [upd_ne ne]
          exact (e'.trans ex4) p o hp sp
        · exact Reps.aside lD (fun _ z => z) (fun p e => upd_ne e) (fun _ _ => rfl) _ _ (ra4.append (.cons ry .nil))
    · left
      have hn : ds.drop j = [] := List.drop_eq_nil_of_le (by omega)
      rw [hn] at q'
      obtain ⟨gs, q'⟩ := q'
      obtain ⟨_, st⟩ := it _ H' S' hl e' so' gs
      refine ⟨st j (by omega), ?_⟩
      cases m with
      | false =>
        exact kq (.ref D0) H' (.lst acc) S' (e1.trans e') (so'.unlock fun _ z => .inl z) (by unfold Rep; exact ⟨D0, vs, rfl, hd, ⟨sd, fr.2⟩, ra.unlock fun _ z => .inl z⟩) q'
      | true =>
        have q2 : ∀ p, S' p = none → Qd (.ref p) (S'.set p (.lst acc)) := q'
        have rs : Reps (cX X A) L H' (S'.set D0 (.lst acc)) acc vs := Reps.aside (q := D0) (.inr rfl) (fun _ z => .inl z) (fun _ _ => rfl) (fun p e => Sto.set_ne e) _ _ ra
        refine kq (.ref D0) H' (.ref D0) (S'.set D0 (.lst acc)) (e1.trans fun p o hp sp => ?_) (so'.lockThaw fr.2 ⟨vs, hd, rs⟩) (by unfold Rep; rfl) (q2 D0 sd)
        have ne : p ≠ D0 := fun e => by rw [e, hD] at hp; cases hp
        rw [Sto.set_ne ne]
        exact e' p o hp sp
theorem de_lc {m : Bool} {i : DTI} {g : Tg} {tc : DTT} {te : DT} (hc : X.calm = true) (hN : X.N.Nodup) (hi : DItr X A W tg iter i) (ok : BlkOk X.N X.env.scope scope own) (hsl : ∀ j ∈ g.slots, j ∈ own.map (·.2))
    (hg : ∀ (s : Shared) (H : Hp) (C : Addr) (cl : List (Str × Addr)) (fp : List Addr), PG (X.blk s H scope (compEnvC scope cl C X.env) fp) tg (g.v X.K))
    (ht : ∀ (s : Shared) (H : Hp) (C : Addr) (cl : List (Str × Addr)) (fp : List Addr), PTs (X.blk s H scope (compEnvC scope cl C X.env) fp) ifs (liftT (cX X A) W0 tc))
    (he : ∀ (s : Shared) (H : Hp) (C : Addr) (cl : List (Str × Addr)) (fp : List Addr), DE (X.blk s H scope (compEnvC scope cl C X.env) fp) A W0 elt te) (hs : ∀ x, foldedSetIterable iter X.env x = pure x) :
    DE X A W (.ListComp elt [⟨tg, iter, ifs, 0⟩] scope pos) (dLc m i g tc te (own.map (·.2))) :=
  PE.mono (pe_lc (te := liftE (cX X A) W0 te) hc hN hi ok hg ht he hs) fun σ H Q h => lc_lift hsl h
/-- name = [..] on one line, the name a local -/
theorem ds_setLc {i0 : Nat} {y : Str} {py spos : Pos} {m : Bool} {i : DTI} {g : Tg} {tc : DTT} {te : DT} (hc : X.calm = true) (hN : X.N.Nodup) (hy : X.N[i0]? = some y) (hyl : X.env.scope.names.lookup y = some .local)
    (hsw : swapsWith (.ListComp elt [⟨tg, iter, ifs, 0⟩] scope pos) (some (.Name y py)) spos.line X.env = pure true) (hi : DItr X A W tg iter i) (ok : BlkOk X.N X.env.scope scope own) (hsl : ∀ j ∈ g.slots, j ∈ own.map (·.2))
    (hg : ∀ (s : Shared) (H : Hp) (C : Addr) (cl : List (Str × Addr)) (fp : List Addr), PG (X.blk s H scope (compEnvC scope cl C X.env) fp) tg (g.v X.K))
    (ht : ∀ (s : Shared) (H : Hp) (C : Addr) (cl : List (Str × Addr)) (fp : List Addr), PTs (X.blk s H scope (compEnvC scope cl C X.env) fp) ifs (liftT (cX X A) W0 tc))
    (he : ∀ (s : Shared) (H : Hp) (C : Addr) (cl : List (Str × Addr)) (fp : List Addr), DE (X.blk s H scope (compEnvC scope cl C X.env) fp) A W0 elt te) (hs : ∀ x, foldedSetIterable iter X.env x = pure x) :
    DStm X A W (.Assign [.Name y py] (.ListComp elt [⟨tg, iter, ifs, 0⟩] scope pos) spos) (sAsg (dLc m i g tc te (own.map (·.2))) (gNm i0)) :=
  PS.mono (ps_setLc (te := liftE (cX X A) W0 te) hc hN hy hyl hsw hi ok hg ht he hs) fun D σ H ⟨ρ, S, L, DD, sl, so, h, k⟩ =>
    lc_lift hsl ⟨ρ, S, L, _, _, sl, so, h, fun v H1 d S1 e1 so1 r1 q1 => k.nx _ H1 _ S1 e1 so1 ((sl.ext e1).set r1) q1, k.xx.at_ sl⟩
end
end DL

namespace DL
open PySem PySem.Spec PyProof.Rows L2

/-! ### defs -/
/-- room for k calls, no repr under way -/
structure Rm (k : Nat) (A : Around) : Prop where
  r : Room k A
  g : A.guards = some []
theorem Rm.mono {j k : Nat} {A : Around} (m : Rm k A) (h : j ≤ k) : Rm j A := ⟨m.r.mono h, m.g⟩
theorem Rm.deeper {k : Nat} {A : Around} (m : Rm (k + 1) A) (env : PySem.Env) : Rm k (A.deeper env) := ⟨m.r.deeper env, m.g⟩
theorem make_guards {A : Around} {C : Addr} {us : List Value} {kw : List (Str × Value)} : (A.under (.builtin "type.__call__" ⟨.ref C :: us, kw⟩)).guards = A.guards := by
  first | rfl | (simp [Around.under, Code.guards, Code.isGuard, guardIds]; cases A.guards <;> simp [pushGuards]) | (unfold Around.under; cases h : A.guards <;> simp [pushGuards, Code.guards, Code.isGuard, guardIds, h])
theorem Rm.make {k : Nat} {A : Around} (m : Rm (k + 1) A) (C : Addr) (us : List Value) (kw : List (Str × Value)) : Rm k (A.under (.builtin "type.__call__" ⟨.ref C :: us, kw⟩)) := ⟨m.r.make C us kw, make_guards.trans m.g⟩
/-- a promise over data: the positional arguments -/
abbrev DSp := List D → Sto → DQ → DX → Prop
def liftSp (c : Cfg) (sp : DSp) : Sp := fun vs H Q E => ∃ ds S L Qd Ed, StoR c L H S ∧ Reps c L H S ds vs ∧ sp ds S Qd Ed ∧ KQ c L H S Q Qd ∧ KX c L H S E Ed
def FnD (P : Program) (w : World) (c : Cfg) (mg : Str → Option Value) (base : Heap) (k : Nat) (f : Addr) (sp : DSp) : Prop :=
  ∀ (A : Around) (outer : List PySem.Env) (s : Shared) (H : Hp) (us : List Value) (vs : List V) (Q : VK) (E : XK), Rm k A → Env0 P w c.K mg base A outer s H → Vals vs us → liftSp c sp vs H Q E →
    codeAny (model P w) A (.call (.ref f) ⟨us, []⟩) (CR (L2.CX P w) outer P w H s Q E) s
theorem FnD.mono {P : Program} {w : World} {c : Cfg} {mg : Str → Option Value} {base : Heap} {j k : Nat} {f : Addr} {sp : DSp} (F : FnD P w c mg base j f sp) (h : j ≤ k) : FnD P w c mg base k f sp :=
  fun A outer s H us vs Q E m => F A outer s H us vs Q E (m.mono h)

/-- the slots at the entry -/
def startD (n : Nat) (ds : List D) : DSt := ds.map some ++ List.replicate (n - ds.length) none
theorem start_env {c : Cfg} {L : Lk} {H : Hp} {S : Sto} {N : List Str} {ds : List D} {vs : List V} (r : Reps c L H S ds vs) : EnvR c L H S (startD N.length ds) (L2.start N vs) := by
  have hl := r.length
  refine ⟨by unfold startD L2.start; simp [hl], fun i d h => ?_⟩
  unfold startD at h
  unfold L2.start
  by_cases hi : i < ds.length
  · rw [List.getElem?_append_left (by simpa using hi), List.getElem?_map] at h
    cases e : ds[i]? with
    | none => rw [e] at h; cases h
    | some x =>
      rw [e] at h
      cases h
      obtain ⟨v, ev, rv⟩ := r.get e
      exact ⟨v, by rw [List.getElem?_append_left (by rw [List.length_map, hl]; exact hi), List.getElem?_map, ev]; rfl, rv⟩
  · rw [List.getElem?_append_right (by simpa using hi), List.getElem?_replicate] at h
    split at h <;> cases h

section
variable {P : Program} {w : World} {c : Cfg} {mg : Str → Option Value} {base : Heap} {k : Nat} {f : Addr} {name qual : Str} {params : Arguments} {body : List Stmt} {scope : Scope} {dV kV doc pm cdv ct oc : Value} {an od : Option Addr}
  {osl : Array (Option Value)} {N ps : List Str} {t : DTS}
/-- what a def promises: its body's reading -/
def bodySp (n m : Nat) (t : DTS) : DSp := fun ds S Q E => ds.length = m ∧ t { nx := fun _ S' => Q .non S', rt := Q, xx := fun _ => E } (startD n ds) S
/-- def f(a, b) -/
theorem fnd_of {A0 : Cla} (ec : c = ⟨c.K, A0.cA, A0.cv, A0.fl⟩) (lk : c.K.lookup f = some ⟨oc, od, .func (PySem.W.fnOf name qual params body scope dV kV doc pm an cdv ct), osl⟩) (hcd : PySem.W.codeIn c.K cdv qual = true) (S : FnScope N ps scope)
    (hb : ∀ us : List Value, us.length = ps.length → bindArgs (PySem.W.fnOf name qual params body scope dV kV doc pm an cdv ct) ⟨us, []⟩ = pure (ps.zip us))
    (hbody : ∀ (X : Cx) (W : WX), X.prog = P → X.w = w → X.K = c.K → X.mg = mg → X.base = base → X.N = N → X.env.scope = scope → X.calm = true → (∀ x, X.fn x = true) → X.stack = X.env :: X.outer → X.env.frame = some X.env.locals → X.ex = [] →
      PassesOwn (model X.prog X.w) X.A X.env X.xe → Rm k X.A → Takes X W → PSs X body (liftS c W t)) :
    FnD P w c mg base (k + 1) f (bodySp N.length ps.length t) := by
  intro A outer s H us vs Q E m e0 r ⟨ds, S0, L, Qd, Ed, so, rs, ⟨hl, h⟩, kq, kx⟩
  have hlu : us.length = ps.length := by rw [← r.length, rs.length, hl]
  refine StX.run_bnd (N := N) (ps := ps) (G := fun xs H2 => xs = vs ∧ H2 = H) lk hcd S m.r e0 (fun A' Ex Q' hQ => ?_) fun s2 H2 xs ⟨ex, eH⟩ hr' => ?_
  · rw [hb us hlu]
    exact wpAny_pure (hQ s H vs us e0 Un.refl rfl (fun _ _ z => z) r (by rw [r.length, hlu]) ⟨rfl, rfl⟩)
  · subst ex eH
    refine ⟨liftS c (fun n a _ H' => E n a H') t, hbody _ _ rfl rfl rfl rfl rfl rfl rfl rfl (fun _ => rfl) rfl rfl rfl (passes_of rfl) (m.deeper _) (takes_of rfl rfl rfl rfl), ?_⟩
    exact ⟨_, S0, L, _, start_env rs, so, h, ⟨fun σ' H' ρ' S' x so' sl' q => kq _ H' _ S' x so' (by unfold Rep; rfl) q, kq, fun _ _ _ _ _ _ _ z => z.elim, fun _ _ _ _ _ _ _ z => z.elim, fun n a σ' H' ρ' ds' S' x so' _ xr q => kx n a H' ds' S' x so' xr q⟩⟩
end

/-! ### calls -/
section
variable {X : Cx} {A : Cla} {W : WX} {e : Expr} {es : List Expr} {p pos : Pos} {x : Str} {f : Addr} {k : Nat} {sp : DSp} {t : DTA}
def dCall (sp : DSp) (t : DTA) : DT := fun ρ S Q E => t ρ S (fun ds S1 => sp ds S1 Q E) E
theorem KX.slots {σ : L2.St} {c : Cfg} {L : Lk} {H : Hp} {S : Sto} {E : DX} (k : KX c L H S (fun n a H' => W n a σ H') E) : KX c L H S (WE W σ) E := k
/-- the callee runs -/
theorem run_d {pins : List (Addr × Obj)} {σ : L2.St} {H : Hp} {s : Shared} {Q : VK} {us : List Value} {vs : List V} (F : FnD X.prog X.w (cX X A) X.mg X.base k f sp) (m : Rm k X.A) (tk : Takes X W)
    (I : L2.Inv X pins σ H s) (r : Vals vs us) (h : liftSp (cX X A) sp vs H Q (WE W σ)) : wpAny (model X.prog X.w) X.A (call (.ref f) us) (EP X pins σ Q) X.xe s := by
  refine wpAny_call (codeAny_mono (F X.A X.stack s H us vs Q _ m I.env0 r h) fun r' s' hq => ?_)
  cases r' with
  | error e => exact passAt tk σ pins H s e s' I hq
  | ok fl => cases fl with
    | ret u => exact I.after hq
    | next => exact hq.elim
    | brk => exact hq.elim
    | cont => exact hq.elim
theorem de_call (F : FnD X.prog X.w (cX X A) X.mg X.base k f sp) (m : Rm k X.A) (tk : Takes X W) (hg : Gl X x) (hm : X.mg x = some (.ref f)) (hk : PySem.W.keepIn X.K (.ref f) = true) (ha : DA X A W (e :: es) t)
    (hdb : (x == ("__debug__" : Str)) = false) (he : starEach (e :: es) X.env = (false, eval e X.env) :: starEach es X.env) (hpl : (backTo pos (starEach es X.env)).any (·.1) = false) :
    DE X A W (.Call (.Name x p) (e :: es) [] pos) (dCall sp t) := by
  refine ⟨fun pins s σ H Q I ⟨ρ, S, L, Qd, Ed, sl, so, h, kq, kx⟩ => ?_⟩
  refine wpAny_Call_Name_kw (ld_glob I hg hm ?_ hdb)
  refine PySem.W.callWith_K (h₀ := X.base) I.ok.mod.kin hk (thn (ha.run pos pins s σ H (fun vs H1 => liftSp (cX X A) sp vs H1 Q (WE W σ)) I ⟨ρ, S, L, _, Ed, sl, so, h, fun vs H1 ds S1 e1 so1 r1 q1 => ?_, kx⟩) fun us s1 ⟨vs, H1, I1, r, q⟩ => ⟨I1.kIn, ?_⟩) he hpl
  · exact ⟨ds, S1, L, Qd, Ed, so1, r1, q1, kq.ext e1, (kx.ext e1).slots⟩
  · exact run_d F m tk I1 r q
theorem de_call0 (F : FnD X.prog X.w (cX X A) X.mg X.base k f sp) (m : Rm k X.A) (tk : Takes X W) (hg : Gl X x) (hm : X.mg x = some (.ref f)) (hk : PySem.W.keepIn X.K (.ref f) = true)
    (hdb : (x == ("__debug__" : Str)) = false) : DE X A W (.Call (.Name x p) [] [] pos) (dCall sp dNil) := by
  refine ⟨fun pins s σ H Q I ⟨ρ, S, L, Qd, Ed, sl, so, h, kq, kx⟩ => ?_⟩
  refine wpAny_Call_Name_kw (ld_glob I hg hm ?_ hdb)
  exact PySem.W.callWith_K0 I.kIn hk (run_d (us := []) F m tk I .nil ⟨[], S, L, Qd, Ed, so, .nil, h, kq, kx.slots⟩)
/-- built-in functions and types -/
def dCB (R : DRA) (t : DTA) : DT := fun ρ S Q E => t ρ S (fun ds S1 => R ds S1 Q DX0) E
theorem tCB_lift {R : DRA} {σ : L2.St} {H : Hp} {Q : VK} (h : liftE (cX X A) W (dCB R t) σ H Q) : tCB (liftRA (cX X A) R) (liftA (cX X A) W t) σ H Q := by
  obtain ⟨ρ, S, L, Qd, Ed, sl, so, h, kq, kx⟩ := h
  exact ⟨ρ, S, L, _, Ed, sl, so, h, fun vs H1 ds S1 e1 so1 r1 q1 => ⟨S1, L, ds, Qd, so1, r1, q1, kq.ext e1⟩, kx⟩
theorem de_callB {id : String} {R : DRA} (hc : CallD X A (.builtin id) R) (hg : Gl X x) (hm : X.mg x = none) (hv : bootBuiltins x = some (.builtin id)) (ha : DA X A W (e :: es) t) (hn : x ≠ "__name__") (hdb : (x == ("__debug__" : Str)) = false)
    (he : starEach (e :: es) X.env = (false, eval e X.env) :: starEach es X.env) (hpl : (backTo pos (starEach es X.env)).any (·.1) = false) : DE X A W (.Call (.Name x p) (e :: es) [] pos) (dCB R t) :=
  PE.mono (pe_callB hc hg hm hv ha hn hdb he hpl) fun _ _ _ => tCB_lift
theorem de_callTy {T : String} {R : DRA} (hc : CallD X A (.type T) R) (hg : Gl X x) (hm : X.mg x = none) (hv : bootBuiltins x = some (.type T)) (ha : DA X A W (e :: es) t) (hn : x ≠ "__name__") (hdb : (x == ("__debug__" : Str)) = false)
    (he : starEach (e :: es) X.env = (false, eval e X.env) :: starEach es X.env) (hpl : (backTo pos (starEach es X.env)).any (·.1) = false) : DE X A W (.Call (.Name x p) (e :: es) [] pos) (dCB R t) :=
  PE.mono (pe_callTy hc hg hm hv ha hn hdb he hpl) fun _ _ _ => tCB_lift
end
end DL

namespace DL
open PySem PySem.Spec PyProof.Rows L2

/-! ### views -/
/-- the items of a list, whichever -/
def seqL (S : Sto) : D → Option (List D)
  | .lst xs => some xs
  | .cst xs => some xs
  | .ref p => match S p with
    | some (.lst xs) => some xs
    | _ => none
  | _ => none
/-- of a list of one's own -/
def seqM (S : Sto) : D → Option (List D)
  | .cst _ => none
  | d => seqL S d
/-- of a list or a tuple -/
def seqA (S : Sto) : D → Option (List D)
  | .tup xs => some xs
  | d => seqL S d
/-- a list that may change is seen as it stands -/
def view (S : Sto) : D → D
  | .ref p => match S p with
    | some (.lst xs) => .lst xs
    | some (.ins C xs) => .ins C xs
    | none => .ref p
  | d => d
section
variable {c : Cfg} {L : Lk} {H H1 H2 : Hp} {S S1 S2 : Sto}
theorem seqL_ok {d : D} {v : V} {ds : List D} (so : StoR c L H S) (r : Rep c L H S d v) (h : seqL S d = some ds) : ∃ p vs, v = .ref p ∧ SqL c.K H p vs ∧ Reps c L H S ds vs := by
  cases d with
  | lst xs =>
    cases h
    unfold Rep at r
    obtain ⟨p, vs, ev, f, _, rs⟩ := r
    exact ⟨p, vs, ev, SqL.of f, rs⟩
  | cst xs =>
    cases h
    unfold Rep at r
    obtain ⟨p, vs, ev, f, rs⟩ := r
    exact ⟨p, vs, ev, f.sq, rs⟩
  | ref p =>
    have h : (match S p with | some (.lst xs) => some xs | _ => none) = some ds := h
    unfold Rep at r
    cases s : S p with
    | none => rw [s] at h; cases h
    | some o =>
      rw [s] at h
      cases o with
      | ins C xs => cases h
      | lst xs =>
        cases h
        obtain ⟨⟨vs, hp, rs⟩, _⟩ := so.at_ p _ s
        exact ⟨p, vs, r, SqL.of hp, rs⟩
  | _ => cases h
theorem seqM_ok {d : D} {v : V} {ds : List D} (so : StoR c L H S) (r : Rep c L H S d v) (h : seqM S d = some ds) : ∃ p vs, v = .ref p ∧ H p = some (.lst vs) ∧ Reps c L H S ds vs := by
  cases d with
  | lst xs =>
    cases h
    unfold Rep at r
    obtain ⟨p, vs, ev, f, _, rs⟩ := r
    exact ⟨p, vs, ev, f, rs⟩
  | ref p =>
    have h : (match S p with | some (.lst xs) => some xs | _ => none) = some ds := h
    unfold Rep at r
    cases s : S p with
    | none => rw [s] at h; cases h
    | some o =>
      rw [s] at h
      cases o with
      | ins C xs => cases h
      | lst xs =>
        cases h
        obtain ⟨⟨vs, hp, rs⟩, _⟩ := so.at_ p _ s
        exact ⟨p, vs, r, hp, rs⟩
  | _ => cases h
theorem seqA_ok {d : D} {v : V} {ds : List D} (so : StoR c L H S) (r : Rep c L H S d v) (h : seqA S d = some ds) : ∃ p vs, v = .ref p ∧ (SqL c.K H p vs ∨ SqT c.K H p vs) ∧ Reps c L H S ds vs := by
  cases d with
  | tup xs =>
    cases h
    unfold Rep at r
    obtain ⟨p, vs, ev, f, rs⟩ := r
    exact ⟨p, vs, ev, .inr f.sq, rs⟩
  | lst xs =>
    obtain ⟨p, vs, ev, q, rs⟩ := seqL_ok so r (show seqL S (.lst xs) = some ds from h)
    exact ⟨p, vs, ev, .inl q, rs⟩
  | cst xs =>
    obtain ⟨p, vs, ev, q, rs⟩ := seqL_ok so r (show seqL S (.cst xs) = some ds from h)
    exact ⟨p, vs, ev, .inl q, rs⟩
  | ref p =>
    obtain ⟨p, vs, ev, q, rs⟩ := seqL_ok so r (show seqL S (.ref p) = some ds from h)
    exact ⟨p, vs, ev, .inl q, rs⟩
  | _ => cases h
end

/-! ### data that compare -/
mutual
def D.p : D → PyData
  | .bl b => .bool b
  | .int i => .int i
  | .str x => .str x
  | .tup xs => .tuple (D.ps xs)
  | .lst xs => .list (D.ps xs)
  | .cst xs => .list (D.ps xs)
  | _ => .none
def D.ps : List D → List PyData
  | [] => []
  | d :: ds => d.p :: D.ps ds
end
/-- plain data, of a depth -/
def D.dat : Nat → D → Bool
  | _, .non => true
  | _, .bl _ => true
  | _, .int _ => true
  | _, .str _ => true
  | n + 1, .tup xs => xs.all (D.dat n)
  | n + 1, .lst xs => xs.all (D.dat n)
  | n + 1, .cst xs => xs.all (D.dat n)
  | _, _ => false
theorem D.ps_map : ∀ ds : List D, D.ps ds = ds.map D.p
  | [] => by unfold D.ps; rfl
  | d :: ds => by unfold D.ps; rw [D.ps_map ds]; rfl
section
variable {c : Cfg} {L : Lk} {H H1 H2 : Hp} {S S1 S2 : Sto}
mutual
theorem Rep.dp : ∀ (n : Nat) (d : D) (v : V), Rep c L H S d v → d.dat n = true → Dp c.K H v d.p
  | n, .non, v, r, h => by unfold Rep at r; subst r; unfold D.p; exact .non
  | n, .bl b, v, r, h => by unfold Rep at r; subst r; unfold D.p; exact .bl b
  | n, .int i, v, r, h => by unfold Rep at r; subst r; unfold D.p; exact .int i
  | n, .str x, v, r, h => by unfold Rep at r; obtain ⟨r, _⟩ := r; subst r; unfold D.p; exact .str x
  | n + 1, .tup xs, v, r, h => by
    unfold Rep at r
    obtain ⟨p, vs, ev, f, rs⟩ := r
    subst ev
    unfold D.p
    exact .tup f.sq (Reps.dp n xs vs rs (by unfold D.dat at h; exact h))
  | n + 1, .lst xs, v, r, h => by
    unfold Rep at r
    obtain ⟨p, vs, ev, f, _, rs⟩ := r
    subst ev
    unfold D.p
    exact .lst (SqL.of f) (Reps.dp n xs vs rs (by unfold D.dat at h; exact h))
  | n + 1, .cst xs, v, r, h => by
    unfold Rep at r
    obtain ⟨p, vs, ev, f, rs⟩ := r
    subst ev
    unfold D.p
    exact .lst f.sq (Reps.dp n xs vs rs (by unfold D.dat at h; exact h))
  | 0, .tup xs, v, r, h => by cases h
  | 0, .lst xs, v, r, h => by cases h
  | 0, .cst xs, v, r, h => by cases h
  | 0, .ref a, v, r, h => by cases h
  | 0, .ty t, v, r, h => by cases h
  | 0, .rp p, v, r, h => by cases h
  | 0, .ins C xs, v, r, h => by cases h
  | n + 1, .ref a, v, r, h => by cases h
  | n + 1, .ty t, v, r, h => by cases h
  | n + 1, .rp p, v, r, h => by cases h
  | n + 1, .ins C xs, v, r, h => by cases h
theorem Reps.dp : ∀ (n : Nat) (ds : List D) (vs : List V), Reps c L H S ds vs → ds.all (D.dat n) = true → DpAll c.K H vs (D.ps ds)
  | n, [], vs, r, h => by
    rw [r.of_nil]
    unfold D.ps
    exact .nil
  | n, d :: ds, vs, r, h => by
    obtain ⟨v, ws, ev, r1, rs⟩ := r.of_cons
    subst ev
    rw [List.all_cons, Bool.and_eq_true] at h
    unfold D.ps
    exact .cons (Rep.dp n d v r1 h.1) (Reps.dp n ds ws rs h.2)
end
mutual
theorem Rep.lay : ∀ (n : Nat) (d : D) (v : V), Rep c L H S d v → d.dat n = true → d.p.canLay0 = true ∧ d.p.depth ≤ n
  | n, .non, v, r, h => by unfold D.p; exact ⟨rfl, Nat.zero_le _⟩
  | n, .bl b, v, r, h => by unfold D.p; exact ⟨rfl, Nat.zero_le _⟩
  | n, .int i, v, r, h => by unfold D.p; exact ⟨rfl, Nat.zero_le _⟩
  | n, .str x, v, r, h => by
    unfold Rep at r
    unfold D.p
    exact ⟨r.2.2, Nat.zero_le _⟩
  | n + 1, .tup xs, v, r, h => by
    unfold Rep at r
    obtain ⟨p, vs, ev, f, rs⟩ := r
    have q := Reps.lay n xs vs rs (by unfold D.dat at h; exact h)
    unfold D.p
    exact ⟨q.1, Nat.succ_le_succ q.2⟩
  | n + 1, .lst xs, v, r, h => by
    unfold Rep at r
    obtain ⟨p, vs, ev, f, _, rs⟩ := r
    have q := Reps.lay n xs vs rs (by unfold D.dat at h; exact h)
    unfold D.p
    exact ⟨q.1, Nat.succ_le_succ q.2⟩
  | n + 1, .cst xs, v, r, h => by
    unfold Rep at r
    obtain ⟨p, vs, ev, f, rs⟩ := r
    have q := Reps.lay n xs vs rs (by unfold D.dat at h; exact h)
    unfold D.p
    exact ⟨q.1, Nat.succ_le_succ q.2⟩
  | 0, .tup xs, v, r, h => by cases h
  | 0, .lst xs, v, r, h => by cases h
  | 0, .cst xs, v, r, h => by cases h
  | 0, .ref a, v, r, h => by cases h
  | 0, .ty t, v, r, h => by cases h
  | 0, .rp p, v, r, h => by cases h
  | 0, .ins C xs, v, r, h => by cases h
  | n + 1, .ref a, v, r, h => by cases h
  | n + 1, .ty t, v, r, h => by cases h
  | n + 1, .rp p, v, r, h => by cases h
  | n + 1, .ins C xs, v, r, h => by cases h
theorem Reps.lay : ∀ (n : Nat) (ds : List D) (vs : List V), Reps c L H S ds vs → ds.all (D.dat n) = true → PyData.canLayAll0 (D.ps ds) = true ∧ PyData.depthAll (D.ps ds) ≤ n
  | n, [], vs, r, h => by unfold D.ps; exact ⟨rfl, Nat.zero_le _⟩
  | n, d :: ds, vs, r, h => by
    obtain ⟨v, ws, ev, r1, rs⟩ := r.of_cons
    rw [List.all_cons, Bool.and_eq_true] at h
    have q1 := Rep.lay n d v r1 h.1
    have q2 := Reps.lay n ds ws rs h.2
    unfold D.ps
    exact ⟨by show (_ && _) = true; rw [q1.1, q2.1]; rfl, Nat.max_le.mpr ⟨q1.2, q2.2⟩⟩
end
theorem Rep.shaped {n : Nat} {d : D} {v : V} (r : Rep c L H S d v) (h : d.dat n = true) (hn : n ≤ 64) : SeqAt.shaped d.p = true := by
  have q := r.lay n d v h
  show (_ && _) = true
  rw [q.1, Bool.true_and]
  exact decide_eq_true (Nat.le_trans q.2 hn)
/-- what is seen of a value, as data: its description holds, for comparing -/
theorem view_dp {n : Nat} {d : D} {v : V} (so : StoR c L H S) (r : Rep c L H S d v) (h : (view S d).dat n = true) (hn : n ≤ 64) : Dp c.K H v (view S d).p ∧ SeqAt.shaped (view S d).p = true := by
  cases d with
  | ref p =>
    unfold Rep at r
    subst r
    have e : view S (.ref p) = (match S p with | some (.lst xs) => D.lst xs | some (.ins C xs) => .ins C xs | none => .ref p) := rfl
    rw [e] at h ⊢
    cases s : S p with
    | none => rw [s] at h; cases n <;> cases h
    | some o =>
      rw [s] at h
      cases o with
      | ins C xs => cases n <;> cases h
      | lst xs =>
        obtain ⟨⟨vs, hp, rs⟩, _⟩ := so.at_ p _ s
        cases n with
        | zero => cases h
        | succ n =>
          have h : xs.all (D.dat n) = true := h
          have q := Reps.lay n xs vs rs h
          refine ⟨?_, ?_⟩
          · show Dp c.K H (.ref p) (D.lst xs).p
            unfold D.p
            exact .lst (SqL.of hp) (Reps.dp n xs vs rs h)
          · show SeqAt.shaped (D.lst xs).p = true
            unfold D.p
            show (_ && _) = true
            rw [show PyData.canLay0 (.list (D.ps xs)) = true from q.1, Bool.true_and]
            exact decide_eq_true (Nat.le_trans (Nat.succ_le_succ q.2) hn)
  | _ => exact ⟨r.dp n _ _ h, r.shaped h hn⟩
end

/-! ### operators by values -/
def MulOk (i j : Int) : Prop := i.natAbs.log2 + j.natAbs.log2 < 1000000
def DivOk (j : Int) : Prop := 0 < j ∧ j.natAbs.log2 < 9000
def rAdd (m : Bool) : DR2 := fun x y S Q _ => match x, y with
  | .int i, .int j => Q (.int (i + j)) S
  | .str a, .str b => a.length + b.length ≤ sizeLine ∧ Q (.str (a ++ b)) S
  | .tup a, .tup b => a.length + b.length ≤ sizeLine ∧ Q (.tup (a ++ b)) S
  | x, y => ∃ a b, seqM S x = some a ∧ seqM S y = some b ∧ a.length + b.length ≤ sizeLine ∧ mkL m (a ++ b) S Q
def rSub : DR2 := fun x y S Q _ => ∃ i j, x = .int i ∧ y = .int j ∧ Q (.int (i - j)) S
def rMul (m : Bool) : DR2 := fun x y S Q _ => match x, y with
  | .int i, .int j => MulOk i j ∧ Q (.int (i * j)) S
  | x, y => ∃ a k, seqM S x = some a ∧ y = .int k ∧ -(2 ^ 63) ≤ k ∧ k < 2 ^ 63 ∧ a.length * k.toNat ≤ sizeLine ∧ mkL m (List.replicate k.toNat a).flatten S Q
def rDiv : DR2 := fun x y S Q _ => ∃ i j, x = .int i ∧ y = .int j ∧ DivOk j ∧ Q (.int (i / j)) S
def rMod : DR2 := fun x y S Q _ => ∃ i j, x = .int i ∧ y = .int j ∧ 0 < j ∧ Q (.int (i % j)) S
def rPow : DR2 := fun x y S Q _ => ∃ i j, x = .int i ∧ y = .int j ∧ (0 ≤ j ∧ j ≤ 1000000 ∧ i.natAbs < 2 ^ 64) ∧ Q (.int (i ^ j.toNat)) S
def rNone : DR2 := fun _ _ _ _ _ => False
/-- the arithmetic operators -/
def rBin (m : Bool) : Operator → DR2
  | .Add => rAdd m
  | .Sub => rSub
  | .Mult => rMul m
  | .FloorDiv => rDiv
  | .Mod => rMod
  | .Pow => rPow
  | _ => rNone
section
variable {X : Cx} {A : Cla} {pins : List (Addr × Obj)} {σ : L2.St} {H : Hp} {s : Shared}
theorem SOk.append {a b : Str} (ha : SOk a) (hb : SOk b) (h : a.length + b.length ≤ sizeLine) : SOk (a ++ b) := by
  refine ⟨?_, ?_⟩
  · have e : (a ++ b).length = a.length + b.length := by
      show (a.cps ++ b.cps).size = a.cps.size + b.cps.size
      exact Array.size_append
    rw [e]
    exact h
  · show (a.cps ++ b.cps).all _ = true
    rw [Array.all_append, ha.2, hb.2]
    rfl
theorem opd_add {m : Bool} : OpD X A (binaryOp .Add) (rAdd m) := by
  intro pins s σ H x y v u Q I rx ry ⟨S, L, dx, dy, Qd, so, r1, r2, h, kq⟩
  have lists : (∃ a b, seqM S dx = some a ∧ seqM S dy = some b ∧ a.length + b.length ≤ sizeLine ∧ mkL m (a ++ b) S Qd) → wpAny (model X.prog X.w) X.A (binaryOp .Add v u) (EP X pins σ Q) X.xe s := by
    rintro ⟨a, b, ea, eb, hz, q⟩
    obtain ⟨p, vs, ev, qa, ra⟩ := seqM_ok so r1 ea
    obtain ⟨p', ws, ew, qb, rb⟩ := seqM_ok so r2 eb
    exact op_cat pins s σ H x y v u Q I rx ry ⟨p, p', vs, ws, ev, ew, qa, qb, by rw [ra.length, rb.length]; exact hz, mkL_ok q kq so (ra.append rb)⟩
  cases dx with
  | int i => cases dy with
    | int j =>
      unfold Rep at r1 r2
      exact op_add pins s σ H x y v u Q I rx ry ⟨i, j, r1, r2, kq _ H _ S .refl so (by unfold Rep; rfl) h⟩
    | _ => exact lists h
  | str i => cases dy with
    | str j =>
      unfold Rep at r1 r2
      exact op_add_str pins s σ H x y v u Q I rx ry ⟨i, j, r1.1, r2.1, h.1, kq _ H _ S .refl so (by unfold Rep; exact ⟨rfl, r1.2.append r2.2 h.1⟩) h.2⟩
    | _ => exact lists h
  | tup a => cases dy with
    | tup b =>
      have r1' := r1
      have r2' := r2
      unfold Rep at r1 r2
      obtain ⟨p, vs, ev, fa, ra⟩ := r1
      obtain ⟨p', ws, ew, fb, rb⟩ := r2
      refine op_catA pins s σ H x y v u Q I rx ry ⟨p, p', vs, ws, ev, ew, fa.sq, fb.sq, by rw [ra.length, rb.length]; exact h.1, fun e => ?_, fun _ e => ?_, fun _ _ => mkT_ok h.2 kq so (ra.append rb)⟩
      · have ea : a = [] := List.eq_nil_of_length_eq_zero (by rw [← ra.length, e]; rfl)
        have h2 := h.2
        rw [ea, List.nil_append] at h2
        rw [← ew]
        exact kq _ H _ S .refl so r2' h2
      · have eb : b = [] := List.eq_nil_of_length_eq_zero (by rw [← rb.length, e]; rfl)
        have h2 := h.2
        rw [eb, List.append_nil] at h2
        rw [← ev]
        exact kq _ H _ S .refl so r1' h2
    | _ => exact lists h
  | _ => exact lists h
theorem opd_sub : OpD X A (binaryOp .Sub) rSub := by
  intro pins s σ H x y v u Q I rx ry ⟨S, L, dx, dy, Qd, so, r1, r2, ⟨i, j, e1, e2, h⟩, kq⟩
  subst e1 e2
  unfold Rep at r1 r2
  exact op_sub pins s σ H x y v u Q I rx ry ⟨i, j, r1, r2, kq _ H _ S .refl so (by unfold Rep; rfl) h⟩
theorem opd_mul {m : Bool} : OpD X A (binaryOp .Mult) (rMul m) := by
  intro pins s σ H x y v u Q I rx ry ⟨S, L, dx, dy, Qd, so, r1, r2, h, kq⟩
  have lists : (∃ a k, seqM S dx = some a ∧ dy = .int k ∧ -(2 ^ 63) ≤ k ∧ k < 2 ^ 63 ∧ a.length * k.toNat ≤ sizeLine ∧ mkL m (List.replicate k.toNat a).flatten S Qd) → wpAny (model X.prog X.w) X.A (binaryOp .Mult v u) (EP X pins σ Q) X.xe s := by
    rintro ⟨a, k, ea, eb, h1, h2, hz, q⟩
    subst eb
    obtain ⟨p, vs, ev, qa, ra⟩ := seqM_ok so r1 ea
    unfold Rep at r2
    have rep : ∀ n : Nat, Reps (cX X A) L H S (List.replicate n a).flatten (List.replicate n vs).flatten := by
      intro n
      induction n with
      | zero => exact .nil
      | succ n ih =>
        rw [List.replicate_succ, List.replicate_succ, List.flatten_cons, List.flatten_cons]
        exact ra.append ih
    exact op_rep pins s σ H x y v u Q I rx ry ⟨p, k, vs, ev, r2, qa, h1, h2, by rw [ra.length]; exact hz, mkL_ok q kq so (rep _)⟩
  cases dx with
  | int i => cases dy with
    | int j =>
      unfold Rep at r1 r2
      exact op_mulW pins s σ H x y v u Q I rx ry ⟨i, j, r1, r2, h.1, kq _ H _ S .refl so (by unfold Rep; rfl) h.2⟩
    | _ => exact lists h
  | _ => exact lists h
theorem opd_div : OpD X A (binaryOp .FloorDiv) rDiv := by
  intro pins s σ H x y v u Q I rx ry ⟨S, L, dx, dy, Qd, so, r1, r2, ⟨i, j, e1, e2, hc, h⟩, kq⟩
  subst e1 e2
  unfold Rep at r1 r2
  exact op_fdivW pins s σ H x y v u Q I rx ry ⟨i, j, r1, r2, hc, kq _ H _ S .refl so (by unfold Rep; rfl) h⟩
theorem opd_mod : OpD X A (binaryOp .Mod) rMod := by
  intro pins s σ H x y v u Q I rx ry ⟨S, L, dx, dy, Qd, so, r1, r2, ⟨i, j, e1, e2, hc, h⟩, kq⟩
  subst e1 e2
  unfold Rep at r1 r2
  exact op_mod pins s σ H x y v u Q I rx ry ⟨i, j, r1, r2, hc, kq _ H _ S .refl so (by unfold Rep; rfl) h⟩
theorem opd_pow : OpD X A (binaryOp .Pow) rPow := by
  intro pins s σ H x y v u Q I rx ry ⟨S, L, dx, dy, Qd, so, r1, r2, ⟨i, j, e1, e2, hc, h⟩, kq⟩
  subst e1 e2
  unfold Rep at r1 r2
  exact op_pow pins s σ H x y v u Q I rx ry ⟨i, j, r1, r2, hc, kq _ H _ S .refl so (by unfold Rep; rfl) h⟩
theorem opd_bin {m : Bool} : ∀ op : Operator, OpD X A (binaryOp op) (rBin m op)
  | .Add => opd_add
  | .Sub => opd_sub
  | .Mult => opd_mul
  | .FloorDiv => opd_div
  | .Mod => opd_mod
  | .Pow => opd_pow
  | .MatMult | .Div | .LShift | .RShift | .BitOr | .BitXor | .BitAnd => fun _ _ _ _ _ _ _ _ _ _ _ _ ⟨_, _, _, _, _, _, _, _, h, _⟩ => h.elim
/-- -x -/
def rNeg : DR1 := fun x S Q _ => ∃ i, x = .int i ∧ Q (.int (-i)) S
theorem und_neg : UnR X (unaryOp .USub) (liftR1 (cX X A) rNeg) := by
  intro pins s σ H x v Q I rx ⟨S, L, dx, Qd, so, r1, ⟨i, e1, h⟩, kq⟩
  subst e1
  unfold Rep at r1
  exact un_neg pins s σ H x v Q I rx ⟨i, r1, kq _ H _ S .refl so (by unfold Rep; rfl) h⟩

/-! ### comparisons -/
def rEqD (x y : D) (S : Sto) (Q : Bool → Prop) : Prop := (view S x).dat 32 = true ∧ (view S y).dat 32 = true ∧ Q (PyData.eqv (view S x).p (view S y).p)
def rEqR (x y : D) (S : Sto) (Q : Bool → Prop) : Prop := match x, y with
  | .rp p, .rp q => Q (decide (p.shown = q.shown))
  | .rp p, .str z => Q (decide (p.shown = z))
  | .str z, .rp p => Q (decide (z = p.shown))
  | x, y => rEqD x y S Q
def dEq : DR2 := fun x y S Q _ => rEqR x y S fun b => Q (.bl b) S
def dNe : DR2 := fun x y S Q _ => rEqR x y S fun b => Q (.bl (!b)) S
theorem dec_strV {a b : Str} : decide (V.str a = V.str b) = decide (a = b) := by
  by_cases e : a = b
  · subst e; simp
  · have : V.str a ≠ V.str b := fun z => e (V.str.inj z)
    simp [e, this]
theorem opd_eq {k : Nat} (m : Rm k X.A) : OpD X A (compareOp .Eq) dEq := by
  intro pins s σ H x y v u Q I rx ry ⟨S, L, dx, dy, Qd, so, r1, r2, h, kq⟩
  have bl : ∀ b, Qd (.bl b) S → Q (.bl b) H := fun b q => kq _ H _ S .refl so (by unfold Rep; rfl) q
  have dat : rEqD dx dy S (fun b => Qd (.bl b) S) → wpAny (model X.prog X.w) X.A (compareOp .Eq v u) (EP X pins σ Q) X.xe s := fun ⟨h1, h2, h⟩ => by
    have a := view_dp so r1 h1 (by decide)
    have b := view_dp so r2 h2 (by decide)
    exact op_eqD m.r.units pins s σ H x y v u Q I rx ry ⟨_, _, a.1, b.1, a.2, b.2, bl _ h⟩
  have two : ∀ a b : Str, x = .str a → y = .str b → Qd (.bl (decide (a = b))) S → wpAny (model X.prog X.w) X.A (compareOp .Eq v u) (EP X pins σ Q) X.xe s := fun a b ex ey q => by
    subst ex ey
    exact op_eq pins s σ H _ _ v u Q I rx ry ⟨rfl, by rw [dec_strV]; exact bl _ q⟩
  cases dx with
  | rp p => cases dy with
    | rp q => unfold Rep at r1 r2; exact two _ _ r1.1 r2.1 h
    | str z => unfold Rep at r1 r2; exact two _ _ r1.1 r2.1 h
    | _ => exact dat h
  | str z => cases dy with
    | rp q => unfold Rep at r1 r2; exact two _ _ r1.1 r2.1 h
    | _ => exact dat h
  | _ => exact dat h
theorem opd_ne {k : Nat} (m : Rm k X.A) : OpD X A (compareOp .NotEq) dNe := by
  intro pins s σ H x y v u Q I rx ry ⟨S, L, dx, dy, Qd, so, r1, r2, h, kq⟩
  have bl : ∀ b, Qd (.bl b) S → Q (.bl b) H := fun b q => kq _ H _ S .refl so (by unfold Rep; rfl) q
  have dat : rEqD dx dy S (fun b => Qd (.bl (!b)) S) → wpAny (model X.prog X.w) X.A (compareOp .NotEq v u) (EP X pins σ Q) X.xe s := fun ⟨h1, h2, h⟩ => by
    have a := view_dp so r1 h1 (by decide)
    have b := view_dp so r2 h2 (by decide)
    exact op_neD m.r.units pins s σ H x y v u Q I rx ry ⟨_, _, a.1, b.1, a.2, b.2, bl _ h⟩
  have two : ∀ a b : Str, x = .str a → y = .str b → Qd (.bl (!decide (a = b))) S → wpAny (model X.prog X.w) X.A (compareOp .NotEq v u) (EP X pins σ Q) X.xe s := fun a b ex ey q => by
    subst ex ey
    exact op_ne pins s σ H _ _ v u Q I rx ry ⟨rfl, by rw [dec_strV]; exact bl _ q⟩
  cases dx with
  | rp p => cases dy with
    | rp q => unfold Rep at r1 r2; exact two _ _ r1.1 r2.1 h
    | str z => unfold Rep at r1 r2; exact two _ _ r1.1 r2.1 h
    | _ => exact dat h
  | str z => cases dy with
    | rp q => unfold Rep at r1 r2; exact two _ _ r1.1 r2.1 h
    | _ => exact dat h
  | _ => exact dat h
/-- the order of texts -/
def strLt (a b : Str) : Bool := decide (a.cps.toList < b.cps.toList)
def dLt : DR2 := fun x y S Q _ => match x, y with
  | .int i, .int j => Q (.bl (decide (i < j))) S
  | .str a, .str b => Q (.bl (strLt a b)) S
  | _, _ => False
def dLe : DR2 := fun x y S Q _ => match x, y with
  | .int i, .int j => Q (.bl (decide (i ≤ j))) S
  | .str a, .str b => Q (.bl (!strLt b a)) S
  | _, _ => False
def dGt : DR2 := fun x y S Q _ => match x, y with
  | .int i, .int j => Q (.bl (decide (j < i))) S
  | .str a, .str b => Q (.bl (strLt b a)) S
  | _, _ => False
def dGe : DR2 := fun x y S Q _ => match x, y with
  | .int i, .int j => Q (.bl (decide (j ≤ i))) S
  | .str a, .str b => Q (.bl (!strLt a b)) S
  | _, _ => False
theorem opd_lt : OpD X A (compareOp .Lt) dLt := by
  intro pins s σ H x y v u Q I rx ry ⟨S, L, dx, dy, Qd, so, r1, r2, h, kq⟩
  have bl : ∀ b, Qd (.bl b) S → Q (.bl b) H := fun b q => kq _ H _ S .refl so (by unfold Rep; rfl) q
  cases dx <;> cases dy <;> first
    | exact h.elim
    | (unfold Rep at r1 r2; exact op_lt pins s σ H x y v u Q I rx ry ⟨_, _, r1, r2, bl _ h⟩)
    | (unfold Rep at r1 r2; exact op_lt_str pins s σ H x y v u Q I rx ry ⟨_, _, r1.1, r2.1, bl _ h⟩)
theorem opd_le : OpD X A (compareOp .LtE) dLe := by
  intro pins s σ H x y v u Q I rx ry ⟨S, L, dx, dy, Qd, so, r1, r2, h, kq⟩
  have bl : ∀ b, Qd (.bl b) S → Q (.bl b) H := fun b q => kq _ H _ S .refl so (by unfold Rep; rfl) q
  cases dx <;> cases dy <;> first
    | exact h.elim
    | (unfold Rep at r1 r2; exact op_le pins s σ H x y v u Q I rx ry ⟨_, _, r1, r2, bl _ h⟩)
    | (unfold Rep at r1 r2; exact op_le_str pins s σ H x y v u Q I rx ry ⟨_, _, r1.1, r2.1, bl _ h⟩)
theorem opd_gt : OpD X A (compareOp .Gt) dGt := by
  intro pins s σ H x y v u Q I rx ry ⟨S, L, dx, dy, Qd, so, r1, r2, h, kq⟩
  have bl : ∀ b, Qd (.bl b) S → Q (.bl b) H := fun b q => kq _ H _ S .refl so (by unfold Rep; rfl) q
  cases dx <;> cases dy <;> first
    | exact h.elim
    | (unfold Rep at r1 r2; exact op_gt pins s σ H x y v u Q I rx ry ⟨_, _, r1, r2, bl _ h⟩)
    | (unfold Rep at r1 r2; exact op_gt_str pins s σ H x y v u Q I rx ry ⟨_, _, r1.1, r2.1, bl _ h⟩)
theorem opd_ge : OpD X A (compareOp .GtE) dGe := by
  intro pins s σ H x y v u Q I rx ry ⟨S, L, dx, dy, Qd, so, r1, r2, h, kq⟩
  have bl : ∀ b, Qd (.bl b) S → Q (.bl b) H := fun b q => kq _ H _ S .refl so (by unfold Rep; rfl) q
  cases dx <;> cases dy <;> first
    | exact h.elim
    | (unfold Rep at r1 r2; exact op_ge pins s σ H x y v u Q I rx ry ⟨_, _, r1, r2, bl _ h⟩)
    | (unfold Rep at r1 r2; exact op_ge_str pins s σ H x y v u Q I rx ry ⟨_, _, r1.1, r2.1, bl _ h⟩)
/-- is None; data within a list, a tuple; a text within a text -/
def inStr (x y : Str) : Bool := match x.cps.toList with
  | [k] => decide (k ∈ y.cps.toList)
  | _ => !(Builtin.Str.occurrences y x 0 y.length 1).isEmpty
def inData (S : Sto) (x : D) (ds : List D) : Bool := ds.any fun z => PyData.eqv z.p (view S x).p
def rIn (f : Bool → Bool) : DR2 := fun x y S Q _ => match x, y with
  | .str a, .str b => Q (.bl (f (inStr a b))) S
  | x, y => ∃ ds, seqA S y = some ds ∧ (view S x).dat 16 = true ∧ ds.all (D.dat 16) = true ∧ Q (.bl (f (inData S x ds))) S
def D.isN : D → Bool
  | .non => true
  | _ => false
def rIs (f : Bool → Bool) : DR2 := fun x y S Q _ => y = .non ∧ Q (.bl (f x.isN)) S
theorem rep_non {c : Cfg} {L : Lk} {H : Hp} {S : Sto} {d : D} {v : V} (r : Rep c L H S d v) : decide (v = .non) = d.isN := by
  cases d with
  | non => unfold Rep at r; subst r; rfl
  | bl b => unfold Rep at r; subst r; rfl
  | int b => unfold Rep at r; subst r; rfl
  | str b => unfold Rep at r; obtain ⟨r, _⟩ := r; subst r; rfl
  | ref b => unfold Rep at r; subst r; rfl
  | ty t => unfold Rep at r; subst r; cases t <;> rfl
  | rp p => unfold Rep at r; obtain ⟨r, _⟩ := r; subst r; rfl
  | tup b => unfold Rep at r; obtain ⟨_, _, r, _⟩ := r; subst r; rfl
  | lst b => unfold Rep at r; obtain ⟨_, _, r, _⟩ := r; subst r; rfl
  | cst b => unfold Rep at r; obtain ⟨_, _, r, _⟩ := r; subst r; rfl
  | ins C b => unfold Rep at r; obtain ⟨_, _, _, r, _⟩ := r; subst r; rfl
theorem opd_is : OpD X A (compareOp .Is) (rIs id) := by
  intro pins s σ H x y v u Q I rx ry ⟨S, L, dx, dy, Qd, so, r1, r2, ⟨e, h⟩, kq⟩
  subst e
  unfold Rep at r2
  exact op_isN pins s σ H x y v u Q I rx ry ⟨r2, kq _ H _ S .refl so (by unfold Rep; rw [rep_non r1]; rfl) h⟩
theorem opd_isnot : OpD X A (compareOp .IsNot) (rIs not) := by
  intro pins s σ H x y v u Q I rx ry ⟨S, L, dx, dy, Qd, so, r1, r2, ⟨e, h⟩, kq⟩
  subst e
  unfold Rep at r2
  exact op_notN pins s σ H x y v u Q I rx ry ⟨r2, kq _ H _ S .refl so (by unfold Rep; rw [rep_non r1]) h⟩
end
end DL

namespace DL
open PySem PySem.Spec PyProof.Rows L2

section
variable {X : Cx} {A : Cla} {W : WX} {pins : List (Addr × Obj)} {σ : L2.St} {H : Hp} {s : Shared}
/-! ### in -/
theorem seqA_dp {c : Cfg} {L : Lk} {S : Sto} {d : D} {v : V} {ds : List D} (so : StoR c L H S) (r : Rep c L H S d v) (h : seqA S d = some ds) {n : Nat} (hd : ds.all (D.dat n) = true) :
    Dp c.K H v (.list (D.ps ds)) ∨ Dp c.K H v (.tuple (D.ps ds)) := by
  obtain ⟨p, vs, ev, q, rs⟩ := seqA_ok so r h
  subst ev
  have a := Reps.dp n ds vs rs hd
  rcases q with q | q
  · exact .inl (.lst q a)
  · exact .inr (.tup q a)
theorem seqA_lay {c : Cfg} {L : Lk} {S : Sto} {d : D} {v : V} {ds : List D} (so : StoR c L H S) (r : Rep c L H S d v) (h : seqA S d = some ds) {n : Nat} (hd : ds.all (D.dat n) = true) :
    PyData.canLayAll0 (D.ps ds) = true ∧ PyData.depthAll (D.ps ds) ≤ n := by
  obtain ⟨p, vs, ev, q, rs⟩ := seqA_ok so r h
  exact Reps.lay n ds vs rs hd
theorem any_ps (P : PyData → Bool) : ∀ ds : List D, (D.ps ds).any P = ds.any fun z => P z.p
  | [] => by unfold D.ps; rfl
  | d :: ds => by unfold D.ps; rw [List.any_cons, List.any_cons, any_ps P ds]
theorem inStr_of (a b : Str) : inStr a b = !(Builtin.Str.occurrences b a 0 b.length 1).isEmpty := by
  unfold inStr
  split
  · rename_i k e
    have ea : a = ⟨#[k]⟩ := by
      obtain ⟨⟨l⟩⟩ := a
      have e : l = [k] := e
      subst e
      rfl
    subst ea
    exact (PySem.StrLaws.found_one b k).symm
  · rfl
theorem opd_in {k : Nat} (m : Rm k X.A) : OpD X A (compareOp .In) (rIn id) := by
  intro pins s σ H x y v u Q I rx ry ⟨S, L, dx, dy, Qd, so, r1, r2, h, kq⟩
  have bl : ∀ b, Qd (.bl b) S → Q (.bl b) H := fun b q => kq _ H _ S .refl so (by unfold Rep; rfl) q
  have dat : (∃ ds, seqA S dy = some ds ∧ (view S dx).dat 16 = true ∧ ds.all (D.dat 16) = true ∧ Qd (.bl (inData S dx ds)) S) → wpAny (model X.prog X.w) X.A (compareOp .In v u) (EP X pins σ Q) X.xe s := fun ⟨ds, e, h1, h2, h⟩ => by
    have a := view_dp so r1 h1 (by decide)
    have l := seqA_lay so r2 e h2
    have hu := m.r.un
    obtain ⟨as, ra⟩ := Dp.reads I _ x v a.1 rx
    have room : X.A.units + 1 + min (PyData.depthAll (D.ps ds)) (view S dx).p.depth < cLine := by omega
    have fin : EP X pins σ Q (.bool ((D.ps ds).any fun y => PyData.eqv y (view S dx).p)) s := ⟨.bl _, H, I, rfl, by rw [any_ps]; exact bl _ h⟩
    rcases seqA_dp so r2 e h2 with q | q
    · obtain ⟨bs, rb⟩ := Dp.reads I _ y u q ry
      exact SeqAt.in_list_reads rb ra l.1 (SeqAt.canLay_of_shaped a.2) room fin
    · obtain ⟨bs, rb⟩ := Dp.reads I _ y u q ry
      exact SeqAt.in_tuple_reads rb ra l.1 (SeqAt.canLay_of_shaped a.2) room fin
  cases dx with
  | str z => cases dy with
    | str w =>
      unfold Rep at r1 r2
      exact op_in_str pins s σ H x y v u Q I rx ry ⟨z, w, r1.1, r2.1, by rw [← inStr_of]; exact bl _ h⟩
    | _ => exact dat h
  | _ => exact dat h
theorem opd_notin {k : Nat} (m : Rm k X.A) : OpD X A (compareOp .NotIn) (rIn not) := by
  intro pins s σ H x y v u Q I rx ry ⟨S, L, dx, dy, Qd, so, r1, r2, h, kq⟩
  have bl : ∀ b, Qd (.bl b) S → Q (.bl b) H := fun b q => kq _ H _ S .refl so (by unfold Rep; rfl) q
  have dat : (∃ ds, seqA S dy = some ds ∧ (view S dx).dat 16 = true ∧ ds.all (D.dat 16) = true ∧ Qd (.bl (!inData S dx ds)) S) → wpAny (model X.prog X.w) X.A (compareOp .NotIn v u) (EP X pins σ Q) X.xe s := fun ⟨ds, e, h1, h2, h⟩ => by
    have a := view_dp so r1 h1 (by decide)
    have l := seqA_lay so r2 e h2
    have hu := m.r.un
    obtain ⟨as, ra⟩ := Dp.reads I _ x v a.1 rx
    have room : X.A.units + 1 + min (PyData.depthAll (D.ps ds)) (view S dx).p.depth < cLine := by omega
    have fin : EP X pins σ Q (.bool (!(D.ps ds).any fun y => PyData.eqv y (view S dx).p)) s := ⟨.bl _, H, I, rfl, by rw [any_ps]; exact bl _ h⟩
    rcases seqA_dp so r2 e h2 with q | q
    · obtain ⟨bs, rb⟩ := Dp.reads I _ y u q ry
      exact SeqAt.notIn_list_reads rb ra l.1 (SeqAt.canLay_of_shaped a.2) room fin
    · obtain ⟨bs, rb⟩ := Dp.reads I _ y u q ry
      exact SeqAt.notIn_tuple_reads rb ra l.1 (SeqAt.canLay_of_shaped a.2) room fin
  cases dx with
  | str z => cases dy with
    | str w =>
      unfold Rep at r1 r2
      exact op_notin_str pins s σ H x y v u Q I rx ry ⟨z, w, r1.1, r2.1, by rw [← inStr_of]; exact bl _ h⟩
    | _ => exact dat h
  | _ => exact dat h
/-- the comparisons -/
def rCmp : CmpOp → DR2
  | .Eq => dEq
  | .NotEq => dNe
  | .Lt => dLt
  | .LtE => dLe
  | .Gt => dGt
  | .GtE => dGe
  | .Is => rIs id
  | .IsNot => rIs not
  | .In => rIn id
  | .NotIn => rIn not
theorem opd_cmp {k : Nat} (m : Rm k X.A) : ∀ op : CmpOp, OpD X A (compareOp op) (rCmp op)
  | .Eq => opd_eq m
  | .NotEq => opd_ne m
  | .Lt => opd_lt
  | .LtE => opd_le
  | .Gt => opd_gt
  | .GtE => opd_ge
  | .Is => opd_is
  | .IsNot => opd_isnot
  | .In => opd_in m
  | .NotIn => opd_notin m

/-! ### items, slices -/
def chD (k : Nat) : D := .str ⟨#[k]⟩
theorem SOk.ch {z : Str} (h : SOk z) {k : Nat} (hk : k ∈ z.cps.toList) : SOk ⟨#[k]⟩ := by
  refine ⟨by show 1 ≤ sizeLine; decide, ?_⟩
  have q := h.2
  rw [Array.all_eq_true'] at q
  have e := q k (by simpa using hk)
  simpa using e
def rIdx : DR2 := fun x y S Q _ => match x with
  | .str z => ∃ i k, y = .int i ∧ atI z.cps.toList i = some k ∧ Q (chD k) S
  | x => ∃ ds i d, seqA S x = some ds ∧ y = .int i ∧ atI ds i = some d ∧ Q d S
theorem atI_len {α β : Type} {xs : List α} {ys : List β} (h : xs.length = ys.length) {i : Int} {x : α} (e : atI xs i = some x) : ∃ j : Nat, xs[j]? = some x ∧ ∀ y, ys[j]? = some y → atI ys i = some y := by
  unfold atI at e ⊢
  rw [h] at e
  cases q : ixN ys.length i with
  | none => rw [q] at e; cases e
  | some j =>
    rw [q] at e
    exact ⟨j, e, fun y hy => hy⟩
theorem ixd : IxR X (liftR2 (cX X A) rIdx) := by
  intro value slice pins s σ H x y v u Q I rx ry ⟨S, L, dx, dy, Qd, so, r1, r2, h, kq⟩ hs
  have seq : (∃ ds i d, seqA S dx = some ds ∧ dy = .int i ∧ atI ds i = some d ∧ Qd d S) → wpAny (model X.prog X.w) X.A (subscriptTail value slice v u) (EP X pins σ Q) X.xe s := fun ⟨ds, i, d, e, ei, ed, q⟩ => by
    subst ei
    unfold Rep at r2
    obtain ⟨p, vs, ev, qs, rs⟩ := seqA_ok so r1 e
    obtain ⟨j, h1, h2⟩ := atI_len rs.length.symm ed
    obtain ⟨w, hw, rw'⟩ := rs.get h1
    have q' := kq w H d S .refl so rw' q
    rcases qs with qs | qs
    · exact ix_list value slice pins s σ H x y v u Q I rx ry ⟨p, vs, i, w, ev, r2, qs, h2 w hw, q'⟩ hs
    · exact ix_tup value slice pins s σ H x y v u Q I rx ry ⟨p, vs, i, w, ev, r2, qs, h2 w hw, q'⟩ hs
  cases dx with
  | str z =>
    obtain ⟨i, k, ei, e, q⟩ := h
    subst ei
    unfold Rep at r1 r2
    have hk : k ∈ z.cps.toList := by
      obtain ⟨j, h1, _⟩ := atI_len (ys := z.cps.toList) rfl e
      exact List.mem_of_getElem? h1
    exact ix_str value slice pins s σ H x y v u Q I rx ry ⟨z, i, k, r1.1, r2, r1.2.1, e, kq _ H (chD k) S .refl so (by unfold chD Rep; exact ⟨rfl, r1.2.ch hk⟩) q⟩ hs
  | _ => exact seq h
theorem de_idx {a b : Expr} {pos : Pos} {t u : DT} (ha : DE X A W a t) (hb : DE X A W b u) (hs : PlainIx b) : DE X A W (.Subscript a b pos) (dOp rIdx t u) := PE.mono (pe_ix ixd ha hb hs) fun _ _ _ => tOp_lift
/-- slices -/
def cutD {α : Type} (xs : List α) (lo hi : Option Int) : List α := (xs.drop (HT.sIx xs.length 0 lo)).take (HT.sIx xs.length xs.length hi - HT.sIx xs.length 0 lo)
theorem cut_reps {c : Cfg} {L : Lk} {S : Sto} {ds : List D} {vs : List V} (r : Reps c L H S ds vs) (lo hi : Option Int) : Reps c L H S (cutD ds lo hi) (cutV vs lo hi) := by
  unfold cutD cutV
  rw [r.length]
  exact (r.drop _).take _
theorem SOk.cut {z : Str} (h : SOk z) (lo hi : Option Int) : SOk (cutS z lo hi) := by
  have sub : ∀ k, k ∈ (cutS z lo hi).cps.toList → k ∈ z.cps.toList := fun k hk => by
    unfold cutS at hk
    exact List.mem_of_mem_drop (List.mem_of_mem_take (by simpa using hk))
  refine ⟨?_, ?_⟩
  · have e : (cutS z lo hi).length ≤ z.length := by
      unfold cutS
      show (List.toArray _).size ≤ z.cps.size
      rw [List.size_toArray, List.length_take, List.length_drop]
      have : z.cps.toList.length = z.cps.size := by simp
      omega
    exact Nat.le_trans e h.1
  · have q := h.2
    rw [Array.all_eq_true'] at q ⊢
    intro k hk
    exact q k (by simpa using sub k (by simpa using hk))
def rSlc (m : Bool) (x : D) (lo hi : Option Int) (S : Sto) (Q : DQ) : Prop := match x with
  | .str z => Q (.str (cutS z lo hi)) S
  | .tup a => Q (.tup (cutD a lo hi)) S
  | x => ∃ a, seqL S x = some a ∧ mkL m (cutD a lo hi) S Q
def liftSl (c : Cfg) (m : Bool) : V → Option Int → Option Int → Hp → VK → Prop := fun x lo hi H Q => ∃ S L dx Qd, StoR c L H S ∧ Rep c L H S dx x ∧ rSlc m dx lo hi S Qd ∧ KQ c L H S Q Qd
theorem sld {m : Bool} : SlR X (liftSl (cX X A) m) := by
  intro pins s σ H x v vl vu lo hi sl Q I rx hs pl pu ⟨S, L, dx, Qd, so, r1, h, kq⟩
  have seq : (∃ a, seqL S dx = some a ∧ mkL m (cutD a lo hi) S Qd) → ∃ T id, typeLookup (.type T) "__getitem__" = pure (some (.builtin id)) ∧ s.TypeIs v T ∧ wpAny (model X.prog X.w) X.A (getItem v (.ref sl)) (EP X pins σ Q) X.xe s := fun ⟨a, e, q⟩ => by
    obtain ⟨p, vs, ev, qs, rs⟩ := seqL_ok so r1 e
    exact sl_list pins s σ H x v vl vu lo hi sl Q I rx hs pl pu ⟨p, vs, ev, qs, mkL_ok q kq so (cut_reps rs lo hi)⟩
  cases dx with
  | str z =>
    unfold Rep at r1
    exact sl_str pins s σ H x v vl vu lo hi sl Q I rx hs pl pu ⟨z, r1.1, r1.2.1, kq _ H _ S .refl so (by unfold Rep; exact ⟨rfl, r1.2.cut lo hi⟩) h⟩
  | tup a =>
    have r1' := r1
    unfold Rep at r1
    obtain ⟨p, vs, ev, f, rs⟩ := r1
    refine sl_tupA pins s σ H x v vl vu lo hi sl Q I rx hs pl pu ⟨p, vs, ev, f.sq, fun ⟨h1, h2⟩ => ?_, fun _ => mkT_ok (show Qd (.tup (cutD a lo hi)) S from h) kq so (cut_reps rs lo hi)⟩
    have h' : Qd (.tup (cutD a lo hi)) S := h
    have e : cutD a lo hi = a := by
      unfold cutD
      rw [← rs.length, h1, h2, Nat.sub_zero, List.drop_zero, rs.length, List.take_length]
    rw [e] at h'
    rw [← ev]
    exact kq _ H _ S .refl so r1' h'
  | _ => exact seq h
/-- a slice's part: left out, or an int -/
def dPart (t : Option DT) (ρ : DSt) (S : Sto) (Q : Option Int → Sto → Prop) (E : DX) : Prop := match t with
  | none => Q none S
  | some t => t ρ S (fun x S1 => ∃ i, x = .int i ∧ Q (some i) S1) E
def KO (c : Cfg) (L : Lk) (H : Hp) (S : Sto) (Q : Option Int → Hp → Prop) (Qd : Option Int → Sto → Prop) : Prop := ∀ o H' S', Ext H S H' S' → StoR c L H' S' → Qd o S' → Q o H'
def liftO (c : Cfg) (W : WX) (t : Option DT) : TO := fun σ H Q => ∃ ρ S L Qd Ed, EnvR c L H S ρ σ ∧ StoR c L H S ∧ dPart t ρ S Qd Ed ∧ KO c L H S Q Qd ∧ KX c L H S (fun n a H' => W n a σ H') Ed
theorem PO.mono {e : Option Expr} {t t' : TO} (h : PO X e t) (m : ∀ σ H Q, t' σ H Q → t σ H Q) : PO X e t' := ⟨fun pins s σ H Q I q => h.run pins s σ H Q I (m σ H Q q)⟩
theorem do_none : PO X none (liftO (cX X A) W none) := PO.mono po_none fun σ H Q ⟨ρ, S, L, Qd, Ed, sl, so, h, ko, kx⟩ => ko none H S .refl so h
theorem do_some {e : Expr} {t : DT} (he : DE X A W e t) : PO X (some e) (liftO (cX X A) W (some t)) := PO.mono (po_some he) fun σ H Q ⟨ρ, S, L, Qd, Ed, sl, so, h, ko, kx⟩ =>
  ⟨ρ, S, L, _, Ed, sl, so, h, fun v H1 d S1 e1 so1 r1 ⟨i, ei, q1⟩ => by
    subst ei
    unfold Rep at r1
    exact ⟨i, r1, ko (some i) H1 S1 e1 so1 q1⟩, kx⟩
def dSlc (m : Bool) (t : DT) (lo hi : Option DT) : DT := fun ρ S Q E => t ρ S (fun x S1 => dPart lo ρ S1 (fun i S2 => dPart hi ρ S2 (fun j S3 => rSlc m x i j S3 Q) E) E) E
theorem de_slc {m : Bool} {e : Expr} {lo hi : Option Expr} {pos p2 : Pos} {t : DT} {tl th : Option DT} (he : DE X A W e t) (hl : PO X lo (liftO (cX X A) W tl)) (hh : PO X hi (liftO (cX X A) W th)) : DE X A W (.Subscript e (.Slice lo hi none p2) pos) (dSlc m t tl th) :=
  PE.mono (pe_slice (sld (m := m)) he hl hh) fun σ H Q ⟨ρ, S, L, Qd, Ed, sl, so, h, kq, kx⟩ =>
    ⟨ρ, S, L, _, Ed, sl, so, h, fun v H1 d S1 e1 so1 r1 q1 => ⟨ρ, S1, L, _, Ed, sl.ext e1, so1, q1, fun i H2 S2 e2 so2 q2 => ⟨ρ, S2, L, _, Ed, sl.ext (e1.trans e2), so2, q2, fun j H3 S3 e3 so3 q3 =>
      ⟨S3, L, d, Qd, so3, r1.ext (e2.trans e3), q3, kq.ext ((e1.trans e2).trans e3)⟩, kx.ext (e1.trans e2)⟩, kx.ext e1⟩, kx⟩
end
end DL

namespace DL
open PySem PySem.Spec PyProof.Rows L2

section
variable {X : Cx} {A : Cla} {W : WX} {pins : List (Addr × Obj)} {σ : L2.St} {H : Hp} {s : Shared}
/-! ### built-in functions by values -/
def lenD (S : Sto) : D → Option Nat
  | .str z => some z.length
  | x => (seqA S x).map List.length
def rLen : DRA := fun ds S Q _ => ∃ x n, ds = [x] ∧ lenD S x = some n ∧ Q (.int (n : Nat)) S
theorem reps1 {c : Cfg} {L : Lk} {S : Sto} {d : D} {vs : List V} (r : Reps c L H S [d] vs) : ∃ v, vs = [v] ∧ Rep c L H S d v := by
  obtain ⟨v, ws, e, r1, rs⟩ := r.of_cons
  rw [rs.of_nil] at e
  exact ⟨v, e, r1⟩
theorem reps2 {c : Cfg} {L : Lk} {S : Sto} {d e : D} {vs : List V} (r : Reps c L H S [d, e] vs) : ∃ v w, vs = [v, w] ∧ Rep c L H S d v ∧ Rep c L H S e w := by
  obtain ⟨v, ws, ev, r1, rs⟩ := r.of_cons
  obtain ⟨w, ew, r2⟩ := reps1 rs
  exact ⟨v, w, by rw [ev, ew], r1, r2⟩
theorem cd_len : CallD X A (.builtin "len") rLen := by
  intro pins s σ H xs us Q I r ⟨S, L, ds, Qd, so, rs, ⟨x, n, ed, e, h⟩, kq⟩
  subst ed
  obtain ⟨v, ev, r1⟩ := reps1 rs
  subst ev
  have it : ∀ n : Int, Qd (.int n) S → Q (.int n) H := fun n q => kq _ H _ S .refl so (by unfold Rep; rfl) q
  have seq : (seqA S x).map List.length = some n → wpAny (model X.prog X.w) X.A (call (.builtin "len") us) (EP X pins σ Q) X.xe s := fun e => by
    cases e1 : seqA S x with
    | none => rw [e1] at e; cases e
    | some ys =>
      rw [e1] at e
      cases e
      obtain ⟨p, vs, ev, qs, rv⟩ := seqA_ok so r1 e1
      subst ev
      exact call_len_seq pins s σ H _ us Q I r ⟨p, vs, rfl, qs, by rw [rv.length]; exact it _ h⟩
  cases x with
  | str z =>
    cases e
    unfold Rep at r1
    obtain ⟨e, z1⟩ := r1
    subst e
    exact call_len_str pins s σ H _ us Q I r ⟨z, rfl, z1.1, it _ h⟩
  | _ => exact seq e
def rAbs : DRA := fun ds S Q _ => ∃ i, ds = [.int i] ∧ Q (.int (if i < 0 then -i else i)) S
theorem cd_abs : CallD X A (.builtin "abs") rAbs := by
  intro pins s σ H xs us Q I r ⟨S, L, ds, Qd, so, rs, ⟨i, ed, h⟩, kq⟩
  subst ed
  obtain ⟨v, ev, r1⟩ := reps1 rs
  unfold Rep at r1
  subst ev r1
  exact call_abs pins s σ H _ us Q I r ⟨i, rfl, kq _ H _ S .refl so (by unfold Rep; rfl) h⟩
def rMax : DRA := fun ds S Q _ => ∃ i j, ds = [.int i, .int j] ∧ Q (.int (if j > i then j else i)) S
def rMin : DRA := fun ds S Q _ => ∃ i j, ds = [.int i, .int j] ∧ Q (.int (if j < i then j else i)) S
theorem cd_max (hc : X.calm = true) : CallD X A (.builtin "max") rMax := by
  intro pins s σ H xs us Q I r ⟨S, L, ds, Qd, so, rs, ⟨i, j, ed, h⟩, kq⟩
  subst ed
  obtain ⟨v, w, ev, r1, r2⟩ := reps2 rs
  unfold Rep at r1 r2
  subst ev r1 r2
  exact call_max2 hc pins s σ H _ us Q I r ⟨i, j, rfl, kq _ H _ S .refl so (by unfold Rep; rfl) h⟩
theorem cd_min (hc : X.calm = true) : CallD X A (.builtin "min") rMin := by
  intro pins s σ H xs us Q I r ⟨S, L, ds, Qd, so, rs, ⟨i, j, ed, h⟩, kq⟩
  subst ed
  obtain ⟨v, w, ev, r1, r2⟩ := reps2 rs
  unfold Rep at r1 r2
  subst ev r1 r2
  exact call_min2 hc pins s σ H _ us Q I r ⟨i, j, rfl, kq _ H _ S .refl so (by unfold Rep; rfl) h⟩
def intD : D → Option Int
  | .int i => some i
  | .bl b => some (if b then 1 else 0)
  | .str z => if z.length ≤ 640 then PySem.intText? z else none
  | _ => none
def rInt : DRA := fun ds S Q _ => ∃ x n, ds = [x] ∧ intD x = some n ∧ Q (.int n) S
theorem cd_int : CallD X A (.type "int") rInt := by
  intro pins s σ H xs us Q I r ⟨S, L, ds, Qd, so, rs, ⟨x, n, ed, e, h⟩, kq⟩
  subst ed
  obtain ⟨v, ev, r1⟩ := reps1 rs
  subst ev
  have it : Q (.int n) H := kq _ H _ S .refl so (by unfold Rep; rfl) h
  cases x with
  | int i =>
    cases e
    unfold Rep at r1
    subst r1
    exact call_int1 pins s σ H _ us Q I r (.inl ⟨_, rfl, it⟩)
  | bl b =>
    cases e
    unfold Rep at r1
    subst r1
    exact call_int1 pins s σ H _ us Q I r (.inr ⟨b, rfl, it⟩)
  | str z =>
    unfold Rep at r1
    obtain ⟨r1, _⟩ := r1
    subst r1
    have e : (if z.length ≤ 640 then PySem.intText? z else none) = some n := e
    by_cases hz : z.length ≤ 640
    · rw [if_pos hz] at e
      exact call_int_str pins s σ H _ us Q I r ⟨z, n, rfl, e, hz, it⟩
    · rw [if_neg hz] at e
      cases e
  | _ => cases e
/-- all, any of a list of truths; sum of ints -/
def rAllD : DRA := fun ds S Q _ => ∃ (x : D) (bs : List Bool), ds = [x] ∧ seqL S x = some (bs.map D.bl) ∧ Q (.bl (bs.all id)) S
def rAnyD : DRA := fun ds S Q _ => ∃ (x : D) (bs : List Bool), ds = [x] ∧ seqL S x = some (bs.map D.bl) ∧ Q (.bl (bs.any id)) S
def rSumD : DRA := fun ds S Q _ => ∃ (x : D) (ns : List Int), ds = [x] ∧ seqL S x = some (ns.map D.int) ∧ Q (.int ns.sum) S
theorem reps_bl {c : Cfg} {L : Lk} {S : Sto} : ∀ {bs : List Bool} {vs : List V}, Reps c L H S (bs.map D.bl) vs → vs = bs.map V.bl
  | [], vs, r => r.of_nil
  | b :: bs, vs, r => by
    obtain ⟨v, ws, e, r1, rs⟩ := r.of_cons
    unfold Rep at r1
    rw [e, r1, reps_bl rs]
    rfl
theorem reps_int {c : Cfg} {L : Lk} {S : Sto} : ∀ {bs : List Int} {vs : List V}, Reps c L H S (bs.map D.int) vs → vs = bs.map V.int
  | [], vs, r => r.of_nil
  | b :: bs, vs, r => by
    obtain ⟨v, ws, e, r1, rs⟩ := r.of_cons
    unfold Rep at r1
    rw [e, r1, reps_int rs]
    rfl
theorem reps_str {c : Cfg} {L : Lk} {S : Sto} : ∀ {bs : List Str} {vs : List V}, Reps c L H S (bs.map D.str) vs → vs = bs.map V.str ∧ ∀ b ∈ bs, SOk b
  | [], vs, r => ⟨r.of_nil, fun _ h => nomatch h⟩
  | b :: bs, vs, r => by
    obtain ⟨v, ws, e, r1, rs⟩ := r.of_cons
    unfold Rep at r1
    obtain ⟨e2, k⟩ := reps_str rs
    refine ⟨by rw [e, r1.1, e2]; rfl, fun x hx => ?_⟩
    rcases List.mem_cons.mp hx with h | h
    · rw [h]; exact r1.2
    · exact k x h
theorem cd_all (hc : X.calm = true) : CallD X A (.builtin "all") rAllD := by
  intro pins s σ H xs us Q I r ⟨S, L, ds, Qd, so, rs, ⟨x, bs, ed, e, h⟩, kq⟩
  subst ed
  obtain ⟨v, ev, r1⟩ := reps1 rs
  obtain ⟨p, vs, ep, qs, rv⟩ := seqL_ok so r1 e
  subst ev ep
  exact cr_all hc pins s σ H _ us Q I r ⟨p, bs, rfl, by rw [← reps_bl rv]; exact qs, kq _ H _ S .refl so (by unfold Rep; rfl) h⟩
theorem cd_any (hc : X.calm = true) : CallD X A (.builtin "any") rAnyD := by
  intro pins s σ H xs us Q I r ⟨S, L, ds, Qd, so, rs, ⟨x, bs, ed, e, h⟩, kq⟩
  subst ed
  obtain ⟨v, ev, r1⟩ := reps1 rs
  obtain ⟨p, vs, ep, qs, rv⟩ := seqL_ok so r1 e
  subst ev ep
  exact cr_any hc pins s σ H _ us Q I r ⟨p, bs, rfl, by rw [← reps_bl rv]; exact qs, kq _ H _ S .refl so (by unfold Rep; rfl) h⟩
theorem cd_sum (hc : X.calm = true) : CallD X A (.builtin "sum") rSumD := by
  intro pins s σ H xs us Q I r ⟨S, L, ds, Qd, so, rs, ⟨x, bs, ed, e, h⟩, kq⟩
  subst ed
  obtain ⟨v, ev, r1⟩ := reps1 rs
  obtain ⟨p, vs, ep, qs, rv⟩ := seqL_ok so r1 e
  subst ev ep
  exact cr_sum hc pins s σ H _ us Q I r ⟨p, bs, rfl, by rw [← reps_int rv]; exact qs, kq _ H _ S .refl so (by unfold Rep; rfl) h⟩
/-- list(x), tuple(x) -/
def rListD (m : Bool) : DRA := fun ds S Q _ => ∃ x xs, ds = [x] ∧ seqA S x = some xs ∧ mkL m xs S Q
def rTupD : DRA := fun ds S Q _ => ∃ x xs, ds = [x] ∧ seqA S x = some xs ∧ Q (.tup xs) S
theorem cd_list {m : Bool} : CallD X A (.type "list") (rListD m) := by
  intro pins s σ H xs us Q I r ⟨S, L, ds, Qd, so, rs, ⟨x, ys, ed, e, h⟩, kq⟩
  subst ed
  obtain ⟨v, ev, r1⟩ := reps1 rs
  obtain ⟨p, vs, ep, qs, rv⟩ := seqA_ok so r1 e
  subst ev ep
  exact call_list_of pins s σ H _ us Q I r ⟨p, vs, rfl, qs, mkL_ok h kq so rv⟩
theorem cd_tup : CallD X A (.type "tuple") rTupD := by
  intro pins s σ H xs us Q I r ⟨S, L, ds, Qd, so, rs, ⟨x, ys, ed, e, h⟩, kq⟩
  subst ed
  obtain ⟨v, ev, r1⟩ := reps1 rs
  cases x with
  | tup zs =>
    cases e
    have r2 := r1
    unfold Rep at r1
    obtain ⟨p, vs, ep, f, rv⟩ := r1
    subst ev
    subst ep
    exact call_tuple_of pins s σ H _ us Q I r ⟨p, vs, rfl, .inr ⟨f.sq, kq _ H _ S .refl so r2 h⟩⟩
  | lst zs =>
    obtain ⟨p, vs, ep, qs, rv⟩ := seqL_ok so r1 (show seqL S (.lst zs) = some ys from e)
    subst ev
    subst ep
    exact call_tuple_of pins s σ H _ us Q I r ⟨p, vs, rfl, .inl ⟨qs, mkT_ok h kq so rv⟩⟩
  | cst zs =>
    obtain ⟨p, vs, ep, qs, rv⟩ := seqL_ok so r1 (show seqL S (.cst zs) = some ys from e)
    subst ev
    subst ep
    exact call_tuple_of pins s σ H _ us Q I r ⟨p, vs, rfl, .inl ⟨qs, mkT_ok h kq so rv⟩⟩
  | ref q =>
    obtain ⟨p, vs, ep, qs, rv⟩ := seqL_ok so r1 (show seqL S (.ref q) = some ys from e)
    subst ev
    subst ep
    exact call_tuple_of pins s σ H _ us Q I r ⟨p, vs, rfl, .inl ⟨qs, mkT_ok h kq so rv⟩⟩
  | _ => cases e
/-- None, True, False, a text -/
def isSc : D → Bool
  | .non => true
  | .bl _ => true
  | .str _ => true
  | _ => false
/-- repr(x), x data with a list or a tuple above -/
def rReprD : DRA := fun ds S Q _ => ∃ x, ds = [x] ∧ ((∃ i : Int, x = .int i ∧ i.natAbs.log2 < 1920 ∧ (PyData.shown (.int i)).length ≤ sizeLine ∧ Q (.rp (.int i)) S) ∨
  (∃ xs, seqA S x = some xs ∧ (view S x).dat 16 = true ∧ (view S x).p.showable = true ∧ (view S x).p.shown.length ≤ sizeLine ∧ Q (.rp (view S x).p) S) ∨
  (isSc x = true ∧ x.p.shown.length ≤ sizeLine ∧ Q (.rp x.p) S))
theorem noDict {n : Nat} {d : PyData} (h : d.canLay0 = true) : d.hasDict = false := PyData.hasDict_of_canLay d h
theorem cd_repr {k : Nat} (m : Rm k X.A) : CallD X A (.builtin "repr") rReprD := by
  intro pins s σ H xs us Q I r ⟨S, L, ds, Qd, so, rs, ⟨x, ed, h⟩, kq⟩
  subst ed
  obtain ⟨v, ev, r1⟩ := reps1 rs
  subst ev
  rcases h with ⟨i, ex, h0, hz, h⟩ | ⟨ys, e, h1, h2, h3, h⟩ | ⟨sc, hz, h⟩
  · subst ex
    unfold Rep at r1
    subst r1
    exact SkE.call_repr_int pins s σ H _ us Q I r ⟨i, rfl, h0, kq _ H _ S .refl so (by unfold Rep; refine ⟨by unfold PyData.shown; rfl, ?_⟩; exact hz) h⟩
  · have a := view_dp so r1 h1 (by decide)
    obtain ⟨p, vs, ep, qs, rv⟩ := seqA_ok so r1 e
    subst ep
    obtain ⟨u, eu, ru⟩ : ∃ u, us = [u] ∧ RelV (.ref p) u := by
      cases r with
      | cons r rr =>
        cases rr
        exact ⟨_, rfl, r⟩
    subst eu
    obtain rfl : u = Value.ref p := ru
    obtain ⟨as, ra⟩ := Dp.reads I _ _ (Value.ref p) a.1 (show RelV (.ref p) (Value.ref p) from rfl)
    have hu := m.r.un
    have hd : (view S x).p.depth ≤ 64 := SeqAt.depth_of_shaped a.2
    have hl := SeqAt.canLay_of_shaped a.2
    have nd := PyData.hasDict_of_canLay _ hl
    exact repr_of_reads' ra h2 (fun z => by rw [nd] at z; cases z) m.g (by omega) (fun _ _ z => z) (fun h' u tk kp => ⟨.str (view S x).p.shown, H, I.kept (t' := tk) kp, ⟨u, rfl⟩, kq _ H _ S .refl so (by unfold Rep; exact ⟨rfl, h3⟩) h⟩) h3
  · have fin : ∀ (z : Str) (tk : Tok), z = x.p.shown → EP X pins σ Q (.str z tk) { s with toks := s.toks + 1 } := fun z tk ez =>
      ⟨.str x.p.shown, H, I.tok _, ⟨tk, by rw [ez]⟩, kq _ H _ S .refl so (by unfold Rep; exact ⟨rfl, hz⟩) h⟩
    cases r with
    | cons r rr =>
      cases rr
      cases x with
      | non =>
        unfold Rep at r1
        subst r1
        cases (show _ = Value.none from r)
        exact PySem.P.repr_of_none (fin _ _ rfl)
      | bl b =>
        unfold Rep at r1
        subst r1
        cases (show _ = Value.bool b from r)
        exact PySem.P.repr_of_bool (fin _ _ (by cases b <;> rfl))
      | str z =>
        unfold Rep at r1
        obtain ⟨e1, _⟩ := r1
        subst e1
        obtain ⟨t, et⟩ := r
        subst et
        exact PySem.P.repr_of_str (fin _ _ rfl) hz
      | _ => cases sc
end
end DL

namespace DL
open PySem PySem.Spec PyProof.Rows L2

/-! ### isinstance -/
def tyN (S : Sto) : D → Option Ty
  | .non => some .non
  | .bl _ => some .bl
  | .int _ => some .int
  | .str _ => some .str
  | .rp _ => some .str
  | .tup _ => some .tup
  | .lst _ => some .lst
  | .cst _ => some .lst
  | .ins C _ => some (.own C)
  | .ref p => match S p with
    | some (.lst _) => some .lst
    | some (.ins C _) => some (.own C)
    | none => none
  | .ty _ => none
def Ty.val (cA : Nat → Addr) : Ty → Value
  | .own C => .ref (cA C)
  | t => .type t.name
/-- the answers of isinstance: by the type and the class -/
abbrev Isi := List ((Ty × Ty) × Bool)
/-- what a class of one's own must have that its instances may be asked for their class -/
structure ClsOk (K : PySem.W.Frag) (C : Addr) : Prop where
  cl : Cls K C
  ha : PySem.W.findIn K (.ref C) "__class__" = some (some (.builtin "object.__class__"))
  hn : PySem.W.specialIn K (.builtin "object.__class__") "__get__" = some (some (.builtin "getset_descriptor.__get__"))
  htk : PySem.W.takesIn K (.builtin "object.__class__") = some true
  hm : PySem.W.mroIn K C (.type "object") = some true
theorem tyN_ok {c : Cfg} {L : Lk} {H : Hp} {S : Sto} {d : D} {v : V} {t : Ty} (so : StoR c L H S) (r : Rep c L H S d v) (h : tyN S d = some t) (hc : ∀ C, t = .own C → ClsOk c.K (c.cA C)) : TyX c.K H v (t.val c.cA) := by
  have lk : ∀ {p : Addr} {vs : List V}, SqL c.K hp0 p vs → TyX c.K H (.ref p) (.type "list") := fun {p vs} q => by
    rcases q with (q | ⟨o, q⟩) | ⟨o, its, n, e, h1, _⟩
    · cases q
    · cases q
    · exact .kList e h1
  have tk : ∀ {p : Addr} {vs : List V}, SqT c.K hp0 p vs → TyX c.K H (.ref p) (.type "tuple") := fun {p vs} q => by
    rcases q with (q | ⟨o, q⟩) | ⟨o, its, n, e, h1, _⟩
    · cases q
    · cases q
    · exact .kTuple e h1
  have own : ∀ {p dx : Addr} {fs : List (Str × V)} {C : Nat}, ClsOk c.K (c.cA C) → H p = some (.ins (c.cA C) dx fs) → TyX c.K H (.ref p) (.ref (c.cA C)) := fun {p dx fs C} k e => .base (.ins e k.cl k.ha k.hn k.htk k.hm)
  cases d with
  | non => cases h; unfold Rep at r; subst r; exact .base .non
  | bl b => cases h; unfold Rep at r; subst r; exact .base (.bl b)
  | int b => cases h; unfold Rep at r; subst r; exact .base (.int b)
  | str b => cases h; unfold Rep at r; obtain ⟨r, _⟩ := r; subst r; exact .base (.str b)
  | rp b => cases h; unfold Rep at r; obtain ⟨r, _⟩ := r; subst r; exact .base (.str _)
  | ty b => cases h
  | tup xs =>
    cases h
    unfold Rep at r
    obtain ⟨p, vs, ev, f, rs⟩ := r
    subst ev
    rcases f with ⟨f | ⟨o, f⟩, _⟩ | f
    · exact .base (.tup f)
    · exact .fTuple f
    · exact tk f
  | lst xs =>
    cases h
    unfold Rep at r
    obtain ⟨p, vs, ev, f, _⟩ := r
    subst ev
    exact .base (.lst f)
  | cst xs =>
    cases h
    unfold Rep at r
    obtain ⟨p, vs, ev, f, rs⟩ := r
    subst ev
    rcases f with ⟨f | ⟨o, f⟩, _⟩ | f
    · exact .base (.lst f)
    · exact .base (.frz f)
    · exact lk f
  | ins C xs =>
    cases h
    unfold Rep at r
    obtain ⟨p, dx, vs, ev, f, _⟩ := r
    subst ev
    exact own (hc C rfl) f
  | ref p =>
    unfold Rep at r
    subst r
    have e : tyN S (.ref p) = (match S p with | some (.lst _) => some .lst | some (.ins C _) => some (.own C) | none => none) := rfl
    rw [e] at h
    cases s : S p with
    | none => rw [s] at h; cases h
    | some o =>
      rw [s] at h
      cases o with
      | lst xs =>
        cases h
        obtain ⟨⟨vs, hp, rs⟩, _⟩ := so.at_ p _ s
        exact .base (.lst hp)
      | ins C xs =>
        cases h
        obtain ⟨⟨dx, vs, hp, rs⟩, _⟩ := so.at_ p _ s
        exact own (hc C rfl) hp
/-- the table holds -/
structure IsiOk (c : Cfg) (T : Isi) : Prop where
  ans : ∀ a b r, T.lookup (a, b) = some r → PySem.W.kitOne c.K (a.val c.cA) (b.val c.cA) = some r
  own : ∀ C b r, T.lookup (.own C, b) = some r → ClsOk c.K (c.cA C)
def rIsiD (T : Isi) : DRA := fun ds S Q _ => ∃ x t b a r, ds = [x, .ty b] ∧ t = b ∧ tyN S x = some a ∧ T.lookup (a, b) = some r ∧ Q (.bl r) S
/-- a tuple of classes -/
def isiAny (T : Isi) (a : Ty) : List Ty → Option Bool
  | [] => some false
  | b :: bs => match T.lookup (a, b) with
    | some true => some true
    | some false => isiAny T a bs
    | none => none
def rIsiTD (T : Isi) : DRA := fun ds S Q _ => ∃ x bs a r, ds = [x, .tup (bs.map D.ty)] ∧ tyN S x = some a ∧ isiAny T a bs = some r ∧ Q (.bl r) S
section
variable {X : Cx} {A : Cla} {W : WX} {pins : List (Addr × Obj)} {σ : L2.St} {H : Hp} {s : Shared} {T : Isi}
theorem cls_v {cA : Nat → Addr} : ∀ b : Ty, ClsV (b.v cA) (b.val cA)
  | .own C => .own _
  | .non => .ty _
  | .bl => .ty _
  | .int => .ty _
  | .str => .ty _
  | .tup => .ty _
  | .lst => .ty _
  | .dct => .ty _
theorem cd_isi (k : IsiOk (cX X A) T) : CallD X A (.builtin "isinstance") (rIsiD T) := by
  intro pins s σ H xs us Q I r ⟨S, L, ds, Qd, so, rs, ⟨x, t, b, a, q, ed, _, ea, eq, h⟩, kq⟩
  subst ed
  obtain ⟨v, w, ev, r1, r2⟩ := reps2 rs
  unfold Rep at r2
  subst ev r2
  exact call_isi pins s σ H _ us Q I r ⟨v, _, _, _, q, rfl, cls_v b, tyN_ok so r1 ea (fun C e => by subst e; exact k.own C b q eq), k.ans a b q eq, kq _ H _ S .refl so (by unfold Rep; rfl) h⟩
theorem kit_any (k : IsiOk (cX X A) T) {a : Ty} : ∀ (bs : List Ty) (r : Bool), isiAny T a bs = some r → PySem.W.kitAny X.K (a.val A.cA) (bs.map fun b => b.val A.cA) = some r
  | [], r, h => by cases h; rfl
  | b :: bs, r, h => by
    unfold isiAny at h
    cases e : T.lookup (a, b) with
    | none => rw [e] at h; cases h
    | some q =>
      rw [e] at h
      refine kitAny_cons (k.ans a b q e) (fun hq => ?_) (fun hq => ?_)
      · subst hq
        exact kit_any k bs r h
      · subst hq
        cases h
        rfl
theorem isi_own (k : IsiOk (cX X A) T) {C : Nat} : ∀ (bs : List Ty) (r : Bool), bs ≠ [] → isiAny T (.own C) bs = some r → ClsOk X.K (A.cA C)
  | [], r, n, h => absurd rfl n
  | b :: bs, r, n, h => by
    unfold isiAny at h
    cases e : T.lookup (.own C, b) with
    | none => rw [e] at h; cases h
    | some q => exact k.own C b q e
theorem paired_cls {cA : Nat → Addr} : ∀ bs : List Ty, Paired ClsV (bs.map fun b => b.v cA) (bs.map fun b => b.val cA)
  | [] => .nil
  | b :: bs => .cons (cls_v b) (paired_cls bs)
theorem reps_ty {c : Cfg} {L : Lk} {S : Sto} : ∀ {bs : List Ty} {vs : List V}, Reps c L H S (bs.map D.ty) vs → vs = bs.map fun b => b.v c.cA
  | [], vs, r => r.of_nil
  | b :: bs, vs, r => by
    obtain ⟨v, ws, e, r1, rs⟩ := r.of_cons
    unfold Rep at r1
    rw [e, r1, reps_ty rs]
    rfl

/-! ### what is walked -/
def rngD (lo : Int) (n : Nat) : List D := (List.range n).map fun i => D.int (lo + (i : Nat))
theorem rngD_len (lo : Int) (n : Nat) : (rngD lo n).length = n := by unfold rngD; simp
theorem itd_range {c : Cfg} {L : Lk} {G : Sto → Prop} {S : Sto} {lo : Int} {n : Nat} : ItD c L G H S (Itr lo n) (rngD lo n) := by
  intro L' H' S' _ _ so _
  refine ⟨fun i d e => ?_, fun i hi => ?_⟩
  · have hi : i < n := by
      have := (List.getElem?_eq_some_iff.mp e).1
      rwa [rngD_len] at this
    have ed : d = D.int (lo + (i : Nat)) := by
      unfold rngD at e
      rw [List.getElem?_map, List.getElem?_range hi] at e
      cases e
      rfl
    subst ed
    refine ⟨hi, ?_⟩
    rintro x H'' ⟨eH, ex⟩
    subst eH ex
    exact ⟨.refl, so, by unfold Rep; rfl⟩
  · rw [rngD_len] at hi
    exact hi
def iRng1D (t : DTA) : DTI := fun ρ S R E => t ρ S (fun ds S1 => ∃ j, ds = [.int j] ∧ -(2 ^ 62) ≤ j ∧ j < 2 ^ 62 ∧ R (rngD 0 j.toNat) noG S1) E
def iRng2D (t : DTA) : DTI := fun ρ S R E => t ρ S (fun ds S1 => ∃ i j, ds = [.int i, .int j] ∧ (-(2 ^ 62) ≤ i ∧ i < 2 ^ 62 ∧ -(2 ^ 62) ≤ j ∧ j < 2 ^ 62) ∧ R (rngD i (j - i).toNat) noG S1) E
theorem di_rng1 {tg a : Expr} {p pos : Pos} {t : DTA} (hg : Gl X "range") (hm : X.mg "range" = none) (ha : DA X A W [a] t) (hs : starEach [a] X.env = [(false, eval a X.env)]) :
    DItr X A W tg (.Call (.Name "range" p) [a] [] pos) (iRng1D t) :=
  PI.mono (pi_range1 hg hm ha hs) fun σ H R ⟨ρ, S, L, Rd, Ed, sl, so, h, ki, kx⟩ =>
    ⟨ρ, S, L, _, Ed, sl, so, h, fun vs H1 ds S1 e1 so1 r1 ⟨j, ed, h1, h2, q⟩ => by
      subst ed
      obtain ⟨v, ev, rv⟩ := reps1 r1
      unfold Rep at rv
      subst ev rv
      exact ⟨j, rfl, h1, h2, ki _ H1 _ noG S1 e1 so1 itd_range q⟩, kx⟩
theorem di_rng2 {tg a b : Expr} {p pos : Pos} {t : DTA} (hg : Gl X "range") (hm : X.mg "range" = none) (ha : DA X A W [a, b] t) (hs : starEach [a, b] X.env = [(false, eval a X.env), (false, eval b X.env)]) (hs2 : starEach [b] X.env = [(false, eval b X.env)]) :
    DItr X A W tg (.Call (.Name "range" p) [a, b] [] pos) (iRng2D t) :=
  PI.mono (pi_range2 hg hm ha hs hs2) fun σ H R ⟨ρ, S, L, Rd, Ed, sl, so, h, ki, kx⟩ =>
    ⟨ρ, S, L, _, Ed, sl, so, h, fun vs H1 ds S1 e1 so1 r1 ⟨i, j, ed, hb, q⟩ => by
      subst ed
      obtain ⟨v, w, ev, rv, rw'⟩ := reps2 r1
      unfold Rep at rv rw'
      subst ev rv rw'
      exact ⟨i, j, rfl, hb, ki _ H1 _ noG S1 e1 so1 itd_range q⟩, kx⟩
/-- a list, a tuple, a text -/
def seqI (S : Sto) : D → Option (List D × (Sto → Prop))
  | .str z => some (z.cps.toList.map chD, noG)
  | .tup xs => some (xs, noG)
  | .lst xs => some (xs, noG)
  | .cst xs => some (xs, noG)
  | .ref p => match S p with
    | some (.lst xs) => some (xs, fun S' => S' p = some (.lst xs))
    | _ => none
  | _ => none
def iSeqD (t : DT) : DTI := fun ρ S R E => t ρ S (fun x S1 => ∃ ds G, seqI S1 x = some (ds, G) ∧ R ds G S1) E
theorem itd_list {c : Cfg} {L : Lk} {G : Sto → Prop} {S : Sto} {p : Addr} {ds : List D}
    (h : ∀ (L' : Lk) H' S', (∀ q, L' q → L q ∨ H q = none) → Ext H S H' S' → StoR c L' H' S' → G S' → ∃ vs, SqL c.K H' p vs ∧ Reps c L' H' S' ds vs) (K0 : PySem.W.Frag) (eK : K0 = c.K) : ItD c L G H S (Itl K0 p) ds := by
  subst eK
  intro L' H' S' hl e so g
  obtain ⟨vs, q, rs⟩ := h L' H' S' hl e so g
  refine ⟨fun i d ed => ?_, fun i hi => ⟨vs, q, by rw [rs.length]; exact hi⟩⟩
  obtain ⟨v, ev, rv⟩ := rs.get ed
  refine ⟨⟨vs, v, q, ev⟩, ?_⟩
  rintro x H'' ⟨eH, ex⟩
  subst eH
  have := ex vs q
  rw [ev] at this
  cases this
  exact ⟨.refl, so, rv⟩
theorem itd_tup {c : Cfg} {L : Lk} {G : Sto → Prop} {S : Sto} {p : Addr} {ds : List D}
    (h : ∀ (L' : Lk) H' S', (∀ q, L' q → L q ∨ H q = none) → Ext H S H' S' → StoR c L' H' S' → G S' → ∃ vs, SqT c.K H' p vs ∧ Reps c L' H' S' ds vs) (K0 : PySem.W.Frag) (eK : K0 = c.K) : ItD c L G H S (Itt K0 p) ds := by
  subst eK
  intro L' H' S' hl e so g
  obtain ⟨vs, q, rs⟩ := h L' H' S' hl e so g
  refine ⟨fun i d ed => ?_, fun i hi => ⟨vs, q, by rw [rs.length]; exact hi⟩⟩
  obtain ⟨v, ev, rv⟩ := rs.get ed
  refine ⟨⟨vs, v, q, ev⟩, ?_⟩
  rintro x H'' ⟨eH, ex⟩
  subst eH
  have := ex vs q
  rw [ev] at this
  cases this
  exact ⟨.refl, so, rv⟩
theorem itd_str {c : Cfg} {L : Lk} {G : Sto → Prop} {S : Sto} {z : Str} (hz : SOk z) : ItD c L G H S (Its z) (z.cps.toList.map chD) := by
  intro L' H' S' hl e so g
  have len : z.cps.toList.length = z.cps.size := by simp
  refine ⟨fun i d ed => ?_, fun i hi => ?_⟩
  · rw [List.getElem?_map] at ed
    cases q : z.cps.toList[i]? with
    | none => rw [q] at ed; cases ed
    | some k =>
      rw [q] at ed
      cases ed
      have hi := (List.getElem?_eq_some_iff.mp q).1
      refine ⟨by show i < z.cps.size; omega, ?_⟩
      rintro x H'' ⟨eH, k', ek, ex⟩
      subst eH ex
      have e2 : z.cps.toList[i]? = some k' := by simpa using ek
      rw [q] at e2
      cases e2
      exact ⟨.refl, so, by unfold chD Rep; exact ⟨rfl, hz.ch (List.mem_of_getElem? q)⟩⟩
  · show z.cps.size ≤ i
    rw [List.length_map, len] at hi
    exact hi
/-- an iterable that is a list, a tuple or a text -/
theorem pi_any {tg e : Expr} {te : TE} (he : PE X e te) : PI X tg e (fun σ H R => te σ H fun x H1 => (∃ a, x = .ref a ∧ (∃ xs, SqL X.K H1 a xs) ∧ R (Itl X.K a) H1) ∨ (∃ a, x = .ref a ∧ (∃ xs, SqT X.K H1 a xs) ∧ R (Itt X.K a) H1) ∨ ∃ z, x = .str z ∧ R (Its z) H1) := by
  refine ⟨fun pins s σ H R I h => thn (he.run pins s σ H _ I h) fun v s1 ⟨x, H1, I1, r1, q⟩ => ?_⟩
  rcases q with ⟨a, ex, ⟨xs, hq⟩, q⟩ | ⟨a, ex, ⟨xs, hq⟩, q⟩ | ⟨z, ex, q⟩
  · subst ex
    cases r1
    obtain ⟨its, rv, p, hz⟩ := I1.list hq
    exact wpAny_pyIter_list p.isList (pi_one (tk := s1.toks) I1 _ (turn_list a _) ⟨_, Heap.get?_push_size _ rfl, rfl, rfl⟩ q)
  · subst ex
    cases r1
    obtain ⟨its, rv, p, hz⟩ := I1.tuple hq
    exact wpAny_pyIter_tuple (items := its.toArray) p (pi_one (tk := s1.toks) I1 _ (turn_tuple a _) ⟨_, Heap.get?_push_size _ rfl, rfl, rfl⟩ q)
  · subst ex
    obtain ⟨t, et⟩ := r1
    subst et
    cases hw : z.cps.all (· < 128) with
    | false => exact wpAny_pyIter_wide hw (pi_one (tk := s1.toks) I1 _ (turn_str _ z t "str_iterator" (.inr rfl)) ⟨_, Heap.get?_push_size _ rfl, rfl, rfl⟩ q)
    | true => exact wpAny_pyIter_ascii hw (pi_one (tk := s1.toks) I1 _ (turn_str _ z t "str_ascii_iterator" (.inl rfl)) ⟨_, Heap.get?_push_size _ rfl, rfl, rfl⟩ q)
theorem di_seq {tg e : Expr} {t : DT} (he : DE X A W e t) : DItr X A W tg e (iSeqD t) :=
  PI.mono (pi_any he) fun σ H R ⟨ρ, S, L, Rd, Ed, sl, so, h, ki, kx⟩ => by
      refine ⟨ρ, S, L, _, Ed, sl, so, h, ?_, kx⟩
      rintro v H1 d S1 e1 so1 r1 ⟨ds, G, es, q⟩
      cases d with
      | str z =>
        cases es
        unfold Rep at r1
        exact .inr (.inr ⟨z, r1.1, ki _ H1 _ noG S1 e1 so1 (itd_str r1.2) q⟩)
      | tup xs =>
        cases es
        have r2 := r1
        unfold Rep at r1
        obtain ⟨p, vs, ev, f, rs⟩ := r1
        refine .inr (.inl ⟨p, ev, ⟨vs, f.sq⟩, ki _ H1 _ noG S1 e1 so1 (itd_tup (fun L' H' S' hl x so' _ => ?_) X.K rfl) q⟩)
        exact ⟨vs, ((f.lock hl).ext x).sq, (rs.lock hl).ext x⟩
      | lst xs =>
        cases es
        unfold Rep at r1
        obtain ⟨p, vs, ev, f, ⟨fs, fl⟩, rs⟩ := r1
        refine .inl ⟨p, ev, ⟨vs, SqL.of f⟩, ki _ H1 _ noG S1 e1 so1 (itd_list (fun L' H' S' hl x so' _ => ?_) X.K rfl) q⟩
        exact ⟨vs, SqL.of (x p _ f fs).1, (rs.lock hl).ext x⟩
      | cst xs =>
        cases es
        unfold Rep at r1
        obtain ⟨p, vs, ev, f, rs⟩ := r1
        refine .inl ⟨p, ev, ⟨vs, f.sq⟩, ki _ H1 _ noG S1 e1 so1 (itd_list (fun L' H' S' hl x so' _ => ?_) X.K rfl) q⟩
        exact ⟨vs, ((f.lock hl).ext x).sq, (rs.lock hl).ext x⟩
      | ref p =>
        have es' : (match S1 p with | some (.lst xs) => some (xs, fun S' => S' p = some (.lst xs)) | _ => none) = some (ds, G) := es
        unfold Rep at r1
        cases sp : S1 p with
        | none => rw [sp] at es'; cases es'
        | some o =>
          rw [sp] at es'
          cases o with
          | ins C xs => cases es'
          | lst xs =>
            cases es'
            obtain ⟨⟨vs, hp, rs⟩, _⟩ := so1.at_ p _ sp
            refine .inl ⟨p, r1, ⟨vs, SqL.of hp⟩, ki _ H1 _ _ S1 e1 so1 (itd_list (fun L' H' S' hl x so' g => ?_) X.K rfl) q⟩
            obtain ⟨⟨ws, hw, rw'⟩, _⟩ := so'.at_ p _ g
            exact ⟨ws, SqL.of hw, rw'⟩
      | _ => cases es
end
end DL

namespace DL
open PySem PySem.Spec PyProof.Rows L2

/-! ### enumerate over a tuple -/
section
variable {prog : Program} {w : World} {A : Around} {E : Value → Shared → Prop} {s : Shared}
theorem enum_new1 {v : Value} {o : Obj} {G : Heap → Prop} (B : Begins v o G) : Meets (Builtin.«enumerate.__new__» ⟨[.type "enumerate", v], []⟩)
    (fun _ R s => G s.heap ∧ R (.ok (.ret (.ref (s.heap.push o).objs.size)))
      { s with heap := (s.heap.push o).push { cls := .type "enumerate", data := .fields #[.none, .bool false, .ref s.heap.objs.size, rawInt 0, .none, .none] } }) :=
  .of_wp fun prog w A R s h => by
    obtain ⟨hp, g, d, tk, os⟩ := s
    obtain ⟨h1, h⟩ := h
    have hsub := sub_enumerate
    have goIter : ∀ {A' : Around} {E : Value → Shared → Prop} {Q : Value → Shared → Prop}, Q (.ref hp.objs.size) ⟨hp.push o, g, d, tk, os⟩ → wpAny (model prog w) A' (pyIter v) Q E ⟨hp, g, d, tk, os⟩ :=
      fun q => B.iter prog w _ _ ⟨hp, g, d, tk, os⟩ _ h1 q
    wp_walk using goIter
    refine wpAny_stack_any fun st => wpAny_pure ?_
    split
    · rename_i c _ _ _ _ _
      cases (c == Value.type "enumerate") <;> (wp_walk using goIter; exact ⟨_, rfl, h⟩)
    · wp_walk using goIter
      exact ⟨_, rfl, h⟩
theorem call_enum1 {v : Value} {o : Obj} {G : Heap → Prop} {Q : Value → Shared → Prop} (B : Begins v o G) (h1 : G s.heap)
    (h : ∀ h', IsEnum h' (s.heap.objs.size + 1) s.heap.objs.size 0 .none → h'.get? s.heap.objs.size = some o → (∀ b x, s.heap.get? b = some x → h'.get? b = some x) → Q (.ref (s.heap.objs.size + 1)) { s with heap := h' }) :
    wpAny (model prog w) A (call (.type "enumerate") [v]) Q E s := by
  refine callType_new F.called_enumerate (by decide) (F.typeCall_enumerate_1 _) (F.newCall_enumerate_1 _) (fun obj => F.args_object_init_2 obj _) F.entry_enumerate_new (enum_new1 B) ⟨h1, ?_⟩
  have sz : (s.heap.push o).objs.size = s.heap.objs.size + 1 := Heap.size_push ..
  have en : IsEnum ((s.heap.push o).push { cls := .type "enumerate", data := .fields #[.none, .bool false, .ref s.heap.objs.size, rawInt 0, .none, .none] }) (s.heap.objs.size + 1) s.heap.objs.size 0 .none := by
    have q := Heap.get?_push_size (s.heap.push o) (o := { cls := .type "enumerate", data := .fields #[.none, .bool false, .ref s.heap.objs.size, rawInt 0, .none, .none] }) rfl
    rw [sz] at q
    exact q
  show _ ∧ _
  rw [sz]
  exact ⟨⟨_, en, rfl⟩, h _ en (Heap.get?_push_of_some _ (Heap.get?_push_size _ B.free)) fun b x q => Heap.get?_push_of_some _ (Heap.get?_push_of_some _ q)⟩
end
/-- the tuple at a, each item in a new pair -/
def IteT (K : PySem.W.Frag) (a : Addr) : It where
  go i H := ∃ (xs : List V) (x : V), SqT K H a xs ∧ xs[i]? = some x
  yld i H v H' := ∃ T x, v = .ref T ∧ H T = none ∧ H' = upd H T (.tup [.int (i : Nat), x]) ∧ ∀ xs, SqT K H a xs → xs[i]? = some x
  stop i H := ∃ xs : List V, SqT K H a xs ∧ xs.length ≤ i
theorem turn_enumT {P : Program} {w : World} {K : PySem.W.Frag} {elts : List Expr} {kk : Nat} {tpos : Pos} (a e it : Addr) :
    Turn P w K (.Tuple elts kk tpos) (IteT K a) [e, it] e (fun i h => (∃ old, IsEnum h e it ((i : Nat) : Int) old) ∧ h.IsTupleIter it a i ∧ e ≠ it ∧ e ≠ a ∧ a ≠ it) where
  mem := by simp
  obj := fun i h st b hb => by
    obtain ⟨⟨old, he⟩, ⟨o, ho, hc, hd⟩, _⟩ := st
    rcases List.mem_cons.mp hb with z | z
    · rw [z]
      exact ⟨_, he, fun v q => nomatch q⟩
    · rw [List.mem_singleton.mp z]
      exact ⟨o, ho, fun v q => by rw [hd] at q; cases q⟩
  keep := fun i h h' st k => by
    obtain ⟨⟨old, he⟩, hi, r⟩ := st
    exact ⟨⟨old, k e (by simp) _ he⟩, hi.at fun o q => k it (by simp) o q, r⟩
  item := by
    intro X hP hw hK hc i pins s σ H E I hf st hg
    subst hP hw hK
    obtain ⟨⟨old, he⟩, hit, n1, n2, n3⟩ := st
    obtain ⟨xs, x, hq, hx⟩ := hg
    obtain ⟨its, rv, p, hz⟩ := I.tuple hq
    obtain ⟨u, hu, ru⟩ := rv.get hx
    have hil : i < its.toArray.size := by
      have := (List.getElem?_eq_some_iff.mp hu).1
      simpa using this
    have hel : e < s.heap.objs.size := Heap.lt_size he
    have hitl : it < s.heap.objs.size := by
      obtain ⟨_, q, _⟩ := hit
      exact Heap.lt_size q
    refine wpAny_pyNext_enum_itemD (Draws.tuple (A := X.A.in1) (I.ok.hd hc) it a n3 its.toArray) he ⟨hit, p⟩ hil n1 (by simp [n1, n2]) fun y h' tk hy ho hst hT hsz hk => ?_
    have ey : y = u := by
      have h1 : its[i]? = some y := by simpa using hy
      rw [hu] at h1
      exact (Option.some.inj h1).symm
    subst ey
    refine ⟨_, rfl, wpAny_letOwnedTupleGo_enum (s := { s with heap := h', toks := tk + 1 }) ho fun h2 he2 sb => ?_⟩
    have hT2 : h2.get? s.heap.objs.size = some { cls := .type "tuple", data := .seq #[.int i tk, y] } := (sb.2 _ (Nat.ne_of_gt hel)).trans hT
    have new : ObjOk X.prog X.w (upd H s.heap.objs.size (.tup [.int (i : Nat), x])) h2 s.heap.objs.size (.tup [.int (i : Nat), x]) :=
      ⟨by show 2 ≤ sizeLine; decide, [.int i tk, y], .cons ⟨_, rfl⟩ (.cons ru .nil), ⟨_, hT2, rfl, _, rfl⟩⟩
    have kp : ∀ b ob, b ∉ [e, it] → s.heap.get? b = some ob → h2.get? b = some ob := fun b ob hb q =>
      (sb.2 b (fun z => hb (by simp [z]))).trans (hk b ob (fun z => hb (by simp [z])) (fun z => hb (by simp [z])) q)
    have I1 : L2.Inv X pins σ (upd H s.heap.objs.size (.tup [.int (i : Nat), x])) { s with heap := h2, toks := tk + 1 } := I.turnedNew (ch := [e, it]) kp hf (Nat.le_refl _) new
    refine ⟨.ref s.heap.objs.size, _, I1, rfl, ⟨_, x, rfl, I.hok.fresh (Nat.le_refl _), rfl, fun ys hy => by rw [I.tuple_inj hy hq]; exact hx⟩, ⟨⟨y, ?_⟩, hst.1.at fun o q => (sb.2 it (Ne.symm n1)).trans q, n1, n2, n3⟩, fun b hb => ?_⟩
    · rw [show ((i + 1 : Nat) : Int) = (i : Int) + 1 by omega]
      exact he2
    · have hb' : b < s.heap.objs.size := by
        rcases List.mem_cons.mp hb with z | z
        · rw [z]; exact hel
        · rw [List.mem_singleton.mp z]; exact hitl
      rw [upd_ne (Nat.ne_of_lt hb')]
      exact (hf b hb).1
  done := by
    intro X hP hw hK hc i pins s σ H E I hf st hg
    subst hP hw hK
    obtain ⟨⟨old, he⟩, hit, n1, n2, n3⟩ := st
    obtain ⟨xs, hq, hx⟩ := hg
    obtain ⟨its, rv, p, hz⟩ := I.tuple hq
    obtain ⟨f0, f1, f2, f3, f4, f5⟩ := hf it (by simp)
    have hl := rv.length
    have D0 : Draws X.prog X.w X.A.in1 it [it, a] i (fun _ _ => True) (fun j h => j = i ∧ h.IsTupleIter it a j ∧ h.IsTuple a its.toArray) :=
      { live := fun _ _ st => let ⟨_, ⟨o, ho, _⟩, _⟩ := st; ⟨o, ho⟩
        frame := fun _ _ _ st k => ⟨st.1, st.2.1.at fun o q => k it (by simp) o q, st.2.2.at fun o q => k a (by simp) o q⟩
        item := fun j s Q E hj st _ => absurd st.1 (Nat.ne_of_lt hj)
        done := fun s Q E st hE => wpAny_nextOf_tuple_end (I.ok.hd hc) st.2.1 st.2.2 (by simp; omega) hE }
    exact wpAny_pyNext_enum_endD D0 he ⟨rfl, hit, p⟩ fun h' eb => ⟨rfl, I.turned (t' := s.toks) (fun b o hb q => eb b o hb q) f0 f1 f3 f4 f5⟩
  self := fun A i s Q E st h => by
    obtain ⟨⟨_, he⟩, _⟩ := st
    exact wpAny_pyIter_enum he h
/-- enumerate of a list or a tuple -/
theorem pi_enumA {X : Cx} {e : Expr} {ta : TA} {p pos tpos : Pos} {elts : List Expr} {kk : Nat} (hg : Gl X "enumerate") (hm : X.mg "enumerate" = none) (ha : PA X [e] ta) (hs : starEach [e] X.env = [(false, eval e X.env)]) :
    PI X (.Tuple elts kk tpos) (.Call (.Name "enumerate" p) [e] [] pos) (fun σ H R => ta σ H fun vs H1 => ∃ a, vs = [.ref a] ∧ ((∃ xs, SqL X.K H1 a xs ∧ R (Ite X.K a) H1) ∨ ∃ xs, SqT X.K H1 a xs ∧ R (IteT X.K a) H1)) := by
  refine ⟨fun pins s σ H R I h => Call_ (ld_blt I hg hm boot_enumerate (PyProof.Rows.callWith_type1 (thn (ha.run pos pins s σ H _ I h) fun us s1 ⟨vs, H1, I1, r1, a, ex, q⟩ => ?_) hs rfl))⟩
  subst ex
  cases r1 with
  | cons r rr =>
    cases rr
    cases r
    have far : ∀ b ∈ [s1.heap.objs.size + 1, s1.heap.objs.size], s1.heap.objs.size ≤ b := fun b hb => by
      rcases List.mem_cons.mp hb with z | z
      · rw [z]; exact Nat.le_succ _
      · rw [List.mem_singleton.mp z]; exact Nat.le_refl _
    rcases q with ⟨xs, hq, q⟩ | ⟨xs, hq, q⟩
    · obtain ⟨its, rv, pl, hz⟩ := I1.list hq
      refine call_enumerate_list pl.isList fun h' he hit hsz hk => wpAny_pyIter_enum he ⟨s1.heap.objs.size + 1, [s1.heap.objs.size + 1, s1.heap.objs.size], _, _, H1, rfl, I1.kept (t' := s1.toks) hk, turn_enum a (s1.heap.objs.size + 1) s1.heap.objs.size, ⟨⟨.none, he⟩, hit, Nat.succ_ne_self _⟩, fun b hb => I1.fpOk (far b hb) (I1.hok.fresh (far b hb)), q⟩
    · obtain ⟨its, rv, pl, hz⟩ := I1.tuple hq
      have hlt : a < s1.heap.objs.size := pl.lt
      refine call_enum1 (begins_tuple a its.toArray) pl fun h' he hit hk => wpAny_pyIter_enum he ⟨s1.heap.objs.size + 1, [s1.heap.objs.size + 1, s1.heap.objs.size], _, _, H1, rfl, I1.kept (t' := s1.toks) hk, turn_enumT a (s1.heap.objs.size + 1) s1.heap.objs.size,
        ⟨⟨.none, he⟩, ⟨_, hit, rfl, rfl⟩, Nat.succ_ne_self _, Nat.ne_of_gt (Nat.lt_succ_of_lt hlt), Nat.ne_of_lt hlt⟩, fun b hb => I1.fpOk (far b hb) (I1.hok.fresh (far b hb)), q⟩
/-- pairs of index and item -/
def enumL : Nat → List D → List D
  | _, [] => []
  | n, d :: ds => .tup [.int (n : Nat), d] :: enumL (n + 1) ds
theorem enumL_get : ∀ (ds : List D) (n i : Nat) (d : D), (enumL n ds)[i]? = some d → ∃ x, ds[i]? = some x ∧ d = .tup [.int ((n + i : Nat) : Int), x]
  | [], n, i, d, h => by cases i <;> cases h
  | x :: ds, n, 0, d, h => ⟨x, rfl, (Option.some.inj h).symm⟩
  | x :: ds, n, i + 1, d, h => by
    obtain ⟨y, h1, h2⟩ := enumL_get ds (n + 1) i d h
    exact ⟨y, h1, by rw [h2, show n + 1 + i = n + (i + 1) by omega]⟩
theorem enumL_len : ∀ (ds : List D) (n : Nat), (enumL n ds).length = ds.length
  | [], _ => rfl
  | _ :: ds, n => congrArg (· + 1) (enumL_len ds (n + 1))
section
variable {X : Cx} {A : Cla} {W : WX} {pins : List (Addr × Obj)} {σ : L2.St} {H : Hp} {s : Shared}
theorem itd_enumP {c : Cfg} {L : Lk} {G : Sto → Prop} {S : Sto} {ds : List D} {J : It} {SQ : Hp → List V → Prop}
    (h : ∀ (L' : Lk) H' S', (∀ q, L' q → L q ∨ H q = none) → Ext H S H' S' → StoR c L' H' S' → G S' → ∃ vs, SQ H' vs ∧ Reps c L' H' S' ds vs)
    (go : ∀ i H' vs v, SQ H' vs → vs[i]? = some v → J.go i H') (st : ∀ i H' vs, SQ H' vs → vs.length ≤ i → J.stop i H')
    (yl : ∀ i H' v H'' vs, J.yld i H' v H'' → SQ H' vs → ∃ T x, v = .ref T ∧ H' T = none ∧ H'' = upd H' T (.tup [.int (i : Nat), x]) ∧ vs[i]? = some x) : ItD c L G H S J (enumL 0 ds) := by
  intro L' H' S' hl e so g
  obtain ⟨vs, q, rs⟩ := h L' H' S' hl e so g
  refine ⟨fun i d ed => ?_, fun i hi => st i H' vs q (by rw [rs.length, ← enumL_len ds 0]; exact hi)⟩
  obtain ⟨x, ex, dx⟩ := enumL_get ds 0 i d ed
  subst dx
  obtain ⟨v, ev, rv⟩ := rs.get ex
  refine ⟨go i H' vs v q ev, fun u H'' y => ?_⟩
  obtain ⟨T, w, eu, nT, eH, ew⟩ := yl i H' u H'' vs y q
  rw [ev] at ew
  cases ew
  subst eu eH
  have fr := so.free nT
  have xt : Ext H' S' (upd H' T (.tup [.int (i : Nat), v])) S' := Ext.upd nT
  refine ⟨xt, so.upd nT, ?_⟩
  unfold Rep
  refine ⟨T, _, rfl, .inl ⟨.inl upd_same, fr.1, fr.2⟩, .cons ?_ (.cons (rv.ext xt) .nil)⟩
  unfold Rep
  rw [Nat.zero_add]
def iEnumD (t : DTA) : DTI := fun ρ S R E => t ρ S (fun ds S1 => ∃ x ys G, ds = [x] ∧ seqI S1 x = some (ys, G) ∧ (match x with | .str _ => False | _ => True) ∧ R (enumL 0 ys) G S1) E
theorem di_enum {e : Expr} {p pos tpos : Pos} {elts : List Expr} {kk : Nat} {t : DTA} (hg : Gl X "enumerate") (hm : X.mg "enumerate" = none) (ha : DA X A W [e] t) (hs : starEach [e] X.env = [(false, eval e X.env)]) :
    DItr X A W (.Tuple elts kk tpos) (.Call (.Name "enumerate" p) [e] [] pos) (iEnumD t) :=
  PI.mono (pi_enumA hg hm ha hs) fun σ H R ⟨ρ, S, L, Rd, Ed, sl, so, h, ki, kx⟩ => by
    refine ⟨ρ, S, L, _, Ed, sl, so, h, ?_, kx⟩
    rintro vs H1 ds S1 e1 so1 r1 ⟨x, ys, G, ed, es, nstr, q⟩
    subst ed
    obtain ⟨v, ev, rx⟩ := reps1 r1
    subst ev
    have lst : ∀ p, v = .ref p → (∀ (L' : Lk) H' S', (∀ q, L' q → L q ∨ H1 q = none) → Ext H1 S1 H' S' → StoR (cX X A) L' H' S' → G S' → ∃ vs, SqL X.K H' p vs ∧ Reps (cX X A) L' H' S' ys vs) → (∃ vs, SqL X.K H1 p vs) →
        ∃ a, [v] = [V.ref a] ∧ ((∃ xs, SqL X.K H1 a xs ∧ R (Ite X.K a) H1) ∨ ∃ xs, SqT X.K H1 a xs ∧ R (IteT X.K a) H1) := fun p ev hh ⟨ws, hw⟩ =>
      ⟨p, by rw [ev], .inl ⟨ws, hw, ki _ H1 _ G S1 e1 so1 (itd_enumP (SQ := fun H' vs => SqL X.K H' p vs) hh (fun i H' vs v q e => ⟨vs, v, q, e⟩) (fun i H' vs q e => ⟨vs, q, e⟩) fun i H' v H'' vs ⟨T, x, a, b, c, d⟩ q => ⟨T, x, a, b, c, d vs q⟩) q⟩⟩
    have tup : ∀ p, v = .ref p → (∀ (L' : Lk) H' S', (∀ q, L' q → L q ∨ H1 q = none) → Ext H1 S1 H' S' → StoR (cX X A) L' H' S' → G S' → ∃ vs, SqT X.K H' p vs ∧ Reps (cX X A) L' H' S' ys vs) → (∃ vs, SqT X.K H1 p vs) →
        ∃ a, [v] = [V.ref a] ∧ ((∃ xs, SqL X.K H1 a xs ∧ R (Ite X.K a) H1) ∨ ∃ xs, SqT X.K H1 a xs ∧ R (IteT X.K a) H1) := fun p ev hh ⟨ws, hw⟩ =>
      ⟨p, by rw [ev], .inr ⟨ws, hw, ki _ H1 _ G S1 e1 so1 (itd_enumP (SQ := fun H' vs => SqT X.K H' p vs) hh (fun i H' vs v q e => ⟨vs, v, q, e⟩) (fun i H' vs q e => ⟨vs, q, e⟩) fun i H' v H'' vs ⟨T, x, a, b, c, d⟩ q => ⟨T, x, a, b, c, d vs q⟩) q⟩⟩
    cases x with
    | str z => exact nstr.elim
    | tup xs =>
      cases es
      unfold Rep at rx
      obtain ⟨p, ws, ev, f, rs⟩ := rx
      exact tup p ev (fun L' H' S' hl x so' _ => ⟨ws, ((f.lock hl).ext x).sq, (rs.lock hl).ext x⟩) ⟨ws, f.sq⟩
    | lst xs =>
      cases es
      unfold Rep at rx
      obtain ⟨p, ws, ev, f, ⟨fs, fl⟩, rs⟩ := rx
      exact lst p ev (fun L' H' S' hl x so' _ => ⟨ws, SqL.of (x p _ f fs).1, (rs.lock hl).ext x⟩) ⟨ws, SqL.of f⟩
    | cst xs =>
      cases es
      unfold Rep at rx
      obtain ⟨p, ws, ev, f, rs⟩ := rx
      exact lst p ev (fun L' H' S' hl x so' _ => ⟨ws, ((f.lock hl).ext x).sq, (rs.lock hl).ext x⟩) ⟨ws, f.sq⟩
    | ref p =>
      have es' : (match S1 p with | some (.lst xs) => some (xs, fun S' => S' p = some (.lst xs)) | _ => none) = some (ys, G) := es
      unfold Rep at rx
      cases sp : S1 p with
      | none => rw [sp] at es'; cases es'
      | some o =>
        rw [sp] at es'
        cases o with
        | ins C xs => cases es'
        | lst xs =>
          cases es'
          obtain ⟨⟨ws, hp, rs⟩, _⟩ := so1.at_ p _ sp
          exact lst p rx (fun L' H' S' hl x so' g => by
            obtain ⟨⟨us, hw, rw'⟩, _⟩ := so'.at_ p _ g
            exact ⟨us, SqL.of hw, rw'⟩) ⟨ws, SqL.of hp⟩
    | _ => cases es
end
end DL

namespace DL
open PySem PySem.Spec PyProof.Rows L2

/-! ### fewer tracked -/
section
variable {c : Cfg} {L : Lk} {H H1 : Hp} {S S1 : Sto}
theorem FT.fewer (h : ∀ p, S p = none → S1 p = none) {p : Addr} {vs : List V} : FT c L H S p vs → FT c L H S1 p vs
  | .inr z => .inr z
  | .inl ⟨a, b, d⟩ => .inl ⟨a, h _ b, d⟩
theorem FL.fewer (h : ∀ p, S p = none → S1 p = none) {p : Addr} {vs : List V} : FL c L H S p vs → FL c L H S1 p vs
  | .inr z => .inr z
  | .inl ⟨a, b, d⟩ => .inl ⟨a, h _ b, d⟩
mutual
theorem Rep.fewer (h : ∀ p, S p = none → S1 p = none) : ∀ (d : D) (v : V), Rep c L H S d v → Rep c L H S1 d v
  | .non, v, r => by unfold Rep at r ⊢; exact r
  | .bl b, v, r => by unfold Rep at r ⊢; exact r
  | .int i, v, r => by unfold Rep at r ⊢; exact r
  | .str x, v, r => by unfold Rep at r ⊢; exact r
  | .ref a, v, r => by unfold Rep at r ⊢; exact r
  | .rp p, v, r => by unfold Rep at r ⊢; exact r
  | .ty n, v, r => by unfold Rep at r ⊢; exact r
  | .tup ds, v, r => by
    unfold Rep at r ⊢
    obtain ⟨p, vs, ev, f, rs⟩ := r
    exact ⟨p, vs, ev, f.fewer h, Reps.fewer h ds vs rs⟩
  | .lst ds, v, r => by
    unfold Rep at r ⊢
    obtain ⟨p, vs, ev, f, ⟨s, l⟩, rs⟩ := r
    exact ⟨p, vs, ev, f, ⟨h _ s, l⟩, Reps.fewer h ds vs rs⟩
  | .cst ds, v, r => by
    unfold Rep at r ⊢
    obtain ⟨p, vs, ev, f, rs⟩ := r
    exact ⟨p, vs, ev, f.fewer h, Reps.fewer h ds vs rs⟩
  | .ins C ds, v, r => by
    unfold Rep at r ⊢
    obtain ⟨p, dx, vs, ev, f, ⟨s, l⟩, rs⟩ := r
    exact ⟨p, dx, vs, ev, f, ⟨h _ s, l⟩, Reps.fewer h ds vs rs⟩
theorem Reps.fewer (h : ∀ p, S p = none → S1 p = none) : ∀ (ds : List D) (vs : List V), Reps c L H S ds vs → Reps c L H S1 ds vs
  | [], vs, r => by unfold Reps at r ⊢; exact r
  | d :: ds, vs, r => by
    unfold Reps at r ⊢
    obtain ⟨v, ws, ev, r1, rs⟩ := r
    exact ⟨v, ws, ev, Rep.fewer h d v r1, Reps.fewer h ds ws rs⟩
end
theorem Sto.del_some {p q : Addr} {o : MO} (h : S.del p q = some o) : S q = some o ∧ q ≠ p := by
  unfold Sto.del at h
  by_cases e : q = p
  · rw [if_pos e] at h; cases h
  · rw [if_neg e] at h; exact ⟨h, e⟩
theorem Sto.del_same {p : Addr} : S.del p p = none := if_pos rfl
theorem Sto.del_none {p q : Addr} (h : S q = none) : S.del p q = none := by
  unfold Sto.del
  by_cases e : q = p
  · rw [if_pos e]
  · rw [if_neg e]; exact h
theorem Sto.del_set {p : Addr} {o : MO} (h : S p = none) : (S.set p o).del p = S := by
  funext q
  unfold Sto.del Sto.set
  by_cases e : q = p
  · rw [if_pos e, e, h]
  · rw [if_neg e, if_neg e]
theorem StoR.del (R : StoR c L H S) (p : Addr) : StoR c L H (S.del p) where
  at_ := fun q o t => by
    obtain ⟨t, _⟩ := Sto.del_some t
    obtain ⟨m, n⟩ := R.at_ q o t
    refine ⟨?_, n⟩
    cases o with
    | lst ds =>
      obtain ⟨vs, hp, r⟩ := m
      exact ⟨vs, hp, r.fewer fun _ => Sto.del_none⟩
    | ins C ds =>
      obtain ⟨dx, vs, hp, r⟩ := m
      exact ⟨dx, vs, hp, r.fewer fun _ => Sto.del_none⟩
  lk := R.lk
theorem Ext.del {p : Addr} (e : Ext H S H1 S1) : Ext H S H1 (S1.del p) := fun q o a b => ⟨(e q o a b).1, Sto.del_none (e q o a b).2⟩
theorem XRep.fewer (h : ∀ p, S p = none → S1 p = none) {n : Nat} {a : Option Addr} {ds : List D} : XRep c L H S n a ds → XRep c L H S1 n a ds
  | .inl z => .inl z
  | .inr ⟨p, vs, ea, hp, ⟨s, l⟩, r⟩ => .inr ⟨p, vs, ea, hp, ⟨h _ s, l⟩, r.fewer h⟩
/-- an object that may change is let stand -/
def freezeD (p : Addr) : MO → D
  | .lst xs => .lst xs
  | .ins C xs => .ins C xs
theorem StoR.frz {p : Addr} {o : MO} (R : StoR c L H S) (h : S p = some o) : Rep c L H (S.del p) (freezeD p o) (.ref p) := by
  obtain ⟨m, n⟩ := R.at_ p o h
  cases o with
  | lst xs =>
    obtain ⟨vs, hp, r⟩ := m
    show Rep c L H (S.del p) (.lst xs) (.ref p)
    unfold Rep
    exact ⟨p, vs, rfl, hp, ⟨Sto.del_same, n⟩, r.fewer fun _ => Sto.del_none⟩
  | ins C xs =>
    obtain ⟨dx, vs, hp, r⟩ := m
    show Rep c L H (S.del p) (.ins C xs) (.ref p)
    unfold Rep
    exact ⟨p, dx, vs, rfl, hp, ⟨Sto.del_same, n⟩, r.fewer fun _ => Sto.del_none⟩
end
/-- from here on it does not change -/
def dFrz (t : DT) : DT := fun ρ S Q E => t ρ S (fun d S1 => ∃ p o, d = .ref p ∧ S1 p = some o ∧ Q (freezeD p o) (S1.del p)) E
section
variable {X : Cx} {A : Cla} {W : WX} {e o value : Expr} {es : List Expr} {pos pos' apos : Pos} {t u : DT} {ta : DTA} {f : Str}
theorem de_frz (h : DE X A W e t) : DE X A W e (dFrz t) :=
  PE.mono h fun σ H Q ⟨ρ, S, L, Qd, Ed, sl, so, h, kq, kx⟩ => ⟨ρ, S, L, _, Ed, sl, so, h, fun v H1 d S1 e1 so1 r1 ⟨p, o, ed, hs, q⟩ => by
    subst ed
    unfold Rep at r1
    subst r1
    exact kq _ H1 _ _ e1.del (so1.del p) (so1.frz hs) q, kx⟩

/-! ### attributes -/
def insOf (S : Sto) : D → Option (Nat × List D)
  | .ins C xs => some (C, xs)
  | .ref p => match S p with
    | some (.ins C xs) => some (C, xs)
    | _ => none
  | _ => none
theorem insOf_ok {c : Cfg} {L : Lk} {H : Hp} {S : Sto} {d : D} {v : V} {C : Nat} {xs : List D} (so : StoR c L H S) (r : Rep c L H S d v) (h : insOf S d = some (C, xs)) :
    ∃ p dx vs, v = .ref p ∧ H p = some (.ins (c.cA C) dx ((c.fl C).zip vs)) ∧ Reps c L H S xs vs := by
  cases d with
  | ins C' ys =>
    cases h
    unfold Rep at r
    obtain ⟨p, dx, vs, ev, hp, _, rs⟩ := r
    exact ⟨p, dx, vs, ev, hp, rs⟩
  | ref p =>
    have h : (match S p with | some (.ins C xs) => some (C, xs) | _ => none) = some (C, xs) := h
    unfold Rep at r
    cases s : S p with
    | none => rw [s] at h; cases h
    | some o =>
      rw [s] at h
      cases o with
      | lst xs => cases h
      | ins C' ys =>
        cases h
        obtain ⟨⟨dx, vs, hp, rs⟩, _⟩ := so.at_ p _ s
        exact ⟨p, dx, vs, r, hp, rs⟩
  | _ => cases h
theorem lookup_reps {c : Cfg} {L : Lk} {H : Hp} {S : Sto} {x : Str} {d : D} : ∀ {fs : List Str} {xs : List D} {vs : List V}, Reps c L H S xs vs → (fs.zip xs).lookup x = some d → ∃ v, (fs.zip vs).lookup x = some v ∧ Rep c L H S d v ∧ x ∈ fs
  | [], _, _, _, h => by cases h
  | f :: fs, [], _, _, h => by cases h
  | f :: fs, y :: ys, vs, r, h => by
    obtain ⟨v, ws, ev, r1, rs⟩ := r.of_cons
    subst ev
    rw [List.zip_cons_cons, List.lookup_cons] at h ⊢
    cases e : x == f with
    | true =>
      rw [e] at h
      cases h
      exact ⟨v, rfl, r1, by rw [eq_of_beq e]; exact List.mem_cons_self ..⟩
    | false =>
      rw [e] at h
      obtain ⟨w, a, b, m⟩ := lookup_reps rs h
      exact ⟨w, a, b, List.mem_cons_of_mem _ m⟩
/-- what is asked of the classes that have a field x -/
def FldOk (K : PySem.W.Frag) (A : Cla) (x : Str) : Prop := ∀ C, x ∈ A.fl C → Cls K (A.cA C) ∧ NoAttr K (A.cA C) x
def dFld (fl : Nat → List Str) (f : Str) (t : DT) : DT := fun ρ S Q E => t ρ S (fun d S1 => ∃ C xs y, insOf S1 d = some (C, xs) ∧ ((fl C).zip xs).lookup f = some y ∧ Q y S1) E
theorem de_fld (hf : FldOk X.K A f) (h : DE X A W e t) (hb : attributeBase e f X.env (eval e X.env) = eval e X.env) : DE X A W (.Attribute e f pos) (dFld A.fl f t) :=
  PE.mono (pe_fld h hb) fun σ H Q ⟨ρ, S, L, Qd, Ed, sl, so, h, kq, kx⟩ => ⟨ρ, S, L, _, Ed, sl, so, h, fun v H1 d S1 e1 so1 r1 ⟨C, xs, y, hi, hl, q⟩ => by
    obtain ⟨p, dx, vs, ev, hp, rs⟩ := insOf_ok so1 r1 hi
    obtain ⟨w, hw, rw', hm⟩ := lookup_reps rs hl
    obtain ⟨c1, n1⟩ := hf C hm
    exact ⟨p, _, dx, _, w, ev, hp, c1, n1, hw, kq _ H1 _ S1 e1 so1 rw' q⟩, kx⟩
/-- a field is written or added -/
def fput {α : Type} (x : Str) (y : α) : List Str → List α → Option (List α)
  | [], _ => none
  | f :: _, [] => if f = x then some [y] else none
  | f :: fs, z :: zs => if f = x then some (y :: zs) else (fput x y fs zs).map (z :: ·)
theorem fput_reps {c : Cfg} {L : Lk} {H : Hp} {S : Sto} {x : Str} {d : D} {v : V} (rv : Rep c L H S d v) : ∀ {fs : List Str} {xs ys : List D} {vs : List V}, Reps c L H S xs vs → fput x d fs xs = some ys →
    ∃ ws, putF x v (fs.zip vs) = fs.zip ws ∧ Reps c L H S ys ws ∧ x ∈ fs
  | [], _, _, _, _, h => by unfold fput at h; cases h
  | f :: fs, [], ys, vs, r, h => by
    unfold fput at h
    by_cases e : f = x
    · rw [if_pos e] at h
      cases h
      rw [r.of_nil]
      refine ⟨[v], ?_, .cons rv .nil, by rw [e]; exact List.mem_cons_self ..⟩
      rw [List.zip_nil_right, List.zip_cons_cons, List.zip_nil_right]
      show [(x, v)] = [(f, v)]
      rw [e]
    · rw [if_neg e] at h; cases h
  | f :: fs, z :: zs, ys, vs, r, h => by
    obtain ⟨w, ws, ev, r1, rs⟩ := r.of_cons
    subst ev
    unfold fput at h
    by_cases e : f = x
    · rw [if_pos e] at h
      cases h
      refine ⟨v :: ws, ?_, .cons rv rs, by rw [e]; exact List.mem_cons_self ..⟩
      show (if f = x then (f, v) :: fs.zip ws else (f, w) :: putF x v (fs.zip ws)) = (f, v) :: fs.zip ws
      rw [if_pos e]
    · rw [if_neg e] at h
      cases q : fput x d fs zs with
      | none => rw [q] at h; cases h
      | some qs =>
        rw [q] at h
        cases h
        obtain ⟨us, a, b, m⟩ := fput_reps rv rs q
        refine ⟨w :: us, ?_, .cons r1 b, List.mem_cons_of_mem _ m⟩
        show (if f = x then (f, v) :: fs.zip ws else (f, w) :: putF x v (fs.zip ws)) = (f, w) :: fs.zip us
        rw [if_neg e, a]
def sFldD (fl : Nat → List Str) (f : Str) (to tv : DT) : DTS := fun D ρ S => tv ρ S (fun y S1 => to ρ S1 (fun d S2 => ∃ p C xs xs', d = .ref p ∧ S2 p = some (.ins C xs) ∧ fput f y (fl C) xs = some xs' ∧ D.nx ρ (S2.set p (.ins C xs'))) (D.xx ρ)) (D.xx ρ)
theorem ds_fld (hf : FldOk X.K A f) (hsm : ∀ C, (A.fl C).length < 1000) (ho : DE X A W o t) (hv : DE X A W value u) (hs : swapsWith value (some (.Attribute o f pos')) pos.line X.env = pure false) : DStm X A W (.Assign [.Attribute o f pos'] value pos) (sFldD A.fl f t u) :=
  PS.mono (ps_fld ho hv hs) fun D σ H ⟨ρ, S, L, DD, sl, so, h, k⟩ => by
    refine ⟨ρ, S, L, _, _, sl, so, h, fun v H1 y S1 e1 so1 r1 q1 => ⟨ρ, S1, L, _, _, sl.ext e1, so1, q1, fun ov H2 d S2 e2 so2 r2 ⟨p, C, xs, xs', ed, hs, hp, q2⟩ => ?_, (k.xx.at_ sl).ext e1⟩, k.xx.at_ sl⟩
    subst ed
    unfold Rep at r2
    obtain ⟨⟨dx, vs, hh, rs⟩, _⟩ := so2.at_ p _ hs
    obtain ⟨ws, ew, rw', hm⟩ := fput_reps (r1.ext e2) rs hp
    obtain ⟨c1, n1⟩ := hf C hm
    refine ⟨p, _, dx, _, r2, hh, c1, n1, ?_, ?_⟩
    · exact Nat.lt_of_le_of_lt (by rw [List.length_zip]; exact Nat.min_le_left ..) (hsm C)
    · rw [ew]
      have x : Ext H2 S2 (upd H2 p (.ins (A.cA C) dx ((A.fl C).zip ws))) (S2.set p (.ins C xs')) := Ext.write hs
      exact k.nx σ _ ρ _ ((e1.trans e2).trans x) (so2.write hs ⟨dx, ws, upd_same, rw'.ext x⟩) (sl.ext ((e1.trans e2).trans x)) q2

/-! ### items of lists that may change -/
def gSubD (to ti : DT) : DTG := fun v ρ S Q E => to ρ S (fun d S1 => ti ρ S1 (fun i S2 => ∃ p xs k j, d = .ref p ∧ i = .int k ∧ S2 p = some (.lst xs) ∧ ixN xs.length k = some j ∧ Q ρ (S2.set p (.lst (xs.set j v)))) E) E
theorem dg_sub {i : Expr} (ho : DE X A W o t) (hi : DE X A W i u) (ha : ∀ v, assign (.Subscript o i pos) X.env v = (do
      let ov ← holding [v] (eval o X.env)
      let iv ← holding [v, ov] (eval i X.env)
      standAt pos
      holding [v, ov, iv] (setItem ov iv v)
      release [v, ov, iv] []) := by intro _; rfl) : DTgt X A W (.Subscript o i pos) (gSubD t u) :=
  PG.mono (pg_sub ho hi set_list ha) fun v σ H Q ⟨ρ, S, L, d, Qd, Ed, sl, so, r, h, kp, kx⟩ => by
    refine ⟨ρ, S, L, _, Ed, sl, so, h, fun ov H1 dd S1 e1 so1 r1 q1 => ⟨ρ, S1, L, _, Ed, sl.ext e1, so1, q1, fun iv H2 di S2 e2 so2 r2 ⟨p, xs, k, j, ed, ei, hs, hj, q2⟩ => ?_, kx.ext e1⟩, kx⟩
    subst ed ei
    unfold Rep at r1 r2
    obtain ⟨⟨vs, hh, rs⟩, _⟩ := so2.at_ p _ hs
    have rd := r.ext (e1.trans e2)
    refine ⟨p, vs, k, j, r1, r2, hh, by rw [rs.length]; exact hj, ?_⟩
    have x : Ext H2 S2 (upd H2 p (.lst (vs.set j v))) (S2.set p (.lst (xs.set j d))) := Ext.write hs
    exact kp σ _ ρ _ ((e1.trans e2).trans x) (so2.write hs ⟨_, upd_same, (rs.set rd j).ext x⟩) (sl.ext ((e1.trans e2).trans x)) q2

/-! ### methods of lists that may change -/
abbrev DMt := D → List D → Sto → DQ → Prop
def liftM (c : Cfg) (R : DMt) : V → List V → Hp → VK → Prop := fun x xs H Q => ∃ S L dx ds Qd, StoR c L H S ∧ Rep c L H S dx x ∧ Reps c L H S ds xs ∧ R dx ds S Qd ∧ KQ c L H S Q Qd
theorem MtR.mono {id : String} {r r' : V → List V → Hp → VK → Prop} (h : MtR X id r) (m : ∀ x xs H Q, r' x xs H Q → r x xs H Q) : MtR X id r' := fun pins s σ H x xs v us Q I rx rs q => h pins s σ H x xs v us Q I rx rs (m _ _ _ _ q)
abbrev MtD (X : Cx) (A : Cla) (id : String) (R : DMt) : Prop := MtR X id (liftM (cX X A) R)
def mAppend : DMt := fun x ds S Q => ∃ p xs y, x = .ref p ∧ ds = [y] ∧ S p = some (.lst xs) ∧ xs.length < sizeLine ∧ Q .non (S.set p (.lst (xs ++ [y])))
theorem md_append : MtD X A "list.append" mAppend := MtR.mono mt_append fun x xs H Q ⟨S, L, dx, ds, Qd, so, r, rs, ⟨p, ys, y, ex, ed, hs, hz, q⟩, kq⟩ => by
  subst ex ed
  unfold Rep at r
  obtain ⟨w, ew, r1⟩ := reps1 rs
  obtain ⟨⟨vs, hh, rv⟩, _⟩ := so.at_ p _ hs
  refine ⟨p, vs, w, r, ew, hh, by rw [rv.length]; exact hz, ?_⟩
  have x : Ext H S (upd H p (.lst (vs ++ [w]))) (S.set p (.lst (ys ++ [y]))) := Ext.write hs
  exact kq _ _ _ _ x (so.write hs ⟨_, upd_same, (rv.append (.cons r1 .nil)).ext x⟩) (by unfold Rep; rfl) q
def mPopAt : DMt := fun x ds S Q => ∃ p xs i k y, x = .ref p ∧ ds = [.int i] ∧ S p = some (.lst xs) ∧ -(2 ^ 63) ≤ i ∧ i < 2 ^ 63 ∧ seqIndex? i xs.length = some k ∧ xs[k]? = some y ∧ Q y (S.set p (.lst (xs.eraseIdx k)))
theorem Reps.eraseIdx {c : Cfg} {L : Lk} {H : Hp} {S : Sto} : ∀ {ds : List D} {vs : List V} (k : Nat), Reps c L H S ds vs → Reps c L H S (ds.eraseIdx k) (vs.eraseIdx k)
  | [], vs, k, r => by rw [r.of_nil]; exact .nil
  | d :: ds, vs, k, r => by
    obtain ⟨v, ws, ev, r1, rs⟩ := r.of_cons
    subst ev
    cases k with
    | zero => exact rs
    | succ k => exact .cons r1 (Reps.eraseIdx k rs)
theorem md_popAt : MtD X A "list.pop" mPopAt := MtR.mono mt_popAt fun x xs H Q ⟨S, L, dx, ds, Qd, so, r, rs, ⟨p, ys, i, k, y, ex, ed, hs, h1, h2, hk, hy, q⟩, kq⟩ => by
  subst ex ed
  unfold Rep at r
  obtain ⟨w, ew, r1⟩ := reps1 rs
  unfold Rep at r1
  subst r1 ew
  obtain ⟨⟨vs, hh, rv⟩, _⟩ := so.at_ p _ hs
  obtain ⟨z, hz, rz⟩ := rv.get hy
  refine ⟨p, vs, i, k, z, r, rfl, hh, h1, h2, by rw [rv.length]; exact hk, hz, ?_⟩
  have x : Ext H S (upd H p (.lst (vs.eraseIdx k))) (S.set p (.lst (ys.eraseIdx k))) := Ext.write hs
  exact kq _ _ _ _ x (so.write hs ⟨_, upd_same, (rv.eraseIdx k).ext x⟩) (rz.ext x) q
def dMt (R : DMt) (t : DT) (u : DTA) : DT := fun ρ S Q E => t ρ S (fun x S1 => (∃ p xs, x = .ref p ∧ S1 p = some (.lst xs)) ∧ u ρ S1 (fun ds S2 => R x ds S2 Q) E) E
theorem de_bm {id : String} {name : Str} {R : DMt} (slot : Slot "list" name id) (hty : typeOf (.builtin id) = pure (.type "method_descriptor")) (hm : MtD X A id R) (ho : DE X A W o t) (ha : DA X A W (e :: es) ta)
    (hbase : attributeBase o name X.env (eval o X.env) = eval o X.env)
    (hfew : ((backTo pos (starEach (e :: es) X.env)).all (fun x => !x.1) && (backToKw pos (keywordEach [] X.env)).all (fun x => x.1.isSome)
      && decide ((e :: es).length + ([] : List Keyword).length + (if ([] : List Keyword).isEmpty then 0 else 1) < 30)) = true)
    (hline : (apos.endLine == pos.line) = true) (hs : starEach (e :: es) X.env = (false, eval e X.env) :: starEach es X.env) (hplain : (backTo pos (starEach es X.env)).any (·.1) = false) :
    DE X A W (.Call (.Attribute o name apos) (e :: es) [] pos) (dMt R t ta) :=
  PE.mono (pe_bm PySem.F.plainAttrs_list slot hty hm ho ha hbase hfew hline hs hplain) fun σ H Q ⟨ρ, S, L, Qd, Ed, sl, so, h, kq, kx⟩ => by
    refine ⟨ρ, S, L, _, Ed, sl, so, h, fun v H1 d S1 e1 so1 r1 ⟨⟨p, xs, ed, hs⟩, q1⟩ => ⟨?_, ?_⟩, kx⟩
    · subst ed
      unfold Rep at r1
      subst r1
      obtain ⟨⟨vs, hh, rv⟩, _⟩ := so1.at_ p _ hs
      exact .inl ⟨rfl, vs, SqL.of hh⟩
    · exact ⟨ρ, S1, L, _, Ed, sl.ext e1, so1, q1, fun vs H2 ds S2 e2 so2 r2 q2 => ⟨S2, L, d, ds, Qd, so2, r1.ext e2, r2, q2, kq.ext (e1.trans e2)⟩, kx.ext e1⟩

/-! ### methods of texts -/
def dM1 (R : DR2) (t u : DT) : DT := fun ρ S Q E => t ρ S (fun x S1 => (∃ a, x = .str a) ∧ u ρ S1 (fun y S2 => R x y S2 Q DX0) E) E
abbrev MsD (X : Cx) (A : Cla) (id : String) (R : DR2) : Prop := MtR X id (fun x xs H Q => ∃ y, xs = [y] ∧ liftR2 (cX X A) R x y H Q)
theorem de_m1 {id : String} {name : Str} {R : DR2} (slot : Slot "str" name id) (ty : typeOf (.builtin id) = pure (.type "method_descriptor")) (rule : MsD X A id R) (ho : DE X A W o t) (he : DE X A W e u)
    (hs : starEach [e] X.env = [(false, eval e X.env)]) (hbase : attributeBase o name X.env (eval o X.env) = eval o X.env) (hline : (apos.endLine == pos.line) = true) :
    DE X A W (.Call (.Attribute o name apos) [e] [] pos) (dM1 R t u) :=
  PE.mono (pe_m1 slot ty rule ho he hs hbase hline) fun σ H Q ⟨ρ, S, L, Qd, Ed, sl, so, h, kq, kx⟩ =>
    ⟨ρ, S, L, _, Ed, sl, so, h, fun v H1 d S1 e1 so1 r1 ⟨⟨a, ea⟩, q1⟩ => ⟨⟨a, by subst ea; unfold Rep at r1; exact r1.1⟩, ρ, S1, L, _, Ed, sl.ext e1, so1, q1, fun w H2 y S2 e2 so2 r2 q2 =>
      ⟨w, rfl, S2, L, d, y, Qd, so2, r1.ext e2, r2, q2, kq.ext (e1.trans e2)⟩, kx.ext e1⟩, kx⟩
theorem rep_bl {c : Cfg} {L : Lk} {H : Hp} {S : Sto} {b : Bool} : Rep c L H S (.bl b) (.bl b) := by unfold Rep; rfl
theorem rep_int {c : Cfg} {L : Lk} {H : Hp} {S : Sto} {b : Int} : Rep c L H S (.int b) (.int b) := by unfold Rep; rfl
theorem rep_str {c : Cfg} {L : Lk} {H : Hp} {S : Sto} {b : Str} (h : SOk b) : Rep c L H S (.str b) (.str b) := by unfold Rep; exact ⟨rfl, h⟩
def mStarts : DR2 := fun x y S Q _ => ∃ a b, x = .str a ∧ y = .str b ∧ Q (.bl (Txt.startswith a b)) S
def mEnds : DR2 := fun x y S Q _ => ∃ a b, x = .str a ∧ y = .str b ∧ Q (.bl (Txt.endswith a b)) S
theorem ms_starts : MsD X A "str.startswith" mStarts := MtR.mono mt_startswith fun x xs H Q ⟨y, ey, S, L, dx, dy, Qd, so, r1, r2, ⟨a, b, ea, eb, q⟩, kq⟩ => by
  subst ea eb ey
  unfold Rep at r1 r2
  exact ⟨a, b, r1.1, by rw [r2.1], kq _ H _ S .refl so rep_bl q⟩
theorem ms_ends : MsD X A "str.endswith" mEnds := MtR.mono mt_endswith fun x xs H Q ⟨y, ey, S, L, dx, dy, Qd, so, r1, r2, ⟨a, b, ea, eb, q⟩, kq⟩ => by
  subst ea eb ey
  unfold Rep at r1 r2
  exact ⟨a, b, r1.1, by rw [r2.1], kq _ H _ S .refl so rep_bl q⟩
/-- the texts of a list -/
def strsD : List D → Option (List Str)
  | [] => some []
  | .str z :: r => (strsD r).map (z :: ·)
  | _ :: _ => none
theorem strsD_ok {c : Cfg} {L : Lk} {H : Hp} {S : Sto} : ∀ {ds : List D} {vs : List V} {ys : List Str}, Reps c L H S ds vs → strsD ds = some ys → vs = ys.map V.str ∧ ∀ y ∈ ys, SOk y
  | [], vs, ys, r, h => by
    cases h
    exact ⟨r.of_nil, fun y hy => by cases hy⟩
  | d :: ds, vs, ys, r, h => by
    obtain ⟨v, ws, ev, r1, rs⟩ := r.of_cons
    cases d with
    | str z =>
      have h : (strsD ds).map (z :: ·) = some ys := h
      cases q : strsD ds with
      | none => rw [q] at h; cases h
      | some qs =>
        rw [q] at h
        cases h
        obtain ⟨e, k⟩ := strsD_ok rs q
        unfold Rep at r1
        refine ⟨by rw [ev, e, r1.1]; rfl, fun y hy => ?_⟩
        rcases List.mem_cons.mp hy with hy | hy
        · rw [hy]; exact r1.2
        · exact k y hy
    | _ => cases h
theorem SOk.join {a : Str} (ha : SOk a) : ∀ {ys : List Str}, (∀ y ∈ ys, SOk y) → (Txt.join a ys).cps.all (· < 0x110000) = true := by
  intro ys
  rw [TL.join_eq]
  induction ys with
  | nil => intro _; simp [Str.join, Str.empty]
  | cons y ys ih =>
    intro h
    cases ys with
    | nil => exact (h y (List.mem_cons_self ..)).2
    | cons z r =>
      show (y.cps ++ a.cps ++ (Str.join a (z :: r)).cps).all _ = true
      rw [Array.all_append, Array.all_append, (h y (List.mem_cons_self ..)).2, ha.2, ih fun q hq => h q (List.mem_cons_of_mem _ hq)]
      rfl
theorem join_len (a : Str) : ∀ ys : List Str, (Txt.join a ys).length ≤ (ys.map (·.length)).sum + ys.length * a.length := by
  intro ys
  rw [TL.join_eq]
  induction ys with
  | nil => exact Nat.zero_le _
  | cons y ys ih =>
    cases ys with
    | nil =>
      show y.length ≤ y.length + 0 + 1 * a.length
      omega
    | cons z r =>
      have e : (Str.join a (y :: z :: r)).length = y.length + a.length + (Str.join a (z :: r)).length := by
        show (y.cps ++ a.cps ++ (Str.join a (z :: r)).cps).size = _
        rw [Array.size_append, Array.size_append]
        rfl
      rw [e]
      have e2 : ((y :: z :: r).map (·.length)).sum = y.length + ((z :: r).map (·.length)).sum := rfl
      have e3 : (y :: z :: r).length * a.length = a.length + (z :: r).length * a.length := by
        show ((z :: r).length + 1) * a.length = _
        rw [Nat.add_mul, Nat.one_mul, Nat.add_comm]
      omega
def mJoin : DR2 := fun x y S Q _ => ∃ a ds ys, x = .str a ∧ seqA S y = some ds ∧ strsD ds = some ys ∧ (ys.map (·.length)).sum + ys.length * a.length ≤ 16777216 ∧ Q (.str (Txt.join a ys)) S
theorem ms_join : MsD X A "str.join" mJoin := MtR.mono mt_join fun x xs H Q ⟨y, ey, S, L, dx, dy, Qd, so, r1, r2, ⟨a, ds, ys, ea, eb, es, hz, q⟩, kq⟩ => by
  subst ea ey
  unfold Rep at r1
  obtain ⟨e1, ok⟩ := r1
  obtain ⟨p, vs, ev, sq, rs⟩ := seqA_ok so r2 eb
  obtain ⟨e2, k⟩ := strsD_ok rs es
  subst e2
  exact ⟨a, p, ys, e1, by rw [ev], sq, hz, kq _ H _ S .refl so (rep_str ⟨Nat.le_trans (join_len a ys) (Nat.le_trans hz (by decide)), ok.join k⟩) q⟩
end

/-! ### instances are made -/
def mkI (m : Bool) (C : Nat) (p : Addr) (S : Sto) (Q : DQ) : Prop := if m = true then Q (.ref p) S else ∃ xs, S p = some (.ins C xs) ∧ Q (.ins C xs) (S.del p)
def dMake (C : Nat) (m : Bool) (sp : DSp) (t : DTA) : DT := fun ρ S Q E => t ρ S (fun ds S1 => ∀ p, S1 p = none → sp (.ref p :: ds) (S1.set p (.ins C [])) (fun r S2 => r = .non ∧ mkI m C p S2 Q) (fun n xs S2 => E n xs (S2.del p))) E
section
variable {X : Cx} {A : Cla} {W : WX} {e : Expr} {es : List Expr} {p pos : Pos} {x : Str} {f : Addr} {k C : Nat} {sp : DSp} {t : DTA}
theorem run_makeV {pins : List (Addr × Obj)} {σ : L2.St} {H : Hp} {s : Shared} {Q : VK} {us : List Value} {vs : List V} {Ca : Addr} (M : Mk X.K Ca f) (F : FnD X.prog X.w (cX X A) X.mg X.base k f sp) (m : Rm (k + 1) X.A) (tk : Takes X W) (I : L2.Inv X pins σ H s) (r : Vals vs us)
    (h : ∀ x dx, H x = none → H dx = none → dx ≠ x → liftSp (cX X A) sp (V.ref x :: vs) (upd (upd H dx (.own x)) x (.ins Ca dx [])) (fun v H2 => v = .non ∧ Q (.ref x) H2) (WE W σ)) :
    wpAny (model X.prog X.w) X.A (call (.ref Ca) us) (EP X pins σ Q) X.xe s := by
  have hq := h (s.heap.objs.size + 1) s.heap.objs.size (I.hok.fresh (Nat.le_succ _)) (I.hok.fresh (Nat.le_refl _)) (Nat.ne_of_lt (Nat.lt_succ_self _))
  have I2 := Inv.made (C := Ca) I
  have r2 : Vals (V.ref (s.heap.objs.size + 1) :: vs) (Value.ref (s.heap.objs.size + 1) :: us) := .cons rfl r
  refine wpAny_call (make_map (f := f) I.kIn M.makes M.init (beq_iff_eq.mp M.fn) (codeAny_mono (F _ X.stack _ _ (Value.ref (s.heap.objs.size + 1) :: us) _ _ (WE W σ) (m.make Ca us []) (I2.env0.make Ca us []) r2 hq) fun r s' hq' => ?_))
  cases r with
  | error e => exact passAt tk σ pins _ _ e s' I2 hq'
  | ok fl =>
    cases fl with
    | ret u =>
      obtain ⟨v, H', I3, rv, ev, q3⟩ := I2.after hq'
      subst ev
      exact ⟨rv, ⟨V.ref (s.heap.objs.size + 1), H', I3, rfl, q3⟩⟩
    | next => exact False.elim hq'
    | brk => exact False.elim hq'
    | cont => exact False.elim hq'
theorem make_ok {c : Cfg} {L : Lk} {H : Hp} {S : Sto} {ds : List D} {vs : List V} {m : Bool} {Q : VK} {Qd : DQ} {E : XK} {Ed : DX} (so : StoR c L H S) (rs : Reps c L H S ds vs)
    (h : ∀ p, S p = none → sp (.ref p :: ds) (S.set p (.ins C [])) (fun r S2 => r = .non ∧ mkI m C p S2 Qd) (fun n xs S2 => Ed n xs (S2.del p))) (kq : KQ c L H S Q Qd) (kx : KX c L H S E Ed) :
    ∀ x dx, H x = none → H dx = none → dx ≠ x → liftSp c sp (V.ref x :: vs) (upd (upd H dx (.own x)) x (.ins (c.cA C) dx [])) (fun v H2 => v = .non ∧ Q (.ref x) H2) E := by
  intro x dx nx nd ne
  have so1 : StoR c L (upd H dx (.own x)) S := so.upd nd
  have n1 : upd H dx (.own x) x = none := by rw [upd_ne (Ne.symm ne)]; exact nx
  have e1 : Ext H S (upd H dx (.own x)) S := Ext.upd nd
  have e2 : Ext (upd H dx (.own x)) S (upd (upd H dx (.own x)) x (.ins (c.cA C) dx [])) (S.set x (.ins C [])) := Ext.new n1
  have so2 : StoR c L (upd (upd H dx (.own x)) x (.ins (c.cA C) dx [])) (S.set x (.ins C [])) := so1.new n1 ⟨dx, [], by rw [List.zip_nil_right]; exact upd_same, .nil⟩
  have e12 := e1.trans e2
  refine ⟨.ref x :: ds, S.set x (.ins C []), L, _, _, so2, .cons (by unfold Rep; rfl) (rs.ext e12), h x (so.free nx).1, fun v H2 r S2 e3 so3 rr ⟨er, q⟩ => ?_, fun n a H' xs S' e3 so3 xr q => ?_⟩
  · subst er
    unfold Rep at rr
    refine ⟨rr, ?_⟩
    unfold mkI at q
    cases m with
    | true =>
      rw [if_pos rfl] at q
      exact kq _ H2 _ S2 (e12.trans e3) so3 (by unfold Rep; rfl) q
    | false =>
      rw [if_neg Bool.false_ne_true] at q
      obtain ⟨xs, hs, q⟩ := q
      exact kq _ H2 _ _ (e12.trans e3).del (so3.del x) (so3.frz hs) q
  · exact kx n a H' xs _ (e12.trans e3).del (so3.del x) (xr.fewer fun _ => Sto.del_none) q
theorem de_make {m : Bool} (M : Mk X.K (A.cA C) f) (F : FnD X.prog X.w (cX X A) X.mg X.base k f sp) (hr : Rm (k + 1) X.A) (tk : Takes X W) (hg : Gl X x) (hm : X.mg x = some (.ref (A.cA C))) (ha : DA X A W (e :: es) t)
    (hdb : (x == ("__debug__" : Str)) = false) (he : starEach (e :: es) X.env = (false, eval e X.env) :: starEach es X.env) (hpl : (backTo pos (starEach es X.env)).any (·.1) = false) :
    DE X A W (.Call (.Name x p) (e :: es) [] pos) (dMake C m sp t) := by
  refine ⟨fun pins s σ H Q I ⟨ρ, S, L, Qd, Ed, sl, so, h, kq, kx⟩ => ?_⟩
  refine wpAny_Call_Name_kw (ld_glob I hg hm ?_ hdb)
  refine PySem.W.callWith_K (h₀ := X.base) I.ok.mod.kin M.kp (thn (ha.run pos pins s σ H (fun vs H1 => ∀ x dx, H1 x = none → H1 dx = none → dx ≠ x → liftSp (cX X A) sp (V.ref x :: vs) (upd (upd H1 dx (.own x)) x (.ins (A.cA C) dx [])) (fun v H2 => v = .non ∧ Q (.ref x) H2) (WE W σ)) I
    ⟨ρ, S, L, _, Ed, sl, so, h, fun vs H1 ds S1 e1 so1 r1 q1 => make_ok so1 r1 q1 (kq.ext e1) (kx.ext e1).slots, kx⟩) fun us s1 ⟨vs, H1, I1, r, q⟩ => ⟨I1.kIn, ?_⟩) he hpl
  exact run_makeV M F hr tk I1 r q
theorem de_make0 {m : Bool} (M : Mk X.K (A.cA C) f) (F : FnD X.prog X.w (cX X A) X.mg X.base k f sp) (hr : Rm (k + 1) X.A) (tk : Takes X W) (hg : Gl X x) (hm : X.mg x = some (.ref (A.cA C)))
    (hdb : (x == ("__debug__" : Str)) = false) : DE X A W (.Call (.Name x p) [] [] pos) (dMake C m sp dNil) := by
  refine ⟨fun pins s σ H Q I ⟨ρ, S, L, Qd, Ed, sl, so, h, kq, kx⟩ => ?_⟩
  refine wpAny_Call_Name_kw (ld_glob I hg hm ?_ hdb)
  exact PySem.W.callWith_K0 I.kIn M.kp (run_makeV (us := []) M F hr tk I .nil (make_ok so .nil h kq kx.slots))
end
end DL

namespace DL
open PySem PySem.Spec PyProof.Rows L2

abbrev cc (K : PySem.W.Frag) (A : Cla) : Cfg := ⟨K, A.cA, A.cv, A.fl⟩
/-- what holds wherever code of a def is read: the tables by which its names are looked up -/
structure In (P : Program) (w : World) (K : PySem.W.Frag) (mg : Str → Option Value) (base : Heap) (N : List Str) (sc : Scope) (fo : Str → Bool) (lv : Nat) (X : Cx) (W : WX) : Prop where
  eP : X.prog = P
  eW : X.w = w
  eK : X.K = K
  eM : X.mg = mg
  eB : X.base = base
  eN : X.N = N
  eS : X.env.scope = sc
  eF : X.fn = fo
  calm : X.calm = true
  rm : Rm lv X.A
  tk : Takes X W
/-- a name with a slot -/
def nmB (N : List Str) (sc : Scope) (i : Nat) (x : Str) : Bool := decide (N[i]? = some x) && (decide (sc.names.lookup x = some .local) || decide (sc.names.lookup x = some .cell) || decide (sc.names.lookup x = some .free)) && !(x == ("__debug__" : Str)) && !(x == ("__classdict__" : Str))
/-- a name of the module -/
def glB (sc : Scope) (x : Str) : Bool := decide (sc.names.lookup x = some .globalImplicit) && !(x == ("__debug__" : Str)) && !(x == ("__name__" : Str))
/-- a name that is stored -/
def tgB (N : List Str) (sc : Scope) (fo : Str → Bool) (i : Nat) (x : Str) : Bool := decide N.Nodup && decide (N[i]? = some x) && (decide (sc.names.lookup x = some .local) || (decide (sc.names.lookup x = some .cell) && fo x))
def fAll : Str → Bool := fun _ => true
def fCell (sc : Scope) : Str → Bool := fun x => sc.names.lookup x == some .cell
theorem not_of {b : Bool} (h : (!b) = true) : b = false := by cases b with
  | true => cases h
  | false => rfl
section
variable {P : Program} {w : World} {K : PySem.W.Frag} {A : Cla} {mg : Str → Option Value} {base : Heap} {N : List Str} {sc : Scope} {fo : Str → Bool} {lv : Nat} {X : Cx} {W : WX}
theorem nmB_ok {i : Nat} {x : Str} (h : nmB N sc i x = true) : N[i]? = some x ∧ Vis sc x ∧ (x == ("__debug__" : Str)) = false ∧ (x == ("__classdict__" : Str)) = false := by
  unfold nmB at h
  rw [Bool.and_eq_true, Bool.and_eq_true, Bool.and_eq_true, Bool.or_eq_true, Bool.or_eq_true] at h
  obtain ⟨⟨⟨a, b⟩, c⟩, d⟩ := h
  refine ⟨of_decide_eq_true a, ?_, not_of c, not_of d⟩
  rcases b with (b | b) | b
  · exact .inl (of_decide_eq_true b)
  · exact .inr (.inl (of_decide_eq_true b))
  · exact .inr (.inr (of_decide_eq_true b))
theorem glB_ok {x : Str} (h : glB sc x = true) : sc.names.lookup x = some .globalImplicit ∧ (x == ("__debug__" : Str)) = false ∧ x ≠ "__name__" := by
  unfold glB at h
  rw [Bool.and_eq_true, Bool.and_eq_true] at h
  obtain ⟨⟨a, b⟩, c⟩ := h
  refine ⟨of_decide_eq_true a, not_of b, fun e => ?_⟩
  have c := not_of c
  rw [e] at c
  exact absurd (beq_self_eq_true _) (by rw [c]; exact Bool.false_ne_true)
theorem tgB_ok {i : Nat} {x : Str} (h : tgB N sc fo i x = true) : N.Nodup ∧ N[i]? = some x ∧ Loc sc x ∧ (fo x = true ∨ sc.names.lookup x = some .local) := by
  unfold tgB at h
  rw [Bool.and_eq_true, Bool.and_eq_true, Bool.or_eq_true, Bool.and_eq_true] at h
  obtain ⟨⟨a, b⟩, c⟩ := h
  refine ⟨of_decide_eq_true a, of_decide_eq_true b, ?_, ?_⟩
  · rcases c with c | c
    · exact .inl (of_decide_eq_true c)
    · exact .inr (of_decide_eq_true c.1)
  · rcases c with c | c
    · exact .inr (of_decide_eq_true c)
    · exact .inl c.2
theorem In.gl {x : Str} (h : In P w K mg base N sc fo lv X W) (hg : glB sc x = true) : Gl X x := by
  have := h.eS
  subst this
  exact (glB_ok hg).1
/-! ### the rules by the tables -/
variable {e a b o value : Expr} {es : List Expr} {p pos pos' apos : Pos} {x : Str} {t u : DT} {ta : DTA} {i k : Nat} {f : Addr} {sp : DSp} {fs : Str}
theorem In.var (h : In P w K mg base N sc fo lv X W) (ck : nmB N sc i x = true) : DE X A W (.Name x pos) (dVar i) := by
  have := h.eS; subst this
  have := h.eN; subst this
  obtain ⟨a, b, c, d⟩ := nmB_ok ck
  exact de_var a b c d
theorem In.glob {v : V} {d : D} {uv : Value} (h : In P w K mg base N sc fo lv X W) (hg : glB sc x = true) (hm : mg x = some uv) (r : RelV v uv) (st : Still d v) : DE X A W (.Name x pos) (dCst d) := by
  have g := h.gl hg
  have := h.eM; subst this
  exact de_tC (pe_glob g hm r (glB_ok hg).2.1) st
theorem still_str {z : Str} (h : SOk z) : Still (.str z) (.str z) := fun _ _ _ _ => rep_str h
theorem still_int {z : Int} : Still (.int z) (.int z) := fun _ _ _ _ => rep_int
/-- a class, a built-in type, as a value -/
theorem In.ty {T : Ty} (h : In P w K mg base N sc fo lv X W) (hg : glB sc x = true) (hm : mg x = none) (hv : bootBuiltins x = some (.type T.name)) (ho : ∀ C, T ≠ .own C) : DE X A W (.Name x pos) (dCst (.ty T)) := by
  have g := h.gl hg
  have := h.eM; subst this
  refine de_tC (v := .ty T.name) (pe_bltn g hm hv rfl (glB_ok hg).2.2 (glB_ok hg).2.1) fun c L H S => ?_
  unfold Rep
  cases T with
  | own C => exact absurd rfl (ho C)
  | _ => rfl
theorem In.cls {C : Nat} (h : In P w K mg base N sc fo lv X W) (hg : glB sc x = true) (hm : mg x = some (.ref (A.cA C))) : DE X A W (.Name x pos) (dCst (.ty (.own C))) := by
  have g := h.gl hg
  have := h.eM; subst this
  exact PE.mono (pe_glob (v := .ref (A.cA C)) g hm rfl (glB_ok hg).2.1) fun σ H Q ⟨ρ, S, L, Qd, Ed, sl, so, h, kq, _⟩ => kq _ H _ S .refl so (by unfold Rep; rfl) h
theorem In.call (h : In P w K mg base N sc fo lv X W) (F : FnD P w (cc K A) mg base k f sp) (hk : k ≤ lv) (hg : glB sc x = true) (hm : mg x = some (.ref f)) (kp : PySem.W.keepIn K (.ref f) = true) (ha : DA X A W (e :: es) ta)
    (he : starEach (e :: es) X.env = (false, eval e X.env) :: starEach es X.env := by rfl) (hpl : (backTo pos (starEach es X.env)).any (·.1) = false := by rfl) : DE X A W (.Call (.Name x p) (e :: es) [] pos) (dCall sp ta) := by
  have g := h.gl hg
  have := h.eM; subst this
  have := h.eP; subst this
  have := h.eW; subst this
  have := h.eK; subst this
  have := h.eB; subst this
  exact de_call F (h.rm.mono hk) h.tk g hm kp ha (glB_ok hg).2.1 he hpl
theorem In.call0 (h : In P w K mg base N sc fo lv X W) (F : FnD P w (cc K A) mg base k f sp) (hk : k ≤ lv) (hg : glB sc x = true) (hm : mg x = some (.ref f)) (kp : PySem.W.keepIn K (.ref f) = true) : DE X A W (.Call (.Name x p) [] [] pos) (dCall sp dNil) := by
  have g := h.gl hg
  have := h.eM; subst this
  have := h.eP; subst this
  have := h.eW; subst this
  have := h.eK; subst this
  have := h.eB; subst this
  exact de_call0 F (h.rm.mono hk) h.tk g hm kp (glB_ok hg).2.1
theorem In.make {C : Nat} {m : Bool} (h : In P w K mg base N sc fo lv X W) (M : Mk K (A.cA C) f) (F : FnD P w (cc K A) mg base k f sp) (hk : k + 1 ≤ lv) (hg : glB sc x = true) (hm : mg x = some (.ref (A.cA C))) (ha : DA X A W (e :: es) ta)
    (he : starEach (e :: es) X.env = (false, eval e X.env) :: starEach es X.env := by rfl) (hpl : (backTo pos (starEach es X.env)).any (·.1) = false := by rfl) : DE X A W (.Call (.Name x p) (e :: es) [] pos) (dMake C m sp ta) := by
  have g := h.gl hg
  have := h.eM; subst this
  have := h.eP; subst this
  have := h.eW; subst this
  have := h.eK; subst this
  have := h.eB; subst this
  exact de_make M F (h.rm.mono hk) h.tk g hm ha (glB_ok hg).2.1 he hpl
theorem In.make0 {C : Nat} {m : Bool} (h : In P w K mg base N sc fo lv X W) (M : Mk K (A.cA C) f) (F : FnD P w (cc K A) mg base k f sp) (hk : k + 1 ≤ lv) (hg : glB sc x = true) (hm : mg x = some (.ref (A.cA C))) : DE X A W (.Call (.Name x p) [] [] pos) (dMake C m sp dNil) := by
  have g := h.gl hg
  have := h.eM; subst this
  have := h.eP; subst this
  have := h.eW; subst this
  have := h.eK; subst this
  have := h.eB; subst this
  exact de_make0 M F (h.rm.mono hk) h.tk g hm (glB_ok hg).2.1
/-- built-in functions, types -/
theorem In.bi {id : String} {R : DRA} (h : In P w K mg base N sc fo lv X W) (hc : CallD X A (.builtin id) R) (hg : glB sc x = true) (hm : mg x = none) (hv : bootBuiltins x = some (.builtin id)) (ha : DA X A W (e :: es) ta)
    (he : starEach (e :: es) X.env = (false, eval e X.env) :: starEach es X.env := by rfl) (hpl : (backTo pos (starEach es X.env)).any (·.1) = false := by rfl) : DE X A W (.Call (.Name x p) (e :: es) [] pos) (dCB R ta) := by
  have g := h.gl hg
  have := h.eM; subst this
  exact de_callB hc g hm hv ha (glB_ok hg).2.2 (glB_ok hg).2.1 he hpl
theorem In.bt {T : String} {R : DRA} (h : In P w K mg base N sc fo lv X W) (hc : CallD X A (.type T) R) (hg : glB sc x = true) (hm : mg x = none) (hv : bootBuiltins x = some (.type T)) (ha : DA X A W (e :: es) ta)
    (he : starEach (e :: es) X.env = (false, eval e X.env) :: starEach es X.env := by rfl) (hpl : (backTo pos (starEach es X.env)).any (·.1) = false := by rfl) : DE X A W (.Call (.Name x p) (e :: es) [] pos) (dCB R ta) := by
  have g := h.gl hg
  have := h.eM; subst this
  exact de_callTy hc g hm hv ha (glB_ok hg).2.2 (glB_ok hg).2.1 he hpl
theorem In.isi {T : Isi} (h : In P w K mg base N sc fo lv X W) (hT : IsiOk (cc K A) T) : CallD X A (.builtin "isinstance") (rIsiD T) := by
  have := h.eK; subst this
  exact cd_isi hT
theorem In.fld (h : In P w K mg base N sc fo lv X W) (hf : FldOk K A fs) (he : DE X A W e t) (hb : attributeBase e fs X.env (eval e X.env) = eval e X.env := by rfl) : DE X A W (.Attribute e fs pos) (dFld A.fl fs t) := by
  have := h.eK; subst this
  exact de_fld hf he hb
theorem In.sfld (h : In P w K mg base N sc fo lv X W) (hf : FldOk K A fs) (hsm : ∀ C, (A.fl C).length < 1000) (ho : DE X A W o t) (hv : DE X A W value u) (hs : swapsWith value (some (.Attribute o fs pos')) pos.line X.env = pure false := by rfl) :
    DStm X A W (.Assign [.Attribute o fs pos'] value pos) (sFldD A.fl fs t u) := by
  have := h.eK; subst this
  exact ds_fld hf hsm ho hv hs
theorem In.set (h : In P w K mg base N sc fo lv X W) (ck : tgB N sc fo i x = true) (he : DE X A W e t) (hs : swapsWith e (some (.Name x p)) pos.line X.env = pure false := by rfl) : DStm X A W (.Assign [.Name x p] e pos) (sAsg t (gNm i)) := by
  obtain ⟨a, b, c, d⟩ := tgB_ok ck
  have := h.eS; subst this
  have := h.eN; subst this
  have := h.eF; subst this
  exact ds_set a b c he hs d
theorem In.tg (h : In P w K mg base N sc fo lv X W) (ck : tgB N sc fo i x = true) : DTgt X A W (.Name x p) (gNm i) := by
  obtain ⟨a, b, c, d⟩ := tgB_ok ck
  have := h.eS; subst this
  have := h.eN; subst this
  have := h.eF; subst this
  exact dg_name a b c d
/-- the targets of a comprehension, a for, a store of a tuple -/
theorem In.vnm (h : In P w K mg base N sc fo lv X W) (ck : tgB N sc fo i x = true) : PG X (.Name x p) (Tg.v X.K (.nm i)) := by
  obtain ⟨a, b, c, d⟩ := tgB_ok ck
  have := h.eS; subst this
  have := h.eN; subst this
  have := h.eF; subst this
  unfold Tg.v
  exact pg_name a b c d
theorem vs_nil : PGs X [] (Tg.vs X.K []) := by
  unfold Tg.vs
  exact pgs_nil
theorem vs_cons {tg : Expr} {tgs : List Expr} {g : Tg} {gs : List Tg} (h1 : PG X tg (g.v X.K)) (h2 : PGs X tgs (Tg.vs X.K gs)) (hs : (assignEach (tg :: tgs) X.env).map (·.2) = assign tg X.env :: (assignEach tgs X.env).map (·.2) := by rfl) : PGs X (tg :: tgs) (Tg.vs X.K (g :: gs)) := by
  unfold Tg.vs
  exact pgs_cons h1 h2 hs
theorem In.vtup {tgs : List Expr} {gs : List Tg} {j : Nat} (h : In P w K mg base N sc fo lv X W) (h2 : PGs X tgs (Tg.vs X.K gs)) (hn : (assignEach tgs X.env).length = gs.length := by rfl) (hst : (assignEach tgs X.env).findIdx? (·.1) = none := by rfl) :
    PG X (.Tuple tgs j pos) (Tg.v X.K (.tup gs)) := by
  unfold Tg.v
  exact pg_tup h.calm h2 hn hst
/-- a target's reading -/
def gOf (g : Tg) : DTG := fun d ρ S Q _ => g.d d ρ Q S
theorem dg_tg {tg : Expr} {g : Tg} (h : PG X tg (g.v X.K)) : DTgt X A W tg (gOf g) :=
  PG.mono h fun v σ H Q ⟨ρ, S, L, d, Qd, Ed, sl, so, r, h, kp, _⟩ => Tg.ok (c := cX X A) (L := L) (S := S) [] g v σ d ρ Qd Q sl r h fun ρ' σ' sl' _ q => kp σ' H ρ' S .refl so sl' q
theorem ds_tup {tg : Expr} {g : DTG} (he : DE X A W e t) (hg : DTgt X A W tg g) (hs : swapsWithSole [tg] e pos.line X.env = pure false := by rfl) (hw : swappedStores [tg] e X.env = pure none := by rfl) (h1 : (assignEach [tg] X.env).map (·.2) = [assign tg X.env] := by rfl) :
    DStm X A W (.Assign [tg] e pos) (sAsg t g) := ds_asg he hg hs hw h1
/-! ### comprehensions -/
/-- the names' kinds inside a block -/
def relS (outer scope : Scope) : Scope := { scope with names := scope.names.map fun (n, k) => if (k == .free && outer.kind == .function && outer.names.lookup n == some .cell) then (n, .cell) else (n, k) }
theorem In.blk {scope : Scope} {s : Shared} {H : Hp} {C : Addr} {cl : List (Str × Addr)} {fp : List Addr} (h : In P w K mg base N sc fo lv X W) : In P w K mg base N (relS sc scope) (fCell scope) lv (X.blk s H scope (compEnvC scope cl C X.env) fp) W0 where
  eP := h.eP
  eW := h.eW
  eK := h.eK
  eM := h.eM
  eB := h.eB
  eN := h.eN
  eS := by
    have := h.eS
    subst this
    rfl
  eF := rfl
  calm := h.calm
  rm := h.rm
  tk := fun u s' ⟨_, _, _, _, _, _, _, _, _, _, _, _, _, _, _, _, z⟩ => z.elim
def blkB (N : List Str) (sc scope : Scope) (own : List (Str × Nat)) : Bool :=
  decide (scope.kind = .function) && scope.names.all (fun y => decide (scope.names.lookup y.1 = some y.2)) && own.all (fun p => decide (N[p.2]? = some p.1)) &&
  scope.names.all (fun y => !decide (y.2 = .free) || decide (sc.names.lookup y.1 = some .cell) || decide (sc.names.lookup y.1 = some .free)) &&
  scope.names.all (fun y => !(decide (y.2 = .local) || decide (y.2 = .cell)) || decide (y.1 ∈ own.map (·.1)) || decide (y.1 ∉ N)) && decide N.Nodup
theorem blkB_ok {scope : Scope} {own : List (Str × Nat)} (h : blkB N sc scope own = true) : BlkOk N sc scope own ∧ N.Nodup := by
  unfold blkB at h
  simp only [Bool.and_eq_true, List.all_eq_true, Bool.or_eq_true, Bool.not_eq_true', decide_eq_true_eq, decide_eq_false_iff_not, Bool.or_eq_false_iff] at h
  obtain ⟨⟨⟨⟨⟨a, b⟩, c⟩, d⟩, e⟩, f⟩ := h
  refine ⟨⟨a, b, c, fun y hy ef => ?_, fun y hy el => ?_⟩, f⟩
  · rcases d y hy with (z | z) | z
    · exact absurd ef z
    · exact .inl z
    · exact .inr z
  · rcases e y hy with (z | z) | z
    · rcases el with el | el
      · exact absurd el z.1
      · exact absurd el z.2
    · exact .inl z
    · exact .inr z
def dYes : DTT := fun _ S Q _ => Q true S
theorem ts_nil : PTs X [] (liftT (cX X A) W dYes) := ⟨fun pins s σ H Q I ⟨ρ, S, L, Qd, Ed, sl, so, h, kt, kx⟩ => pts_nil.run pins s σ H Q I (kt true H S .refl so h)⟩
theorem ts_one {c : Expr} {t : DTT} (h : DTst X A W c t) : PTs X [c] (liftT (cX X A) W t) := pts_one h
theorem In.lc {m : Bool} {ti : DTI} {g : Tg} {tc : DTT} {te : DT} {tg iter elt : Expr} {ifs : List Expr} {scope : Scope} (own : List (Str × Nat)) (h : In P w K mg base N sc fo lv X W) (hi : DItr X A W tg iter ti) (ok : blkB N sc scope own = true) (hsl : ∀ j ∈ g.slots, j ∈ own.map (·.2))
    (hg : ∀ X', In P w K mg base N (relS sc scope) (fCell scope) lv X' W0 → PG X' tg (g.v X'.K)) (ht : ∀ X', In P w K mg base N (relS sc scope) (fCell scope) lv X' W0 → PTs X' ifs (liftT (cX X' A) W0 tc))
    (he : ∀ X', In P w K mg base N (relS sc scope) (fCell scope) lv X' W0 → DE X' A W0 elt te) (hs : ∀ x, foldedSetIterable iter X.env x = pure x := by intro _; rfl) :
    DE X A W (.ListComp elt [⟨tg, iter, ifs, 0⟩] scope pos) (dLc m ti g tc te (own.map (·.2))) := by
  obtain ⟨ok, nd⟩ := blkB_ok ok
  have h0 := h
  have := h.eS; subst this
  have := h.eN; subst this
  exact de_lc h.calm nd hi ok hsl (fun s H C cl fp => hg _ (h0.blk)) (fun s H C cl fp => ht _ (h0.blk)) (fun s H C cl fp => he _ (h0.blk)) hs
theorem In.setLc {i0 : Nat} {y : Str} {py spos : Pos} {m : Bool} {ti : DTI} {g : Tg} {tc : DTT} {te : DT} {tg iter elt : Expr} {ifs : List Expr} {scope : Scope} (h : In P w K mg base N sc fo lv X W) (hy : (decide (N[i0]? = some y) && decide (sc.names.lookup y = some .local) && !(scope.names.any fun (n, k) => n == y && (k == .local || k == .cell))) = true)
    (hk : decide (sc.kind = .function) = true) (hl : (py.line == pos.line) = true) (own : List (Str × Nat)) (hi : DItr X A W tg iter ti) (ok : blkB N sc scope own = true) (hsl : ∀ j ∈ g.slots, j ∈ own.map (·.2))
    (hg : ∀ X', In P w K mg base N (relS sc scope) (fCell scope) lv X' W0 → PG X' tg (g.v X'.K)) (ht : ∀ X', In P w K mg base N (relS sc scope) (fCell scope) lv X' W0 → PTs X' ifs (liftT (cX X' A) W0 tc))
    (he : ∀ X', In P w K mg base N (relS sc scope) (fCell scope) lv X' W0 → DE X' A W0 elt te) (hs : ∀ x, foldedSetIterable iter X.env x = pure x := by intro _; rfl) :
    DStm X A W (.Assign [.Name y py] (.ListComp elt [⟨tg, iter, ifs, 0⟩] scope pos) spos) (sAsg (dLc m ti g tc te (own.map (·.2))) (gNm i0)) := by
  obtain ⟨ok, nd⟩ := blkB_ok ok
  rw [Bool.and_eq_true, Bool.and_eq_true] at hy
  obtain ⟨⟨y1, y2⟩, y3⟩ := hy
  have y1 := of_decide_eq_true y1
  have y2 := of_decide_eq_true y2
  have y3 := not_of y3
  have hk := of_decide_eq_true hk
  have h0 := h
  have := h.eS; subst this
  have := h.eN; subst this
  exact ds_setLc h.calm nd y1 y2 (sw_true hk y2 hl y3) hi ok hsl (fun s H C cl fp => hg _ (h0.blk)) (fun s H C cl fp => ht _ (h0.blk)) (fun s H C cl fp => he _ (h0.blk)) hs
theorem sw_cell {elt : Expr} {gs : List Comprehension} {scope : Scope} {pos py : Pos} {y : Str} {l : Nat} {env : PySem.Env} (hy : env.scope.names.lookup y = some .cell) : swapsWith (.ListComp elt gs scope pos) (some (.Name y py)) l env = pure false := by
  have ky : env.kindOf y = some .cell := hy
  unfold swapsWith
  have z : (NameKind.cell == NameKind.local) = false := rfl
  simp [ky, z]
/-- name = [..], the name read in a block -/
theorem In.setC {elt : Expr} {gs : List Comprehension} {scope : Scope} {cp : Pos} (h : In P w K mg base N sc fo lv X W) (ck : tgB N sc fo i x = true) (hc : decide (sc.names.lookup x = some .cell) = true) (he : DE X A W (.ListComp elt gs scope cp) t) : DStm X A W (.Assign [.Name x p] (.ListComp elt gs scope cp) pos) (sAsg t (gNm i)) := by
  refine h.set ck he (sw_cell ?_)
  have := h.eS; subst this
  exact of_decide_eq_true hc
theorem In.rng1 {tg a : Expr} {t : DTA} (h : In P w K mg base N sc fo lv X W) (hg : glB sc "range" = true) (hm : mg "range" = none) (ha : DA X A W [a] t) (hs : starEach [a] X.env = [(false, eval a X.env)] := by rfl) : DItr X A W tg (.Call (.Name "range" p) [a] [] pos) (iRng1D t) := by
  have g := h.gl hg
  have := h.eM; subst this
  exact di_rng1 g hm ha hs
theorem In.rng2 {tg a b : Expr} {t : DTA} (h : In P w K mg base N sc fo lv X W) (hg : glB sc "range" = true) (hm : mg "range" = none) (ha : DA X A W [a, b] t) (hs : starEach [a, b] X.env = [(false, eval a X.env), (false, eval b X.env)] := by rfl) (hs2 : starEach [b] X.env = [(false, eval b X.env)] := by rfl) :
    DItr X A W tg (.Call (.Name "range" p) [a, b] [] pos) (iRng2D t) := by
  have g := h.gl hg
  have := h.eM; subst this
  exact di_rng2 g hm ha hs hs2
theorem In.enum {e : Expr} {tpos : Pos} {elts : List Expr} {kk : Nat} {t : DTA} (h : In P w K mg base N sc fo lv X W) (hg : glB sc "enumerate" = true) (hm : mg "enumerate" = none) (ha : DA X A W [e] t) (hs : starEach [e] X.env = [(false, eval e X.env)] := by rfl) :
    DItr X A W (.Tuple elts kk tpos) (.Call (.Name "enumerate" p) [e] [] pos) (iEnumD t) := by
  have g := h.gl hg
  have := h.eM; subst this
  exact di_enum g hm ha hs
theorem In.loop {i : DTI} {g : DTG} {tb : DTS} {tg iter : Expr} {body : List Stmt} (h : In P w K mg base N sc fo lv X W) (hp : PassesOwn (model X.prog X.w) X.A X.env X.xe) (hi : DItr X A W tg iter i) (hg : DTgt X A W tg g) (hb : DStms X A W body tb)
    (hs : ∀ x, foldedSetIterable iter X.env x = pure x := by intro _; rfl) : DStm X A W (.For tg iter body [] pos) (sFor i g tb) := ds_for hp h.calm hi hg hb hs
end

/-! ### defs -/
/-- a def of the text stands at f -/
def FunP (K : PySem.W.Frag) (name qual : Str) (st : Stmt) (f : Addr) : Prop :=
  ∃ (oc kV doc pm cdv ct : Value) (od an : Option Addr) (osl : Array (Option Value)), K.lookup f = some ⟨oc, od, .func (PySem.W.fnOf name qual (defArgs st) (defBody st) (defScope st) .none kV doc pm an cdv ct), osl⟩ ∧ PySem.W.codeIn K cdv qual = true
section
variable {P : Program} {w : World} {K : PySem.W.Frag} {A : Cla} {mg : Str → Option Value} {base : Heap} {k : Nat} {f : Addr} {name qual : Str} {st : Stmt} {N ps : List Str} {t : DTS}
theorem fnd_mk (F : FunP K name qual st f) (S : FnScope N ps (defScope st))
    (hb : ∀ (kV doc pm cdv ct : Value) (an : Option Addr) (us : List Value), us.length = ps.length → bindArgs (PySem.W.fnOf name qual (defArgs st) (defBody st) (defScope st) .none kV doc pm an cdv ct) ⟨us, []⟩ = pure (ps.zip us))
    (hbody : ∀ (X : Cx) (W : WX), In P w K mg base N (defScope st) fAll k X W → PassesOwn (model X.prog X.w) X.A X.env X.xe → DStms X A W (defBody st) t) :
    FnD P w (cc K A) mg base (k + 1) f (bodySp N.length ps.length t) := by
  obtain ⟨oc, kV, doc, pm, cdv, ct, od, an, osl, lk, cd⟩ := F
  refine fnd_of (c := cc K A) (A0 := A) rfl lk cd S (hb kV doc pm cdv ct an) fun X W e1 e2 e3 e4 e5 e6 e7 e8 e9 e10 e11 e12 hp hr ht => ?_
  have e3' : X.K = K := e3
  have r := hbody X W ⟨e1, e2, e3', e4, e5, e6, e7, funext e9, e8, hr, ht⟩ hp
  have e : cX X A = cc K A := by
    show (⟨X.K, A.cA, A.cv, A.fl⟩ : Cfg) = ⟨K, A.cA, A.cv, A.fl⟩
    rw [e3']
  rw [← e]
  exact r
theorem FnD.imp {c : Cfg} {sp sp' : DSp} (F : FnD P w c mg base k f sp) (h : ∀ ds S Q E, sp' ds S Q E → sp ds S Q E) : FnD P w c mg base k f sp' :=
  fun A outer s H us vs Q E m e0 r ⟨ds, S, L, Qd, Ed, so, rs, hs, kq, kx⟩ => F A outer s H us vs Q E m e0 r ⟨ds, S, L, Qd, Ed, so, rs, h _ _ _ _ hs, kq, kx⟩
/-- def f(a, .., *v) -/
def starSp (n m : Nat) (t : DTS) : DSp := fun ds S Q E => ∃ ws rest, ds = ws ++ rest ∧ ws.length = m ∧ rest.length ≤ sizeLine ∧ t { nx := fun _ S' => Q .non S', rt := Q, xx := fun _ => E } (startD n (ws ++ [.tup rest])) S
theorem Reps.split {c : Cfg} {L : Lk} {H : Hp} {S : Sto} : ∀ {ws rest : List D} {vs : List V}, Reps c L H S (ws ++ rest) vs → ∃ v1 v2, vs = v1 ++ v2 ∧ Reps c L H S ws v1 ∧ Reps c L H S rest v2
  | [], rest, vs, r => ⟨[], vs, rfl, .nil, r⟩
  | d :: ws, rest, vs, r => by
    obtain ⟨v, us, e, r1, rs⟩ := Reps.of_cons (ds := ws ++ rest) r
    obtain ⟨a, b, e2, r2, r3⟩ := Reps.split rs
    exact ⟨v :: a, b, by rw [e, e2]; rfl, .cons r1 r2, r3⟩
theorem fnd_star {pv : Str} (F : FunP K name qual st f) (S : FnScope N (ps ++ [pv]) (defScope st))
    (hb : ∀ (kV doc pm cdv ct : Value) (an : Option Addr) (us rest : List Value), us.length = ps.length → bindArgs (PySem.W.fnOf name qual (defArgs st) (defBody st) (defScope st) .none kV doc pm an cdv ct) ⟨us ++ rest, []⟩ = (newTuple rest >>= fun t => pure (ps.zip us ++ [(pv, t)])))
    (hbody : ∀ (X : Cx) (W : WX), In P w K mg base N (defScope st) fAll k X W → PassesOwn (model X.prog X.w) X.A X.env X.xe → DStms X A W (defBody st) t) :
    FnD P w (cc K A) mg base (k + 1) f (starSp N.length ps.length t) := by
  obtain ⟨oc, kV, doc, pm, cdv, ct, od, an, osl, lk, cd⟩ := F
  intro A1 outer s H us vs Q E m e0 r ⟨ds, S0, L, Qd, Ed, so, rs, ⟨dw, dr, ed, hl, hz, h⟩, kq, kx⟩
  subst ed
  obtain ⟨vw, vr, ev, rw1, rr⟩ := rs.split
  subst ev
  obtain ⟨u1, u2, eu, r1, r2⟩ := StX.vals_split r
  subst eu
  have hn : H s.heap.objs.size = none := e0.hok.fresh (Nat.le_refl _)
  have hlw : vw.length = ps.length := by rw [rw1.length]; exact hl
  have hl1 : u1.length = ps.length := by rw [← r1.length]; exact hlw
  have hzv : vr.length ≤ sizeLine := by rw [rr.length]; exact hz
  have hl2 : u2.length ≤ sizeLine := by rw [← r2.length]; exact hzv
  refine StX.run_bnd (N := N) (ps := ps ++ [pv]) (G := fun xs H2 => ∃ p, H p = none ∧ xs = vw ++ [V.ref p] ∧ H2 = upd H p (.tup vr)) lk cd S m.r e0 (fun A' Ex Q' hq => ?_) fun s2 H2 xs ⟨p, hp, ex, eH⟩ hr' => ?_
  · rw [hb kV doc pm cdv ct an u1 u2 hl1]
    refine wpAny_bind (wpAny_newTuple (wpAny_pure ?_) hl2)
    have new : ObjOk P w (upd H s.heap.objs.size (.tup vr)) (s.heap.push ({ cls := .type "tuple", data := .seq u2.toArray } : Obj)) s.heap.objs.size (.tup vr) := ⟨hzv, u2, r2, ⟨_, Heap.get?_push_size _ rfl, rfl, _, rfl⟩⟩
    have un := StX.un_laid (fs := frs outer) (s := s) (o := ({ cls := .type "tuple", data := .seq u2.toArray } : Obj)) (u := .tup vr) hn
    have z := hq _ _ (vw ++ [V.ref s.heap.objs.size]) (u1 ++ [Value.ref s.heap.objs.size]) (StX.env0_laid e0 new) un rfl (fun e s' => StX.cxUp outer s H _ _ E e s' un (fun b o q => Heap.get?_push_of_some _ q) rfl) (r1.append (.cons rfl .nil))
      (by rw [List.length_append, List.length_append, hlw] <;> rfl) ⟨_, hn, rfl, rfl⟩
    rw [List.zip_append hl1.symm] at z
    exact z
  · subst ex eH
    have e1 : Ext H S0 (upd H p (.tup vr)) S0 := Ext.upd hp
    have so1 : StoR (cc K A) L (upd H p (.tup vr)) S0 := so.upd hp
    have fr := so.free hp
    have rt : Rep (cc K A) L (upd H p (.tup vr)) S0 (.tup dr) (.ref p) := by unfold Rep; exact ⟨p, vr, rfl, .inl ⟨.inl upd_same, fr.1, fr.2⟩, rr.ext e1⟩
    have rs1 : Reps (cc K A) L (upd H p (.tup vr)) S0 (dw ++ [.tup dr]) (vw ++ [V.ref p]) := (rw1.ext e1).append (.cons rt .nil)
    refine ⟨liftS (cc K A) (fun n a _ H' => E n a H') t, ?_, ?_⟩
    · exact hbody _ _ ⟨rfl, rfl, rfl, rfl, rfl, rfl, rfl, rfl, rfl, m.deeper _, takes_of rfl rfl rfl rfl⟩ (passes_of rfl)
    · exact ⟨_, S0, L, _, start_env rs1, so1, h, ⟨fun σ' H' ρ' S' x so' sl' q => kq _ H' _ S' (e1.trans x) so' (by unfold Rep; rfl) q, kq.ext e1, fun _ _ _ _ _ _ _ z => z.elim, fun _ _ _ _ _ _ _ z => z.elim, fun n a σ' H' ρ' ds' S' x so' _ xr q => kx n a H' ds' S' (e1.trans x) so' xr q⟩⟩
end
end DL

namespace DL
open PySem PySem.Spec PyProof.Rows L2

/-! ### the rules as the printer names them -/
section
variable {X : Cx} {A : Cla} {W : WX} {e a b e3 o value : Expr} {es rest : List Expr} {pos p apos : Pos} {t u v : DT} {ta : DTA} {R R' : DR2}
theorem pCons (h1 : DE X A W e t) (h2 : DA X A W es ta) (hs : starEach (e :: es) X.env = (false, eval e X.env) :: starEach es X.env := by rfl) : DA X A W (e :: es) (dCons t ta) := da_cons h1 h2 hs
def sokB (z : Str) : Bool := decide (z.length ≤ sizeLine) && z.cps.all (· < 0x110000)
theorem sokB_ok {z : Str} (h : sokB z = true) : SOk z := by
  unfold sokB at h
  rw [Bool.and_eq_true] at h
  exact ⟨of_decide_eq_true h.1, h.2⟩
theorem pStr {z : Str} {j : Nat} (h : sokB z = true) : DE X A W (.Constant (.str z) j pos) (dCst (.str z)) := de_str (sokB_ok h)
theorem pBin {op : Operator} (m : Bool) (ha : DE X A W a t) (hb : DE X A W b u) : DE X A W (.BinOp a op b pos) (dOp (rBin m op) t u) := de_op (opd_bin op) ha hb
theorem pNeg (ha : DE X A W a t) : DE X A W (.UnaryOp .USub a pos) (dUn rNeg t) := de_un und_neg ha
theorem pCmp {op : CmpOp} {k : Nat} (m : Rm k X.A) (ha : DE X A W a t) (hb : DE X A W b u) (hm : behindInMarks op b = false := by first | exact nobehind _ (by decide) (by decide) | rfl) : DE X A W (.Compare a [op] [b] pos) (dOp (rCmp op) t u) := de_cmp (opd_cmp m op) ha hb hm
theorem pCmpT {op : CmpOp} {k : Nat} (m : Rm k X.A) (ha : DE X A W a t) (hb : DE X A W b u) (hm : behindInMarks op b = false := by first | exact nobehind _ (by decide) (by decide) | rfl) : DTst X A W (.Compare a [op] [b] pos) (dTst (dOp (rCmp op) t u)) := dt_cmp (opd_cmp m op) ha hb hm
theorem pChn {op op' : CmpOp} {k : Nat} (m : Rm k X.A) (ha : DE X A W a t) (hb : DE X A W b u) (hc : DE X A W e3 v) (hm : lastMarks [op, op'] [b, e3] = false := by rfl) : DE X A W (.Compare a [op, op'] [b, e3] pos) (dChain (rCmp op) (rCmp op') t u v) := de_chain (opd_cmp m op) (opd_cmp m op') ha hb hc hm
theorem pChnT {op op' : CmpOp} {k : Nat} (m : Rm k X.A) (ha : DE X A W a t) (hb : DE X A W b u) (hc : DE X A W e3 v) (hm : lastMarks [op, op'] [b, e3] = false := by rfl) : DTst X A W (.Compare a [op, op'] [b, e3] pos) (dTst (dBl (dChain (rCmp op) (rCmp op') t u v))) := dt_chain (opd_cmp m op) (opd_cmp m op') ha hb hc hm
theorem pVal (h : DE X A W e t) (he : ∀ whole, isTrue e X.env whole = (do let v ← whole; standAt e.pos; holding [v] (truthy v)) := by intro _; rfl) : DTst X A W e (dTst t) := dt_val h he
theorem pIdx (ha : DE X A W a t) (hb : DE X A W b u) (hs : PlainIx b := by intro _ _; rfl) : DE X A W (.Subscript a b pos) (dOp rIdx t u) := de_idx ha hb hs
theorem pExpr (he : DE X A W e t) (hs : swapsWith e none pos.line X.env = pure false := by rfl) : DStm X A W (.Expr e pos) (sDrop t) := ds_expr he hs
theorem pSub {i : Expr} (ho : DE X A W o t) (hi : DE X A W i u) (ha : ∀ v, assign (.Subscript o i pos) X.env v = (do
      let ov ← holding [v] (eval o X.env)
      let iv ← holding [v, ov] (eval i X.env)
      standAt pos
      holding [v, ov, iv] (setItem ov iv v)
      release [v, ov, iv] []) := by intro _; rfl) : DTgt X A W (.Subscript o i pos) (gSubD t u) := dg_sub ho hi ha
theorem pStarts (ho : DE X A W o t) (he : DE X A W e u) (hs : starEach [e] X.env = [(false, eval e X.env)] := by rfl) (hbase : attributeBase o "startswith" X.env (eval o X.env) = eval o X.env := by rfl) (hline : (apos.endLine == pos.line) = true := by rfl) :
    DE X A W (.Call (.Attribute o "startswith" apos) [e] [] pos) (dM1 mStarts t u) := de_m1 PySem.F.slot_str_startswith PySem.F.type_str_startswith ms_starts ho he hs hbase hline
theorem pEnds (ho : DE X A W o t) (he : DE X A W e u) (hs : starEach [e] X.env = [(false, eval e X.env)] := by rfl) (hbase : attributeBase o "endswith" X.env (eval o X.env) = eval o X.env := by rfl) (hline : (apos.endLine == pos.line) = true := by rfl) :
    DE X A W (.Call (.Attribute o "endswith" apos) [e] [] pos) (dM1 mEnds t u) := de_m1 PySem.F.slot_str_endswith PySem.F.type_str_endswith ms_ends ho he hs hbase hline
theorem pJoin (ho : DE X A W o t) (he : DE X A W e u) (hs : starEach [e] X.env = [(false, eval e X.env)] := by rfl) (hbase : attributeBase o "join" X.env (eval o X.env) = eval o X.env := by rfl) (hline : (apos.endLine == pos.line) = true := by rfl) :
    DE X A W (.Call (.Attribute o "join" apos) [e] [] pos) (dM1 mJoin t u) := de_m1 PySem.F.slot_str_join PySem.F.type_str_join ms_join ho he hs hbase hline
theorem pAppend (ho : DE X A W o t) (ha : DA X A W (e :: es) ta) (hbase : attributeBase o "append" X.env (eval o X.env) = eval o X.env := by rfl)
    (hfew : ((backTo pos (starEach (e :: es) X.env)).all (fun x => !x.1) && (backToKw pos (keywordEach [] X.env)).all (fun x => x.1.isSome)
      && decide ((e :: es).length + ([] : List Keyword).length + (if ([] : List Keyword).isEmpty then 0 else 1) < 30)) = true := by rfl)
    (hline : (apos.endLine == pos.line) = true := by rfl) (hs : starEach (e :: es) X.env = (false, eval e X.env) :: starEach es X.env := by rfl) (hplain : (backTo pos (starEach es X.env)).any (·.1) = false := by rfl) :
    DE X A W (.Call (.Attribute o "append" apos) (e :: es) [] pos) (dMt mAppend t ta) := de_bm PySem.F.slot_list_append PySem.F.type_list_append md_append ho ha hbase hfew hline hs hplain
theorem pPopAt (ho : DE X A W o t) (ha : DA X A W (e :: es) ta) (hbase : attributeBase o "pop" X.env (eval o X.env) = eval o X.env := by rfl)
    (hfew : ((backTo pos (starEach (e :: es) X.env)).all (fun x => !x.1) && (backToKw pos (keywordEach [] X.env)).all (fun x => x.1.isSome)
      && decide ((e :: es).length + ([] : List Keyword).length + (if ([] : List Keyword).isEmpty then 0 else 1) < 30)) = true := by rfl)
    (hline : (apos.endLine == pos.line) = true := by rfl) (hs : starEach (e :: es) X.env = (false, eval e X.env) :: starEach es X.env := by rfl) (hplain : (backTo pos (starEach es X.env)).any (·.1) = false := by rfl) :
    DE X A W (.Call (.Attribute o "pop" apos) (e :: es) [] pos) (dMt mPopAt t ta) := de_bm PySem.F.slot_list_pop PySem.F.type_list_pop md_popAt ho ha hbase hfew hline hs hplain
end
theorem mem_lookup {α β : Type} [BEq α] [LawfulBEq α] {x : α} {y : β} : ∀ {l : List (α × β)}, l.lookup x = some y → (x, y) ∈ l
  | [], h => by cases h
  | (a, b) :: l, h => by
    rw [List.lookup_cons] at h
    cases e : x == a with
    | true =>
      rw [e] at h
      cases h
      rw [eq_of_beq e]
      exact List.mem_cons_self ..
    | false =>
      rw [e] at h
      exact List.mem_cons_of_mem _ (mem_lookup h)
theorem isi_mk {c : Cfg} {l : Isi} (h1 : ∀ a b r, ((a, b), r) ∈ l → PySem.W.kitOne c.K (a.val c.cA) (b.val c.cA) = some r) (h2 : ∀ C b r, ((.own C, b), r) ∈ l → ClsOk c.K (c.cA C)) : IsiOk c l :=
  ⟨fun a b r h => h1 a b r (mem_lookup h), fun C b r h => h2 C b r (mem_lookup h)⟩
end DL

namespace DL
open PySem PySem.Spec PyProof.Rows L2

/-! ### loops: invariants -/
theorem forGo_inv {g : DTG} {G : Sto → Prop} {body : DTS} {DD : DEnds} (xs : List D) (J : Nat → DSt → Sto → Prop) {ρ : DSt} {S : Sto} (h0 : J 0 ρ S)
    (hs : ∀ i x ρ S (Kn : DP), xs[i]? = some x → J i ρ S → (∀ ρ' S', J (i + 1) ρ' S' → Kn ρ' S') → G S ∧ g x ρ S (fun ρ1 S1 => body { DD with nx := Kn, ct := Kn, bk := DD.nx } ρ1 S1) (DD.xx ρ))
    (hq : ∀ ρ S, J xs.length ρ S → G S ∧ DD.nx ρ S) : forGo g G body DD xs ρ S := by
  have gen : ∀ (n : Nat) (ys : List D) (i : Nat) (ρ : DSt) (S : Sto), ys = xs.drop i → ys.length = n → i ≤ xs.length → J i ρ S → forGo g G body DD ys ρ S := by
    intro n
    induction n with
    | zero =>
      intro ys i ρ S e hn hi j
      have hy : ys = [] := List.length_eq_zero_iff.mp hn
      subst hy
      have : xs.length ≤ i := by
        have := congrArg List.length e
        rw [List.length_drop] at this
        simp at this
        omega
      have ei : i = xs.length := by omega
      subst ei
      exact hq ρ S j
    | succ n ih =>
      intro ys i ρ S e hn hi j
      cases ys with
      | nil => cases hn
      | cons y ys =>
        have hlt : i < xs.length := by
          have := congrArg List.length e
          rw [List.length_drop] at this
          simp at this hn
          omega
        rw [List.drop_eq_getElem_cons hlt] at e
        injection e with e1 e2
        have hg : xs[i]? = some y := by rw [List.getElem?_eq_getElem hlt, e1]
        exact hs i y ρ S (forGo g G body DD ys) hg j fun ρ' S' j' => ih ys (i + 1) ρ' S' e2 (by simpa using hn) hlt j'
  exact gen _ xs 0 ρ S rfl rfl (Nat.zero_le _) h0
theorem lcGo_inv {g : Tg} {G : Sto → Prop} {tc : DTT} {te : DT} {ρ : DSt} {Q : List D → Sto → Prop} (xs : List D) (J : Nat → List D → Sto → Prop) {acc : List D} {S : Sto} (h0 : J 0 acc S)
    (hs : ∀ i x acc S (Kn : D → Sto → Prop) (Ks : Sto → Prop), xs[i]? = some x → J i acc S → (∀ y S', J (i + 1) (acc ++ [y]) S' → Kn y S') → (∀ S', J (i + 1) acc S' → Ks S') → G S ∧ g.d x ρ (fun ρ1 S1 => tc ρ1 S1 (fun b S2 => if b = true then te ρ1 S2 Kn DX0 else Ks S2) DX0) S)
    (hq : ∀ acc S, J xs.length acc S → G S ∧ Q acc S) : lcGo g G tc te ρ Q xs acc S := by
  have gen : ∀ (n : Nat) (ys : List D) (i : Nat) (acc : List D) (S : Sto), ys = xs.drop i → ys.length = n → i ≤ xs.length → J i acc S → lcGo g G tc te ρ Q ys acc S := by
    intro n
    induction n with
    | zero =>
      intro ys i acc S e hn hi j
      have hy : ys = [] := List.length_eq_zero_iff.mp hn
      subst hy
      have : xs.length ≤ i := by
        have := congrArg List.length e
        rw [List.length_drop] at this
        simp at this
        omega
      have ei : i = xs.length := by omega
      subst ei
      exact hq acc S j
    | succ n ih =>
      intro ys i acc S e hn hi j
      cases ys with
      | nil => cases hn
      | cons y ys =>
        have hlt : i < xs.length := by
          have := congrArg List.length e
          rw [List.length_drop] at this
          simp at this hn
          omega
        rw [List.drop_eq_getElem_cons hlt] at e
        injection e with e1 e2
        have hg : xs[i]? = some y := by rw [List.getElem?_eq_getElem hlt, e1]
        exact hs i y acc S (fun z S3 => lcGo g G tc te ρ Q ys (acc ++ [z]) S3) (fun S2 => lcGo g G tc te ρ Q ys acc S2) hg j (fun z S' j' => ih ys (i + 1) (acc ++ [z]) S' e2 (by simpa using hn) hlt j')
          fun S' j' => ih ys (i + 1) acc S' e2 (by simpa using hn) hlt j'
  exact gen _ xs 0 acc S rfl rfl (Nat.zero_le _) h0
/-- each item by a function, some left out; nothing changes -/
theorem lcGo_fm {g : Tg} {G : Sto → Prop} {tc : DTT} {te : DT} {ρ : DSt} {Q : List D → Sto → Prop} {S : Sto} (f : D → Option D) (hG : G S) : ∀ (xs : List D) (acc : List D)
    (_ : ∀ x ∈ xs, ∀ (Kn : D → Sto → Prop) (Ks : Sto → Prop), (∀ y, f x = some y → Kn y S) → (f x = none → Ks S) → g.d x ρ (fun ρ1 S1 => tc ρ1 S1 (fun b S2 => if b = true then te ρ1 S2 Kn DX0 else Ks S2) DX0) S)
    (_ : Q (acc ++ xs.filterMap f) S), lcGo g G tc te ρ Q xs acc S
  | [], acc, _, q => ⟨hG, by simpa using q⟩
  | x :: xs, acc, h, q => ⟨hG, h x (List.mem_cons_self ..) _ _ (fun y e => lcGo_fm f hG xs (acc ++ [y]) (fun z hz => h z (List.mem_cons_of_mem _ hz)) (by rw [List.filterMap_cons, e] at q; simpa using q))
      fun e => lcGo_fm f hG xs acc (fun z hz => h z (List.mem_cons_of_mem _ hz)) (by rw [List.filterMap_cons, e] at q; exact q)⟩
theorem lcGo_map {g : Tg} {G : Sto → Prop} {te : DT} {ρ : DSt} {Q : List D → Sto → Prop} {S : Sto} (f : D → D) (hG : G S) (xs : List D)
    (h : ∀ x ∈ xs, ∀ (Kn : D → Sto → Prop), Kn (f x) S → g.d x ρ (fun ρ1 S1 => te ρ1 S1 Kn DX0) S) (q : Q (xs.map f) S) : lcGo g G dYes te ρ Q xs [] S := by
  refine lcGo_fm (fun x => some (f x)) hG xs [] (fun x hx Kn Ks h1 _ => ?_) (by rw [List.nil_append, List.filterMap_eq_map' ] <;> exact q)
  exact h x hx Kn (h1 _ rfl)

/-! ### the law's bag of numbers -/
def BagOk (a b : Int) : Prop := 0 ≤ a ∧ 0 ≤ b ∧ b < 2147483648
/-- the store: the bag's numbers changed, new objects -/
def Bg (p : Addr) (S S' : Sto) : Prop := (∃ a b, BagOk a b ∧ S' p = some (.lst [.int a, .int b])) ∧ ∀ q, q ≠ p → S q ≠ none → S' q = S q
theorem Bg.trans {p : Addr} {S S1 S2 : Sto} (h : Bg p S S1) (h2 : Bg p S1 S2) : Bg p S S2 := ⟨h2.1, fun q n z => (h2.2 q n (by rw [h.2 q n z]; exact z)).trans (h.2 q n z)⟩
theorem Bg.self {p : Addr} {S S' : Sto} (h : Bg p S S') : Bg p S' S' := ⟨h.1, fun _ _ _ => rfl⟩
theorem Bg.refl {p : Addr} {S : Sto} {a b : Int} (h : S p = some (.lst [.int a, .int b])) (k : BagOk a b) : Bg p S S := ⟨⟨a, b, k, h⟩, fun _ _ _ => rfl⟩
theorem Bg.at_ {p : Addr} {S S' : Sto} (h : Bg p S S') : ∃ a b, BagOk a b ∧ S' p = some (.lst [.int a, .int b]) := h.1
theorem Bg.off {p q : Addr} {S S' : Sto} (n : q ≠ p) {o : MO} (z : S q = some o) (h : Bg p S S') : S' q = some o := (h.2 q n (by rw [z]; exact fun e => by cases e)).trans z
theorem Bg.num {p : Addr} {S : Sto} {a b : Int} (k : BagOk a b) : Bg p S (S.set p (.lst [.int a, .int b])) := ⟨⟨a, b, k, Sto.set_same⟩, fun q n _ => Sto.set_ne n⟩
theorem Bg.ne {p q : Addr} {S S' : Sto} (h : Bg p S S') (hq : S' q = none) : q ≠ p := fun e => by
  obtain ⟨a, b, _, z⟩ := h.1
  rw [e, z] at hq
  cases hq
theorem Bg.no {p q : Addr} {S S' : Sto} (h : Bg p S S') (hq : S' q = none) : S q = none := by
  cases e : S q with
  | none => rfl
  | some o =>
    have := h.off (h.ne hq) e
    rw [hq] at this
    cases this
theorem Bg.wr {p q : Addr} {S S' : Sto} {o : MO} (h : Bg p S S') (n : q ≠ p) (hn : S q = none) : Bg p S (S'.set q o) := by
  obtain ⟨⟨a, b, k, z⟩, r⟩ := h
  refine ⟨⟨a, b, k, by rw [Sto.set_ne (Ne.symm n)]; exact z⟩, fun x nx sx => ?_⟩
  have : x ≠ q := fun e => sx (by rw [e]; exact hn)
  rw [Sto.set_ne this]
  exact r x nx sx
theorem Bg.new {p q : Addr} {S S' : Sto} {o : MO} (h : Bg p S S') (hq : S' q = none) : Bg p S (S'.set q o) := h.wr (h.ne hq) (h.no hq)
theorem Bg.dl {p q : Addr} {S S' : Sto} (h : Bg p S S') (n : q ≠ p) (hn : S q = none) : Bg p S (S'.del q) := by
  obtain ⟨⟨a, b, k, z⟩, r⟩ := h
  refine ⟨⟨a, b, k, by unfold Sto.del; rw [if_neg (Ne.symm n)]; exact z⟩, fun x nx sx => ?_⟩
  have : x ≠ q := fun e => sx (by rw [e]; exact hn)
  unfold Sto.del
  rw [if_neg this]
  exact r x nx sx

/-! ### readings as equations: they fire where the values are known -/
section
variable {S : Sto} {Q : DQ} {E : DX} {i j : Int} {a b : Str} {xs ys : List D} {p : Addr} {x y : D} {m : Bool}
theorem x_lt : rCmp .Lt (.int i) (.int j) S Q E = Q (.bl (decide (i < j))) S := rfl
theorem x_le : rCmp .LtE (.int i) (.int j) S Q E = Q (.bl (decide (i ≤ j))) S := rfl
theorem x_gt : rCmp .Gt (.int i) (.int j) S Q E = Q (.bl (decide (j < i))) S := rfl
theorem x_ge : rCmp .GtE (.int i) (.int j) S Q E = Q (.bl (decide (j ≤ i))) S := rfl
theorem ex_simp {P : D → Prop} {v : D} {R : Prop} (h : R = P v) : R = P v := h
theorem beqD {α : Type} [DecidableEq α] [BEq α] [LawfulBEq α] (a b : α) : (a == b) = decide (a = b) := by
  by_cases e : a = b
  · rw [e]; simp
  · rw [decide_eq_false e]; exact beq_eq_false_iff_ne.mpr e
theorem x_eqi : rCmp .Eq (.int i) (.int j) S Q E = Q (.bl (decide (i = j))) S := by
  show ((view S (.int i)).dat 32 = true ∧ (view S (.int j)).dat 32 = true ∧ Q (.bl (PyData.eqv (.int i) (.int j))) S) = _
  have e1 : (view S (.int i)).dat 32 = true := rfl
  have e2 : (view S (.int j)).dat 32 = true := rfl
  have e3 : PyData.eqv (.int i) (.int j) = decide (i = j) := beqD _ _
  rw [e1, e2, e3]
  simp
theorem x_nei : rCmp .NotEq (.int i) (.int j) S Q E = Q (.bl (!decide (i = j))) S := by
  show ((view S (.int i)).dat 32 = true ∧ (view S (.int j)).dat 32 = true ∧ Q (.bl (!PyData.eqv (.int i) (.int j))) S) = _
  have e1 : (view S (.int i)).dat 32 = true := rfl
  have e2 : (view S (.int j)).dat 32 = true := rfl
  have e3 : PyData.eqv (.int i) (.int j) = decide (i = j) := beqD _ _
  rw [e1, e2, e3]
  simp
theorem x_eqs : rCmp .Eq (.str a) (.str b) S Q E = Q (.bl (decide (a = b))) S := by
  show ((view S (.str a)).dat 32 = true ∧ (view S (.str b)).dat 32 = true ∧ Q (.bl (PyData.eqv (.str a) (.str b))) S) = _
  have e1 : (view S (.str a)).dat 32 = true := rfl
  have e2 : (view S (.str b)).dat 32 = true := rfl
  have e3 : PyData.eqv (.str a) (.str b) = decide (a = b) := beqD _ _
  rw [e1, e2, e3]
  simp
theorem x_nes : rCmp .NotEq (.str a) (.str b) S Q E = Q (.bl (!decide (a = b))) S := by
  show ((view S (.str a)).dat 32 = true ∧ (view S (.str b)).dat 32 = true ∧ Q (.bl (!PyData.eqv (.str a) (.str b))) S) = _
  have e1 : (view S (.str a)).dat 32 = true := rfl
  have e2 : (view S (.str b)).dat 32 = true := rfl
  have e3 : PyData.eqv (.str a) (.str b) = decide (a = b) := beqD _ _
  rw [e1, e2, e3]
  simp
theorem x_ner {p q : PyData} : rCmp .NotEq (.rp p) (.rp q) S Q E = Q (.bl (!decide (p.shown = q.shown))) S := rfl
theorem x_eqr {p q : PyData} : rCmp .Eq (.rp p) (.rp q) S Q E = Q (.bl (decide (p.shown = q.shown))) S := rfl
theorem x_in : rCmp .In (.str a) (.str b) S Q E = Q (.bl (inStr a b)) S := rfl
theorem x_nin : rCmp .NotIn (.str a) (.str b) S Q E = Q (.bl (!inStr a b)) S := rfl
theorem x_is : rCmp .Is x .non S Q E = Q (.bl x.isN) S := by show (D.non = D.non ∧ _) = _; simp
theorem x_isnt : rCmp .IsNot x .non S Q E = Q (.bl (!x.isN)) S := by show (D.non = D.non ∧ _) = _; simp
theorem x_add : rBin m .Add (.int i) (.int j) S Q E = Q (.int (i + j)) S := rfl
theorem x_adds : rBin m .Add (.str a) (.str b) S Q E = (a.length + b.length ≤ sizeLine ∧ Q (.str (a ++ b)) S) := rfl
theorem x_addt : rBin m .Add (.tup xs) (.tup ys) S Q E = (xs.length + ys.length ≤ sizeLine ∧ Q (.tup (xs ++ ys)) S) := rfl
theorem x_addl : rBin false .Add (.lst xs) (.lst ys) S Q E = (xs.length + ys.length ≤ sizeLine ∧ Q (.lst (xs ++ ys)) S) := by
  show (∃ a b, seqM S (.lst xs) = some a ∧ seqM S (.lst ys) = some b ∧ a.length + b.length ≤ sizeLine ∧ mkL false (a ++ b) S Q) = _
  simp [seqM, seqL, mkL]
theorem x_sub : rBin m .Sub (.int i) (.int j) S Q E = Q (.int (i - j)) S := by show (∃ i' j', D.int i = D.int i' ∧ D.int j = D.int j' ∧ _) = _; simp
theorem x_mul : rBin m .Mult (.int i) (.int j) S Q E = (MulOk i j ∧ Q (.int (i * j)) S) := rfl
theorem x_div : rBin m .FloorDiv (.int i) (.int j) S Q E = (DivOk j ∧ Q (.int (i / j)) S) := by show (∃ i' j', D.int i = D.int i' ∧ D.int j = D.int j' ∧ _) = _; simp
theorem x_mod : rBin m .Mod (.int i) (.int j) S Q E = (0 < j ∧ Q (.int (i % j)) S) := by show (∃ i' j', D.int i = D.int i' ∧ D.int j = D.int j' ∧ _) = _; simp
theorem x_pow : rBin m .Pow (.int i) (.int j) S Q E = (0 ≤ j ∧ j ≤ 1000000 ∧ -18446744073709551616 < i ∧ i < 18446744073709551616 ∧ Q (.int (i ^ j.toNat)) S) := by
  apply propext
  constructor
  · rintro ⟨i', j', e1, e2, ⟨h1, h2, h3⟩, h⟩
    cases e1
    cases e2
    exact ⟨h1, h2, by omega, by omega, h⟩
  · rintro ⟨h1, h2, h3, h4, h⟩
    exact ⟨i, j, rfl, rfl, ⟨h1, h2, by omega⟩, h⟩
theorem x_neg : rNeg (.int i) S Q E = Q (.int (-i)) S := by show (∃ i', D.int i = D.int i' ∧ _) = _; simp
theorem x_int : rInt [.int i] S Q E = Q (.int i) S := by show (∃ x n, [D.int i] = [x] ∧ intD x = some n ∧ _) = _; simp [intD]
theorem x_abs : rAbs [.int i] S Q E = Q (.int (if i < 0 then -i else i)) S := by show (∃ i', [D.int i] = [D.int i'] ∧ _) = _; simp
theorem x_max : rMax [.int i, .int j] S Q E = Q (.int (if j > i then j else i)) S := by
  apply propext
  constructor
  · rintro ⟨i', j', e, h⟩
    cases e
    exact h
  · exact fun h => ⟨i, j, rfl, h⟩
theorem x_min : rMin [.int i, .int j] S Q E = Q (.int (if j < i then j else i)) S := by
  apply propext
  constructor
  · rintro ⟨i', j', e, h⟩
    cases e
    exact h
  · exact fun h => ⟨i, j, rfl, h⟩
theorem x_len : rLen [x] S Q E = ∃ n, lenD S x = some n ∧ Q (.int (n : Nat)) S := by show (∃ x' n, [x] = [x'] ∧ _) = _; simp
theorem len_str : lenD S (.str a) = some a.length := rfl
theorem len_tup : lenD S (.tup xs) = some xs.length := rfl
theorem len_lst : lenD S (.lst xs) = some xs.length := rfl
theorem len_cst : lenD S (.cst xs) = some xs.length := rfl
theorem x_idxs : rIdx (.str a) (.int i) S Q E = ∃ k, atI a.cps.toList i = some k ∧ Q (chD k) S := by show (∃ i' k, D.int i = D.int i' ∧ _) = _; simp
theorem x_idxt : rIdx (.tup xs) (.int i) S Q E = ∃ d, atI xs i = some d ∧ Q d S := by show (∃ ds i' d, some xs = some ds ∧ D.int i = D.int i' ∧ _) = _; simp
theorem x_idxl : rIdx (.lst xs) (.int i) S Q E = ∃ d, atI xs i = some d ∧ Q d S := by show (∃ ds i' d, some xs = some ds ∧ D.int i = D.int i' ∧ _) = _; simp
theorem x_idxc : rIdx (.cst xs) (.int i) S Q E = ∃ d, atI xs i = some d ∧ Q d S := by show (∃ ds i' d, some xs = some ds ∧ D.int i = D.int i' ∧ _) = _; simp
theorem x_idxr : rIdx (.ref p) (.int i) S Q E = ∃ xs, S p = some (.lst xs) ∧ ∃ d, atI xs i = some d ∧ Q d S := by
  show (∃ ds i' d, (match S p with | some (.lst xs) => some xs | _ => none) = some ds ∧ D.int i = D.int i' ∧ _) = _
  cases h : S p with
  | none => simp
  | some o => cases o <;> simp
theorem x_isi {T : Isi} {t : Ty} : rIsiD T [x, .ty t] S Q E = ∃ a, tyN S x = some a ∧ ∃ r, T.lookup (a, t) = some r ∧ Q (.bl r) S := by
  show (∃ x' t' b a r, [x, D.ty t] = [x', D.ty b] ∧ t' = b ∧ _) = _
  simp only [List.cons.injEq, D.ty.injEq, and_true]
  apply propext
  constructor
  · rintro ⟨x', t', b, a, r, ⟨e1, e2⟩, e3, e4, e5, e6⟩
    subst e1 e2
    exact ⟨a, e4, r, e5, e6⟩
  · rintro ⟨a, e4, r, e5, e6⟩
    exact ⟨x, t, t, a, r, ⟨rfl, rfl⟩, rfl, e4, e5, e6⟩
theorem ty_str : tyN S (.str a) = some .str := rfl
theorem ty_int : tyN S (.int i) = some .int := rfl
theorem ty_bl {k : Bool} : tyN S (.bl k) = some .bl := rfl
theorem ty_non : tyN S .non = some .non := rfl
theorem ty_tup : tyN S (.tup xs) = some .tup := rfl
theorem ty_lst : tyN S (.lst xs) = some .lst := rfl
theorem ty_cst : tyN S (.cst xs) = some .lst := rfl
theorem ty_ins {C : Nat} : tyN S (.ins C xs) = some (.own C) := rfl
theorem tr_bl {k : Bool} : truth S (.bl k) = some k := rfl
theorem tr_int : truth S (.int i) = some (i != 0) := rfl
theorem tr_str : truth S (.str a) = some ((a.length : Int) != 0) := rfl
theorem tr_tup : truth S (.tup xs) = some (!xs.isEmpty) := rfl
theorem tr_lst : truth S (.lst xs) = some (!xs.isEmpty) := rfl
theorem tr_non : truth S .non = some false := rfl
theorem x_frz {o : MO} {ρ : DSt} {t : DT} : dFrz t ρ S Q E = t ρ S (fun d S1 => ∃ p o, d = .ref p ∧ S1 p = some o ∧ Q (freezeD p o) (S1.del p)) E := rfl
theorem x_all {bs : List Bool} : rAllD [.lst (bs.map D.bl)] S Q E = Q (.bl (bs.all id)) S := by
  show (∃ (x : D) (bs' : List Bool), [D.lst (bs.map D.bl)] = [x] ∧ seqL S x = some (bs'.map D.bl) ∧ _) = _
  apply propext
  constructor
  · rintro ⟨x, bs', e, e2, h⟩
    injection e with e _
    subst e
    have e3 : bs.map D.bl = bs'.map D.bl := Option.some.inj e2
    have inj : ∀ (l r : List Bool), l.map D.bl = r.map D.bl → l = r := by
      intro l
      induction l with
      | nil => intro r h; cases r with
        | nil => rfl
        | cons _ _ => cases h
      | cons u us ih => intro r h; cases r with
        | nil => cases h
        | cons w ws =>
          simp only [List.map_cons, List.cons.injEq, D.bl.injEq] at h
          rw [h.1, ih ws h.2]
    rw [inj _ _ e3]
    exact h
  · intro h
    exact ⟨_, bs, rfl, rfl, h⟩
theorem x_join {zs : List Str} (hz : strsD xs = some zs) : mJoin (.str a) (.lst xs) S Q E = ((zs.map (·.length)).sum + zs.length * a.length ≤ 16777216 ∧ Q (.str (Txt.join a zs)) S) := by
  show (∃ a' ds ys, D.str a = D.str a' ∧ seqA S (.lst xs) = some ds ∧ strsD ds = some ys ∧ _) = _
  simp [seqA, seqL, hz]
theorem x_ends : mEnds (.str a) (.str b) S Q E = Q (.bl (Txt.endswith a b)) S := by show (∃ a' b', D.str a = D.str a' ∧ D.str b = D.str b' ∧ _) = _; simp
theorem x_starts : mStarts (.str a) (.str b) S Q E = Q (.bl (Txt.startswith a b)) S := by show (∃ a' b', D.str a = D.str a' ∧ D.str b = D.str b' ∧ _) = _; simp
theorem x_isstr : (∃ c, D.str a = D.str c) = True := by simp
theorem at_0 {α : Type} {x : α} {xs : List α} : atI (x :: xs) 0 = some x := by
  unfold atI ixN
  simp
theorem at_nat {α : Type} {xs : List α} {k : Nat} {x : α} (h : xs[k]? = some x) : atI xs (k : Nat) = some x := by
  unfold atI ixN
  have hk := (List.getElem?_eq_some_iff.mp h).1
  have h2 : ((k : Nat) : Int) < (xs.length : Int) := by omega
  simp [h2, h]
theorem at_1 {α : Type} {x y : α} {xs : List α} : atI (x :: y :: xs) 1 = some y := at_nat (k := 1) rfl
theorem at_2 {α : Type} {x y z : α} {xs : List α} : atI (x :: y :: z :: xs) 2 = some z := at_nat (k := 2) rfl
theorem at_in {α : Type} {xs : List α} {i : Int} (h0 : 0 ≤ i) (h1 : i < xs.length) : ∃ x, atI xs i = some x ∧ x ∈ xs := by
  obtain ⟨k, rfl⟩ := Int.eq_ofNat_of_zero_le h0
  have hk : k < xs.length := by omega
  exact ⟨xs[k], at_nat (List.getElem?_eq_getElem hk), List.getElem_mem hk⟩
theorem ix_0 : ixN 2 0 = some 0 := by decide
theorem ix_1 : ixN 2 1 = some 1 := by decide
theorem x_spr {n k : Nat} {t : DTS} {ds : List D} : bodySp n k t ds S Q E = (ds.length = k ∧ t { nx := fun _ S' => Q .non S', rt := Q, xx := fun _ => E } (startD n ds) S) := rfl
theorem si_str : seqI S (.str a) = some (a.cps.toList.map chD, noG) := rfl
theorem si_tup : seqI S (.tup xs) = some (xs, noG) := rfl
theorem si_lst : seqI S (.lst xs) = some (xs, noG) := rfl
theorem si_cst : seqI S (.cst xs) = some (xs, noG) := rfl
theorem x_slcs {lo hi : Option Int} : rSlc m (.str a) lo hi S Q = Q (.str (cutS a lo hi)) S := rfl
theorem x_slct {lo hi : Option Int} : rSlc m (.tup xs) lo hi S Q = Q (.tup (cutD xs lo hi)) S := rfl
theorem x_slcl {lo hi : Option Int} : rSlc m (.lst xs) lo hi S Q = mkL m (cutD xs lo hi) S Q := by
  show (∃ a, some xs = some a ∧ _) = _
  simp
theorem x_slcc {lo hi : Option Int} : rSlc m (.cst xs) lo hi S Q = mkL m (cutD xs lo hi) S Q := by
  show (∃ a, some xs = some a ∧ _) = _
  simp
theorem cutD_mem {α : Type} {xs : List α} {lo hi : Option Int} {x : α} (h : x ∈ cutD xs lo hi) : x ∈ xs := by
  unfold cutD at h
  exact List.mem_of_mem_drop (List.mem_of_mem_take h)
theorem zl {n : Nat} (h : n ≤ 10000000) : (n ≤ sizeLine) = True := eq_true (by have : sizeLine = 2 ^ 24 := rfl; rw [this]; omega)
theorem lt_line {n : Nat} (h : n ≤ 10000000) : n ≤ sizeLine := by
  have : sizeLine = 2 ^ 24 := rfl
  rw [this]
  omega
theorem x_app : mAppend (.ref p) [y] S Q = ∃ xs, S p = some (.lst xs) ∧ xs.length < sizeLine ∧ Q .non (S.set p (.lst (xs ++ [y]))) := by
  apply propext
  constructor
  · rintro ⟨p', xs, y', e1, e2, h⟩
    cases e1
    cases e2
    exact ⟨xs, h⟩
  · rintro ⟨xs, h⟩
    exact ⟨p, xs, y, rfl, rfl, h⟩
theorem x_pop : mPopAt (.ref p) [.int i] S Q = ∃ xs, S p = some (.lst xs) ∧ -(2 ^ 63) ≤ i ∧ i < 2 ^ 63 ∧ ∃ k y, seqIndex? i xs.length = some k ∧ xs[k]? = some y ∧ Q y (S.set p (.lst (xs.eraseIdx k))) := by
  apply propext
  constructor
  · rintro ⟨p', xs, i', k, y', e1, e2, h1, h2, h3, h4, h5, h6⟩
    cases e1
    cases e2
    exact ⟨xs, h1, h2, h3, k, y', h4, h5, h6⟩
  · rintro ⟨xs, h1, h2, h3, k, y', h4, h5, h6⟩
    exact ⟨p, xs, i, k, y', rfl, rfl, h1, h2, h3, h4, h5, h6⟩
theorem x_isref : (∃ p' xs, D.ref p = .ref p' ∧ S p' = some (.lst xs)) = ∃ xs, S p = some (.lst xs) := by
  apply propext
  constructor
  · rintro ⟨p', xs, e, h⟩
    cases e
    exact ⟨xs, h⟩
  · rintro ⟨xs, h⟩
    exact ⟨p, xs, rfl, h⟩
end
end DL

namespace DL
open PySem PySem.Spec PyProof.Rows L2

/-! ### the numbers that the laws draw -/
def R_bag : DTS := sSeq (sAsg (dIf (dOp (rCmp .Lt) (dVar 1) (dCB rLen (dCons (dVar 0) (dNil)))) (dCB rAbs (dCons (dOp rIdx (dVar 0) (dVar 1)) (dNil))) (dCst (.int 0))) (gNm 2)) (sSeq (sAsg (dOp (rBin false .Add) (dOp (rBin false .Mult) (dCst (.int 7919)) (dVar 1)) (dCst (.int 331))) (gNm 3)) (sSeq (sFor (iEnumD (dCons (dSlc false (dVar 0) none (some (dCst (.int 63)))) (dNil))) (gOf (.tup [.nm 4, .nm 5])) (sSeq (sAsg (dOp (rBin false .Mod) (dCB rInt (dCons (dOp (rBin false .Add) (dOp (rBin false .Add) (dOp (rBin false .Add) (dOp (rBin false .Mult) (dVar 3) (dCst (.int 52631))) (dOp (rBin false .Mod) (dCB rInt (dCons (dVar 5) (dNil))) (dCst (.int 2147483587)))) (dOp (rBin false .Mult) (dCst (.int 257)) (dVar 4))) (dCst (.int 19))) (dNil))) (dCst (.int 2147483629))) (gNm 3)) (sNext))) (sSeq (sRet (dLst true (dCons (dIf (dOp (rCmp .GtE) (dVar 2) (dOp (rBin true .Pow) (dCst (.int 10)) (dCst (.int 18)))) (dVar 2) (dCst (.int 0))) (dCons (dVar 3) (dNil))))) (sNext))))
def R_draw : DTS := sSeq (sIf (dOp (rCmp .Gt) (dOp rIdx (dVar 0) (dCst (.int 0))) (dCst (.int 0))) (sSeq (sAsg (dOp (rBin false .Mod) (dCB rInt (dCons (dOp rIdx (dVar 0) (dCst (.int 0))) (dNil))) (dVar 1)) (gNm 2)) (sSeq (sAsg (dOp (rBin false .FloorDiv) (dOp rIdx (dVar 0) (dCst (.int 0))) (dVar 1)) (gSubD (dVar 0) (dCst (.int 0)))) (sSeq (sRet (dVar 2)) (sNext)))) (sNext)) (sSeq (sAsg (dOp (rBin false .Mod) (dCB rInt (dCons (dOp (rBin false .Add) (dOp (rBin false .Mult) (dOp rIdx (dVar 0) (dCst (.int 1))) (dCst (.int 48271))) (dCst (.int 12347))) (dNil))) (dCst (.int 2147483647))) (gSubD (dVar 0) (dCst (.int 1)))) (sSeq (sRet (dOp (rBin false .Mod) (dOp (rBin false .FloorDiv) (dOp (rBin false .Mod) (dCB rInt (dCons (dOp (rBin false .Mult) (dOp (rBin false .FloorDiv) (dOp rIdx (dVar 0) (dCst (.int 1))) (dCst (.int 7))) (dCst (.int 40503))) (dNil))) (dCst (.int 2147483629))) (dCst (.int 32))) (dVar 1))) (sNext)))
theorem mul_ok {i j : Int} (h1 : i.natAbs < 2 ^ 64) (h2 : j.natAbs < 2 ^ 64) : MulOk i j := by
  unfold MulOk
  have a : ∀ n : Nat, n < 2 ^ 64 → n.log2 < 64 := fun n h => by
    by_cases e : n = 0
    · subst e; decide
    · exact (Nat.log2_lt e).mpr h
  have := a _ h1
  have := a _ h2
  omega
theorem div_ok {j : Int} (h0 : 0 < j) (h2 : j.natAbs < 2 ^ 64) : DivOk j := by
  refine ⟨h0, ?_⟩
  have : j.natAbs.log2 < 64 := (Nat.log2_lt (by omega)).mpr h2
  omega
/-- a number from 0 to many - 1 is drawn -/
def sp_draw : DSp := fun ds S Q _ => ∃ (p : Addr) (many : Int), ds = [.ref p, .int many] ∧ 0 < many ∧ many < 2 ^ 64 ∧ Bg p S S ∧ ∀ r S', Bg p S S' → 0 ≤ r → r < many → Q (.int r) S'
theorem draw_ok : ∀ ds S Q E, sp_draw ds S Q E → bodySp 3 2 R_draw ds S Q E := by
  rintro ds S Q E ⟨p, many, ed, h0, h1, bg, q⟩
  subst ed
  obtain ⟨a, b, ⟨ka, kb, kc⟩, hp⟩ := bg.at_
  unfold R_draw
  have dm : DivOk many := div_ok h0 (by omega)
  have d7 : DivOk 7 := div_ok (by decide) (by decide)
  have d32 : DivOk 32 := div_ok (by decide) (by decide)
  have m1 : MulOk b 48271 := mul_ok (by omega) (by decide)
  have hb2 : 0 ≤ (b * 48271 + 12347) % 2147483647 ∧ (b * 48271 + 12347) % 2147483647 < 2147483647 := ⟨Int.emod_nonneg _ (by decide), Int.emod_lt_of_pos _ (by decide)⟩
  have m2 : MulOk ((b * 48271 + 12347) % 2147483647 / 7) 40503 := mul_ok (by omega) (by decide)
  simp only [x_spr, startD, List.map_cons, List.map_nil, List.length_cons, List.length_nil, Nat.reduceAdd, Nat.reduceSub, Int.reduceLT, Int.reduceLE, Int.reduceToNat,  Int.reducePow, Int.reduceNeg, Nat.reduceLT, Nat.reduceLeDiff, Nat.reducePow, List.replicate_succ, List.replicate_zero, List.cons_append, List.nil_append, sSeq, sIf, sRet, sRetN, sNext, sAsg, sDrop, gNm, gOf, Tg.d, Tg.ds, dVar, dCst, dNil, dCons, dOp, dUn, dChain, dBl, dAnd, dOr, dNot, dIf, dTst, dCall, dCB, dLst, dTup, dM1, gSubD, mkL, dYes, dPart, dSlc, iEnumD, iSeqD, iRng1D, iRng2D, sFor, dLc, wipeD, si_str, si_tup, si_lst, si_cst, x_slcs, x_slct, x_slcl, x_slcc, dFld, insOf, sFldD, x_frz, dMake, dMt, x_isref, x_app, x_pop,
  x_lt, x_le, x_gt, x_ge, x_eqi, x_nei, x_eqs, x_nes, x_ner, x_eqr, x_in, x_nin, x_is, x_isnt, x_add, x_adds, x_addt, x_addl, x_sub, x_mul, x_div, x_mod, x_pow, x_neg, x_int, x_abs, x_max, x_min, x_len, len_str, len_tup, len_lst, len_cst, x_idxs, x_idxt, x_idxl, x_idxc, x_idxr, x_isi, ty_str, ty_int, ty_bl, ty_non, ty_tup, ty_lst, ty_cst, ty_ins, tr_bl, tr_int, tr_str, tr_tup, tr_lst, tr_non, x_all, x_ends, x_starts, at_0, at_1, at_2, ix_0, ix_1,
  List.getElem?_cons_zero, List.getElem?_cons_succ, List.getElem?_nil, List.set_cons_zero, List.set_cons_succ, List.set_nil, Option.some.injEq, exists_eq_left', exists_eq_left, exists_and_left, Bool.false_eq_true, if_false, if_true, D.int.injEq, D.bl.injEq, D.ref.injEq, D.str.injEq, D.lst.injEq, D.tup.injEq, MO.lst.injEq, MO.ins.injEq, List.cons.injEq, Prod.mk.injEq, and_true, true_and, and_assoc, decide_eq_true_eq, Sto.set_same, Sto.set_set, reduceCtorEq, false_and, exists_false, false_or, or_false, ne_eq, not_false_eq_true, exists_eq', Bool.not_true, Bool.not_false, Bool.not_eq_true', decide_eq_false_iff_not, hp, dm, d7, d32, m1, m2, h0]
  by_cases ha : 0 < a
  · rw [if_pos ha]
    exact q _ _ (Bg.num ⟨Int.ediv_nonneg ka (by omega), kb, kc⟩) (Int.emod_nonneg _ (by omega)) (Int.emod_lt_of_pos _ h0)
  · rw [if_neg ha]
    exact q _ _ (Bg.num ⟨ka, hb2.1, by omega⟩) (Int.emod_nonneg _ (by omega)) (Int.emod_lt_of_pos _ h0)
/-- the bag is made -/
def sp_bag : DSp := fun ds S Q _ => ∃ (ns : List Int) (at_ : Int), ds = [.cst (ns.map D.int), .int at_] ∧ 0 ≤ at_ ∧ at_ < 100 ∧ ns.length ≤ 63 ∧ ∀ p S', S p = none → Bg p S S' → Q (.ref p) S'
theorem bag_ok : ∀ ds S Q E, sp_bag ds S Q E → bodySp 6 2 R_bag ds S Q E := by
  rintro ds S Q E ⟨ns, at_, ed, h0, h1, hl, q⟩
  subst ed
  unfold R_bag
  have m1 : MulOk 7919 at_ := mul_ok (by decide) (by omega)
  have loop : ∀ (c : Int), (0 ≤ c → ∀ (v4 v5 : Option D) (m : Int) (p : Addr), 0 ≤ m → m < 2147483648 → S p = none → Q (.ref p) (S.set p (.lst [.int (if (1000000000000000000 : Int) ≤ c then c else 0), .int m]))) → 0 ≤ c →
      sFor (iEnumD (dCons (dSlc false (dVar 0) none (some (dCst (.int 63)))) (dNil))) (gOf (.tup [.nm 4, .nm 5])) (sSeq (sAsg (dOp (rBin false .Mod) (dCB rInt (dCons (dOp (rBin false .Add) (dOp (rBin false .Add) (dOp (rBin false .Add) (dOp (rBin false .Mult) (dVar 3) (dCst (.int 52631))) (dOp (rBin false .Mod) (dCB rInt (dCons (dVar 5) (dNil))) (dCst (.int 2147483587)))) (dOp (rBin false .Mult) (dCst (.int 257)) (dVar 4))) (dCst (.int 19))) (dNil))) (dCst (.int 2147483629))) (gNm 3)) (sNext))
        { nx := (sSeq (sRet (dLst true (dCons (dIf (dOp (rCmp .GtE) (dVar 2) (dOp (rBin true .Pow) (dCst (.int 10)) (dCst (.int 18)))) (dVar 2) (dCst (.int 0))) (dCons (dVar 3) (dNil))))) (sNext)) { nx := fun _ S' => Q .non S', rt := Q, xx := fun _ => E }, rt := Q, xx := fun _ => E }
        [some (.cst (ns.map D.int)), some (.int at_), some (.int c), some (.int (7919 * at_ + 331)), none, none] S := by
    intro c qc hc
    simp only [x_spr, startD, List.map_cons, List.map_nil, List.length_cons, List.length_nil, Nat.reduceAdd, Nat.reduceSub, Int.reduceLT, Int.reduceLE, Int.reduceToNat,  Int.reducePow, Int.reduceNeg, Nat.reduceLT, Nat.reduceLeDiff, Nat.reducePow, List.replicate_succ, List.replicate_zero, List.cons_append, List.nil_append, sSeq, sIf, sRet, sRetN, sNext, sAsg, sDrop, gNm, gOf, Tg.d, Tg.ds, dVar, dCst, dNil, dCons, dOp, dUn, dChain, dBl, dAnd, dOr, dNot, dIf, dTst, dCall, dCB, dLst, dTup, dM1, gSubD, mkL, dYes, dPart, dSlc, iEnumD, iSeqD, iRng1D, iRng2D, sFor, dLc, wipeD, si_str, si_tup, si_lst, si_cst, x_slcs, x_slct, x_slcl, x_slcc, dFld, insOf, sFldD, x_frz, dMake, dMt, x_isref, x_app, x_pop,
  x_lt, x_le, x_gt, x_ge, x_eqi, x_nei, x_eqs, x_nes, x_ner, x_eqr, x_in, x_nin, x_is, x_isnt, x_add, x_adds, x_addt, x_addl, x_sub, x_mul, x_div, x_mod, x_pow, x_neg, x_int, x_abs, x_max, x_min, x_len, len_str, len_tup, len_lst, len_cst, x_idxs, x_idxt, x_idxl, x_idxc, x_idxr, x_isi, ty_str, ty_int, ty_bl, ty_non, ty_tup, ty_lst, ty_cst, ty_ins, tr_bl, tr_int, tr_str, tr_tup, tr_lst, tr_non, x_all, x_ends, x_starts, at_0, at_1, at_2, ix_0, ix_1,
  List.getElem?_cons_zero, List.getElem?_cons_succ, List.getElem?_nil, List.set_cons_zero, List.set_cons_succ, List.set_nil, Option.some.injEq, exists_eq_left', exists_eq_left, exists_and_left, Bool.false_eq_true, if_false, if_true, D.int.injEq, D.bl.injEq, D.ref.injEq, D.str.injEq, D.lst.injEq, D.tup.injEq, MO.lst.injEq, MO.ins.injEq, List.cons.injEq, Prod.mk.injEq, and_true, true_and, and_assoc, decide_eq_true_eq, Sto.set_same, Sto.set_set, reduceCtorEq, false_and, exists_false, false_or, or_false, ne_eq, not_false_eq_true, exists_eq', Bool.not_true, Bool.not_false, Bool.not_eq_true', decide_eq_false_iff_not]
    refine forGo_inv _ (fun _ ρ S' => S' = S ∧ ∃ m v4 v5, 0 ≤ m ∧ m < 2147483648 ∧ ρ = [some (.cst (ns.map D.int)), some (.int at_), some (.int c), some (.int m), v4, v5]) ⟨rfl, 7919 * at_ + 331, none, none, by omega, by omega, rfl⟩ ?_ ?_
    · rintro i x ρ S' Kn hx ⟨eS, m, v4, v5, hm0, hm1, eρ⟩ hk
      subst eS eρ
      obtain ⟨y, hy, ex⟩ := enumL_get _ _ _ _ hx
      obtain ⟨z, _, ez⟩ := List.mem_map.mp (cutD_mem (List.mem_of_getElem? hy))
      subst ex ez
      have hi : i < 63 := by
        have h1 := (List.getElem?_eq_some_iff.mp hy).1
        have h2 : (cutD (ns.map D.int) none (some 63)).length ≤ 63 := by
          unfold cutD
          rw [List.length_take, List.length_drop, List.length_map]
          omega
        omega
      have k1 : MulOk m 52631 := mul_ok (by omega) (by decide)
      have k2 : MulOk 257 ((0 + i : Nat) : Int) := mul_ok (by decide) (by omega)
      simp only [x_spr, startD, List.map_cons, List.map_nil, List.length_cons, List.length_nil, Nat.reduceAdd, Nat.reduceSub, Int.reduceLT, Int.reduceLE, Int.reduceToNat,  Int.reducePow, Int.reduceNeg, Nat.reduceLT, Nat.reduceLeDiff, Nat.reducePow, List.replicate_succ, List.replicate_zero, List.cons_append, List.nil_append, sSeq, sIf, sRet, sRetN, sNext, sAsg, sDrop, gNm, gOf, Tg.d, Tg.ds, dVar, dCst, dNil, dCons, dOp, dUn, dChain, dBl, dAnd, dOr, dNot, dIf, dTst, dCall, dCB, dLst, dTup, dM1, gSubD, mkL, dYes, dPart, dSlc, iEnumD, iSeqD, iRng1D, iRng2D, sFor, dLc, wipeD, si_str, si_tup, si_lst, si_cst, x_slcs, x_slct, x_slcl, x_slcc, dFld, insOf, sFldD, x_frz, dMake, dMt, x_isref, x_app, x_pop,
  x_lt, x_le, x_gt, x_ge, x_eqi, x_nei, x_eqs, x_nes, x_ner, x_eqr, x_in, x_nin, x_is, x_isnt, x_add, x_adds, x_addt, x_addl, x_sub, x_mul, x_div, x_mod, x_pow, x_neg, x_int, x_abs, x_max, x_min, x_len, len_str, len_tup, len_lst, len_cst, x_idxs, x_idxt, x_idxl, x_idxc, x_idxr, x_isi, ty_str, ty_int, ty_bl, ty_non, ty_tup, ty_lst, ty_cst, ty_ins, tr_bl, tr_int, tr_str, tr_tup, tr_lst, tr_non, x_all, x_ends, x_starts, at_0, at_1, at_2, ix_0, ix_1,
  List.getElem?_cons_zero, List.getElem?_cons_succ, List.getElem?_nil, List.set_cons_zero, List.set_cons_succ, List.set_nil, Option.some.injEq, exists_eq_left', exists_eq_left, exists_and_left, Bool.false_eq_true, if_false, if_true, D.int.injEq, D.bl.injEq, D.ref.injEq, D.str.injEq, D.lst.injEq, D.tup.injEq, MO.lst.injEq, MO.ins.injEq, List.cons.injEq, Prod.mk.injEq, and_true, true_and, and_assoc, decide_eq_true_eq, Sto.set_same, Sto.set_set, reduceCtorEq, false_and, exists_false, false_or, or_false, ne_eq, not_false_eq_true, exists_eq', Bool.not_true, Bool.not_false, Bool.not_eq_true', decide_eq_false_iff_not, k1, k2]
      refine hk _ _ ⟨rfl, _, _, _, Int.emod_nonneg _ (by decide), ?_, rfl⟩
      exact Int.lt_trans (Int.emod_lt_of_pos _ (by decide)) (by decide)
    · rintro ρ S' ⟨eS, m, v4, v5, hm0, hm1, eρ⟩
      subst eS eρ
      simp only [x_spr, startD, List.map_cons, List.map_nil, List.length_cons, List.length_nil, Nat.reduceAdd, Nat.reduceSub, Int.reduceLT, Int.reduceLE, Int.reduceToNat,  Int.reducePow, Int.reduceNeg, Nat.reduceLT, Nat.reduceLeDiff, Nat.reducePow, List.replicate_succ, List.replicate_zero, List.cons_append, List.nil_append, sSeq, sIf, sRet, sRetN, sNext, sAsg, sDrop, gNm, gOf, Tg.d, Tg.ds, dVar, dCst, dNil, dCons, dOp, dUn, dChain, dBl, dAnd, dOr, dNot, dIf, dTst, dCall, dCB, dLst, dTup, dM1, gSubD, mkL, dYes, dPart, dSlc, iEnumD, iSeqD, iRng1D, iRng2D, sFor, dLc, wipeD, si_str, si_tup, si_lst, si_cst, x_slcs, x_slct, x_slcl, x_slcc, dFld, insOf, sFldD, x_frz, dMake, dMt, x_isref, x_app, x_pop,
  x_lt, x_le, x_gt, x_ge, x_eqi, x_nei, x_eqs, x_nes, x_ner, x_eqr, x_in, x_nin, x_is, x_isnt, x_add, x_adds, x_addt, x_addl, x_sub, x_mul, x_div, x_mod, x_pow, x_neg, x_int, x_abs, x_max, x_min, x_len, len_str, len_tup, len_lst, len_cst, x_idxs, x_idxt, x_idxl, x_idxc, x_idxr, x_isi, ty_str, ty_int, ty_bl, ty_non, ty_tup, ty_lst, ty_cst, ty_ins, tr_bl, tr_int, tr_str, tr_tup, tr_lst, tr_non, x_all, x_ends, x_starts, at_0, at_1, at_2, ix_0, ix_1,
  List.getElem?_cons_zero, List.getElem?_cons_succ, List.getElem?_nil, List.set_cons_zero, List.set_cons_succ, List.set_nil, Option.some.injEq, exists_eq_left', exists_eq_left, exists_and_left, Bool.false_eq_true, if_false, if_true, D.int.injEq, D.bl.injEq, D.ref.injEq, D.str.injEq, D.lst.injEq, D.tup.injEq, MO.lst.injEq, MO.ins.injEq, List.cons.injEq, Prod.mk.injEq, and_true, true_and, and_assoc, decide_eq_true_eq, Sto.set_same, Sto.set_set, reduceCtorEq, false_and, exists_false, false_or, or_false, ne_eq, not_false_eq_true, exists_eq', Bool.not_true, Bool.not_false, Bool.not_eq_true', decide_eq_false_iff_not]
      by_cases h : (1000000000000000000 : Int) ≤ c
      · rw [if_pos h]
        refine ⟨lt_line (by decide), fun p hp => ?_⟩
        have := qc hc v4 v5 m p hm0 hm1 hp
        rw [if_pos h] at this
        exact this
      · rw [if_neg h]
        refine ⟨lt_line (by decide), fun p hp => ?_⟩
        have := qc hc v4 v5 m p hm0 hm1 hp
        rw [if_neg h] at this
        exact this
  have fin : ∀ c : Int, 0 ≤ c → ∀ (v4 v5 : Option D) (m : Int) (p : Addr), 0 ≤ m → m < 2147483648 → S p = none → Q (.ref p) (S.set p (.lst [.int (if (1000000000000000000 : Int) ≤ c then c else 0), .int m])) := fun c hc _ _ m p h0 h1 hp =>
    q p _ hp (Bg.num ⟨by split <;> omega, h0, h1⟩)
  have step : ∀ c : Int, 0 ≤ c → _ := fun c hc => loop c (fun _ => fin c hc) hc
  clear loop fin
  by_cases hlt : at_ < ((ns.map D.int).length : Int)
  · obtain ⟨d, hd, hm⟩ := at_in h0 hlt
    obtain ⟨z, _, ez⟩ := List.mem_map.mp hm
    subst ez
    have st := step (if z < 0 then -z else z) (by split <;> omega)
    clear step
    show ([D.cst (ns.map D.int), D.int at_].length = 2 ∧ _)
    refine ⟨rfl, ?_⟩
    show dIf _ _ _ _ _ _ _
    simp only [x_spr, startD, List.map_cons, List.map_nil, List.length_cons, List.length_nil, Nat.reduceAdd, Nat.reduceSub, Int.reduceLT, Int.reduceLE, Int.reduceToNat,  Int.reducePow, Int.reduceNeg, Nat.reduceLT, Nat.reduceLeDiff, Nat.reducePow, List.replicate_succ, List.replicate_zero, List.cons_append, List.nil_append, sSeq, sIf, sRet, sRetN, sNext, sAsg, sDrop, gNm, gOf, Tg.d, Tg.ds, dVar, dCst, dNil, dCons, dOp, dUn, dChain, dBl, dAnd, dOr, dNot, dIf, dTst, dCall, dCB, dLst, dTup, dM1, gSubD, mkL, dYes, dPart, dSlc, iEnumD, iSeqD, iRng1D, iRng2D, sFor, dLc, wipeD, si_str, si_tup, si_lst, si_cst, x_slcs, x_slct, x_slcl, x_slcc, dFld, insOf, sFldD, x_frz, dMake, dMt, x_isref, x_app, x_pop,
  x_lt, x_le, x_gt, x_ge, x_eqi, x_nei, x_eqs, x_nes, x_ner, x_eqr, x_in, x_nin, x_is, x_isnt, x_add, x_adds, x_addt, x_addl, x_sub, x_mul, x_div, x_mod, x_pow, x_neg, x_int, x_abs, x_max, x_min, x_len, len_str, len_tup, len_lst, len_cst, x_idxs, x_idxt, x_idxl, x_idxc, x_idxr, x_isi, ty_str, ty_int, ty_bl, ty_non, ty_tup, ty_lst, ty_cst, ty_ins, tr_bl, tr_int, tr_str, tr_tup, tr_lst, tr_non, x_all, x_ends, x_starts, at_0, at_1, at_2, ix_0, ix_1,
  List.getElem?_cons_zero, List.getElem?_cons_succ, List.getElem?_nil, List.set_cons_zero, List.set_cons_succ, List.set_nil, Option.some.injEq, exists_eq_left', exists_eq_left, exists_and_left, Bool.false_eq_true, if_false, if_true, D.int.injEq, D.bl.injEq, D.ref.injEq, D.str.injEq, D.lst.injEq, D.tup.injEq, MO.lst.injEq, MO.ins.injEq, List.cons.injEq, Prod.mk.injEq, and_true, true_and, and_assoc, decide_eq_true_eq, Sto.set_same, Sto.set_set, reduceCtorEq, false_and, exists_false, false_or, or_false, ne_eq, not_false_eq_true, exists_eq', Bool.not_true, Bool.not_false, Bool.not_eq_true', decide_eq_false_iff_not, m1] at st ⊢
    rw [if_pos hlt, hd]
    simp only [x_spr, startD, List.map_cons, List.map_nil, List.length_cons, List.length_nil, Nat.reduceAdd, Nat.reduceSub, Int.reduceLT, Int.reduceLE, Int.reduceToNat,  Int.reducePow, Int.reduceNeg, Nat.reduceLT, Nat.reduceLeDiff, Nat.reducePow, List.replicate_succ, List.replicate_zero, List.cons_append, List.nil_append, sSeq, sIf, sRet, sRetN, sNext, sAsg, sDrop, gNm, gOf, Tg.d, Tg.ds, dVar, dCst, dNil, dCons, dOp, dUn, dChain, dBl, dAnd, dOr, dNot, dIf, dTst, dCall, dCB, dLst, dTup, dM1, gSubD, mkL, dYes, dPart, dSlc, iEnumD, iSeqD, iRng1D, iRng2D, sFor, dLc, wipeD, si_str, si_tup, si_lst, si_cst, x_slcs, x_slct, x_slcl, x_slcc, dFld, insOf, sFldD, x_frz, dMake, dMt, x_isref, x_app, x_pop,
  x_lt, x_le, x_gt, x_ge, x_eqi, x_nei, x_eqs, x_nes, x_ner, x_eqr, x_in, x_nin, x_is, x_isnt, x_add, x_adds, x_addt, x_addl, x_sub, x_mul, x_div, x_mod, x_pow, x_neg, x_int, x_abs, x_max, x_min, x_len, len_str, len_tup, len_lst, len_cst, x_idxs, x_idxt, x_idxl, x_idxc, x_idxr, x_isi, ty_str, ty_int, ty_bl, ty_non, ty_tup, ty_lst, ty_cst, ty_ins, tr_bl, tr_int, tr_str, tr_tup, tr_lst, tr_non, x_all, x_ends, x_starts, at_0, at_1, at_2, ix_0, ix_1,
  List.getElem?_cons_zero, List.getElem?_cons_succ, List.getElem?_nil, List.set_cons_zero, List.set_cons_succ, List.set_nil, Option.some.injEq, exists_eq_left', exists_eq_left, exists_and_left, Bool.false_eq_true, if_false, if_true, D.int.injEq, D.bl.injEq, D.ref.injEq, D.str.injEq, D.lst.injEq, D.tup.injEq, MO.lst.injEq, MO.ins.injEq, List.cons.injEq, Prod.mk.injEq, and_true, true_and, and_assoc, decide_eq_true_eq, Sto.set_same, Sto.set_set, reduceCtorEq, false_and, exists_false, false_or, or_false, ne_eq, not_false_eq_true, exists_eq', Bool.not_true, Bool.not_false, Bool.not_eq_true', decide_eq_false_iff_not, m1]
    exact st
  · have st := step 0 (by decide)
    simp only [x_spr, startD, List.map_cons, List.map_nil, List.length_cons, List.length_nil, Nat.reduceAdd, Nat.reduceSub, Int.reduceLT, Int.reduceLE, Int.reduceToNat,  Int.reducePow, Int.reduceNeg, Nat.reduceLT, Nat.reduceLeDiff, Nat.reducePow, List.replicate_succ, List.replicate_zero, List.cons_append, List.nil_append, sSeq, sIf, sRet, sRetN, sNext, sAsg, sDrop, gNm, gOf, Tg.d, Tg.ds, dVar, dCst, dNil, dCons, dOp, dUn, dChain, dBl, dAnd, dOr, dNot, dIf, dTst, dCall, dCB, dLst, dTup, dM1, gSubD, mkL, dYes, dPart, dSlc, iEnumD, iSeqD, iRng1D, iRng2D, sFor, dLc, wipeD, si_str, si_tup, si_lst, si_cst, x_slcs, x_slct, x_slcl, x_slcc, dFld, insOf, sFldD, x_frz, dMake, dMt, x_isref, x_app, x_pop,
  x_lt, x_le, x_gt, x_ge, x_eqi, x_nei, x_eqs, x_nes, x_ner, x_eqr, x_in, x_nin, x_is, x_isnt, x_add, x_adds, x_addt, x_addl, x_sub, x_mul, x_div, x_mod, x_pow, x_neg, x_int, x_abs, x_max, x_min, x_len, len_str, len_tup, len_lst, len_cst, x_idxs, x_idxt, x_idxl, x_idxc, x_idxr, x_isi, ty_str, ty_int, ty_bl, ty_non, ty_tup, ty_lst, ty_cst, ty_ins, tr_bl, tr_int, tr_str, tr_tup, tr_lst, tr_non, x_all, x_ends, x_starts, at_0, at_1, at_2, ix_0, ix_1,
  List.getElem?_cons_zero, List.getElem?_cons_succ, List.getElem?_nil, List.set_cons_zero, List.set_cons_succ, List.set_nil, Option.some.injEq, exists_eq_left', exists_eq_left, exists_and_left, Bool.false_eq_true, if_false, if_true, D.int.injEq, D.bl.injEq, D.ref.injEq, D.str.injEq, D.lst.injEq, D.tup.injEq, MO.lst.injEq, MO.ins.injEq, List.cons.injEq, Prod.mk.injEq, and_true, true_and, and_assoc, decide_eq_true_eq, Sto.set_same, Sto.set_set, reduceCtorEq, false_and, exists_false, false_or, or_false, ne_eq, not_false_eq_true, exists_eq', Bool.not_true, Bool.not_false, Bool.not_eq_true', decide_eq_false_iff_not, m1] at st ⊢
    rw [if_neg hlt]
    exact st
end DL

namespace DL
open PySem PySem.Spec PyProof.Rows L2

/-! ### the law's def at the end of the top -/
abbrev S0 : Sto := fun _ => none
/-- what the law is asked: a list of numbers of the caller's -/
def Asks (n : Nat) (sp : DSp) : Prop := ∀ (zs : List Int) (Qd : DQ), zs.length ≤ n → (∀ S, Qd (.bl true) S) → sp [.cst (zs.map D.int)] S0 Qd DX0
section
variable {P : Program} {w : World} {K : PySem.W.Frag} {A : Cla} {mg mb : Str → Option Value} {k n : Nat} {fa a : Addr} {sp : DSp} {s1 : Shared} {vs : List Value} {zs : List Int}
/-- nothing of the script's own heap but the script -/
structure Scr (K : PySem.W.Frag) (s1 : Shared) (a : Addr) (zs : List Int) (H : Hp) : Prop where
  sq : SqL K H a (zs.map V.int)
  one : ∀ b, H b ≠ none → b = a
  frz : ∀ b, H b = none ∨ ∃ o xs, H b = some (.frz o (.lst xs))
  out : H a ≠ none → K.lookup a = none
theorem script_rep {H : Hp} (r : Scr K s1 a zs H) : Rep (cc K A) (fun _ => False) H S0 (.cst (zs.map D.int)) (.ref a) := by
  unfold Rep
  refine ⟨a, zs.map V.int, rfl, ?_, Reps.int zs⟩
  rcases r.sq with h | h
  · exact .inl ⟨h, rfl, fun z => z⟩
  · exact .inr (.inr h)
theorem asked {H : Hp} (r : Scr K s1 a zs H) (hn : zs.length ≤ n) (hs : Asks n sp) : liftSp (cc K A) sp [V.ref a] H (fun v _ => v = .bl true) (fun _ _ _ => False) :=
  ⟨[.cst (zs.map D.int)], S0, fun _ => False, fun d _ => d = .bl true, DX0, ⟨(fun _ _ e => by cases e), fun _ z => z.elim⟩, .cons (script_rep r) .nil, hs zs _ hn fun _ => rfl,
    fun v H' d S' _ _ rd ed => by
      subst ed
      unfold Rep at rd
      exact rd, fun _ _ _ _ _ _ _ _ z => z.elim⟩
theorem law_runs (hK : K.In s1.heap) (g1 : s1.heap.Ns mainGlobals mg) (g2 : s1.heap.Ns builtinsNs mb) (g3 : ∀ x : Str, x ≠ "__name__" → mb x = bootBuiltins x) (nl : s1.heap.NoLimit) (ng : s1.gens = #[])
    (ob : s1.heap.get? a = some { cls := .type "list", data := .seq vs.toArray }) (ok : ∀ b u, (∃ H, Scr K s1 a zs H ∧ H b = some u) → True) (rm : Rm k callerA)
    (F : ∀ base : Heap, K.In base → base.Ns mainGlobals mg → FnD P w (cc K A) mg base k fa sp) (hs : Asks n sp) (hn : zs.length ≤ n) {H : Hp} (r : Scr K s1 a zs H) (hok : HOk P w H s1.heap) :
    codeAny (model P w) callerA (.call (.ref fa) ⟨[.ref a], []⟩) (fun q s2 => q = .ok (.ret (.bool true)) ∧ OldK s1.heap s2.heap ∧ s2.os = s1.os ∧ AllBare s2.gens) s1 := by
  have kept : ∀ {b : Addr} {o : Obj}, s1.heap.get? b = some o → H b = none → (hidT s1.heap H).get? b = some o := fun e m => hidT_get e m
  have ofdict : ∀ {b : Addr} {o : Obj} {es : Array DictEntry} {ep : Nat}, s1.heap.get? b = some o → o.data = .dict es ep → H b = none := fun {b o es ep} e d => by
    cases hb : H b with
    | none => rfl
    | some u =>
      have eb := r.one b (by rw [hb]; exact fun z => by cases z)
      subst eb
      rw [ob] at e
      cases e
      cases d
  have space : ∀ {b : Addr} {m : Str → Option Value}, s1.heap.Ns b m → (hidT s1.heap H).Ns b m := fun {b m} ⟨o, es, ep, e, d, t⟩ => ⟨o, es, ep, kept e (ofdict e d), d, t⟩
  have inB : K.In (hidT s1.heap H) := fun b o e => by
    refine kept (hK b o e) ?_
    cases hb : H b with
    | none => rfl
    | some u =>
      have eb := r.one b (by rw [hb]; exact fun z => by cases z)
      subst eb
      have := r.out (by rw [hb]; exact fun z => by cases z)
      rw [this] at e
      cases e
  have lim : ∃ mc, (hidT s1.heap H).Ns _ mc ∧ _ := let ⟨mc, x1, x2⟩ := nl; ⟨mc, space x1, x2⟩
  have md : Mod K mg (hidT s1.heap H) := ⟨inB, space g1, ⟨mb, space g2, g3⟩, lim⟩
  have none_in : ∀ b : Addr, b ∉ ([] : List Addr) := fun b z => by cases z
  have e0 : Env0 P w K mg (hidT s1.heap H) callerA [] s1 H := ⟨rfl, md, fun b o e => of_hidT e, Nat.le_of_eq (hidT_size _ _), trivial, fun b hb => (none_in b hb).elim, hok, .of_eq ng⟩
  have run := F _ inB (space g1) callerA [] s1 H [.ref a] [V.ref a] (fun v _ => v = .bl true) (fun _ _ _ => False) rm e0 (.cons rfl .nil) (asked r hn hs)
  refine codeAny_mono run fun q s2 h => ?_
  match q, h with
  | .error e, ⟨_, _, _, _, _, _, _, _, _, _, _, _, z⟩ => exact z.elim
  | .ok (.ret u), ⟨v, H2, os, bare, un, hok2, rv, ev⟩ =>
    have ev : v = V.bl true := ev
    subst ev
    have eu : u = Value.bool true := rv
    subst eu
    refine ⟨rfl, OldK.of_keep fun b o e => ?_, os, bare⟩
    cases hb : H b with
    | none => exact un.keep b o e hb (none_in b) (by simp)
    | some u =>
      rcases r.frz b with z | ⟨ox, xs, z⟩
      · rw [hb] at z
        cases z
      · obtain ⟨c1, _⟩ := hok b _ z
        obtain ⟨c2, _⟩ := hok2 b _ (un.frzs b ox _ z)
        rw [e] at c1
        cases c1
        exact c2
theorem law_runs2 (hK : K.In s1.heap) (g1 : s1.heap.Ns mainGlobals mg) (g2 : s1.heap.Ns builtinsNs mb) (g3 : ∀ x : Str, x ≠ "__name__" → mb x = bootBuiltins x) (nl : s1.heap.NoLimit) (ng : s1.gens = #[])
    (ob : s1.heap.get? a = some { cls := .type "list", data := .seq vs.toArray }) (ia : IntsAre vs zs) (hn : zs.length ≤ n) (hz : zs.length ≤ sizeLine) (rm : Rm k callerA)
    (F : ∀ base : Heap, K.In base → base.Ns mainGlobals mg → FnD P w (cc K A) mg base k fa sp) (hs : Asks n sp) :
    codeAny (model P w) callerA (.call (.ref fa) ⟨[.ref a], []⟩) (fun q s2 => q = .ok (.ret (.bool true)) ∧ OldK s1.heap s2.heap ∧ s2.os = s1.os ∧ AllBare s2.gens) s1 := by
  have vi := vals_ints ia
  have li := ia.length
  cases hk : K.lookup a with
  | some o =>
    have e := hK a o hk
    rw [ob] at e
    cases e
    have sq : SqL K hp0 a (zs.map V.int) := .inr ⟨_, vs.toArray, _, hk, rfl, rfl, rfl, by rw [List.size_toArray, li]; exact hz, by simpa using vi⟩
    exact law_runs hK g1 g2 g3 nl ng ob (fun _ _ _ => trivial) rm F hs hn (H := hp0) ⟨sq, fun b z => (z rfl).elim, fun _ => .inl rfl, fun z => (z rfl).elim⟩ fun b u e => by cases e
  | none =>
    let H : Hp := fun b => if b = a then some (.frz { cls := .type "list", data := .seq vs.toArray } (.lst (zs.map V.int))) else none
    have hy : H a = some (.frz { cls := .type "list", data := .seq vs.toArray } (.lst (zs.map V.int))) := if_pos rfl
    have hnn : ∀ b, b ≠ a → H b = none := fun b h => if_neg h
    refine law_runs hK g1 g2 g3 nl ng ob (fun _ _ _ => trivial) rm F hs hn (H := H) ⟨.inl (.inr ⟨_, hy⟩), fun b z => ?_, fun b => ?_, fun _ => hk⟩ fun b u e => ?_
    · by_cases hb : b = a
      · exact hb
      · exact (z (hnn b hb)).elim
    · by_cases hb : b = a
      · subst hb
        exact .inr ⟨_, _, hy⟩
      · exact .inl (hnn b hb)
    · by_cases hb : b = a
      · subst hb
        rw [hy] at e
        cases e
        exact ⟨ob, by rw [List.length_map]; exact hz, vs, _, vi, ob⟩
      · rw [hnn b hb] at e
        cases e
end
theorem caller_rm {k : Nat} (hr : Room k callerA) : Rm k callerA := ⟨hr, rfl⟩
theorem walkD {l : PySem.W.OpenLaw} {n k : Nat} {q : Program} {loose : List Str} {XP : (Str → Option Value) → Heap → Prop} {YP : World → Heap → Prop} {d : DefRec} {K : Params → PySem.W.Frag} (sp : DSp) (hn : l.most = some n) (hn2 : n ≤ sizeLine)
    (hdf : d.params.defaults = []) (hr : Room k callerA) (hY : ∀ (w : World) (h : Heap), YP w h → (K w.params).In h) (hs : Asks n sp)
    (F : ∀ (w : World) (mg : Str → Option Value) (fa : Addr) (h : Heap), (K w.params).In h → h.Ns mainGlobals mg → mg d.name = some (.ref fa) → ∃ A : Cla, ∀ base : Heap, (K w.params).In base → base.Ns mainGlobals mg → FnD l.prog w (cc (K w.params) A) mg base k fa sp) :
    PySem.W.WalkO q loose XP YP l.row.toRowW d [] (fun f vs => PySem.call f vs) := by
  refine Att.attach_call hn hdf fun w s0 s1 mg mb fa o pm cd doc a vs zs G Y ho hd hcd hmg hobj hints hlen hg => ?_
  have hK := hY w _ Y
  obtain ⟨A, FA⟩ := F w mg fa _ hK G.T.g hmg
  exact law_runs2 hK G.T.g G.T.b G.T.builtins G.T.nolimit hg hobj hints hlen (Nat.le_trans hlen hn2) (caller_rm hr) FA hs
/-! ### isinstance: the head's answers -/
section
variable {K : PySem.W.Frag} {C D : Addr} {T : String} {r : Bool} {t : Value}
theorem kit_rt (m : PySem.W.kitMeta T = true) (h : PySem.W.subIn K (.ref C) (.type T) = some r) : PySem.W.kitOne K (.ref C) (.type T) = some r := by
  unfold PySem.W.kitOne
  have e : (Value.ref C == Value.type T) = false := rfl
  rw [e]
  show (if PySem.W.kitMeta T = true then PySem.W.subIn K (.ref C) (.type T) else none) = some r
  rw [if_pos m, h]
theorem kit_self : PySem.W.kitOne K (.ref C) (.ref C) = some true := if_pos (beq_self_eq_true _)
theorem kit_xr {cl : _} (ne : (t == Value.ref D) = false) (c : PySem.W.clsIn K D = some cl) (ty : PySem.W.typeIn K (.ref D) = some (.type "type")) (h : PySem.W.subIn K t (.ref D) = some r) : PySem.W.kitOne K t (.ref D) = some r := by
  unfold PySem.W.kitOne
  rw [ne]
  show (if ((PySem.W.clsIn K D).isSome && PySem.W.typeIn K (.ref D) == some (.type "type")) = true then PySem.W.subIn K t (.ref D) else none) = some r
  rw [c, ty]
  exact (if_pos rfl).trans h
end
end DL

namespace DL
open PySem PySem.Spec PyProof.Rows L2

/-! ### operators of one's own classes: defs run at an inner place -/
theorem Rm.in1 {k : Nat} {A : Around} (m : Rm (k + 1) A) : Rm k A.in1 := ⟨m.r.in1, m.g⟩
/-- the class says what an operator does -/
structure Dn (K : PySem.W.Frag) (C : Addr) (name : Str) (f : Addr) : Prop where
  at_ : PySem.W.findIn K (.ref C) name = some (some (.ref f))
  fn : PySem.W.isFn K (.ref f) = true
abbrev isC (S : Sto) (C : Nat) (d : D) : Prop := ∃ xs, insOf S d = some (C, xs)
def liftX1 (c : Cfg) (E : XK) (R : DR1) : V → Hp → VK → Prop := fun x H Q => ∃ S L dx Qd Ed, StoR c L H S ∧ Rep c L H S dx x ∧ R dx S Qd Ed ∧ KQ c L H S Q Qd ∧ KX c L H S E Ed
def liftX2 (c : Cfg) (E : XK) (R : DR2) : R2 := fun x y H Q => ∃ S L dx dy Qd Ed, StoR c L H S ∧ Rep c L H S dx x ∧ Rep c L H S dy y ∧ R dx dy S Qd Ed ∧ KQ c L H S Q Qd ∧ KX c L H S E Ed
def OpX (X : Cx) (A : Cla) (W : WX) (f : Value → Value → Sem Value) (R : DR2) : Prop :=
  ∀ (pins : List (Addr × Obj)) (s : Shared) (σ : L2.St) (H : Hp) (x y : V) (v u : Value) (Q : VK), Inv X pins σ H s → RelV x v → RelV y u → liftX2 (cX X A) (WE W σ) R x y H Q → wpAny (model X.prog X.w) X.A (f v u) (EP X pins σ Q) X.xe s
def dOpX (R : DR2) (t u : DT) : DT := fun ρ S Q E => t ρ S (fun x S1 => u ρ S1 (fun y S2 => R x y S2 Q E) E) E
section
variable {X : Cx} {A : Cla} {W : WX} {e a b o : Expr} {es : List Expr} {pos p apos : Pos} {t u : DT} {ta : DTA} {R : DR2} {f : Addr} {k C : Nat} {sp : DSp}
theorem run_code {A1 : Around} {pins : List (Addr × Obj)} {σ : L2.St} {H : Hp} {s : Shared} {Q : VK} {us : List Value} {vs : List V} (hf : A1.frames = X.A.frames) (F : FnD X.prog X.w (cX X A) X.mg X.base k f sp) (m : Rm k A1) (tk : Takes X W)
    (I : L2.Inv X pins σ H s) (r : Vals vs us) (h : liftSp (cX X A) sp vs H Q (WE W σ)) : codeAny (model X.prog X.w) A1 (.call (.ref f) ⟨us, []⟩) (fun q s' => match q with | .ok (.ret v) => EP X pins σ Q v s' | .ok _ => False | .error e => X.xe e s') s := by
  have e0 : Env0 X.prog X.w X.K X.mg X.base A1 X.stack s H := by
    have e := I.env0
    exact ⟨by rw [hf]; exact e.frames, e.mod, e.bs, e.bsz, e.funs, e.frf, e.hok, e.bare⟩
  refine codeAny_mono (F A1 X.stack s H us vs Q _ m e0 r h) fun q s' hq => ?_
  match q, hq with
  | .error e, hq => exact passAt tk σ pins H s e s' I hq
  | .ok (.ret w), hq => exact I.after hq
theorem run_at {A1 : Around} {pins : List (Addr × Obj)} {σ : L2.St} {H : Hp} {s : Shared} {Q : VK} {us : List Value} {vs : List V} (hf : A1.frames = X.A.frames) (F : FnD X.prog X.w (cX X A) X.mg X.base k f sp) (m : Rm k A1) (tk : Takes X W)
    (I : L2.Inv X pins σ H s) (r : Vals vs us) (h : liftSp (cX X A) sp vs H Q (WE W σ)) : wpAny (model X.prog X.w) A1 (call (.ref f) us) (EP X pins σ Q) X.xe s :=
  wpAny_call (codeAny_mono (run_code hf F m tk I r h) fun q s' hq => by
    match q, hq with
    | .error e, hq => exact hq
    | .ok (.ret w), hq => exact hq)
theorem inst_of {pins : List (Addr × Obj)} {σ : L2.St} {H : Hp} {s : Shared} {p0 c0 dx : Addr} {fs : List (Str × V)} (I : L2.Inv X pins σ H s) (h : H p0 = some (.ins c0 dx fs)) : ∃ ox od, PySem.W.InstAt s.heap p0 ox c0 od := by
  obtain ⟨mA, J, _⟩ := ins_get I.hok h
  obtain ⟨od, J, _⟩ := J.look
  exact ⟨_, od, J⟩
/-- two operands, then the rest -/
theorem two_run {pins : List (Addr × Obj)} {s : Shared} {σ : L2.St} {H : Hp} {Q : VK} {Post : Value → Value → Shared → Prop} (ha : DE X A W a t) (hb : DE X A W b u) (I : L2.Inv X pins σ H s) (h : liftE (cX X A) W (dOpX R t u) σ H Q)
    (k : ∀ v w s2 x y H2, L2.Inv X pins σ H2 s2 → RelV x v → RelV y w → liftX2 (cX X A) (WE W σ) R x y H2 Q → Post v w s2) :
    wpAny (model X.prog X.w) X.A (eval a X.env) (fun v s1 => wpAny (model X.prog X.w) X.A (eval b X.env) (fun w s2 => Post v w s2) X.xe s1) X.xe s := by
  obtain ⟨ρ, S, L, Qd, Ed, sl, so, h, kq, kx⟩ := h
  refine thn (ha.run pins s σ H (fun x H1 => ∃ S1 d, Ext H S H1 S1 ∧ StoR (cX X A) L H1 S1 ∧ Rep (cX X A) L H1 S1 d x ∧ u ρ S1 (fun y S2 => R d y S2 Qd Ed) Ed) I ⟨ρ, S, L, _, Ed, sl, so, h, fun v H1 d S1 e1 so1 r1 q1 => ⟨S1, d, e1, so1, r1, q1⟩, kx⟩) fun v s1 ⟨x, H1, I1, rx, S1, d, e1, so1, r1, q1⟩ => ?_
  refine thn (hb.run pins s1 σ H1 (fun y H2 => liftX2 (cX X A) (WE W σ) R x y H2 Q) I1 ⟨ρ, S1, L, _, Ed, sl.ext e1, so1, q1, fun w H2 d2 S2 e2 so2 r2 q2 => ⟨S2, L, d, d2, Qd, Ed, so2, r1.ext e2, r2, q2, kq.ext (e1.trans e2), (kx.ext (e1.trans e2)).slots⟩, kx.ext e1⟩) fun w s2 ⟨y, H2, I2, ry, q2⟩ => ?_
  exact k v w s2 x y H2 I2 rx ry q2
theorem de_opX {op : Operator} (ho : OpX X A W (binaryOp op) R) (ha : DE X A W a t) (hb : DE X A W b u) : DE X A W (.BinOp a op b pos) (dOpX R t u) :=
  ⟨fun pins s σ H Q I h => wpAny_BinOp (two_run ha hb I h fun v w s2 x y H2 I2 rx ry q => ho pins s2 σ H2 x y v w Q I2 rx ry q)⟩
theorem de_cmpX {op : CmpOp} (ho : OpX X A W (compareOp op) R) (ha : DE X A W a t) (hb : DE X A W b u) (hm : behindInMarks op b = false := by first | exact nobehind _ (by decide) (by decide) | rfl) : DE X A W (.Compare a [op] [b] pos) (dOpX R t u) :=
  ⟨fun pins s σ H Q I h => wpAny_Compare1 (two_run ha hb I h fun v w s2 x y H2 I2 rx ry q => ho pins s2 σ H2 x y v w Q I2 rx ry q) hm⟩
theorem dt_cmpX {op : CmpOp} (ho : OpX X A W (compareOp op) R) (ha : DE X A W a t) (hb : DE X A W b u) (hm : behindInMarks op b = false := by first | exact nobehind _ (by decide) (by decide) | rfl) : DTst X A W (.Compare a [op] [b] pos) (dTst (dOpX R t u)) := by
  refine ⟨fun pins s σ H Q I ⟨ρ, S, L, Qd, Ed, sl, so, h, kq, kx⟩ => ?_⟩
  have h2 : liftE (cX X A) W (dOpX R t u) σ H (fun x H' => ∃ k, TruV X.K x H' k ∧ Q k H') :=
    ⟨ρ, S, L, _, Ed, sl, so, h, fun v H1 d S1 e1 so1 r1 ⟨k, tk, q1⟩ => ⟨k, truth_ok so1 r1 tk, kq k H1 S1 e1 so1 q1⟩, kx⟩
  exact wpAny_isTrue_Compare1 (two_run ha hb I h2 fun v w s2 x y H2 I2 rx ry q =>
    thn (ho pins s2 σ H2 x y v w _ I2 rx ry q) fun c s3 ⟨z, H3, I3, r3, k, e, q3⟩ => tru_ok pins s3 σ H3 z c Q I3 r3 ⟨k, e, q3⟩) hm
/-! what comes back -/
abbrev Pst := DQ → DQ
def bkAny : Pst := fun Q => Q
def bkTru (f : Bool → Bool) : Pst := fun Q r S => ∃ b, r = .bl b ∧ Q (.bl (f b)) S
def bkLen : Pst := fun Q r S => ∃ n : Int, r = .int n ∧ 0 ≤ n ∧ n < 2 ^ 63 ∧ Q (.int n) S
/-- the left operand's class answers -/
def ownL (C : Nat) (sp : DSp) (bk : Pst) : DR2 := fun x y S Q E => isC S C x ∧ sp [x, y] S (bk Q) E
def ownR (C : Nat) (sp : DSp) (bk : Pst) : DR2 := fun x y S Q E => isC S C y ∧ sp [y, x] S (bk Q) E
theorem cmp_back {P : Value → Shared → Prop} {z : V} {v : Value} {s' : Shared} (r : RelV z v) (h : P v s') : PySem.W.CmpBack P v s' := SlX.cmpback r h
theorem ty_looks {pins : List (Addr × Obj)} {s : Shared} {σ : L2.St} {H : Hp} {S : Sto} {L : Lk} {d : D} {y : V} {w : Value} {T : Ty} (I : L2.Inv X pins σ H s) (so : StoR (cX X A) L H S) (r : Rep (cX X A) L H S d y) (ry : RelV y w) (h : tyN S d = some T) (hc : ∀ C, T = .own C → ClsOk X.K (A.cA C)) :
    PySem.W.Looks (model X.prog X.w) s.heap (typeOf w) (T.val A.cA) := by
  obtain ⟨P, Z, p, _⟩ := kit_of I ry (tyN_ok so r h hc)
  exact Z.ty _ _ I.kIn p
/-- x op y by the left one's def: what the right one may be -/
def ownCmp (C : Nat) (sp : DSp) (ok : Ty → Bool) : DR2 := fun x y S Q E => isC S C x ∧ (∃ T, tyN S y = some T ∧ ok T = true) ∧ sp [x, y] S Q E
theorem ox_cmp {op : CmpOp} {ok : Ty → Bool} (hop : ∀ a b, compareOp op a b = richCompare op a b) (d : Dn X.K (A.cA C) (cmpInfo op).2.1 f) (F : FnD X.prog X.w (cX X A) X.mg X.base k f sp) (m : Rm k X.A) (tk : Takes X W)
    (nf : ∀ T, ok T = true → PySem.W.notFirst X.K (A.cA C) (T.val A.cA) = true) (hc : ∀ C, ok (.own C) = true → ClsOk X.K (A.cA C)) : OpX X A W (compareOp op) (ownCmp C sp ok) := by
  intro pins s σ H x y v w Q I rx ry ⟨S, L, dx, dy, Qd, Ed, so, r1, r2, ⟨⟨xs, hi⟩, ⟨T, hT, hk⟩, q⟩, kq, kx⟩
  rw [hop]
  obtain ⟨p0, dd, vs, ev, hp, _⟩ := insOf_ok so r1 hi
  subst ev
  have eu : v = Value.ref p0 := rx
  subst eu
  obtain ⟨ox, od, J⟩ := inst_of I hp
  obtain ⟨mm, hF⟩ := I.fr
  refine PySem.W.cmp_K m.r.units0 hF I.ok.mod.kin J (ty_looks I so r2 ry hT fun C' e => hc C' (by rw [← e]; exact hk)) (nf T hk) d.at_ d.fn ?_
  exact wpAny_mono (run_at rfl F m tk I (.cons rx (.cons ry .nil)) ⟨[dx, dy], S, L, Qd, Ed, so, .cons r1 (.cons r2 .nil), q, kq, kx⟩) (fun z s' ⟨zv, H', I', rz, q'⟩ => cmp_back rz ⟨zv, H', I', rz, q'⟩) fun _ _ h => h
theorem ox_in (d : Dn X.K (A.cA C) "__contains__" f) (F : FnD X.prog X.w (cX X A) X.mg X.base k f sp) (m : Rm k X.A) (tk : Takes X W) : OpX X A W (compareOp .In) (ownR C sp (bkTru id)) := by
  intro pins s σ H x y v w Q I rx ry ⟨S, L, dx, dy, Qd, Ed, so, r1, r2, ⟨⟨xs, hi⟩, q⟩, kq, kx⟩
  obtain ⟨p0, dd, vs, ev, hp, _⟩ := insOf_ok so r2 hi
  subst ev
  have eu : w = Value.ref p0 := ry
  subst eu
  obtain ⟨ox, od, J⟩ := inst_of I hp
  obtain ⟨mm, hF⟩ := I.fr
  refine PySem.W.in_K hF I.ok.mod.kin J d.at_ d.fn ?_
  refine wpAny_mono (run_at rfl F m tk I (Q := fun z H' => ∃ b, z = .bl b ∧ Q (.bl b) H') (.cons ry (.cons rx .nil)) ⟨[dy, dx], S, L, bkTru id Qd, Ed, so, .cons r2 (.cons r1 .nil), q, fun z H' dz S' e' so' rz ⟨b, ez, q'⟩ => ⟨b, by subst ez; unfold Rep at rz; exact rz, kq _ H' _ S' e' so' rep_bl q'⟩, kx⟩)
    (fun z s' ⟨zv, H', I', rz, b, ez, q'⟩ => ?_) fun _ _ h => h
  subst ez
  have eb : z = Value.bool b := rz
  subst eb
  exact wpAny_truthy_bool ⟨.bl b, H', I', rfl, q'⟩
theorem ox_nin (d : Dn X.K (A.cA C) "__contains__" f) (F : FnD X.prog X.w (cX X A) X.mg X.base k f sp) (m : Rm k X.A) (tk : Takes X W) : OpX X A W (compareOp .NotIn) (ownR C sp (bkTru not)) := by
  intro pins s σ H x y v w Q I rx ry ⟨S, L, dx, dy, Qd, Ed, so, r1, r2, ⟨⟨xs, hi⟩, q⟩, kq, kx⟩
  obtain ⟨p0, dd, vs, ev, hp, _⟩ := insOf_ok so r2 hi
  subst ev
  have eu : w = Value.ref p0 := ry
  subst eu
  obtain ⟨ox, od, J⟩ := inst_of I hp
  obtain ⟨mm, hF⟩ := I.fr
  refine PySem.W.notIn_K hF I.ok.mod.kin J d.at_ d.fn ?_
  refine wpAny_mono (run_at rfl F m tk I (Q := fun z H' => ∃ b, z = .bl b ∧ Q (.bl (!b)) H') (.cons ry (.cons rx .nil)) ⟨[dy, dx], S, L, bkTru not Qd, Ed, so, .cons r2 (.cons r1 .nil), q, fun z H' dz S' e' so' rz ⟨b, ez, q'⟩ => ⟨b, by subst ez; unfold Rep at rz; exact rz, kq _ H' _ S' e' so' rep_bl q'⟩, kx⟩)
    (fun z s' ⟨zv, H', I', rz, b, ez, q'⟩ => ?_) fun _ _ h => h
  subst ez
  have eb : z = Value.bool b := rz
  subst eb
  exact wpAny_truthy_bool ⟨.bl (!b), H', I', rfl, q'⟩
/-- x op y, both of the class -/
def ownBin (C : Nat) (sp : DSp) : DR2 := fun x y S Q E => isC S C x ∧ isC S C y ∧ sp [x, y] S Q E
theorem ox_bin {op : Operator} (d : Dn X.K (A.cA C) (PySem.dunder op.info.2) f) (hc : PySem.W.selfFirst X.K (A.cA C) = true) (ck : ClsOk X.K (A.cA C)) (F : FnD X.prog X.w (cX X A) X.mg X.base k f sp) (m : Rm k X.A) (tk : Takes X W) : OpX X A W (binaryOp op) (ownBin C sp) := by
  intro pins s σ H x y v w Q I rx ry ⟨S, L, dx, dy, Qd, Ed, so, r1, r2, ⟨⟨xs, hi⟩, ⟨ys, hj⟩, q⟩, kq, kx⟩
  obtain ⟨p0, dd, vs, ev, hp, _⟩ := insOf_ok so r1 hi
  obtain ⟨p1, dd1, vs1, ev1, hp1, _⟩ := insOf_ok so r2 hj
  subst ev ev1
  have eu : v = Value.ref p0 := rx
  have ew : w = Value.ref p1 := ry
  subst eu ew
  obtain ⟨ox, od, J⟩ := inst_of I hp
  obtain ⟨ox1, od1, J1⟩ := inst_of I hp1
  obtain ⟨mm, hF⟩ := I.fr
  refine PySem.W.binop_K hF I.ok.mod.kin J J1.type hc d.at_ d.fn ?_
  exact wpAny_mono (run_at rfl F m tk I (.cons rx (.cons ry .nil)) ⟨[dx, dy], S, L, Qd, Ed, so, .cons r1 (.cons r2 .nil), q, kq, kx⟩) (fun z s' ⟨zv, H', I', rz, q'⟩ => cmp_back rz ⟨zv, H', I', rz, q'⟩) fun _ _ h => h
/-! len(x), -x -/
def dOwn1 (C : Nat) (sp : DSp) (bk : Pst) (t : DTA) : DT := fun ρ S Q E => t ρ S (fun ds S1 => ∃ d, ds = [d] ∧ isC S1 C d ∧ sp [d] S1 (bk Q) E) E
theorem de_lenO (d : Dn X.K (A.cA C) "__len__" f) (F : FnD X.prog X.w (cX X A) X.mg X.base k f sp) (m : Rm (k + 1) X.A) (tk : Takes X W) (hg : Gl X "len") (hm : X.mg "len" = none) (ha : DA X A W (e :: es) ta)
    (he : starEach (e :: es) X.env = (false, eval e X.env) :: starEach es X.env) (hpl : (backTo pos (starEach es X.env)).any (·.1) = false) : DE X A W (.Call (.Name "len" p) (e :: es) [] pos) (dOwn1 C sp bkLen ta) := by
  refine ⟨fun pins s σ H Q I ⟨ρ, S, L, Qd, Ed, sl, so, h, kq, kx⟩ => ?_⟩
  refine wpAny_Call_Name_kw (ld_blt I hg hm PySem.boot_len ?_)
  refine PyProof.Rows.callWith_builtin1 (thn (ha.run pos pins s σ H (fun vs H1 => ∃ S1 ds, Ext H S H1 S1 ∧ StoR (cX X A) L H1 S1 ∧ Reps (cX X A) L H1 S1 ds vs ∧ ∃ d, ds = [d] ∧ isC S1 C d ∧ sp [d] S1 (bkLen Qd) Ed) I ⟨ρ, S, L, _, Ed, sl, so, h, fun vs H1 ds S1 e1 so1 r1 q1 => ⟨S1, ds, e1, so1, r1, q1⟩, kx⟩) fun us s1 ⟨vs, H1, I1, rv, S1, ds, e1, so1, rs, dd, ed, ⟨xs, hi⟩, q⟩ => ?_) he hpl
  subst ed
  obtain ⟨z, ez, r1⟩ := reps1 rs
  subst ez
  obtain ⟨p0, dx, vs, ev, hp, _⟩ := insOf_ok so1 r1 hi
  subst ev
  obtain ⟨u1, eu, ru⟩ := rv.one
  subst eu
  have eu : u1 = Value.ref p0 := ru
  subst eu
  obtain ⟨ox, od, J⟩ := inst_of I1 hp
  obtain ⟨mm, hF⟩ := I1.fr
  refine PySem.W.len_K hF I1.ok.mod.kin J d.at_ d.fn ?_
  refine wpAny_mono (run_at rfl F m.in1 tk I1 (Q := fun z H' => ∃ n : Int, z = .int n ∧ 0 ≤ n ∧ n < 2 ^ 63 ∧ Q (.int n) H') (.cons ru .nil) ⟨[dd], S1, L, bkLen Qd, Ed, so1, .cons r1 .nil, q, fun z H' dz S' e' so' rz ⟨n, ez, h0, h1, q'⟩ => ⟨n, by subst ez; unfold Rep at rz; exact rz, h0, h1, kq _ H' _ S' (e1.trans e') so' rep_int q'⟩, (kx.ext e1).slots⟩)
    (fun z s' ⟨zv, H', I', rz, n, ez, h0, h1, q'⟩ => ?_) fun _ _ h => h
  subst ez
  obtain ⟨t', et⟩ := rz
  subst et
  exact ⟨⟨h0, h1⟩, .int n, H', I'.tok _, ⟨_, rfl⟩, q'⟩
end
end DL

namespace DL
open PySem PySem.Spec PyProof.Rows L2

/-! ### methods, methods of the class, classes called with a star -/
def dMeth (C : Nat) (sp : DSp) (t : DT) (u : DTA) : DT := fun ρ S Q E => t ρ S (fun d S1 => isC S1 C d ∧ u ρ S1 (fun ds S2 => sp (d :: ds) S2 Q E) E) E
def dCMet (C : Nat) (sp : DSp) (u : DTA) : DT := fun ρ S Q E => u ρ S (fun ds S2 => sp (.ty (.own C) :: ds) S2 Q E) E
section
variable {X : Cx} {A : Cla} {W : WX} {e o fe : Expr} {es : List Expr} {pos p sp0 apos : Pos} {t tf : DT} {ta : DTA} {f g : Addr} {k C : Nat} {sp : DSp} {m x : Str} {mc : Value} {pl : Sem Bool}
/-- the class's fields do not hide its methods -/
theorem no_field {c : Cfg} {fs : List Str} {vs : List V} (h : m ∉ fs) : (fs.zip vs).lookup m = none := by
  induction fs generalizing vs with
  | nil => rfl
  | cons y ys ih =>
    cases vs with
    | nil => rfl
    | cons v vs =>
      rw [List.zip_cons_cons, List.lookup_cons]
      have e : (m == y) = false := beq_eq_false_iff_ne.mpr fun e => h (by rw [e]; exact List.mem_cons_self ..)
      rw [e]
      exact ih fun z => h (List.mem_cons_of_mem _ z)
theorem de_meth (he : DE X A W o t) (c : Cls X.K (A.cA C)) (hm : Meth X.K (A.cA C) m f) (nf : m ∉ A.fl C) (F : FnD X.prog X.w (cX X A) X.mg X.base k f sp) (hr : Rm k X.A) (tk : Takes X W) (ha : DA X A W (e :: es) ta)
    (hst : starEach (e :: es) X.env = (false, eval e X.env) :: starEach es X.env) (hpl : (backTo pos (starEach es X.env)).any (·.1) = false)
    (ht : eval (.Call (.Attribute o m apos) (e :: es) [] pos) X.env = (do
      let ov ← eval o X.env
      standAt apos.atName
      let (f, first) ← holding [ov] (getMethod ov m pl)
      callWith pos f first (backTo pos (starEach (e :: es) X.env)) (backToKw pos (keywordEach [] X.env)))) : DE X A W (.Call (.Attribute o m apos) (e :: es) [] pos) (dMeth C sp t ta) := by
  refine ⟨fun pins s σ H Q I ⟨ρ, S, L, Qd, Ed, sl, so, h, kq, kx⟩ => ?_⟩
  refine PySem.W.methodCall_KW (pl := pl) (thn (he.run pins s σ H (fun x H1 => ∃ S1 d, Ext H S H1 S1 ∧ StoR (cX X A) L H1 S1 ∧ Rep (cX X A) L H1 S1 d x ∧ isC S1 C d ∧ ta ρ S1 (fun ds S2 => sp (d :: ds) S2 Qd Ed) Ed) I ⟨ρ, S, L, _, Ed, sl, so, h, fun v H1 d S1 e1 so1 r1 q1 => ⟨S1, d, e1, so1, r1, q1⟩, kx⟩) fun u s1 ⟨y, H1, I1, rx, S1, d, e1, so1, r1, ⟨xs, hi⟩, q1⟩ => ?_) ht
  obtain ⟨p0, dx, vs, ev, hp, _⟩ := insOf_ok so1 r1 hi
  subst ev
  have eu : u = Value.ref p0 := rx
  subst eu
  refine getmeth_ok I1 hp c hm (no_field (c := cX X A) nf) ?_
  refine PySem.W.callWith_K (first := [.ref p0]) (h₀ := X.base) I1.ok.mod.kin hm.kp (thn (ha.run pos pins s1 σ H1 (fun vs H2 => liftSp (cX X A) sp (V.ref p0 :: vs) H2 Q (WE W σ)) I1 ⟨ρ, S1, L, _, Ed, sl.ext e1, so1, q1, fun vs H2 ds S2 e2 so2 r2 q2 => ⟨d :: ds, S2, L, Qd, Ed, so2, .cons (r1.ext e2) r2, q2, kq.ext (e1.trans e2), (kx.ext (e1.trans e2)).slots⟩, kx.ext e1⟩) fun us s2 ⟨vs, H2, I2, r, q2⟩ => ⟨I2.kIn, ?_⟩) hst hpl
  exact run_at rfl F hr tk I2 (.cons (show RelV (.ref p0) (.ref p0) from rfl) r) q2
theorem de_meth0 (he : DE X A W o t) (c : Cls X.K (A.cA C)) (hm : Meth X.K (A.cA C) m f) (nf : m ∉ A.fl C) (F : FnD X.prog X.w (cX X A) X.mg X.base k f sp) (hr : Rm k X.A) (tk : Takes X W)
    (ht : eval (.Call (.Attribute o m apos) [] [] pos) X.env = (do
      let ov ← eval o X.env
      standAt apos.atName
      let (f, first) ← holding [ov] (getMethod ov m pl)
      callWith pos f first (backTo pos (starEach [] X.env)) (backToKw pos (keywordEach [] X.env)))) : DE X A W (.Call (.Attribute o m apos) [] [] pos) (dMeth C sp t dNil) := by
  refine ⟨fun pins s σ H Q I ⟨ρ, S, L, Qd, Ed, sl, so, h, kq, kx⟩ => ?_⟩
  refine PySem.W.methodCall_KW (pl := pl) (thn (he.run pins s σ H (fun x H1 => ∃ S1 d, Ext H S H1 S1 ∧ StoR (cX X A) L H1 S1 ∧ Rep (cX X A) L H1 S1 d x ∧ isC S1 C d ∧ sp [d] S1 Qd Ed) I ⟨ρ, S, L, _, Ed, sl, so, h, fun v H1 d S1 e1 so1 r1 q1 => ⟨S1, d, e1, so1, r1, q1⟩, kx⟩) fun u s1 ⟨y, H1, I1, rx, S1, d, e1, so1, r1, ⟨xs, hi⟩, q1⟩ => ?_) ht
  obtain ⟨p0, dx, vs, ev, hp, _⟩ := insOf_ok so1 r1 hi
  subst ev
  have eu : u = Value.ref p0 := rx
  subst eu
  refine getmeth_ok I1 hp c hm (no_field (c := cX X A) nf) ?_
  exact PySem.W.callWith_K0 (first := [.ref p0]) I1.kIn hm.kp (run_at (us := [.ref p0]) (vs := [.ref p0]) rfl F hr tk I1 (.cons rx .nil) ⟨[d], S1, L, Qd, Ed, so1, .cons r1 .nil, q1, kq.ext e1, (kx.ext e1).slots⟩)
/-- C.m(..), m a method of the class -/
theorem de_cmet (hg : Gl X x) (hx : X.mg x = some (.ref (A.cA C))) (hdb : (x == ("__debug__" : Str)) = false) (r : ClX.CRead X.K (A.cA C) mc) (c : ClX.CMet X.K (A.cA C) mc m f g) (F : FnD X.prog X.w (cX X A) X.mg X.base k g sp) (hr : Rm k X.A) (tk : Takes X W) (ha : DA X A W (e :: es) ta)
    (hst : starEach (e :: es) X.env = (false, eval e X.env) :: starEach es X.env) (hpl : (backTo pos (starEach es X.env)).any (·.1) = false)
    (ht : eval (.Call (.Attribute (.Name x p) m apos) (e :: es) [] pos) X.env = (do
      let ov ← eval (.Name x p) X.env
      standAt apos.atName
      let (f, first) ← holding [ov] (getMethod ov m pl)
      callWith pos f first (backTo pos (starEach (e :: es) X.env)) (backToKw pos (keywordEach [] X.env)))) : DE X A W (.Call (.Attribute (.Name x p) m apos) (e :: es) [] pos) (dCMet C sp ta) := by
  refine ⟨fun pins s σ H Q I ⟨ρ, S, L, Qd, Ed, sl, so, h, kq, kx⟩ => ?_⟩
  refine PySem.W.methodCall_KW (pl := pl) (ld_glob I hg hx ?_ hdb) ht
  refine ClX.getmethcm_ok I r c fun s2 I2 => ?_
  refine ClX.callwith_cm I2 (ClX.base_none I (Nat.le_refl _)) c.fi (thn (ha.run pos _ s2 σ H (fun vs H2 => liftSp (cX X A) sp (V.ref (A.cA C) :: vs) H2 Q (WE W σ)) I2 ⟨ρ, S, L, _, Ed, sl, so, h, fun vs H2 ds S2 e2 so2 r2 q2 => ⟨.ty (.own C) :: ds, S2, L, Qd, Ed, so2, .cons (by unfold Rep; rfl) r2, q2, kq.ext e2, (kx.ext e2).slots⟩, kx⟩) fun us s3 ⟨vs, H2, I3, rv, q2⟩ => ⟨⟨ClX.pin_at I3, I3.kIn⟩, ?_⟩) hst hpl
  refine thn (wpAny_call (PySem.W.method_call (ClX.pin_at I3) (codeAny_mono (run_code (us := .ref (A.cA C) :: us) (vs := .ref (A.cA C) :: vs) rfl F hr tk I3 (.cons rfl rv) q2) fun q s' hq => by
    match q, hq with
    | .error e, hq => exact hq
    | .ok (.ret w), hq => exact hq))) fun _ _ y => ClX.unpinE y
/-- c(*y), c a class in a name -/
def dMakeS (C : Nat) (m : Bool) (sp : DSp) (tf te : DT) : DT := fun ρ S Q E => tf ρ S (fun c S0 => c = .ty (.own C) ∧ te ρ S0 (fun y S1 => ∃ ds, seqA S1 y = some ds ∧ ∀ p, S1 p = none → sp (.ref p :: ds) (S1.set p (.ins C [])) (fun r S2 => r = .non ∧ mkI m C p S2 Q) (fun n xs S2 => E n xs (S2.del p))) E) E
theorem de_makeS {mm : Bool} (M : Mk X.K (A.cA C) f) (F : FnD X.prog X.w (cX X A) X.mg X.base k f sp) (hr : Rm (k + 1) X.A) (tk : Takes X W) (hf : DE X A W (.Name x p) tf) (he : DE X A W e t) (hst : starEach [.Starred e sp0] X.env = [(true, eval e X.env)]) :
    DE X A W (.Call (.Name x p) [.Starred e sp0] [] pos) (dMakeS C mm sp tf t) := by
  refine ⟨fun pins s σ H Q I ⟨ρ, S, L, Qd, Ed, sl, so, h, kq, kx⟩ => ?_⟩
  refine wpAny_Call_Name_kw (thn (hf.run pins s σ H (fun c H0 => ∃ S0, Ext H S H0 S0 ∧ StoR (cX X A) L H0 S0 ∧ c = .ref (A.cA C) ∧ t ρ S0 (fun y S1 => ∃ ds, seqA S1 y = some ds ∧ ∀ p, S1 p = none → sp (.ref p :: ds) (S1.set p (.ins C [])) (fun r S2 => r = .non ∧ mkI mm C p S2 Qd) (fun n xs S2 => Ed n xs (S2.del p))) Ed) I
    ⟨ρ, S, L, _, Ed, sl, so, h, fun v H0 d S0 e0 so0 r0 ⟨ed, q0⟩ => ⟨S0, e0, so0, by subst ed; unfold Rep at r0; exact r0, q0⟩, kx⟩) fun u s0 ⟨c, H0, I0, rc, S0, e0, so0, ec, q0⟩ => ?_)
  subst ec
  have eu : u = Value.ref (A.cA C) := rc
  subst eu
  refine PySem.W.callWith_S (h₀ := X.base) (first := []) I0.ok.mod.kin M.kp (thn (he.run pins s0 σ H0 (fun y H1 => ∃ S1 d, Ext H0 S0 H1 S1 ∧ StoR (cX X A) L H1 S1 ∧ Rep (cX X A) L H1 S1 d y ∧ ∃ ds, seqA S1 d = some ds ∧ ∀ p, S1 p = none → sp (.ref p :: ds) (S1.set p (.ins C [])) (fun r S2 => r = .non ∧ mkI mm C p S2 Qd) (fun n xs S2 => Ed n xs (S2.del p))) I0
    ⟨ρ, S0, L, _, Ed, sl.ext e0, so0, q0, fun v H1 d S1 e1 so1 r1 q1 => ⟨S1, d, e1, so1, r1, q1⟩, kx.ext e0⟩) fun v s1 ⟨y, H1, I1, ry, S1, d, e1, so1, r1, ds, es, q1⟩ => ?_) hst
  obtain ⟨pa, vs, ev, hs, rs⟩ := seqA_ok so1 r1 es
  subst ev
  have ew : v = Value.ref pa := ry
  subst ew
  refine StX.star_any I1 (hs.elim .inr .inl) fun us s2 I2 rv => ⟨I2.kIn, ?_⟩
  exact run_makeV M F hr tk I2 rv (make_ok so1 rs q1 (kq.ext (e0.trans e1)) (kx.ext (e0.trans e1)).slots)
end
end DL

namespace DL
open PySem PySem.Spec PyProof.Rows L2

/-! ### a, b = x, y -/
def isStar : Expr → Bool
  | .Starred .. => true
  | _ => false
def tgLoc (sc : Scope) (line : Nat) : Expr → Option Str
  | .Name id pos => if sc.names.lookup id == some .local && pos.line == line then some id else none
  | _ => none
def swLine (ts : List Expr) : Nat := (ts.head?.map (·.pos.line)).getD 0
def swNone (ts vs : List Expr) (sc : Scope) : Bool := !(ts.length == 2 || ts.length == 3) || vs.length != ts.length || vs.any isStar || (ts.filterMap (tgLoc sc (swLine ts))).length != ts.length || vs.all (foldedForSure 8)
def swSome (ts vs : List Expr) (sc : Scope) (xs : List Str) : Bool := (ts.length == 2 || ts.length == 3) && vs.length == ts.length && !(vs.any isStar) && decide (ts.filterMap (tgLoc sc (swLine ts)) = xs) && xs.length == ts.length && !(xs.eraseDups.length != xs.length) && !(vs.all (foldedForSure 8)) && !(vs.all (constantsAlone 8))
section
variable {env : PySem.Env} {ts vs : List Expr} {kt k2 : _} {pt pt2 : Pos}
theorem star_eq : (fun x : Expr => match x with | .Starred .. => true | _ => false) = isStar := by
  funext x
  cases x <;> rfl
theorem tgl_eq (line : Nat) : (fun x : Expr => match x with | .Name id pos => if env.kindOf id == some .local && pos.line == line then some id else none | _ => none) = tgLoc env.scope line := by
  funext x
  cases x <;> rfl
theorem sw_none (hk : env.scope.kind = .function) (h : swNone ts vs env.scope = true) : swappedStores [.Tuple ts kt pt] (.Tuple vs k2 pt2) env = pure none := by
  have hb : env.blockKind = .function := by unfold Env.blockKind; rw [hk]; rfl
  unfold swappedStores
  unfold swNone at h
  show (if (!(ts.length == 2 || ts.length == 3) || vs.length != ts.length || env.blockKind != ScopeKind.function) = true then pure none else if (vs.any isStar) = true then pure none
    else if ((ts.filterMap (tgLoc env.scope (swLine ts))).length != ts.length || (ts.filterMap (tgLoc env.scope (swLine ts))).eraseDups.length != (ts.filterMap (tgLoc env.scope (swLine ts))).length) = true then pure none
    else if vs.all (foldedForSure 8) = true then pure none else _) = (pure none : Sem (Option (List Str)))
  by_cases c1 : (!(ts.length == 2 || ts.length == 3) || vs.length != ts.length || env.blockKind != ScopeKind.function) = true
  · rw [if_pos c1]
  rw [if_neg c1]
  by_cases c2 : (vs.any isStar) = true
  · rw [if_pos c2]
  rw [if_neg c2]
  by_cases c3 : ((ts.filterMap (tgLoc env.scope (swLine ts))).length != ts.length || (ts.filterMap (tgLoc env.scope (swLine ts))).eraseDups.length != (ts.filterMap (tgLoc env.scope (swLine ts))).length) = true
  · rw [if_pos c3]
  rw [if_neg c3]
  by_cases c4 : vs.all (foldedForSure 8) = true
  · rw [if_pos c4]
  exfalso
  simp only [Bool.or_eq_true, not_or] at h c1 c3
  rcases h with (((h | h) | h) | h) | h
  · exact c1.1.1 h
  · exact c1.1.2 h
  · exact c2 h
  · exact c3.1 h
  · exact c4 h
theorem sw_some {xs : List Str} (hk : env.scope.kind = .function) (h : swSome ts vs env.scope xs = true) : swappedStores [.Tuple ts kt pt] (.Tuple vs k2 pt2) env = pure (some xs) := by
  have hb : env.blockKind = .function := by unfold Env.blockKind; rw [hk]; rfl
  unfold swappedStores
  unfold swSome at h
  simp only [Bool.and_eq_true] at h
  obtain ⟨⟨⟨⟨⟨⟨⟨h1, h2⟩, h3⟩, h4⟩, h5⟩, h6⟩, h7⟩, h8⟩ := h
  have h4 := of_decide_eq_true h4
  show (if (!(ts.length == 2 || ts.length == 3) || vs.length != ts.length || env.blockKind != ScopeKind.function) = true then pure none else if (vs.any isStar) = true then pure none
    else if ((ts.filterMap (tgLoc env.scope (swLine ts))).length != ts.length || (ts.filterMap (tgLoc env.scope (swLine ts))).eraseDups.length != (ts.filterMap (tgLoc env.scope (swLine ts))).length) = true then pure none
    else if vs.all (foldedForSure 8) = true then pure none else if vs.all (constantsAlone 8) = true then _ else pure (some (ts.filterMap (tgLoc env.scope (swLine ts))))) = (pure (some xs) : Sem (Option (List Str)))
  rw [h4, hb, h1, if_neg (by
    have : (vs.length != ts.length) = false := by simpa using h2
    rw [this]
    decide), if_neg (by rw [not_of h3]; exact Bool.false_ne_true), if_neg (by
    have e1 : (xs.length != ts.length) = false := by simpa using h5
    rw [e1, not_of h6]
    decide), if_neg (by rw [not_of h7]; exact Bool.false_ne_true), if_neg (by rw [not_of h8]; exact Bool.false_ne_true)]
end
def setAll : List Nat → List D → DSt → Option DSt
  | [], [], ρ => some ρ
  | i :: is, d :: ds, ρ => setAll is ds (ρ.set i (some d))
  | _, _, _ => none
def sPar (is : List Nat) (ta : DTA) : DTS := fun D ρ S => ta ρ S (fun ds S1 => ∃ ρ', setAll is ds ρ = some ρ' ∧ D.nx ρ' S1) (D.xx ρ)
section
variable {P : Program} {w : World} {K : PySem.W.Frag} {A : Cla} {mg : Str → Option Value} {base : Heap} {N : List Str} {sc : Scope} {fo : Str → Bool} {lv : Nat} {X : Cx} {W : WX} {a b c e : Expr} {es ts vs : List Expr} {pos : Pos} {t u v : DT} {ta : DTA} {x y z : Str} {px py pz pt pt2 : Pos} {kt k2 : Nat} {i j l : Nat} {g : DTG}
def slB (N : List Str) (sc : Scope) (i : Nat) (x : Str) : Bool := decide (N[i]? = some x) && decide (sc.names.lookup x = some .local)
theorem In.par2 (h : In P w K mg base N sc fo lv X W) (hk : (decide (sc.kind = .function) && decide N.Nodup && decide (i ≠ j) && (slB N sc i x && slB N sc j y)) = true) (hs : swSome [.Name x px, .Name y py] [a, b] sc [x, y] = true) (ha : DA X A W [a, b] ta)
    (hw : swapsWithSole [.Tuple [.Name x px, .Name y py] kt pt] (.Tuple [a, b] k2 pt2) pos.line X.env = pure false := by rfl) :
    DStm X A W (.Assign [.Tuple [.Name x px, .Name y py] kt pt] (.Tuple [a, b] k2 pt2) pos) (sPar [i, j] ta) := by
  simp only [Bool.and_eq_true, slB, decide_eq_true_eq] at hk
  obtain ⟨⟨⟨k1, k2'⟩, k3⟩, ⟨k4, k5⟩, k6, k7⟩ := hk
  have := h.eS; subst this
  have := h.eN; subst this
  refine PS.mono (ps_par h.calm k2' k4 k6 k3 k5 k7 ha (sw_some k1 hs) hw) fun D σ H ⟨ρ, S, L, DD, sl, so, q, k⟩ => ?_
  refine ⟨ρ, S, L, _, DD.xx ρ, sl, so, q, fun vs H1 ds S1 e1 so1 rs ⟨ρ', er, q1⟩ => ?_, k.xx.at_ sl⟩
  match ds, er, rs with
  | [d1, d2], er, rs =>
    have er : some ((ρ.set i (some d1)).set j (some d2)) = some ρ' := er
    cases er
    obtain ⟨v1, v2, ev, r1, r2⟩ := reps2 rs
    exact ⟨v1, v2, ev, k.nx _ H1 _ S1 e1 so1 (((sl.ext e1).set r1).set r2) q1⟩
  | [], er, _ => cases er
  | [_], er, _ => cases er
  | _ :: _ :: _ :: _, er, _ => cases er
theorem In.par3 (h : In P w K mg base N sc fo lv X W) (hk : (decide (sc.kind = .function) && decide N.Nodup && (decide (i ≠ j) && decide (i ≠ l) && decide (j ≠ l)) && (slB N sc i x && (slB N sc j y && slB N sc l z))) = true) (hs : swSome [.Name x px, .Name y py, .Name z pz] [a, b, c] sc [x, y, z] = true) (ha : DA X A W [a, b, c] ta)
    (hw : swapsWithSole [.Tuple [.Name x px, .Name y py, .Name z pz] kt pt] (.Tuple [a, b, c] k2 pt2) pos.line X.env = pure false := by rfl) :
    DStm X A W (.Assign [.Tuple [.Name x px, .Name y py, .Name z pz] kt pt] (.Tuple [a, b, c] k2 pt2) pos) (sPar [i, j, l] ta) := by
  simp only [Bool.and_eq_true, slB, decide_eq_true_eq] at hk
  obtain ⟨⟨⟨k1, k2'⟩, ⟨k3, k3'⟩, k3''⟩, ⟨k4, k5⟩, ⟨k6, k7⟩, k8, k9⟩ := hk
  have := h.eS; subst this
  have := h.eN; subst this
  refine PS.mono (ps_par3 h.calm k2' k4 k6 k8 k3 k3' k3'' k5 k7 k9 ha (sw_some k1 hs) hw) fun D σ H ⟨ρ, S, L, DD, sl, so, q, k⟩ => ?_
  refine ⟨ρ, S, L, _, DD.xx ρ, sl, so, q, fun vs H1 ds S1 e1 so1 rs ⟨ρ', er, q1⟩ => ?_, k.xx.at_ sl⟩
  match ds, er, rs with
  | [d1, d2, d3], er, rs =>
    have er : some (((ρ.set i (some d1)).set j (some d2)).set l (some d3)) = some ρ' := er
    cases er
    obtain ⟨v1, us, ev, r1, rs⟩ := rs.of_cons
    obtain ⟨v2, v3, ev2, r2, r3⟩ := reps2 rs
    subst ev2
    exact ⟨v1, v2, v3, ev, k.nx _ H1 _ S1 e1 so1 ((((sl.ext e1).set r1).set r2).set r3) q1⟩
  | [], er, _ => cases er
  | [_], er, _ => cases er
  | [_, _], er, _ => cases er
  | _ :: _ :: _ :: _ :: _, er, _ => cases er
/-- a tuple stored into targets of which one is no plain local name -/
theorem In.parC (h : In P w K mg base N sc fo lv X W) (hk : (decide (sc.kind = .function) && swNone ts vs sc) = true) (he : DE X A W (.Tuple vs k2 pt2) t) (hg : DTgt X A W (.Tuple ts kt pt) g) (hs : swapsWithSole [.Tuple ts kt pt] (.Tuple vs k2 pt2) pos.line X.env = pure false := by rfl)
    (h1 : (assignEach [.Tuple ts kt pt] X.env).map (·.2) = [assign (.Tuple ts kt pt) X.env] := by rfl) : DStm X A W (.Assign [.Tuple ts kt pt] (.Tuple vs k2 pt2) pos) (sAsg t g) := by
  simp only [Bool.and_eq_true, decide_eq_true_eq] at hk
  have := h.eS; subst this
  exact ds_asg he hg hs (sw_none hk.1 hk.2) h1
end
/-! ### list.extend, list of a text -/
def mExtend : DMt := fun x ds S Q => ∃ p xs y zs, x = .ref p ∧ ds = [y] ∧ S p = some (.lst xs) ∧ seqM S y = some zs ∧ xs.length + zs.length ≤ sizeLine ∧ Q .non (S.set p (.lst (xs ++ zs)))
section
variable {X : Cx} {A : Cla} {W : WX} {e o : Expr} {es : List Expr} {pos apos : Pos} {t : DT} {ta : DTA}
theorem md_extend : MtD X A "list.extend" mExtend := MtR.mono mt_extend fun x xs H Q ⟨S, L, dx, ds, Qd, so, r, rs, ⟨p, ys, y, zs, ex, ed, hs, hy, hz, q⟩, kq⟩ => by
  subst ex ed
  unfold Rep at r
  obtain ⟨w, ew, r1⟩ := reps1 rs
  obtain ⟨b, us, eb, hb, rb⟩ := seqM_ok so r1 hy
  subst eb
  obtain ⟨⟨vs, hh, rv⟩, _⟩ := so.at_ p _ hs
  refine ⟨p, b, vs, us, r, ew, hh, hb, by rw [rv.length, rb.length]; exact hz, ?_⟩
  have x : Ext H S (upd H p (.lst (vs ++ us))) (S.set p (.lst (ys ++ zs))) := Ext.write hs
  exact kq _ _ _ _ x (so.write hs ⟨_, upd_same, (rv.append rb).ext x⟩) (by unfold Rep; rfl) q
theorem pExtend (ho : DE X A W o t) (ha : DA X A W (e :: es) ta) (hbase : attributeBase o "extend" X.env (eval o X.env) = eval o X.env := by rfl)
    (hfew : ((backTo pos (starEach (e :: es) X.env)).all (fun x => !x.1) && (backToKw pos (keywordEach [] X.env)).all (fun x => x.1.isSome)
      && decide ((e :: es).length + ([] : List Keyword).length + (if ([] : List Keyword).isEmpty then 0 else 1) < 30)) = true := by rfl)
    (hline : (apos.endLine == pos.line) = true := by rfl) (hs : starEach (e :: es) X.env = (false, eval e X.env) :: starEach es X.env := by rfl) (hplain : (backTo pos (starEach es X.env)).any (·.1) = false := by rfl) :
    DE X A W (.Call (.Attribute o "extend" apos) (e :: es) [] pos) (dMt mExtend t ta) := de_bm PySem.F.slot_list_extend PySem.F.type_list_extend md_extend ho ha hbase hfew hline hs hplain
end
end DL

namespace DLc
open PySem PySem.Spec PyProof.Rows

section
variable {prog : Program} {w : World} {A : Around} {E : Value → Shared → Prop} {s : Shared}
theorem ext_signs {R : Result → Shared → Prop} (hd : A.handled = none) (z : Str) (tk0 : Tok) (le : z.cps.size ≤ sizeLine) (S : Addr) (res : Value) {c0 : Nat} (hS : s.heap.get? S = some { cls := .type "list", data := .seq #[] c0 })
    (hR : ∀ h1 tk acc c1, (∀ b o, b ≠ S → s.heap.get? b = some o → h1.get? b = some o) → h1.get? S = some { cls := .type "list", dict := none, data := .seq acc c1, slots := #[] } → ItemsOf (SignAt z) acc z.cps.size → R (.ok (.ret res)) { s with heap := h1, toks := tk }) :
    wpAny (model prog w) A.in1 (Builtin.List.listExtendWith (.ref S) (.str z tk0) res) (fun fin s' => match fin with | .done f => R (.ok f) s' | .again c1 => c1.quiet = true ∧ codeAny (model prog w) A c1 R s') (fun e s' => R (.error e) s') s := by
  have lt : S < s.heap.objs.size := Heap.lt_size hS
  have out : S ∉ [s.heap.objs.size] := fun hm => Nat.ne_of_lt lt (List.mem_singleton.mp hm)
  unfold Builtin.List.listExtendWith
  refine wpAny_bind (wpAny_typeOf (v := .str z tk0) (T := "str") rfl ?_)
  have n1 : Builtin.List.listSameRef (.ref S) (.str z tk0) = false := rfl
  have n2 : (Value.type "str" == Value.type "tuple") = false := by decide
  have n3 : (Value.type "str" == Value.type "list") = false := by decide
  simp only [n1, n2, n3, Bool.false_eq_true, Bool.or_false, if_false]
  refine wpAny_bind (wpAny_pyIter_str fun o St W st => ?_)
  refine wpAny_bind (wpAny_holding ?_)
  unfold Builtin.List.listLengthHint
  refine wpAny_bind (wpAny_specialOf (v := .str z tk0) (T := "str") rfl F.str_len ?_)
  wp_delta
  refine wpAny_bind (wpAny_isInstance (b := true) (T := "str") (v := .str z tk0) rfl (by rw [isSubtype_type]; kernel_rfl) ?_)
  show wpAny _ A.in1 (typeOf (.str z tk0) >>= _) _ _ _
  refine wpAny_bind (wpAny_typeOf (v := .str z tk0) (T := "str") rfl ?_)
  refine wpAny_pure ?_
  rw [if_neg (by decide)]
  refine wpAny_pure ⟨plainId_quiet F.plain_extend_loop _, ?_⟩
  refine codeAny_extend_loopS (W A.in1 hd).toS le S out res z.cps.size 0 _ #[] c0 rfl (Nat.zero_le _) st (Heap.get?_push_of_some _ hS) (ItemsOf.nil _) fun s1 acc c1 mv hS1 items => ?_
  rw [Moved.eq_with mv]
  refine hR _ _ acc c1 (fun b ob hb e => mv.heap b ob (fun m => ?_) (Heap.get?_push_of_some _ e)) hS1 items
  rcases List.mem_cons.mp m with x | x
  · exact hb x
  · exact Nat.lt_irrefl _ ((List.mem_singleton.mp x) ▸ Heap.lt_size e)
theorem init_signs {R : Result → Shared → Prop} (hd : A.handled = none) (z : Str) (tk0 : Tok) (le : z.cps.size ≤ sizeLine) (S : Addr) (hS : s.heap.get? S = some { cls := .type "list", data := .seq #[] })
    (hR : ∀ h1 tk acc c1, (∀ b o, b ≠ S → s.heap.get? b = some o → h1.get? b = some o) → h1.get? S = some { cls := .type "list", dict := none, data := .seq acc c1, slots := #[] } → ItemsOf (SignAt z) acc z.cps.size → R (.ok (.ret .none)) { s with heap := h1, toks := tk }) :
    wpAny (model prog w) A.in1 (Builtin.«list.__init__» ⟨[.ref S, .str z tk0], []⟩) (fun fin s' => match fin with | .done f => R (.ok f) s' | .again c1 => c1.quiet = true ∧ codeAny (model prog w) A c1 R s') (fun e s' => R (.error e) s') s := by
  show wpAny _ _ (Builtin.List.listItems (.ref S) >>= fun old => Builtin.List.listUpdate (.ref S) (fun _ => #[]) >>= fun _ => letGo old.toList.reverse >>= fun _ => Builtin.List.listExtendWith (.ref S) (.str z tk0) .none) _ _ s
  refine wpAny_bind ?_
  unfold Builtin.List.listItems
  refine wpAny_bind (wpAny_seqItems hS rfl (wpAny_pure ?_))
  show wpAny _ _ (updateSeq S (fun _ => #[]) >>= fun _ => letGo ([] : List Value) >>= fun _ => Builtin.List.listExtendWith (.ref S) (.str z tk0) .none) _ _ s
  refine wpAny_bind (wpAny_updateSeq hS rfl (wpAny_bind (wpAny_letGo ?_)))
  refine ext_signs hd z tk0 le S .none (Heap.get?_update_self (Obj.mapSeq (fun _ => (#[] : Array Value))) hS rfl) fun h1 tk acc c1 kp hS1 items => ?_
  exact hR h1 tk acc c1 (fun b o hb e => kp b o hb ((Heap.get?_update_other _ _ (Ne.symm hb)).trans e)) hS1 items
theorem list_signs {Q : Value → Shared → Prop} (hd : A.handled = none) (z : Str) (tk0 : Tok) (le : z.cps.size ≤ sizeLine)
    (hQ : ∀ h1 tk acc c1, (∀ b o, s.heap.get? b = some o → h1.get? b = some o) → h1.get? s.heap.objs.size = some { cls := .type "list", dict := none, data := .seq acc c1, slots := #[] } → ItemsOf (SignAt z) acc z.cps.size → Q (.ref s.heap.objs.size) { s with heap := h1, toks := tk }) :
    wpAny (model prog w) A (call (.type "list") [.str z tk0]) Q E s := by
  refine callType_codes (Q₁ := fun ob s1 => ob = .ref s.heap.objs.size ∧ s1 = { s with heap := s.heap.push { cls := .type "list", data := .seq #[] } }) F.called_list (F.typeCall_list_1 _) F.entry_list_init (code_list_new _ ⟨rfl, rfl⟩) fun ob s1 hx => ?_
  obtain ⟨e1, e2⟩ := hx
  subst e1 e2
  have hS : (s.heap.push { cls := .type "list", data := .seq #[] }).get? s.heap.objs.size = some { cls := .type "list", data := .seq #[] } := Heap.get?_push_size _ rfl
  refine ⟨⟨_, hS, rfl⟩, F.args_list_init_2 _ _, init_signs (A := A.in1) hd z tk0 le _ hS fun h1 tk acc c1 kp hS1 items => ⟨rfl, ?_⟩⟩
  exact hQ h1 tk acc c1 (fun b o e => kp b o (Nat.ne_of_lt (Heap.lt_size e)) (Heap.get?_push_of_some _ e)) hS1 items
end
end DLc
namespace DL
open PySem PySem.Spec PyProof.Rows L2
/-- list(x), x a text, too -/
def rListS (m : Bool) : DRA := fun ds S Q _ => ∃ x xs, ds = [x] ∧ (match x with | .str z => some (z.cps.toList.map chD) | x => seqA S x) = some xs ∧ mkL m xs S Q
section
variable {X : Cx} {A : Cla} {W : WX}
theorem signs_rep {c : Cfg} {L : Lk} {H : Hp} {S : Sto} {z : Str} (hz : SOk z) : ∀ (l : List Nat), (∀ k ∈ l, k ∈ z.cps.toList) → Reps c L H S (l.map chD) (l.map fun k => V.str ⟨#[k]⟩)
  | [], _ => .nil
  | k :: l, h => .cons (by unfold chD Rep; exact ⟨rfl, hz.ch (h k (List.mem_cons_self ..))⟩) (signs_rep hz l fun m hm => h m (List.mem_cons_of_mem _ hm))
theorem cd_listS {m : Bool} (hc : X.calm = true) : CallD X A (.type "list") (rListS m) := by
  intro pins s σ H xs us Q I r ⟨S, L, ds, Qd, so, rs, ⟨x, ys, ed, e, h⟩, kq⟩
  have old : (seqA S x = some ys) → wpAny (model X.prog X.w) X.A (call (.type "list") us) (EP X pins σ Q) X.xe s := fun e' =>
    cd_list (m := m) (A := A) pins s σ H xs us Q I r ⟨S, L, ds, Qd, so, rs, ⟨x, ys, ed, e', h⟩, kq⟩
  cases x with
  | str z =>
    subst ed
    have e : some (z.cps.toList.map chD) = some ys := e
    cases e
    obtain ⟨v, ev, r1⟩ := reps1 rs
    subst ev
    unfold Rep at r1
    obtain ⟨e1, hz⟩ := r1
    subst e1
    obtain ⟨u, eu, ru⟩ := r.one
    subst eu
    obtain ⟨t, et⟩ := ru
    subst et
    refine DLc.list_signs (I.ok.hd hc) z t hz.1 fun h1 tk acc c1 kp e1 items => ?_
    have vals : Vals (z.cps.toList.map fun k => V.str ⟨#[k]⟩) acc.toList := by
      have ln : acc.toList.length = z.cps.toList.length := by
        have := items.1
        simpa using this
      refine vals_of_at (by rw [List.length_map, ln]) fun j x u hx hu => ?_
      obtain ⟨k, tk', hk, eu⟩ := items.2 j u (by rw [← Array.getElem?_toList]; exact hu)
      rw [List.getElem?_map] at hx
      have : z.cps.toList[j]? = some k := by rw [Array.getElem?_toList]; exact hk
      rw [this] at hx
      cases hx
      exact ⟨tk', eu⟩
    have fr := I.hok.fresh (Nat.le_refl _)
    have sz : (z.cps.toList.map fun k => V.str ⟨#[k]⟩).length ≤ sizeLine := by
      have e : z.cps.toList.length = z.cps.size := by simp
      rw [List.length_map, e]
      exact hz.1
    refine ⟨.ref s.heap.objs.size, upd H s.heap.objs.size (.lst (z.cps.toList.map fun k => V.str ⟨#[k]⟩)), I.laid kp (Nat.le_refl _) ⟨sz, acc.toList, c1, vals, by rw [Array.toArray_toList]; exact e1⟩, rfl, ?_⟩
    exact mkL_ok h kq so (signs_rep hz _ fun _ h => h) _ fr
  | _ => exact old e
end
end DL

namespace DLc
open PySem PySem.Spec PyProof.Rows PySem.Calls

section
variable {prog : Program} {w : World} {A : Around} {E : Value → Shared → Prop} {s : Shared} {K : PySem.W.Frag} {x C f : Addr} {ox : Obj} {od : Option Obj} {b tb : Value}
theorem ne_entry {Q : Fin → Shared → Prop} (hu : A.units < cLine) (X : K.In s.heap) (I : PySem.W.InstAt s.heap x ox C od) (he : PySem.W.findIn K (.ref C) "__eq__" = some (some (.ref f))) (hf : PySem.W.isFn K (.ref f) = true)
    (h : wpAny (model prog w) A (call (.ref f) [.ref x, b]) (fun v s1 => ∃ k, v = .bool k ∧ Q (.done (.ret (.bool (!k)))) s1) E s) : wpAny (model prog w) A (Builtin.«object.__ne__» ⟨[.ref x, b], []⟩) Q E s := by
  unfold Builtin.«object.__ne__»
  refine wpAny_bind (m := slotArgs "__ne__" 1 _) (wpAny_pure ?_)
  refine wpAny_bind (m := cRoomFor _ _) (wpAny_cRoomFor hu ?_)
  refine wpAny_bind (m := callSpecialIfBound? (.ref x) (Str.ofString "__eq__") _) (PySem.W.ifBound_K X I he hf (wpAny_mono h (fun v s1 hq => ?_) fun _ _ y => y))
  obtain ⟨k, ev, q⟩ := hq
  subst ev
  exact wpAny_bind (wpAny_truthy_bool (wpAny_pure q))
theorem ne_call {Q : Value → Shared → Prop} (hu : A.in1.units < cLine) (X : K.In s.heap) (I : PySem.W.InstAt s.heap x ox C od) (hm : PySem.W.mroIn K C (.type "object") = some true) (he : PySem.W.findIn K (.ref C) "__eq__" = some (some (.ref f))) (hf : PySem.W.isFn K (.ref f) = true)
    (h : wpAny (model prog w) A.in1 (call (.ref f) [.ref x, b]) (fun v s1 => ∃ k, v = .bool k ∧ Q (.bool (!k)) s1) E s) : wpAny (model prog w) A (call (.builtin "object.__ne__") [.ref x, b]) Q E s :=
  wpAny_call (codeAny_call_builtin F.cmp_object.ne.plain F.cmpEntry_ne (PySem.W.check_slot F.cmpKind_ne F.cmpSplit_ne (I.type.andThen (PySem.W.looks_mroIn X hm)) (F.cmpArgs_ne _ _) (ne_entry hu X I he hf (wpAny_mono h (fun v s1 ⟨k, e, q⟩ => ⟨k, e, q⟩) fun _ _ y => y))))
theorem ne_bound {args : List Value} {Q : Option Value → Shared → Prop} (X : K.In s.heap) (I : PySem.W.InstAt s.heap x ox C od) (hs : PySem.W.findIn K (.ref C) "__ne__" = some (some (.builtin "object.__ne__")))
    (h : wpAny (model prog w) A (call (.builtin "object.__ne__") (.ref x :: args)) (fun v => Q (some v)) E s) : wpAny (model prog w) A (callSpecialIfBound? (.ref x) "__ne__" args) Q E s := by
  simp only [callSpecialIfBound?, bindSpecialIfBound?]
  refine wpAny_holding (wpAny_bind (wpAny_bind (wpAny_bind (I.type.here ((PySem.W.looks_findIn X hs).here ?_)))))
  have done : wpAny (model prog w) A (call (.builtin "object.__ne__") ([.ref x] ++ args) >>= fun v => pure (some v)) Q E s := wpAny_bind (wpAny_mono h (fun _ _ y => wpAny_pure y) fun _ _ y => y)
  refine wpAny_bind (wpAny_askSetting (wpAny_ite ?_))
  split
  · exact wpAny_bind (wpAny_of_eq (F.cmp_object.ne.bind _) (wpAny_pure (by exact done)))
  · exact wpAny_tryCatch (wpAny_bind (wpAny_of_eq (F.cmp_object.ne.bind _) (wpAny_pure (by exact done))))
theorem rc_ne {Q : Value → Shared → Prop} (hu : A.in1.units < cLine) (X : K.In s.heap) (I : PySem.W.InstAt s.heap x ox C od) (hb : PySem.W.Looks (model prog w) s.heap (typeOf b) tb) (hn : PySem.W.notFirst K C tb = true) (hm : PySem.W.mroIn K C (.type "object") = some true)
    (hs : PySem.W.findIn K (.ref C) "__ne__" = some (some (.builtin "object.__ne__"))) (he : PySem.W.findIn K (.ref C) "__eq__" = some (some (.ref f))) (hf : PySem.W.isFn K (.ref f) = true)
    (h : wpAny (model prog w) A.in1 (call (.ref f) [.ref x, b]) (fun v s1 => ∃ k, v = .bool k ∧ Q (.bool (!k)) s1) E s) : wpAny (model prog w) A (richCompare .NotEq (.ref x) b) Q E s := by
  have once : wpAny (model prog w) A (tryCompare (.ref x) "__ne__" b) (fun r s1 => ∃ k, r = some (.bool k) ∧ Q (.bool k) s1) E s := by
    unfold tryCompare
    refine wpAny_bind (ne_bound X I hs (ne_call hu X I hm he hf (wpAny_mono h (fun v s1 ⟨k, e, q⟩ => ⟨k, e, ?_⟩) fun _ _ y => y)))
    exact wpAny_pure ⟨!k, rfl, q⟩
  have hu1 : A.units < cLine := Nat.lt_of_succ_lt hu
  simp only [richCompare, cmpInfo_NotEq, oneThing_ref]
  refine wpAny_holding (wpAny_bind (wpAny_cRoomFor hu1 ?_))
  refine wpAny_bind (I.type.here (wpAny_bind (hb.here ?_)))
  split
  · rename_i q
    have e : PySem.W.subIn K tb (.ref C) = some false := by
      rcases Bool.or_eq_true_iff.mp hn with e | e
      · rw [beq_iff_eq.mp e] at q; simp at q
      · exact beq_iff_eq.mp e
    refine wpAny_bind ((PySem.W.looks_subIn X e).here ?_)
    rw [if_neg Bool.false_ne_true]
    refine wpAny_bind (m := tryCompare (.ref x) _ b) (wpAny_mono once (fun r s1 z => ?_) fun _ _ y => y)
    obtain ⟨k, er, hq⟩ := z
    subst er
    exact wpAny_pure hq
  · refine wpAny_bind (wpAny_pure ?_)
    rw [if_neg Bool.false_ne_true]
    refine wpAny_bind (m := tryCompare (.ref x) _ b) (wpAny_mono once (fun r s1 z => ?_) fun _ _ y => y)
    obtain ⟨k, er, hq⟩ := z
    subst er
    exact wpAny_pure hq
end
end DLc

namespace DL
open PySem PySem.Spec PyProof.Rows L2

/-- x != y by the class's == -/
def ownNe (C : Nat) (sp : DSp) (ok : Ty → Bool) : DR2 := fun x y S Q E => isC S C x ∧ (∃ T, tyN S y = some T ∧ ok T = true) ∧ sp [x, y] S (bkTru not Q) E
/-- what the right side of a comparison may be -/
structure CmpOk (K : PySem.W.Frag) (A : Cla) (C : Nat) (ok : Ty → Bool) : Prop where
  nf : ∀ T, ok T = true → PySem.W.notFirst K (A.cA C) (T.val A.cA) = true
  ck : ∀ C, ok (.own C) = true → ClsOk K (A.cA C)
theorem notFirst_self {K : PySem.W.Frag} {C : Addr} : PySem.W.notFirst K C (.ref C) = true := by
  unfold PySem.W.notFirst
  rw [beq_self_eq_true, Bool.true_or]
theorem notFirst_sub {K : PySem.W.Frag} {C : Addr} {t : Value} (h : PySem.W.subIn K t (.ref C) = some false) : PySem.W.notFirst K C t = true := by
  unfold PySem.W.notFirst
  rw [h]
  exact Bool.or_true _
section
variable {X : Cx} {A : Cla} {W : WX} {e a b o : Expr} {es : List Expr} {pos p apos : Pos} {t u : DT} {ta : DTA} {R : DR2} {f : Addr} {k C : Nat} {sp : DSp}
theorem ox_ne {ok : Ty → Bool} (d : Dn X.K (A.cA C) "__eq__" f) (hs : PySem.W.findIn X.K (.ref (A.cA C)) "__ne__" = some (some (.builtin "object.__ne__"))) (hck : ClsOk X.K (A.cA C)) (F : FnD X.prog X.w (cX X A) X.mg X.base k f sp) (m : Rm (k + 1) X.A) (tk : Takes X W)
    (c : CmpOk X.K A C ok) : OpX X A W (compareOp .NotEq) (ownNe C sp ok) := by
  intro pins s σ H x y v w Q I rx ry ⟨S, L, dx, dy, Qd, Ed, so, r1, r2, ⟨⟨xs, hi⟩, ⟨T, hT, hk⟩, q⟩, kq, kx⟩
  obtain ⟨p0, dd, vs, ev, hp, _⟩ := insOf_ok so r1 hi
  subst ev
  have eu : v = Value.ref p0 := rx
  subst eu
  obtain ⟨ox, od, J⟩ := inst_of I hp
  show wpAny _ _ (richCompare .NotEq (.ref p0) w) _ _ _
  refine DLc.rc_ne (by have := m.r.un; show X.A.units + 1 < _; omega) I.kIn J (ty_looks I so r2 ry hT fun C' e => c.ck C' (by rw [← e]; exact hk)) (c.nf T hk) hck.hm hs d.at_ d.fn ?_
  refine wpAny_mono (run_at rfl F m.in1 tk I (Q := fun z H' => ∃ b, z = .bl b ∧ Q (.bl (!b)) H') (.cons rx (.cons ry .nil)) ⟨[dx, dy], S, L, bkTru not Qd, Ed, so, .cons r1 (.cons r2 .nil), q, fun z H' dz S' e' so' rz ⟨b, ez, q'⟩ => ⟨b, by subst ez; unfold Rep at rz; exact rz, kq _ H' _ S' e' so' rep_bl q'⟩, kx⟩)
    (fun z s' ⟨zv, H', I', rz, b, ez, q'⟩ => ?_) fun _ _ h => h
  subst ez
  have eb : z = Value.bool b := rz
  exact ⟨b, eb, .bl (!b), H', I', rfl, q'⟩
/-- x[i], x of one's own -/
theorem de_idxO (d : Dn X.K (A.cA C) "__getitem__" f) (hfn : PySem.W.fnIn X.K f = true) (F : FnD X.prog X.w (cX X A) X.mg X.base k f sp) (m : Rm (k + 1) X.A) (tk : Takes X W) (ha : DE X A W a t) (hb : DE X A W b u)
    (hs : ∀ o i, subscripted b true o i = runValue (.builtin "lifetime.subscript" ⟨[o, i], []⟩)) : DE X A W (.Subscript a b pos) (dOpX (ownL C sp bkAny) t u) := by
  refine ⟨fun pins s σ H Q I h => Subscript_ (two_run ha hb I h fun v w s2 x y H2 I2 rx ry ⟨S, L, dx, dy, Qd, Ed, so, r1, r2, ⟨⟨xs, hi⟩, q⟩, kq, kx⟩ => ?_)⟩
  obtain ⟨p0, dd, vs, ev, hp, _⟩ := insOf_ok so r1 hi
  subst ev
  have eu : v = Value.ref p0 := rx
  subst eu
  obtain ⟨ox, od, J⟩ := inst_of I2 hp
  obtain ⟨mm, hF⟩ := I2.fr
  refine PySem.W.sub_K hF I2.ok.mod.kin J d.at_ hfn d.fn ?_ (hs _ _)
  exact run_at rfl F m.in1 tk I2 (.cons rx (.cons ry .nil)) ⟨[dx, dy], S, L, Qd, Ed, so, .cons r1 (.cons r2 .nil), q, kq, kx⟩
end
/-! ### by the tables -/
section
variable {P : Program} {w : World} {K : PySem.W.Frag} {A : Cla} {mg : Str → Option Value} {base : Heap} {N : List Str} {sc : Scope} {fo : Str → Bool} {lv : Nat} {X : Cx} {W : WX} {e a b o : Expr} {es : List Expr} {pos p apos : Pos} {t u tf : DT} {ta : DTA} {x m : Str} {f g : Addr} {k C : Nat} {sp : DSp} {ok : Ty → Bool} {mc : Value} {pl : Sem Bool}
theorem In.lenO (h : In P w K mg base N sc fo lv X W) (d : Dn K (A.cA C) "__len__" f) (F : FnD P w (cc K A) mg base k f sp) (hk : k + 1 ≤ lv) (hg : glB sc "len" = true) (hm : mg "len" = none) (ha : DA X A W (e :: es) ta)
    (he : starEach (e :: es) X.env = (false, eval e X.env) :: starEach es X.env := by rfl) (hpl : (backTo pos (starEach es X.env)).any (·.1) = false := by rfl) : DE X A W (.Call (.Name "len" p) (e :: es) [] pos) (dOwn1 C sp bkLen ta) := by
  have g := h.gl hg
  have := h.eM; subst this
  have := h.eP; subst this
  have := h.eW; subst this
  have := h.eK; subst this
  have := h.eB; subst this
  exact de_lenO d F (h.rm.mono hk) h.tk g hm ha he hpl
theorem In.cmpO {op : CmpOp} (h : In P w K mg base N sc fo lv X W) (d : Dn K (A.cA C) (cmpInfo op).2.1 f) (F : FnD P w (cc K A) mg base k f sp) (hk : k ≤ lv) (c : CmpOk K A C ok) (hop : ∀ a b, compareOp op a b = richCompare op a b := by intro _ _; rfl) : OpX X A W (compareOp op) (ownCmp C sp ok) := by
  have := h.eM; subst this
  have := h.eP; subst this
  have := h.eW; subst this
  have := h.eK; subst this
  have := h.eB; subst this
  exact ox_cmp hop d F (h.rm.mono hk) h.tk c.nf c.ck
theorem In.neO (h : In P w K mg base N sc fo lv X W) (d : Dn K (A.cA C) "__eq__" f) (hs : PySem.W.findIn K (.ref (A.cA C)) "__ne__" = some (some (.builtin "object.__ne__"))) (hck : ClsOk K (A.cA C)) (F : FnD P w (cc K A) mg base k f sp) (hk : k + 1 ≤ lv) (c : CmpOk K A C ok) : OpX X A W (compareOp .NotEq) (ownNe C sp ok) := by
  have := h.eM; subst this
  have := h.eP; subst this
  have := h.eW; subst this
  have := h.eK; subst this
  have := h.eB; subst this
  exact ox_ne d hs hck F (h.rm.mono hk) h.tk c
theorem In.inO (h : In P w K mg base N sc fo lv X W) (d : Dn K (A.cA C) "__contains__" f) (F : FnD P w (cc K A) mg base k f sp) (hk : k ≤ lv) : OpX X A W (compareOp .In) (ownR C sp (bkTru id)) := by
  have := h.eM; subst this
  have := h.eP; subst this
  have := h.eW; subst this
  have := h.eK; subst this
  have := h.eB; subst this
  exact ox_in d F (h.rm.mono hk) h.tk
theorem In.ninO (h : In P w K mg base N sc fo lv X W) (d : Dn K (A.cA C) "__contains__" f) (F : FnD P w (cc K A) mg base k f sp) (hk : k ≤ lv) : OpX X A W (compareOp .NotIn) (ownR C sp (bkTru not)) := by
  have := h.eM; subst this
  have := h.eP; subst this
  have := h.eW; subst this
  have := h.eK; subst this
  have := h.eB; subst this
  exact ox_nin d F (h.rm.mono hk) h.tk
theorem In.binO {op : Operator} (h : In P w K mg base N sc fo lv X W) (d : Dn K (A.cA C) (PySem.dunder op.info.2) f) (hc : PySem.W.selfFirst K (A.cA C) = true) (ck : ClsOk K (A.cA C)) (F : FnD P w (cc K A) mg base k f sp) (hk : k ≤ lv) : OpX X A W (binaryOp op) (ownBin C sp) := by
  have := h.eM; subst this
  have := h.eP; subst this
  have := h.eW; subst this
  have := h.eK; subst this
  have := h.eB; subst this
  exact ox_bin d hc ck F (h.rm.mono hk) h.tk
theorem In.idxO (h : In P w K mg base N sc fo lv X W) (d : Dn K (A.cA C) "__getitem__" f) (hfn : PySem.W.fnIn K f = true) (F : FnD P w (cc K A) mg base k f sp) (hk : k + 1 ≤ lv) (ha : DE X A W a t) (hb : DE X A W b u)
    (hs : ∀ o i, subscripted b true o i = runValue (.builtin "lifetime.subscript" ⟨[o, i], []⟩) := by intro _ _; rfl) : DE X A W (.Subscript a b pos) (dOpX (ownL C sp bkAny) t u) := by
  have := h.eM; subst this
  have := h.eP; subst this
  have := h.eW; subst this
  have := h.eK; subst this
  have := h.eB; subst this
  exact de_idxO d hfn F (h.rm.mono hk) h.tk ha hb hs
theorem In.meth (h : In P w K mg base N sc fo lv X W) (he : DE X A W o t) (c : ClsOk K (A.cA C)) (hm : Meth K (A.cA C) m f) (nf : m ∉ A.fl C) (F : FnD P w (cc K A) mg base k f sp) (hk : k ≤ lv) (ha : DA X A W (e :: es) ta)
    (hst : starEach (e :: es) X.env = (false, eval e X.env) :: starEach es X.env := by rfl) (hpl : (backTo pos (starEach es X.env)).any (·.1) = false := by rfl)
    (ht : eval (.Call (.Attribute o m apos) (e :: es) [] pos) X.env = (do
      let ov ← eval o X.env
      standAt apos.atName
      let (f, first) ← holding [ov] (getMethod ov m pl)
      callWith pos f first (backTo pos (starEach (e :: es) X.env)) (backToKw pos (keywordEach [] X.env))) := by rfl) : DE X A W (.Call (.Attribute o m apos) (e :: es) [] pos) (dMeth C sp t ta) := by
  have := h.eM; subst this
  have := h.eP; subst this
  have := h.eW; subst this
  have := h.eK; subst this
  have := h.eB; subst this
  exact de_meth he c.cl hm nf F (h.rm.mono hk) h.tk ha hst hpl ht
theorem In.meth0 (h : In P w K mg base N sc fo lv X W) (he : DE X A W o t) (c : ClsOk K (A.cA C)) (hm : Meth K (A.cA C) m f) (nf : m ∉ A.fl C) (F : FnD P w (cc K A) mg base k f sp) (hk : k ≤ lv)
    (ht : eval (.Call (.Attribute o m apos) [] [] pos) X.env = (do
      let ov ← eval o X.env
      standAt apos.atName
      let (f, first) ← holding [ov] (getMethod ov m pl)
      callWith pos f first (backTo pos (starEach [] X.env)) (backToKw pos (keywordEach [] X.env))) := by rfl) : DE X A W (.Call (.Attribute o m apos) [] [] pos) (dMeth C sp t dNil) := by
  have := h.eM; subst this
  have := h.eP; subst this
  have := h.eW; subst this
  have := h.eK; subst this
  have := h.eB; subst this
  exact de_meth0 he c.cl hm nf F (h.rm.mono hk) h.tk ht
theorem In.cmet (h : In P w K mg base N sc fo lv X W) (hg : glB sc x = true) (hx : mg x = some (.ref (A.cA C))) (r : ClX.CRead K (A.cA C) mc) (c : ClX.CMet K (A.cA C) mc m f g) (F : FnD P w (cc K A) mg base k g sp) (hk : k ≤ lv) (ha : DA X A W (e :: es) ta)
    (hst : starEach (e :: es) X.env = (false, eval e X.env) :: starEach es X.env := by rfl) (hpl : (backTo pos (starEach es X.env)).any (·.1) = false := by rfl)
    (ht : eval (.Call (.Attribute (.Name x p) m apos) (e :: es) [] pos) X.env = (do
      let ov ← eval (.Name x p) X.env
      standAt apos.atName
      let (f, first) ← holding [ov] (getMethod ov m pl)
      callWith pos f first (backTo pos (starEach (e :: es) X.env)) (backToKw pos (keywordEach [] X.env))) := by rfl) : DE X A W (.Call (.Attribute (.Name x p) m apos) (e :: es) [] pos) (dCMet C sp ta) := by
  have g := h.gl hg
  have := h.eM; subst this
  have := h.eP; subst this
  have := h.eW; subst this
  have := h.eK; subst this
  have := h.eB; subst this
  exact de_cmet g hx (glB_ok hg).2.1 r c F (h.rm.mono hk) h.tk ha hst hpl ht
theorem In.makeS {mm : Bool} {sp0 : Pos} (h : In P w K mg base N sc fo lv X W) (M : Mk K (A.cA C) f) (F : FnD P w (cc K A) mg base k f sp) (hk : k + 1 ≤ lv) (hf : DE X A W (.Name x p) tf) (he : DE X A W e t) (hst : starEach [.Starred e sp0] X.env = [(true, eval e X.env)] := by rfl) :
    DE X A W (.Call (.Name x p) [.Starred e sp0] [] pos) (dMakeS C mm sp tf t) := by
  have := h.eM; subst this
  have := h.eP; subst this
  have := h.eW; subst this
  have := h.eK; subst this
  have := h.eB; subst this
  exact de_makeS M F (h.rm.mono hk) h.tk hf he hst
end
end DL

namespace DL
open PySem PySem.Spec PyProof.Rows L2

/-! ### more equations -/
section
variable {S : Sto} {Q : DQ} {E : DX} {i j : Int} {a b : Str} {xs ys : List D} {p : Addr} {x y : D} {m : Bool}
theorem x_ext : mExtend (.ref p) [y] S Q = ∃ xs zs, S p = some (.lst xs) ∧ seqM S y = some zs ∧ xs.length + zs.length ≤ sizeLine ∧ Q .non (S.set p (.lst (xs ++ zs))) := by
  apply propext
  constructor
  · rintro ⟨p', xs, y', zs, e1, e2, h⟩
    cases e1
    cases e2
    exact ⟨xs, zs, h⟩
  · rintro ⟨xs, zs, h⟩
    exact ⟨p, xs, y, zs, rfl, rfl, h⟩
theorem sm_lst : seqM S (.lst xs) = some xs := rfl
theorem sa_lst : seqA S (.lst xs) = some xs := rfl
theorem sa_tup : seqA S (.tup xs) = some xs := rfl
theorem sa_cst : seqA S (.cst xs) = some xs := rfl
theorem x_lists : rListS m [.str a] S Q E = mkL m (a.cps.toList.map chD) S Q := by
  apply propext
  constructor
  · rintro ⟨x, zs, e1, e2, h⟩
    cases e1
    have e2 : some (a.cps.toList.map chD) = some zs := e2
    cases e2
    exact h
  · exact fun h => ⟨_, _, rfl, rfl, h⟩
theorem x_listl : rListS m [.lst xs] S Q E = mkL m xs S Q := by
  apply propext
  constructor
  · rintro ⟨x, zs, e1, e2, h⟩
    cases e1
    cases e2
    exact h
  · exact fun h => ⟨_, _, rfl, rfl, h⟩
theorem x_listt : rListS m [.tup xs] S Q E = mkL m xs S Q := by
  apply propext
  constructor
  · rintro ⟨x, zs, e1, e2, h⟩
    cases e1
    cases e2
    exact h
  · exact fun h => ⟨_, _, rfl, rfl, h⟩
theorem x_tupl : rTupD [.lst xs] S Q E = Q (.tup xs) S := by
  apply propext
  constructor
  · rintro ⟨x, zs, e1, e2, h⟩
    cases e1
    cases e2
    exact h
  · exact fun h => ⟨_, _, rfl, rfl, h⟩
theorem x_tupt : rTupD [.tup xs] S Q E = Q (.tup xs) S := by
  apply propext
  constructor
  · rintro ⟨x, zs, e1, e2, h⟩
    cases e1
    cases e2
    exact h
  · exact fun h => ⟨_, _, rfl, rfl, h⟩
theorem len_ref (h : S p = some (.lst xs)) : lenD S (.ref p) = some xs.length := by
  show ((match S p with | some (.lst xs) => some xs | _ => none).map List.length) = _
  rw [h]
  rfl
theorem si_ref (h : S p = some (.lst xs)) : seqI S (.ref p) = some (xs, fun S' => S' p = some (.lst xs)) := by
  unfold seqI
  simp only [h]
theorem sa_ref (h : S p = some (.lst xs)) : seqA S (.ref p) = some xs := by
  show (match S p with | some (.lst xs) => some xs | _ => none) = _
  rw [h]
theorem sm_ref (h : S p = some (.lst xs)) : seqM S (.ref p) = some xs := by
  show (match S p with | some (.lst xs) => some xs | _ => none) = _
  rw [h]
theorem io_ins {C : Nat} : insOf S (.ins C xs) = some (C, xs) := rfl
theorem x_muls : rBin false .Mult (.lst xs) (.int i) S Q E = (-(2 ^ 63) ≤ i ∧ i < 2 ^ 63 ∧ xs.length * i.toNat ≤ sizeLine ∧ Q (.lst (List.replicate i.toNat xs).flatten) S) := by
  apply propext
  constructor
  · rintro ⟨a, k, e1, e2, h1, h2, h3, h⟩
    cases e1
    cases e2
    exact ⟨h1, h2, h3, h⟩
  · rintro ⟨h1, h2, h3, h⟩
    exact ⟨xs, i, rfl, rfl, h1, h2, h3, h⟩
end
end DL

namespace DL
open PySem PySem.Spec PyProof.Rows L2

/-! ### the text by places -/
def top (i : Nat) : Stmt := PySem.Challenge.pw_cleanmerges_k02_files_made.main.body.getD i (.Pass ⟨0, 0, 0, 0⟩)
/-! ### the fields of the classes; the answers of isinstance -/
def flG : Nat → List Str
  | 0 => ["lines"]
  | _ => []
def isiG : Isi := [((.non, .str), false), ((.non, .tup), false), ((.non, .own 0), false), ((.bl, .str), false), ((.bl, .tup), false), ((.bl, .own 0), false), ((.int, .str), false), ((.int, .tup), false), ((.int, .own 0), false), ((.str, .str), true), ((.str, .tup), false), ((.str, .own 0), false), ((.tup, .str), false), ((.tup, .tup), true), ((.tup, .own 0), false), ((.lst, .str), false), ((.lst, .tup), false), ((.lst, .own 0), false), ((.own 0, .str), false), ((.own 0, .tup), false), ((.own 0, .own 0), true), ((.int, .int), true), ((.bl, .int), true), ((.non, .int), false)]
theorem li_0 : isiG.lookup (.non, .str) = some false := by decide
theorem li_1 : isiG.lookup (.non, .tup) = some false := by decide
theorem li_2 : isiG.lookup (.non, .own 0) = some false := by decide
theorem li_3 : isiG.lookup (.bl, .str) = some false := by decide
theorem li_4 : isiG.lookup (.bl, .tup) = some false := by decide
theorem li_5 : isiG.lookup (.bl, .own 0) = some false := by decide
theorem li_6 : isiG.lookup (.int, .str) = some false := by decide
theorem li_7 : isiG.lookup (.int, .tup) = some false := by decide
theorem li_8 : isiG.lookup (.int, .own 0) = some false := by decide
theorem li_9 : isiG.lookup (.str, .str) = some true := by decide
theorem li_10 : isiG.lookup (.str, .tup) = some false := by decide
theorem li_11 : isiG.lookup (.str, .own 0) = some false := by decide
theorem li_12 : isiG.lookup (.tup, .str) = some false := by decide
theorem li_13 : isiG.lookup (.tup, .tup) = some true := by decide
theorem li_14 : isiG.lookup (.tup, .own 0) = some false := by decide
theorem li_15 : isiG.lookup (.lst, .str) = some false := by decide
theorem li_16 : isiG.lookup (.lst, .tup) = some false := by decide
theorem li_17 : isiG.lookup (.lst, .own 0) = some false := by decide
theorem li_18 : isiG.lookup (.own 0, .str) = some false := by decide
theorem li_19 : isiG.lookup (.own 0, .tup) = some false := by decide
theorem li_20 : isiG.lookup (.own 0, .own 0) = some true := by decide
theorem li_21 : isiG.lookup (.int, .int) = some true := by decide
theorem li_22 : isiG.lookup (.bl, .int) = some true := by decide
theorem li_23 : isiG.lookup (.non, .int) = some false := by decide
/-! ### what the head tells -/
structure Tx (K : PySem.W.Frag) (mg : Str → Option Value) where
  f__law_bag : Addr
  f__law_draw : Addr
  f__law_words : Addr
  f__law_pool : Addr
  f__law_lines : Addr
  f_is_word : Addr
  f_is_name : Addr
  f_is_line : Addr
  f_File___init__ : Addr
  f_File_of : Addr
  f__law_direct : Addr
  f_File___len__ : Addr
  f_File___getitem__ : Addr
  f__law_is_file : Addr
  f_File___eq__ : Addr
  f__law_odd : Addr
  f_File___contains__ : Addr
  f_law : Addr
  c_File : Addr
  p__law_bag : FunP K "_law_bag" "_law_bag" (top 16) f__law_bag
  m__law_bag : mg "_law_bag" = some (.ref f__law_bag)
  k__law_bag : PySem.W.keepIn K (.ref f__law_bag) = true
  p__law_draw : FunP K "_law_draw" "_law_draw" (top 17) f__law_draw
  m__law_draw : mg "_law_draw" = some (.ref f__law_draw)
  k__law_draw : PySem.W.keepIn K (.ref f__law_draw) = true
  p__law_words : FunP K "_law_words" "_law_words" (top 18) f__law_words
  m__law_words : mg "_law_words" = some (.ref f__law_words)
  k__law_words : PySem.W.keepIn K (.ref f__law_words) = true
  p__law_pool : FunP K "_law_pool" "_law_pool" (top 19) f__law_pool
  m__law_pool : mg "_law_pool" = some (.ref f__law_pool)
  k__law_pool : PySem.W.keepIn K (.ref f__law_pool) = true
  p__law_lines : FunP K "_law_lines" "_law_lines" (top 20) f__law_lines
  m__law_lines : mg "_law_lines" = some (.ref f__law_lines)
  k__law_lines : PySem.W.keepIn K (.ref f__law_lines) = true
  p_is_word : FunP K "is_word" "is_word" (top 8) f_is_word
  m_is_word : mg "is_word" = some (.ref f_is_word)
  k_is_word : PySem.W.keepIn K (.ref f_is_word) = true
  p_is_name : FunP K "is_name" "is_name" (top 9) f_is_name
  m_is_name : mg "is_name" = some (.ref f_is_name)
  k_is_name : PySem.W.keepIn K (.ref f_is_name) = true
  p_is_line : FunP K "is_line" "is_line" (top 10) f_is_line
  m_is_line : mg "is_line" = some (.ref f_is_line)
  k_is_line : PySem.W.keepIn K (.ref f_is_line) = true
  p_File___init__ : FunP K "__init__" "File.__init__" (inClass (top 14) 0) f_File___init__
  k_File___init__ : PySem.W.keepIn K (.ref f_File___init__) = true
  p_File_of : FunP K "of" "File.of" (inClass (top 14) 9) f_File_of
  k_File_of : PySem.W.keepIn K (.ref f_File_of) = true
  p__law_direct : FunP K "_law_direct" "_law_direct" (top 21) f__law_direct
  m__law_direct : mg "_law_direct" = some (.ref f__law_direct)
  k__law_direct : PySem.W.keepIn K (.ref f__law_direct) = true
  p_File___len__ : FunP K "__len__" "File.__len__" (inClass (top 14) 3) f_File___len__
  k_File___len__ : PySem.W.keepIn K (.ref f_File___len__) = true
  p_File___getitem__ : FunP K "__getitem__" "File.__getitem__" (inClass (top 14) 6) f_File___getitem__
  k_File___getitem__ : PySem.W.keepIn K (.ref f_File___getitem__) = true
  p__law_is_file : FunP K "_law_is_file" "_law_is_file" (top 22) f__law_is_file
  m__law_is_file : mg "_law_is_file" = some (.ref f__law_is_file)
  k__law_is_file : PySem.W.keepIn K (.ref f__law_is_file) = true
  p_File___eq__ : FunP K "__eq__" "File.__eq__" (inClass (top 14) 1) f_File___eq__
  k_File___eq__ : PySem.W.keepIn K (.ref f_File___eq__) = true
  p__law_odd : FunP K "_law_odd" "_law_odd" (top 23) f__law_odd
  m__law_odd : mg "_law_odd" = some (.ref f__law_odd)
  k__law_odd : PySem.W.keepIn K (.ref f__law_odd) = true
  p_File___contains__ : FunP K "__contains__" "File.__contains__" (inClass (top 14) 5) f_File___contains__
  k_File___contains__ : PySem.W.keepIn K (.ref f_File___contains__) = true
  p_law : FunP K "law" "law" (top 24) f_law
  m_law : mg "law" = some (.ref f_law)
  k_law : PySem.W.keepIn K (.ref f_law) = true
  z_abs : mg "abs" = none
  z_all : mg "all" = none
  z_enumerate : mg "enumerate" = none
  z_int : mg "int" = none
  z_isinstance : mg "isinstance" = none
  z_len : mg "len" = none
  z_list : mg "list" = none
  z_max : mg "max" = none
  z_min : mg "min" = none
  z_range : mg "range" = none
  z_repr : mg "repr" = none
  z_str : mg "str" = none
  z_tuple : mg "tuple" = none
  t_LETTERS : Tok
  m_LETTERS : mg "LETTERS" = some (.str ("abcdefghijklmnopqrstuvwxyz" : Str) t_LETTERS)
  t_MOST_LETTERS : Tok
  m_MOST_LETTERS : mg "MOST_LETTERS" = some (.int 8 t_MOST_LETTERS)
  m_File : mg "File" = some (.ref c_File)
  k_File : PySem.W.keepIn K (.ref c_File) = true
  ck_File : ClsOk K c_File
  n_File_lines : NoAttr K c_File "lines"
  mk_File : Mk K c_File f_File___init__
  ne_File : PySem.W.findIn K (.ref c_File) "__ne__" = some (some (.builtin "object.__ne__"))
  cr_File : ClX.CRead K c_File (.type "type")
  so_File_tup : PySem.W.subIn K (.type "tuple") (.ref c_File) = some false
  so_File_lst : PySem.W.subIn K (.type "list") (.ref c_File) = some false
  d_File___contains__ : Dn K c_File "__contains__" f_File___contains__
  d_File___eq__ : Dn K c_File "__eq__" f_File___eq__
  d_File___getitem__ : Dn K c_File "__getitem__" f_File___getitem__
  d_File___len__ : Dn K c_File "__len__" f_File___len__
  fi_File___getitem__ : PySem.W.fnIn K f_File___getitem__ = true
  r_File_of : Addr
  cm_File_of : ClX.CMet K c_File (.type "type") "of" r_File_of f_File_of
  i_0 : PySem.W.kitOne K (.type "NoneType") (.type "str") = some false
  i_1 : PySem.W.kitOne K (.type "NoneType") (.type "tuple") = some false
  i_2 : PySem.W.kitOne K (.type "NoneType") (.ref c_File) = some false
  i_3 : PySem.W.kitOne K (.type "bool") (.type "str") = some false
  i_4 : PySem.W.kitOne K (.type "bool") (.type "tuple") = some false
  i_5 : PySem.W.kitOne K (.type "bool") (.ref c_File) = some false
  i_6 : PySem.W.kitOne K (.type "int") (.type "str") = some false
  i_7 : PySem.W.kitOne K (.type "int") (.type "tuple") = some false
  i_8 : PySem.W.kitOne K (.type "int") (.ref c_File) = some false
  i_9 : PySem.W.kitOne K (.type "str") (.type "str") = some true
  i_10 : PySem.W.kitOne K (.type "str") (.type "tuple") = some false
  i_11 : PySem.W.kitOne K (.type "str") (.ref c_File) = some false
  i_12 : PySem.W.kitOne K (.type "tuple") (.type "str") = some false
  i_13 : PySem.W.kitOne K (.type "tuple") (.type "tuple") = some true
  i_14 : PySem.W.kitOne K (.type "tuple") (.ref c_File) = some false
  i_15 : PySem.W.kitOne K (.type "list") (.type "str") = some false
  i_16 : PySem.W.kitOne K (.type "list") (.type "tuple") = some false
  i_17 : PySem.W.kitOne K (.type "list") (.ref c_File) = some false
  i_18 : PySem.W.kitOne K (.ref c_File) (.type "str") = some false
  i_19 : PySem.W.kitOne K (.ref c_File) (.type "tuple") = some false
  i_20 : PySem.W.kitOne K (.ref c_File) (.ref c_File) = some true
  i_21 : PySem.W.kitOne K (.type "int") (.type "int") = some true
  i_22 : PySem.W.kitOne K (.type "bool") (.type "int") = some true
  i_23 : PySem.W.kitOne K (.type "NoneType") (.type "int") = some false

section
variable {P : Program} {w : World} {K : PySem.W.Frag} {mg : Str → Option Value} {base : Heap} {X : Cx} {W : WX}
def Tx.A (T : Tx K mg) : Cla := ⟨fun C => match C with | 0 => T.c_File | _ => T.c_File, fun _ => .none, flG⟩
theorem Tx.small (T : Tx K mg) : ∀ C, (T.A.fl C).length < 1000 := fun C => by
  show (flG C).length < 1000
  unfold flG
  split <;> decide
theorem Tx.fo_lines (T : Tx K mg) : FldOk K T.A "lines" := fun C hC => by
  have hC : ("lines" : Str) ∈ flG C := hC
  match C, hC with
  | 0, _ => exact ⟨T.ck_File.cl, T.n_File_lines⟩
  | n + 1, hC => exact absurd hC (by show ("lines" : Str) ∉ ([] : List Str); exact List.not_mem_nil)
theorem Tx.isi (T : Tx K mg) : IsiOk (cc K T.A) isiG := by
  refine isi_mk (l := isiG) (fun a b r hm => ?_) (fun C b r hm => ?_)
  · unfold isiG at hm
    simp only [List.mem_cons, List.not_mem_nil, or_false, Prod.mk.injEq] at hm
    rcases hm with ⟨⟨ea, eb⟩, er⟩ | ⟨⟨ea, eb⟩, er⟩ | ⟨⟨ea, eb⟩, er⟩ | ⟨⟨ea, eb⟩, er⟩ | ⟨⟨ea, eb⟩, er⟩ | ⟨⟨ea, eb⟩, er⟩ | ⟨⟨ea, eb⟩, er⟩ | ⟨⟨ea, eb⟩, er⟩ | ⟨⟨ea, eb⟩, er⟩ | ⟨⟨ea, eb⟩, er⟩ | ⟨⟨ea, eb⟩, er⟩ | ⟨⟨ea, eb⟩, er⟩ | ⟨⟨ea, eb⟩, er⟩ | ⟨⟨ea, eb⟩, er⟩ | ⟨⟨ea, eb⟩, er⟩ | ⟨⟨ea, eb⟩, er⟩ | ⟨⟨ea, eb⟩, er⟩ | ⟨⟨ea, eb⟩, er⟩ | ⟨⟨ea, eb⟩, er⟩ | ⟨⟨ea, eb⟩, er⟩ | ⟨⟨ea, eb⟩, er⟩ | ⟨⟨ea, eb⟩, er⟩ | ⟨⟨ea, eb⟩, er⟩ | ⟨⟨ea, eb⟩, er⟩
    · subst ea eb er
      exact T.i_0
    · subst ea eb er
      exact T.i_1
    · subst ea eb er
      exact T.i_2
    · subst ea eb er
      exact T.i_3
    · subst ea eb er
      exact T.i_4
    · subst ea eb er
      exact T.i_5
    · subst ea eb er
      exact T.i_6
    · subst ea eb er
      exact T.i_7
    · subst ea eb er
      exact T.i_8
    · subst ea eb er
      exact T.i_9
    · subst ea eb er
      exact T.i_10
    · subst ea eb er
      exact T.i_11
    · subst ea eb er
      exact T.i_12
    · subst ea eb er
      exact T.i_13
    · subst ea eb er
      exact T.i_14
    · subst ea eb er
      exact T.i_15
    · subst ea eb er
      exact T.i_16
    · subst ea eb er
      exact T.i_17
    · subst ea eb er
      exact T.i_18
    · subst ea eb er
      exact T.i_19
    · subst ea eb er
      exact T.i_20
    · subst ea eb er
      exact T.i_21
    · subst ea eb er
      exact T.i_22
    · subst ea eb er
      exact T.i_23
  · unfold isiG at hm
    simp only [List.mem_cons, List.not_mem_nil, or_false, Prod.mk.injEq] at hm
    rcases hm with ⟨⟨ea, eb⟩, er⟩ | ⟨⟨ea, eb⟩, er⟩ | ⟨⟨ea, eb⟩, er⟩ | ⟨⟨ea, eb⟩, er⟩ | ⟨⟨ea, eb⟩, er⟩ | ⟨⟨ea, eb⟩, er⟩ | ⟨⟨ea, eb⟩, er⟩ | ⟨⟨ea, eb⟩, er⟩ | ⟨⟨ea, eb⟩, er⟩ | ⟨⟨ea, eb⟩, er⟩ | ⟨⟨ea, eb⟩, er⟩ | ⟨⟨ea, eb⟩, er⟩ | ⟨⟨ea, eb⟩, er⟩ | ⟨⟨ea, eb⟩, er⟩ | ⟨⟨ea, eb⟩, er⟩ | ⟨⟨ea, eb⟩, er⟩ | ⟨⟨ea, eb⟩, er⟩ | ⟨⟨ea, eb⟩, er⟩ | ⟨⟨ea, eb⟩, er⟩ | ⟨⟨ea, eb⟩, er⟩ | ⟨⟨ea, eb⟩, er⟩ | ⟨⟨ea, eb⟩, er⟩ | ⟨⟨ea, eb⟩, er⟩ | ⟨⟨ea, eb⟩, er⟩
    · cases ea
    · cases ea
    · cases ea
    · cases ea
    · cases ea
    · cases ea
    · cases ea
    · cases ea
    · cases ea
    · cases ea
    · cases ea
    · cases ea
    · cases ea
    · cases ea
    · cases ea
    · cases ea
    · cases ea
    · cases ea
    · cases ea
      exact T.ck_File
    · cases ea
      exact T.ck_File
    · cases ea
      exact T.ck_File
    · cases ea
    · cases ea
    · cases ea
def okG_0 : Ty → Bool
  | .own 0 => true
  | .tup => true
  | .lst => true
  | _ => false
theorem Tx.ok_File (T : Tx K mg) : CmpOk K T.A 0 okG_0 := ⟨fun t h => by
  match t, h with
  | .own 0, _ => exact notFirst_self
  | .tup, _ => exact notFirst_sub T.so_File_tup
  | .lst, _ => exact notFirst_sub T.so_File_lst
, fun C h => by
  match C, h with
  | 0, _ => exact T.ck_File⟩

/-! ### _law_bag -/
def N__law_bag : List Str := ["_law_script", "_law_at", "_law_cell", "_law_mixed", "_law_spot", "_law_each"]
def r__law_bag : DTS := sSeq (sAsg (dIf (dOp (rCmp .Lt) (dVar 1) (dCB rLen (dCons (dVar 0) (dNil)))) (dCB rAbs (dCons (dOp rIdx (dVar 0) (dVar 1)) (dNil))) (dCst (.int 0))) (gNm 2)) (sSeq (sAsg (dOp (rBin false .Add) (dOp (rBin false .Mult) (dCst (.int 7919)) (dVar 1)) (dCst (.int 331))) (gNm 3)) (sSeq (sFor (iEnumD (dCons (dSlc false (dVar 0) none (some (dCst (.int 63)))) (dNil))) (gOf (.tup [.nm 4, .nm 5])) (sSeq (sAsg (dOp (rBin false .Mod) (dCB rInt (dCons (dOp (rBin false .Add) (dOp (rBin false .Add) (dOp (rBin false .Add) (dOp (rBin false .Mult) (dVar 3) (dCst (.int 52631))) (dOp (rBin false .Mod) (dCB rInt (dCons (dVar 5) (dNil))) (dCst (.int 2147483587)))) (dOp (rBin false .Mult) (dCst (.int 257)) (dVar 4))) (dCst (.int 19))) (dNil))) (dCst (.int 2147483629))) (gNm 3)) (sNext))) (sSeq (sRet (dLst true (dCons (dIf (dOp (rCmp .GtE) (dVar 2) (dOp (rBin true .Pow) (dCst (.int 10)) (dCst (.int 18)))) (dVar 2) (dCst (.int 0))) (dCons (dVar 3) (dNil))))) (sNext))))
theorem sc__law_bag : FnScope N__law_bag ["_law_script", "_law_at"] (defScope (top 16)) := ⟨rfl, rfl, rfl, by decide +kernel, rfl, by decide +kernel, by decide +kernel⟩
theorem b__law_bag (T : Tx K mg) (h : In P w K mg base N__law_bag (defScope (top 16)) fAll 0 X W) (hp : PassesOwn (model X.prog X.w) X.A X.env X.xe) : DStms X T.A W (defBody (top 16)) (r__law_bag) :=
  (ds_cons (h.set (i := 2) (by decide +kernel) (de_if (pCmpT h.rm (h.var (i := 1) (by decide +kernel)) (h.bi cd_len (by decide +kernel) T.z_len rfl (pCons (h.var (i := 0) (by decide +kernel)) da_nil))) (h.bi cd_abs (by decide +kernel) T.z_abs rfl (pCons (pIdx (h.var (i := 0) (by decide +kernel)) (h.var (i := 1) (by decide +kernel))) da_nil)) de_int))
  (ds_cons (h.set (i := 3) (by decide +kernel) (pBin false (pBin false de_int (h.var (i := 1) (by decide +kernel))) de_int))
  (ds_cons (h.loop hp (h.enum (by decide +kernel) T.z_enumerate (pCons (de_slc (m := false) (h.var (i := 0) (by decide +kernel)) do_none (do_some de_int)) da_nil)) (dg_tg (g := .tup [.nm 4, .nm 5]) (h.vtup (vs_cons (h.vnm (i := 4) (by decide +kernel)) (vs_cons (h.vnm (i := 5) (by decide +kernel)) vs_nil)))) (ds_cons (h.set (i := 3) (by decide +kernel) (pBin false (h.bt cd_int (by decide +kernel) T.z_int rfl (pCons (pBin false (pBin false (pBin false (pBin false (h.var (i := 3) (by decide +kernel)) de_int) (pBin false (h.bt cd_int (by decide +kernel) T.z_int rfl (pCons (h.var (i := 5) (by decide +kernel)) da_nil)) de_int)) (pBin false de_int (h.var (i := 4) (by decide +kernel)))) de_int) da_nil)) de_int))
  ds_nil))
  (ds_cons (ds_ret (de_lst (m := true) (pCons (de_if (pCmpT h.rm (h.var (i := 2) (by decide +kernel)) (pBin true de_int de_int)) (h.var (i := 2) (by decide +kernel)) de_int) (pCons (h.var (i := 3) (by decide +kernel)) da_nil))))
  ds_nil))))
theorem n__law_bag (T : Tx K mg) : FnD P w (cc K T.A) mg base 1 T.f__law_bag (bodySp 6 2 (r__law_bag)) :=
  fnd_mk T.p__law_bag sc__law_bag (fun _ _ _ _ _ _ us hl => match us, hl with | [_, _], _ => rfl) fun X W h hp => b__law_bag T h hp
/-! ### _law_draw -/
def N__law_draw : List Str := ["_law_bag_here", "_law_many", "_law_digit"]
def r__law_draw : DTS := sSeq (sIf (dOp (rCmp .Gt) (dOp rIdx (dVar 0) (dCst (.int 0))) (dCst (.int 0))) (sSeq (sAsg (dOp (rBin false .Mod) (dCB rInt (dCons (dOp rIdx (dVar 0) (dCst (.int 0))) (dNil))) (dVar 1)) (gNm 2)) (sSeq (sAsg (dOp (rBin false .FloorDiv) (dOp rIdx (dVar 0) (dCst (.int 0))) (dVar 1)) (gSubD (dVar 0) (dCst (.int 0)))) (sSeq (sRet (dVar 2)) (sNext)))) (sNext)) (sSeq (sAsg (dOp (rBin false .Mod) (dCB rInt (dCons (dOp (rBin false .Add) (dOp (rBin false .Mult) (dOp rIdx (dVar 0) (dCst (.int 1))) (dCst (.int 48271))) (dCst (.int 12347))) (dNil))) (dCst (.int 2147483647))) (gSubD (dVar 0) (dCst (.int 1)))) (sSeq (sRet (dOp (rBin false .Mod) (dOp (rBin false .FloorDiv) (dOp (rBin false .Mod) (dCB rInt (dCons (dOp (rBin false .Mult) (dOp (rBin false .FloorDiv) (dOp rIdx (dVar 0) (dCst (.int 1))) (dCst (.int 7))) (dCst (.int 40503))) (dNil))) (dCst (.int 2147483629))) (dCst (.int 32))) (dVar 1))) (sNext)))
theorem sc__law_draw : FnScope N__law_draw ["_law_bag_here", "_law_many"] (defScope (top 17)) := ⟨rfl, rfl, rfl, by decide +kernel, rfl, by decide +kernel, by decide +kernel⟩
theorem b__law_draw (T : Tx K mg) (h : In P w K mg base N__law_draw (defScope (top 17)) fAll 0 X W) (hp : PassesOwn (model X.prog X.w) X.A X.env X.xe) : DStms X T.A W (defBody (top 17)) (r__law_draw) :=
  (ds_cons (ds_if (pCmpT h.rm (pIdx (h.var (i := 0) (by decide +kernel)) de_int) de_int) (ds_cons (h.set (i := 2) (by decide +kernel) (pBin false (h.bt cd_int (by decide +kernel) T.z_int rfl (pCons (pIdx (h.var (i := 0) (by decide +kernel)) de_int) da_nil)) (h.var (i := 1) (by decide +kernel))))
  (ds_cons (ds_tup (pBin false (pIdx (h.var (i := 0) (by decide +kernel)) de_int) (h.var (i := 1) (by decide +kernel))) (pSub (h.var (i := 0) (by decide +kernel)) de_int))
  (ds_cons (ds_ret (h.var (i := 2) (by decide +kernel)))
  ds_nil))) ds_nil)
  (ds_cons (ds_tup (pBin false (h.bt cd_int (by decide +kernel) T.z_int rfl (pCons (pBin false (pBin false (pIdx (h.var (i := 0) (by decide +kernel)) de_int) de_int) de_int) da_nil)) de_int) (pSub (h.var (i := 0) (by decide +kernel)) de_int))
  (ds_cons (ds_ret (pBin false (pBin false (pBin false (h.bt cd_int (by decide +kernel) T.z_int rfl (pCons (pBin false (pBin false (pIdx (h.var (i := 0) (by decide +kernel)) de_int) de_int) de_int) da_nil)) de_int) de_int) (h.var (i := 1) (by decide +kernel))))
  ds_nil)))
theorem n__law_draw (T : Tx K mg) : FnD P w (cc K T.A) mg base 1 T.f__law_draw (bodySp 3 2 (r__law_draw)) :=
  fnd_mk T.p__law_draw sc__law_draw (fun _ _ _ _ _ _ us hl => match us, hl with | [_, _], _ => rfl) fun X W h hp => b__law_draw T h hp
/-! ### _law_words -/
def N__law_words : List Str := ["_law_bag_here", "_law_many", "_law_stem", "_law_spot", "_law_turn", "_law_letters", "_law_found", "_law_word", "_law_k"]
def r__law_words (sp__law_draw : DSp) : DTS := sSeq (sAsg (dTup (dCons (dCB (rListS true) (dCons (dCst (.str ("abcdefghijklmnopqrstuvwxyz" : Str))) (dNil))) (dCons (dLst true (dNil)) (dNil)))) (gOf (.tup [.nm 5, .nm 6]))) (sSeq (sAsg (dM1 mJoin (dCst (.str ("" : Str))) (dLc false (iRng1D (dCons (dCall sp__law_draw (dCons (dVar 0) (dCons (dCst (.int 8)) (dNil)))) (dNil))) (.nm 8) dYes (dOp rIdx (dVar 5) (dCall sp__law_draw (dCons (dVar 0) (dCons (dCst (.int 26)) (dNil))))) [8])) (gNm 2)) (sSeq (sAsg (dCall sp__law_draw (dCons (dVar 0) (dCons (dOp (rBin false .Add) (dCB rLen (dCons (dVar 2) (dNil))) (dCst (.int 1))) (dNil)))) (gNm 3)) (sSeq (sFor (iRng1D (dCons (dVar 1) (dNil))) (gOf (.nm 4)) (sSeq (sAsg (dOp (rBin false .Add) (dOp (rBin false .Add) (dSlc false (dVar 2) none (some (dVar 3))) (dMt mPopAt (dVar 5) (dCons (dCall sp__law_draw (dCons (dVar 0) (dCons (dCB rLen (dCons (dVar 5) (dNil))) (dNil)))) (dNil)))) (dSlc false (dVar 2) (some (dVar 3)) none)) (gNm 7)) (sSeq (sDrop (dMt mAppend (dVar 6) (dCons (dSlc false (dVar 7) none (some (dOp (rBin false .Add) (dOp (rBin false .Add) (dVar 3) (dCst (.int 1))) (dCall sp__law_draw (dCons (dVar 0) (dCons (dOp (rBin false .Add) (dOp (rBin false .Sub) (dCB rLen (dCons (dVar 2) (dNil))) (dVar 3)) (dCst (.int 1))) (dNil))))))) (dNil)))) (sNext)))) (sSeq (sRet (dFrz (dVar 6))) (sNext)))))
theorem sc__law_words : FnScope N__law_words ["_law_bag_here", "_law_many"] (defScope (top 18)) := ⟨rfl, rfl, rfl, by decide +kernel, rfl, by decide +kernel, by decide +kernel⟩
theorem b__law_words {sp__law_draw : DSp} (T : Tx K mg) (F__law_draw : FnD P w (cc K T.A) mg base 1 T.f__law_draw sp__law_draw) (h : In P w K mg base N__law_words (defScope (top 18)) fAll 1 X W) (hp : PassesOwn (model X.prog X.w) X.A X.env X.xe) : DStms X T.A W (defBody (top 18)) (r__law_words sp__law_draw) :=
  (ds_cons (h.parC (by decide +kernel) (de_tup (pCons (h.bt (cd_listS (m := true) h.calm) (by decide +kernel) T.z_list rfl (pCons (pStr (by decide +kernel)) da_nil)) (pCons (de_lst (m := true) da_nil) da_nil))) (dg_tg (g := .tup [.nm 5, .nm 6]) (h.vtup (vs_cons (h.vnm (i := 5) (by decide +kernel)) (vs_cons (h.vnm (i := 6) (by decide +kernel)) vs_nil)))))
  (ds_cons (h.set (i := 2) (by decide +kernel) (pJoin (pStr (by decide +kernel)) (h.lc (m := false) (g := .nm 8) [("_law_k", 8)] (h.rng1 (by decide +kernel) T.z_range (pCons (h.call F__law_draw (by decide) (by decide +kernel) T.m__law_draw T.k__law_draw (pCons (h.var (i := 0) (by decide +kernel)) (pCons de_int da_nil))) da_nil)) (by decide +kernel) (by decide) (fun _ h => (h.vnm (i := 8) (by decide +kernel))) (fun _ h => ts_nil) (fun _ h => (pIdx (h.var (i := 5) (by decide +kernel)) (h.call F__law_draw (by decide) (by decide +kernel) T.m__law_draw T.k__law_draw (pCons (h.var (i := 0) (by decide +kernel)) (pCons de_int da_nil))))))))
  (ds_cons (h.set (i := 3) (by decide +kernel) (h.call F__law_draw (by decide) (by decide +kernel) T.m__law_draw T.k__law_draw (pCons (h.var (i := 0) (by decide +kernel)) (pCons (pBin false (h.bi cd_len (by decide +kernel) T.z_len rfl (pCons (h.var (i := 2) (by decide +kernel)) da_nil)) de_int) da_nil))))
  (ds_cons (h.loop hp (h.rng1 (by decide +kernel) T.z_range (pCons (h.var (i := 1) (by decide +kernel)) da_nil)) (dg_tg (g := .nm 4) (h.vnm (i := 4) (by decide +kernel))) (ds_cons (h.set (i := 7) (by decide +kernel) (pBin false (pBin false (de_slc (m := false) (h.var (i := 2) (by decide +kernel)) do_none (do_some (h.var (i := 3) (by decide +kernel)))) (pPopAt (h.var (i := 5) (by decide +kernel)) (pCons (h.call F__law_draw (by decide) (by decide +kernel) T.m__law_draw T.k__law_draw (pCons (h.var (i := 0) (by decide +kernel)) (pCons (h.bi cd_len (by decide +kernel) T.z_len rfl (pCons (h.var (i := 5) (by decide +kernel)) da_nil)) da_nil))) da_nil))) (de_slc (m := false) (h.var (i := 2) (by decide +kernel)) (do_some (h.var (i := 3) (by decide +kernel))) do_none)))
  (ds_cons (pExpr (pAppend (h.var (i := 6) (by decide +kernel)) (pCons (de_slc (m := false) (h.var (i := 7) (by decide +kernel)) do_none (do_some (pBin false (pBin false (h.var (i := 3) (by decide +kernel)) de_int) (h.call F__law_draw (by decide) (by decide +kernel) T.m__law_draw T.k__law_draw (pCons (h.var (i := 0) (by decide +kernel)) (pCons (pBin false (pBin false (h.bi cd_len (by decide +kernel) T.z_len rfl (pCons (h.var (i := 2) (by decide +kernel)) da_nil)) (h.var (i := 3) (by decide +kernel))) de_int) da_nil)))))) da_nil)))
  ds_nil)))
  (ds_cons (ds_ret (de_frz (h.var (i := 6) (by decide +kernel))))
  ds_nil)))))
theorem n__law_words {sp__law_draw : DSp} (T : Tx K mg) (F__law_draw : FnD P w (cc K T.A) mg base 1 T.f__law_draw sp__law_draw) : FnD P w (cc K T.A) mg base 2 T.f__law_words (bodySp 9 2 (r__law_words sp__law_draw)) :=
  fnd_mk T.p__law_words sc__law_words (fun _ _ _ _ _ _ us hl => match us, hl with | [_, _], _ => rfl) fun X W h hp => b__law_words T F__law_draw h hp
/-! ### _law_pool -/
def N__law_pool : List Str := ["_law_bag_here", "_law_kind", "_law_kinds", "_law_words_here", "_law_names", "_law_found", "_law_name"]
def r__law_pool (sp__law_words : DSp) : DTS := sSeq (sPar [2, 3] (dCons (dCall sp__law_words (dCons (dVar 0) (dCons (dCst (.int 3)) (dNil)))) (dCons (dCall sp__law_words (dCons (dVar 0) (dCons (dCst (.int 2)) (dNil)))) (dNil)))) (sSeq (sPar [4, 5] (dCons (dLst false (dCons (dCst (.str ("" : Str))) (dCons (dOp rIdx (dVar 3) (dCst (.int 0))) (dCons (dOp (rBin false .Add) (dOp rIdx (dVar 3) (dCst (.int 0))) (dCst (.str ("!" : Str)))) (dCons (dOp rIdx (dVar 3) (dCst (.int 1))) (dNil)))))) (dCons (dLst true (dNil)) (dNil)))) (sSeq (sFor (iSeqD (dVar 2)) (gOf (.nm 1)) (sSeq (sDrop (dMt mExtend (dVar 5) (dCons (dLc false (iSeqD (dVar 4)) (.nm 6) dYes (dTup (dCons (dVar 1) (dCons (dVar 6) (dNil)))) [6]) (dNil)))) (sNext))) (sSeq (sRet (dFrz (dVar 5))) (sNext))))
theorem sc__law_pool : FnScope N__law_pool ["_law_bag_here"] (defScope (top 19)) := ⟨rfl, rfl, rfl, by decide +kernel, rfl, by decide +kernel, by decide +kernel⟩
theorem b__law_pool {sp__law_words : DSp} (T : Tx K mg) (F__law_words : FnD P w (cc K T.A) mg base 2 T.f__law_words sp__law_words) (h : In P w K mg base N__law_pool (defScope (top 19)) fAll 2 X W) (hp : PassesOwn (model X.prog X.w) X.A X.env X.xe) : DStms X T.A W (defBody (top 19)) (r__law_pool sp__law_words) :=
  (ds_cons (h.par2 (i := 2) (j := 3) (by decide +kernel) (by decide +kernel) (pCons (h.call F__law_words (by decide) (by decide +kernel) T.m__law_words T.k__law_words (pCons (h.var (i := 0) (by decide +kernel)) (pCons de_int da_nil))) (pCons (h.call F__law_words (by decide) (by decide +kernel) T.m__law_words T.k__law_words (pCons (h.var (i := 0) (by decide +kernel)) (pCons de_int da_nil))) da_nil)))
  (ds_cons (h.par2 (i := 4) (j := 5) (by decide +kernel) (by decide +kernel) (pCons (de_lst (m := false) (pCons (pStr (by decide +kernel)) (pCons (pIdx (h.var (i := 3) (by decide +kernel)) de_int) (pCons (pBin false (pIdx (h.var (i := 3) (by decide +kernel)) de_int) (pStr (by decide +kernel))) (pCons (pIdx (h.var (i := 3) (by decide +kernel)) de_int) da_nil))))) (pCons (de_lst (m := true) da_nil) da_nil)))
  (ds_cons (h.loop hp (di_seq (h.var (i := 2) (by decide +kernel))) (dg_tg (g := .nm 1) (h.vnm (i := 1) (by decide +kernel))) (ds_cons (pExpr (pExtend (h.var (i := 5) (by decide +kernel)) (pCons (h.lc (m := false) (g := .nm 6) [("_law_name", 6)] (di_seq (h.var (i := 4) (by decide +kernel))) (by decide +kernel) (by decide) (fun _ h => (h.vnm (i := 6) (by decide +kernel))) (fun _ h => ts_nil) (fun _ h => (de_tup (pCons (h.var (i := 1) (by decide +kernel)) (pCons (h.var (i := 6) (by decide +kernel)) da_nil))))) da_nil)))
  ds_nil))
  (ds_cons (ds_ret (de_frz (h.var (i := 5) (by decide +kernel))))
  ds_nil))))
theorem n__law_pool {sp__law_words : DSp} (T : Tx K mg) (F__law_words : FnD P w (cc K T.A) mg base 2 T.f__law_words sp__law_words) : FnD P w (cc K T.A) mg base 3 T.f__law_pool (bodySp 7 1 (r__law_pool sp__law_words)) :=
  fnd_mk T.p__law_pool sc__law_pool (fun _ _ _ _ _ _ us hl => match us, hl with | [_], _ => rfl) fun X W h hp => b__law_pool T F__law_words h hp
/-! ### _law_lines -/
def N__law_lines : List Str := ["_law_bag_here", "_law_pool_here", "_law_many", "_law_k"]
def r__law_lines (sp__law_draw : DSp) : DTS := sSeq (sRet (dLc false (iRng1D (dCons (dVar 2) (dNil))) (.nm 3) dYes (dOp rIdx (dVar 1) (dCall sp__law_draw (dCons (dVar 0) (dCons (dCB rLen (dCons (dVar 1) (dNil))) (dNil))))) [3])) (sNext)
theorem sc__law_lines : FnScope N__law_lines ["_law_bag_here", "_law_pool_here", "_law_many"] (defScope (top 20)) := ⟨rfl, rfl, rfl, by decide +kernel, rfl, by decide +kernel, by decide +kernel⟩
theorem b__law_lines {sp__law_draw : DSp} (T : Tx K mg) (F__law_draw : FnD P w (cc K T.A) mg base 1 T.f__law_draw sp__law_draw) (h : In P w K mg base N__law_lines (defScope (top 20)) fAll 1 X W) (hp : PassesOwn (model X.prog X.w) X.A X.env X.xe) : DStms X T.A W (defBody (top 20)) (r__law_lines sp__law_draw) :=
  (ds_cons (ds_ret (h.lc (m := false) (g := .nm 3) [("_law_k", 3)] (h.rng1 (by decide +kernel) T.z_range (pCons (h.var (i := 2) (by decide +kernel)) da_nil)) (by decide +kernel) (by decide) (fun _ h => (h.vnm (i := 3) (by decide +kernel))) (fun _ h => ts_nil) (fun _ h => (pIdx (h.var (i := 1) (by decide +kernel)) (h.call F__law_draw (by decide) (by decide +kernel) T.m__law_draw T.k__law_draw (pCons (h.var (i := 0) (by decide +kernel)) (pCons (h.bi cd_len (by decide +kernel) T.z_len rfl (pCons (h.var (i := 1) (by decide +kernel)) da_nil)) da_nil)))))))
  ds_nil)
theorem n__law_lines {sp__law_draw : DSp} (T : Tx K mg) (F__law_draw : FnD P w (cc K T.A) mg base 1 T.f__law_draw sp__law_draw) : FnD P w (cc K T.A) mg base 2 T.f__law_lines (bodySp 4 3 (r__law_lines sp__law_draw)) :=
  fnd_mk T.p__law_lines sc__law_lines (fun _ _ _ _ _ _ us hl => match us, hl with | [_, _, _], _ => rfl) fun X W h hp => b__law_lines T F__law_draw h hp
/-! ### is_word -/
def N_is_word : List Str := ["thing", "sign"]
def r_is_word : DTS := sSeq (sIf (dOr (dNot (dCB (rIsiD isiG) (dCons (dVar 0) (dCons (dCst (.ty .str)) (dNil))))) (dNot (dBl (dChain (rCmp .LtE) (rCmp .LtE) (dCst (.int 1)) (dCB rLen (dCons (dVar 0) (dNil))) (dCst (.int 8)))))) (sSeq (sRet (dCst (.bl false))) (sNext)) (sNext)) (sSeq (sRet (dCB rAllD (dCons (dLc false (iSeqD (dVar 0)) (.nm 1) dYes (dOp (rCmp .In) (dVar 1) (dCst (.str ("abcdefghijklmnopqrstuvwxyz" : Str)))) [1]) (dNil)))) (sNext))
theorem sc_is_word : FnScope N_is_word ["thing"] (defScope (top 8)) := ⟨rfl, rfl, rfl, by decide +kernel, rfl, by decide +kernel, by decide +kernel⟩
theorem b_is_word (T : Tx K mg) (h : In P w K mg base N_is_word (defScope (top 8)) fAll 0 X W) (hp : PassesOwn (model X.prog X.w) X.A X.env X.xe) : DStms X T.A W (defBody (top 8)) (r_is_word) :=
  (ds_cons (ds_if (dt_w (dw_or (dt_not (pVal (h.bi (h.isi T.isi) (by decide +kernel) T.z_isinstance rfl (pCons (h.var (i := 0) (by decide +kernel)) (pCons (h.ty (T := .str) (by decide +kernel) T.z_str rfl (fun _ e => by cases e)) da_nil))))) (dw_or1 (dt_not (pChnT h.rm de_int (h.bi cd_len (by decide +kernel) T.z_len rfl (pCons (h.var (i := 0) (by decide +kernel)) da_nil)) (h.glob (v := .int 8) (by decide +kernel) T.m_MOST_LETTERS ⟨_, rfl⟩ still_int)))))) (ds_cons (ds_ret de_bl)
  ds_nil) ds_nil)
  (ds_cons (ds_ret (h.bi (cd_all h.calm) (by decide +kernel) T.z_all rfl (pCons (h.lc (m := false) (g := .nm 1) [("sign", 1)] (di_seq (h.var (i := 0) (by decide +kernel))) (by decide +kernel) (by decide) (fun _ h => (h.vnm (i := 1) (by decide +kernel))) (fun _ h => ts_nil) (fun _ h => (pCmp h.rm (h.var (i := 1) (by decide +kernel)) (h.glob (v := .str ("abcdefghijklmnopqrstuvwxyz" : Str)) (by decide +kernel) T.m_LETTERS ⟨_, rfl⟩ (still_str (sokB_ok (by decide +kernel))))))) da_nil)))
  ds_nil))
theorem n_is_word (T : Tx K mg) : FnD P w (cc K T.A) mg base 1 T.f_is_word (bodySp 2 1 (r_is_word)) :=
  fnd_mk T.p_is_word sc_is_word (fun _ _ _ _ _ _ us hl => match us, hl with | [_], _ => rfl) fun X W h hp => b_is_word T h hp
/-! ### is_name -/
def N_is_name : List Str := ["thing"]
def r_is_name (sp_is_word : DSp) : DTS := sSeq (sRet (dAnd (dCB (rIsiD isiG) (dCons (dVar 0) (dCons (dCst (.ty .str)) (dNil)))) (dIf (dOp (rCmp .Eq) (dSlc false (dVar 0) (some (dUn rNeg (dCst (.int 1)))) none) (dCst (.str ("!" : Str)))) (dCall sp_is_word (dCons (dSlc false (dVar 0) none (some (dUn rNeg (dCst (.int 1))))) (dNil))) (dCall sp_is_word (dCons (dVar 0) (dNil)))))) (sNext)
theorem sc_is_name : FnScope N_is_name ["thing"] (defScope (top 9)) := ⟨rfl, rfl, rfl, by decide +kernel, rfl, by decide +kernel, by decide +kernel⟩
theorem b_is_name {sp_is_word : DSp} (T : Tx K mg) (F_is_word : FnD P w (cc K T.A) mg base 1 T.f_is_word sp_is_word) (h : In P w K mg base N_is_name (defScope (top 9)) fAll 1 X W) (hp : PassesOwn (model X.prog X.w) X.A X.env X.xe) : DStms X T.A W (defBody (top 9)) (r_is_name sp_is_word) :=
  (ds_cons (ds_ret (de_and (h.bi (h.isi T.isi) (by decide +kernel) T.z_isinstance rfl (pCons (h.var (i := 0) (by decide +kernel)) (pCons (h.ty (T := .str) (by decide +kernel) T.z_str rfl (fun _ e => by cases e)) da_nil))) (de_one (de_if (pCmpT h.rm (de_slc (m := false) (h.var (i := 0) (by decide +kernel)) (do_some (pNeg de_int)) do_none) (pStr (by decide +kernel))) (h.call F_is_word (by decide) (by decide +kernel) T.m_is_word T.k_is_word (pCons (de_slc (m := false) (h.var (i := 0) (by decide +kernel)) do_none (do_some (pNeg de_int))) da_nil)) (h.call F_is_word (by decide) (by decide +kernel) T.m_is_word T.k_is_word (pCons (h.var (i := 0) (by decide +kernel)) da_nil))))))
  ds_nil)
theorem n_is_name {sp_is_word : DSp} (T : Tx K mg) (F_is_word : FnD P w (cc K T.A) mg base 1 T.f_is_word sp_is_word) : FnD P w (cc K T.A) mg base 2 T.f_is_name (bodySp 1 1 (r_is_name sp_is_word)) :=
  fnd_mk T.p_is_name sc_is_name (fun _ _ _ _ _ _ us hl => match us, hl with | [_], _ => rfl) fun X W h hp => b_is_name T F_is_word h hp
/-! ### is_line -/
def N_is_line : List Str := ["thing", "kind", "name"]
def r_is_line (sp_is_word : DSp) (sp_is_name : DSp) : DTS := sSeq (sIf (dOr (dNot (dCB (rIsiD isiG) (dCons (dVar 0) (dCons (dCst (.ty .tup)) (dNil))))) (dOp (rCmp .NotEq) (dCB rLen (dCons (dVar 0) (dNil))) (dCst (.int 2)))) (sSeq (sRet (dCst (.bl false))) (sNext)) (sNext)) (sSeq (sAsg (dVar 0) (gOf (.tup [.nm 1, .nm 2]))) (sSeq (sRet (dAnd (dCall sp_is_word (dCons (dVar 1) (dNil))) (dAnd (dCB (rIsiD isiG) (dCons (dVar 2) (dCons (dCst (.ty .str)) (dNil)))) (dOr (dOp (rCmp .Eq) (dVar 2) (dCst (.str ("" : Str)))) (dCall sp_is_name (dCons (dVar 2) (dNil))))))) (sNext)))
theorem sc_is_line : FnScope N_is_line ["thing"] (defScope (top 10)) := ⟨rfl, rfl, rfl, by decide +kernel, rfl, by decide +kernel, by decide +kernel⟩
theorem b_is_line {sp_is_word : DSp} {sp_is_name : DSp} (T : Tx K mg) (F_is_word : FnD P w (cc K T.A) mg base 1 T.f_is_word sp_is_word) (F_is_name : FnD P w (cc K T.A) mg base 2 T.f_is_name sp_is_name) (h : In P w K mg base N_is_line (defScope (top 10)) fAll 2 X W) (hp : PassesOwn (model X.prog X.w) X.A X.env X.xe) : DStms X T.A W (defBody (top 10)) (r_is_line sp_is_word sp_is_name) :=
  (ds_cons (ds_if (dt_w (dw_or (dt_not (pVal (h.bi (h.isi T.isi) (by decide +kernel) T.z_isinstance rfl (pCons (h.var (i := 0) (by decide +kernel)) (pCons (h.ty (T := .tup) (by decide +kernel) T.z_tuple rfl (fun _ e => by cases e)) da_nil))))) (dw_or1 (pCmpT h.rm (h.bi cd_len (by decide +kernel) T.z_len rfl (pCons (h.var (i := 0) (by decide +kernel)) da_nil)) de_int)))) (ds_cons (ds_ret de_bl)
  ds_nil) ds_nil)
  (ds_cons (ds_tup (h.var (i := 0) (by decide +kernel)) (dg_tg (g := .tup [.nm 1, .nm 2]) (h.vtup (vs_cons (h.vnm (i := 1) (by decide +kernel)) (vs_cons (h.vnm (i := 2) (by decide +kernel)) vs_nil)))))
  (ds_cons (ds_ret (de_and (h.call F_is_word (by decide) (by decide +kernel) T.m_is_word T.k_is_word (pCons (h.var (i := 1) (by decide +kernel)) da_nil)) (de_and (h.bi (h.isi T.isi) (by decide +kernel) T.z_isinstance rfl (pCons (h.var (i := 2) (by decide +kernel)) (pCons (h.ty (T := .str) (by decide +kernel) T.z_str rfl (fun _ e => by cases e)) da_nil))) (de_one (de_or (pCmp h.rm (h.var (i := 2) (by decide +kernel)) (pStr (by decide +kernel))) (de_one (h.call F_is_name (by decide) (by decide +kernel) T.m_is_name T.k_is_name (pCons (h.var (i := 2) (by decide +kernel)) da_nil))))))))
  ds_nil)))
theorem n_is_line {sp_is_word : DSp} {sp_is_name : DSp} (T : Tx K mg) (F_is_word : FnD P w (cc K T.A) mg base 1 T.f_is_word sp_is_word) (F_is_name : FnD P w (cc K T.A) mg base 2 T.f_is_name sp_is_name) : FnD P w (cc K T.A) mg base 3 T.f_is_line (bodySp 3 1 (r_is_line sp_is_word sp_is_name)) :=
  fnd_mk T.p_is_line sc_is_line (fun _ _ _ _ _ _ us hl => match us, hl with | [_], _ => rfl) fun X W h hp => b_is_line T F_is_word F_is_name h hp
/-! ### File.__init__ -/
def N_File___init__ : List Str := ["self", "lines", "index", "line"]
def r_File___init__ (sp_is_line : DSp) : DTS := sSeq (sFor (iEnumD (dCons (dVar 1) (dNil))) (gOf (.tup [.nm 2, .nm 3])) (sSeq (sIf (dNot (dCall sp_is_line (dCons (dVar 3) (dNil)))) (sSeq (sNever) (sNext)) (sNext)) (sNext))) (sSeq (sFldD flG ("lines" : Str) (dVar 0) (dVar 1)) (sNext))
theorem sc_File___init__ : FnScope N_File___init__ ["self", "lines"] (defScope (inClass (top 14) 0)) := ⟨rfl, rfl, rfl, by decide +kernel, rfl, by decide +kernel, by decide +kernel⟩
theorem b_File___init__ {sp_is_line : DSp} (T : Tx K mg) (F_is_line : FnD P w (cc K T.A) mg base 3 T.f_is_line sp_is_line) (h : In P w K mg base N_File___init__ (defScope (inClass (top 14) 0)) fAll 3 X W) (hp : PassesOwn (model X.prog X.w) X.A X.env X.xe) : DStms X T.A W (defBody (inClass (top 14) 0)) (r_File___init__ sp_is_line) :=
  (ds_cons (h.loop hp (h.enum (by decide +kernel) T.z_enumerate (pCons (h.var (i := 1) (by decide +kernel)) da_nil)) (dg_tg (g := .tup [.nm 2, .nm 3]) (h.vtup (vs_cons (h.vnm (i := 2) (by decide +kernel)) (vs_cons (h.vnm (i := 3) (by decide +kernel)) vs_nil)))) (ds_cons (ds_if (dt_not (pVal (h.call F_is_line (by decide) (by decide +kernel) T.m_is_line T.k_is_line (pCons (h.var (i := 3) (by decide +kernel)) da_nil)))) (ds_cons ds_never
  ds_nil) ds_nil)
  ds_nil))
  (ds_cons (h.sfld (T.fo_lines) T.small (h.var (i := 0) (by decide +kernel)) (h.var (i := 1) (by decide +kernel)))
  ds_nil))
theorem n_File___init__ {sp_is_line : DSp} (T : Tx K mg) (F_is_line : FnD P w (cc K T.A) mg base 3 T.f_is_line sp_is_line) : FnD P w (cc K T.A) mg base 4 T.f_File___init__ (starSp 4 1 (r_File___init__ sp_is_line)) :=
  fnd_star (ps := ["self"]) T.p_File___init__ sc_File___init__ (fun _ _ _ _ _ _ us rest hl => match us, hl, rest with | [_], _, [] => rfl | [_], _, _ :: _ => rfl) fun X W h hp => b_File___init__ T F_is_line h hp
/-! ### File.of -/
def N_File_of : List Str := ["cls", "lines"]
def r_File_of (sp_File___init__ : DSp) : DTS := sSeq (sRet (dMakeS 0 false sp_File___init__ (dVar 0) (dVar 1))) (sNext)
theorem sc_File_of : FnScope N_File_of ["cls", "lines"] (defScope (inClass (top 14) 9)) := ⟨rfl, rfl, rfl, by decide +kernel, rfl, by decide +kernel, by decide +kernel⟩
theorem b_File_of {sp_File___init__ : DSp} (T : Tx K mg) (F_File___init__ : FnD P w (cc K T.A) mg base 4 T.f_File___init__ sp_File___init__) (h : In P w K mg base N_File_of (defScope (inClass (top 14) 9)) fAll 5 X W) (hp : PassesOwn (model X.prog X.w) X.A X.env X.xe) : DStms X T.A W (defBody (inClass (top 14) 9)) (r_File_of sp_File___init__) :=
  (ds_cons (ds_ret (h.makeS (C := 0) (mm := false) T.mk_File F_File___init__ (by decide) (h.var (i := 0) (by decide +kernel)) (h.var (i := 1) (by decide +kernel))))
  ds_nil)
theorem n_File_of {sp_File___init__ : DSp} (T : Tx K mg) (F_File___init__ : FnD P w (cc K T.A) mg base 4 T.f_File___init__ sp_File___init__) : FnD P w (cc K T.A) mg base 6 T.f_File_of (bodySp 2 2 (r_File_of sp_File___init__)) :=
  fnd_mk T.p_File_of sc_File_of (fun _ _ _ _ _ _ us hl => match us, hl with | [_, _], _ => rfl) fun X W h hp => b_File_of T F_File___init__ h hp
/-! ### _law_direct -/
def N__law_direct : List Str := ["_law_lines_here"]
def r__law_direct (sp_File___init__ : DSp) : DTS := sSeq (sIf (dOp (rCmp .Eq) (dCB rLen (dCons (dVar 0) (dNil))) (dCst (.int 0))) (sSeq (sRet (dMake 0 false sp_File___init__ dNil)) (sNext)) (sNext)) (sSeq (sIf (dOp (rCmp .Eq) (dCB rLen (dCons (dVar 0) (dNil))) (dCst (.int 1))) (sSeq (sRet (dMake 0 false sp_File___init__ (dCons (dOp rIdx (dVar 0) (dCst (.int 0))) (dNil)))) (sNext)) (sNext)) (sSeq (sRet (dIf (dOp (rCmp .Eq) (dCB rLen (dCons (dVar 0) (dNil))) (dCst (.int 2))) (dMake 0 false sp_File___init__ (dCons (dOp rIdx (dVar 0) (dCst (.int 0))) (dCons (dOp rIdx (dVar 0) (dCst (.int 1))) (dNil)))) (dMake 0 false sp_File___init__ (dCons (dOp rIdx (dVar 0) (dCst (.int 0))) (dCons (dOp rIdx (dVar 0) (dCst (.int 1))) (dCons (dOp rIdx (dVar 0) (dCst (.int 2))) (dNil))))))) (sNext)))
theorem sc__law_direct : FnScope N__law_direct ["_law_lines_here"] (defScope (top 21)) := ⟨rfl, rfl, rfl, by decide +kernel, rfl, by decide +kernel, by decide +kernel⟩
theorem b__law_direct {sp_File___init__ : DSp} (T : Tx K mg) (F_File___init__ : FnD P w (cc K T.A) mg base 4 T.f_File___init__ sp_File___init__) (h : In P w K mg base N__law_direct (defScope (top 21)) fAll 5 X W) (hp : PassesOwn (model X.prog X.w) X.A X.env X.xe) : DStms X T.A W (defBody (top 21)) (r__law_direct sp_File___init__) :=
  (ds_cons (ds_if (pCmpT h.rm (h.bi cd_len (by decide +kernel) T.z_len rfl (pCons (h.var (i := 0) (by decide +kernel)) da_nil)) de_int) (ds_cons (ds_ret (h.make0 (C := 0) (m := false) T.mk_File F_File___init__ (by decide) (by decide +kernel) T.m_File))
  ds_nil) ds_nil)
  (ds_cons (ds_if (pCmpT h.rm (h.bi cd_len (by decide +kernel) T.z_len rfl (pCons (h.var (i := 0) (by decide +kernel)) da_nil)) de_int) (ds_cons (ds_ret (h.make (C := 0) (m := false) T.mk_File F_File___init__ (by decide) (by decide +kernel) T.m_File (pCons (pIdx (h.var (i := 0) (by decide +kernel)) de_int) da_nil)))
  ds_nil) ds_nil)
  (ds_cons (ds_ret (de_if (pCmpT h.rm (h.bi cd_len (by decide +kernel) T.z_len rfl (pCons (h.var (i := 0) (by decide +kernel)) da_nil)) de_int) (h.make (C := 0) (m := false) T.mk_File F_File___init__ (by decide) (by decide +kernel) T.m_File (pCons (pIdx (h.var (i := 0) (by decide +kernel)) de_int) (pCons (pIdx (h.var (i := 0) (by decide +kernel)) de_int) da_nil))) (h.make (C := 0) (m := false) T.mk_File F_File___init__ (by decide) (by decide +kernel) T.m_File (pCons (pIdx (h.var (i := 0) (by decide +kernel)) de_int) (pCons (pIdx (h.var (i := 0) (by decide +kernel)) de_int) (pCons (pIdx (h.var (i := 0) (by decide +kernel)) de_int) da_nil))))))
  ds_nil)))
theorem n__law_direct {sp_File___init__ : DSp} (T : Tx K mg) (F_File___init__ : FnD P w (cc K T.A) mg base 4 T.f_File___init__ sp_File___init__) : FnD P w (cc K T.A) mg base 6 T.f__law_direct (bodySp 1 1 (r__law_direct sp_File___init__)) :=
  fnd_mk T.p__law_direct sc__law_direct (fun _ _ _ _ _ _ us hl => match us, hl with | [_], _ => rfl) fun X W h hp => b__law_direct T F_File___init__ h hp
/-! ### File.__len__ -/
def N_File___len__ : List Str := ["self"]
def r_File___len__ : DTS := sSeq (sRet (dCB rLen (dCons (dFld flG ("lines" : Str) (dVar 0)) (dNil)))) (sNext)
theorem sc_File___len__ : FnScope N_File___len__ ["self"] (defScope (inClass (top 14) 3)) := ⟨rfl, rfl, rfl, by decide +kernel, rfl, by decide +kernel, by decide +kernel⟩
theorem b_File___len__ (T : Tx K mg) (h : In P w K mg base N_File___len__ (defScope (inClass (top 14) 3)) fAll 0 X W) (hp : PassesOwn (model X.prog X.w) X.A X.env X.xe) : DStms X T.A W (defBody (inClass (top 14) 3)) (r_File___len__) :=
  (ds_cons (ds_ret (h.bi cd_len (by decide +kernel) T.z_len rfl (pCons (h.fld (T.fo_lines) (h.var (i := 0) (by decide +kernel))) da_nil)))
  ds_nil)
theorem n_File___len__ (T : Tx K mg) : FnD P w (cc K T.A) mg base 1 T.f_File___len__ (bodySp 1 1 (r_File___len__)) :=
  fnd_mk T.p_File___len__ sc_File___len__ (fun _ _ _ _ _ _ us hl => match us, hl with | [_], _ => rfl) fun X W h hp => b_File___len__ T h hp
/-! ### File.__getitem__ -/
def N_File___getitem__ : List Str := ["self", "at", "lines"]
def r_File___getitem__ (sp_File___init__ : DSp) : DTS := sSeq (sIf (dCB (rIsiD isiG) (dCons (dVar 1) (dCons (dCst (.ty .int)) (dNil)))) (sSeq (sIf (dNot (dBl (dChain (rCmp .LtE) (rCmp .Lt) (dUn rNeg (dCB rLen (dCons (dFld flG ("lines" : Str) (dVar 0)) (dNil)))) (dVar 1) (dCB rLen (dCons (dFld flG ("lines" : Str) (dVar 0)) (dNil)))))) (sSeq (sNever) (sNext)) (sNext)) (sSeq (sRet (dOp rIdx (dFld flG ("lines" : Str) (dVar 0)) (dVar 1))) (sNext))) (sNext)) (sSeq (sAsg (dOp rIdx (dFld flG ("lines" : Str) (dVar 0)) (dVar 1)) (gNm 2)) (sSeq (sRet (dMakeS 0 false sp_File___init__ (dCst (.ty (.own 0))) (dVar 2))) (sNext)))
theorem sc_File___getitem__ : FnScope N_File___getitem__ ["self", "at"] (defScope (inClass (top 14) 6)) := ⟨rfl, rfl, rfl, by decide +kernel, rfl, by decide +kernel, by decide +kernel⟩
theorem b_File___getitem__ {sp_File___init__ : DSp} (T : Tx K mg) (F_File___init__ : FnD P w (cc K T.A) mg base 4 T.f_File___init__ sp_File___init__) (h : In P w K mg base N_File___getitem__ (defScope (inClass (top 14) 6)) fAll 5 X W) (hp : PassesOwn (model X.prog X.w) X.A X.env X.xe) : DStms X T.A W (defBody (inClass (top 14) 6)) (r_File___getitem__ sp_File___init__) :=
  (ds_cons (ds_if (pVal (h.bi (h.isi T.isi) (by decide +kernel) T.z_isinstance rfl (pCons (h.var (i := 1) (by decide +kernel)) (pCons (h.ty (T := .int) (by decide +kernel) T.z_int rfl (fun _ e => by cases e)) da_nil)))) (ds_cons (ds_if (dt_not (pChnT h.rm (pNeg (h.bi cd_len (by decide +kernel) T.z_len rfl (pCons (h.fld (T.fo_lines) (h.var (i := 0) (by decide +kernel))) da_nil))) (h.var (i := 1) (by decide +kernel)) (h.bi cd_len (by decide +kernel) T.z_len rfl (pCons (h.fld (T.fo_lines) (h.var (i := 0) (by decide +kernel))) da_nil)))) (ds_cons ds_never
  ds_nil) ds_nil)
  (ds_cons (ds_ret (pIdx (h.fld (T.fo_lines) (h.var (i := 0) (by decide +kernel))) (h.var (i := 1) (by decide +kernel))))
  ds_nil)) ds_nil)
  (ds_cons (h.set (i := 2) (by decide +kernel) (pIdx (h.fld (T.fo_lines) (h.var (i := 0) (by decide +kernel))) (h.var (i := 1) (by decide +kernel))))
  (ds_cons (ds_ret (h.makeS (C := 0) (mm := false) T.mk_File F_File___init__ (by decide) (h.cls (by decide +kernel) T.m_File) (h.var (i := 2) (by decide +kernel))))
  ds_nil)))
theorem n_File___getitem__ {sp_File___init__ : DSp} (T : Tx K mg) (F_File___init__ : FnD P w (cc K T.A) mg base 4 T.f_File___init__ sp_File___init__) : FnD P w (cc K T.A) mg base 6 T.f_File___getitem__ (bodySp 3 2 (r_File___getitem__ sp_File___init__)) :=
  fnd_mk T.p_File___getitem__ sc_File___getitem__ (fun _ _ _ _ _ _ us hl => match us, hl with | [_, _], _ => rfl) fun X W h hp => b_File___getitem__ T F_File___init__ h hp
/-! ### _law_is_file -/
def N__law_is_file : List Str := ["_law_file", "_law_lines_here", "_law_k"]
def r__law_is_file (sp_File___len__ : DSp) (sp_File___getitem__ : DSp) : DTS := sSeq (sIf (dOr (dNot (dCB (rIsiD isiG) (dCons (dVar 0) (dCons (dCst (.ty (.own 0))) (dNil))))) (dOp (rCmp .NotEq) (dCB rReprD (dCons (dFld flG ("lines" : Str) (dVar 0)) (dNil))) (dCB rReprD (dCons (dCB rTupD (dCons (dVar 1) (dNil))) (dNil))))) (sSeq (sRet (dCst (.bl false))) (sNext)) (sNext)) (sSeq (sRet (dAnd (dOp (rCmp .Eq) (dOwn1 0 sp_File___len__ bkLen (dCons (dVar 0) (dNil))) (dCB rLen (dCons (dVar 1) (dNil)))) (dOp (rCmp .Eq) (dLc false (iRng1D (dCons (dCB rLen (dCons (dVar 1) (dNil))) (dNil))) (.nm 2) dYes (dOpX (ownL 0 sp_File___getitem__ bkAny) (dVar 0) (dVar 2)) [2]) (dVar 1)))) (sNext))
theorem sc__law_is_file : FnScope N__law_is_file ["_law_file", "_law_lines_here"] (defScope (top 22)) := ⟨rfl, rfl, rfl, by decide +kernel, rfl, by decide +kernel, by decide +kernel⟩
theorem b__law_is_file {sp_File___len__ : DSp} {sp_File___getitem__ : DSp} (T : Tx K mg) (F_File___len__ : FnD P w (cc K T.A) mg base 1 T.f_File___len__ sp_File___len__) (F_File___getitem__ : FnD P w (cc K T.A) mg base 6 T.f_File___getitem__ sp_File___getitem__) (h : In P w K mg base N__law_is_file (defScope (top 22)) fAll 7 X W) (hp : PassesOwn (model X.prog X.w) X.A X.env X.xe) : DStms X T.A W (defBody (top 22)) (r__law_is_file sp_File___len__ sp_File___getitem__) :=
  (ds_cons (ds_if (dt_w (dw_or (dt_not (pVal (h.bi (h.isi T.isi) (by decide +kernel) T.z_isinstance rfl (pCons (h.var (i := 0) (by decide +kernel)) (pCons (h.cls (by decide +kernel) T.m_File) da_nil))))) (dw_or1 (pCmpT h.rm (h.bi (cd_repr h.rm) (by decide +kernel) T.z_repr rfl (pCons (h.fld (T.fo_lines) (h.var (i := 0) (by decide +kernel))) da_nil)) (h.bi (cd_repr h.rm) (by decide +kernel) T.z_repr rfl (pCons (h.bt cd_tup (by decide +kernel) T.z_tuple rfl (pCons (h.var (i := 1) (by decide +kernel)) da_nil)) da_nil)))))) (ds_cons (ds_ret de_bl)
  ds_nil) ds_nil)
  (ds_cons (ds_ret (de_and (pCmp h.rm (h.lenO (C := 0) T.d_File___len__ F_File___len__ (by decide) (by decide +kernel) T.z_len (pCons (h.var (i := 0) (by decide +kernel)) da_nil)) (h.bi cd_len (by decide +kernel) T.z_len rfl (pCons (h.var (i := 1) (by decide +kernel)) da_nil))) (de_one (pCmp h.rm (h.lc (m := false) (g := .nm 2) [("_law_k", 2)] (h.rng1 (by decide +kernel) T.z_range (pCons (h.bi cd_len (by decide +kernel) T.z_len rfl (pCons (h.var (i := 1) (by decide +kernel)) da_nil)) da_nil)) (by decide +kernel) (by decide) (fun _ h => (h.vnm (i := 2) (by decide +kernel))) (fun _ h => ts_nil) (fun _ h => (h.idxO (C := 0) T.d_File___getitem__ T.fi_File___getitem__ F_File___getitem__ (by decide) (h.var (i := 0) (by decide +kernel)) (h.var (i := 2) (by decide +kernel))))) (h.var (i := 1) (by decide +kernel))))))
  ds_nil))
theorem n__law_is_file {sp_File___len__ : DSp} {sp_File___getitem__ : DSp} (T : Tx K mg) (F_File___len__ : FnD P w (cc K T.A) mg base 1 T.f_File___len__ sp_File___len__) (F_File___getitem__ : FnD P w (cc K T.A) mg base 6 T.f_File___getitem__ sp_File___getitem__) : FnD P w (cc K T.A) mg base 8 T.f__law_is_file (bodySp 3 2 (r__law_is_file sp_File___len__ sp_File___getitem__)) :=
  fnd_mk T.p__law_is_file sc__law_is_file (fun _ _ _ _ _ _ us hl => match us, hl with | [_, _], _ => rfl) fun X W h hp => b__law_is_file T F_File___len__ F_File___getitem__ h hp
/-! ### File.__eq__ -/
def N_File___eq__ : List Str := ["self", "other"]
def r_File___eq__ : DTS := sSeq (sRet (dAnd (dCB (rIsiD isiG) (dCons (dVar 1) (dCons (dCst (.ty (.own 0))) (dNil)))) (dOp (rCmp .Eq) (dFld flG ("lines" : Str) (dVar 0)) (dFld flG ("lines" : Str) (dVar 1))))) (sNext)
theorem sc_File___eq__ : FnScope N_File___eq__ ["self", "other"] (defScope (inClass (top 14) 1)) := ⟨rfl, rfl, rfl, by decide +kernel, rfl, by decide +kernel, by decide +kernel⟩
theorem b_File___eq__ (T : Tx K mg) (h : In P w K mg base N_File___eq__ (defScope (inClass (top 14) 1)) fAll 0 X W) (hp : PassesOwn (model X.prog X.w) X.A X.env X.xe) : DStms X T.A W (defBody (inClass (top 14) 1)) (r_File___eq__) :=
  (ds_cons (ds_ret (de_and (h.bi (h.isi T.isi) (by decide +kernel) T.z_isinstance rfl (pCons (h.var (i := 1) (by decide +kernel)) (pCons (h.cls (by decide +kernel) T.m_File) da_nil))) (de_one (pCmp h.rm (h.fld (T.fo_lines) (h.var (i := 0) (by decide +kernel))) (h.fld (T.fo_lines) (h.var (i := 1) (by decide +kernel)))))))
  ds_nil)
theorem n_File___eq__ (T : Tx K mg) : FnD P w (cc K T.A) mg base 1 T.f_File___eq__ (bodySp 2 2 (r_File___eq__)) :=
  fnd_mk T.p_File___eq__ sc_File___eq__ (fun _ _ _ _ _ _ us hl => match us, hl with | [_, _], _ => rfl) fun X W h hp => b_File___eq__ T h hp
/-! ### _law_odd -/
def N__law_odd : List Str := ["_law_bag_here", "_law_pool_here", "_law_some", "_law_kind", "_law_name"]
def r__law_odd (sp__law_draw : DSp) : DTS := sSeq (sAsg (dOp rIdx (dVar 1) (dCall sp__law_draw (dCons (dVar 0) (dCons (dCB rLen (dCons (dVar 1) (dNil))) (dNil))))) (gOf (.tup [.nm 3, .nm 4]))) (sSeq (sAsg (dLst true (dCons (dCst .non) (dCons (dCst (.bl true)) (dCons (dCst (.int 0)) (dCons (dVar 3) (dCons (dLst false (dCons (dVar 3) (dCons (dVar 4) (dNil)))) (dCons (dTup (dCons (dVar 3) (dNil))) (dCons (dTup (dCons (dVar 3) (dCons (dVar 4) (dCons (dVar 4) (dNil))))) (dNil))))))))) (gNm 2)) (sSeq (sDrop (dMt mExtend (dVar 2) (dCons (dLst false (dCons (dTup (dCons (dVar 3) (dCons (dCst .non) (dNil)))) (dCons (dTup (dNil)) (dCons (dTup (dCons (dVar 3) (dCons (dOp (rBin false .Add) (dVar 3) (dCst (.str ("!" : Str)))) (dNil)))) (dCons (dTup (dCons (dOp (rBin false .Add) (dVar 4) (dCst (.str ("!" : Str)))) (dCons (dVar 3) (dNil)))) (dNil)))))) (dNil)))) (sSeq (sRet (dOp rIdx (dVar 2) (dCall sp__law_draw (dCons (dVar 0) (dCons (dCB rLen (dCons (dVar 2) (dNil))) (dNil)))))) (sNext))))
theorem sc__law_odd : FnScope N__law_odd ["_law_bag_here", "_law_pool_here"] (defScope (top 23)) := ⟨rfl, rfl, rfl, by decide +kernel, rfl, by decide +kernel, by decide +kernel⟩
theorem b__law_odd {sp__law_draw : DSp} (T : Tx K mg) (F__law_draw : FnD P w (cc K T.A) mg base 1 T.f__law_draw sp__law_draw) (h : In P w K mg base N__law_odd (defScope (top 23)) fAll 1 X W) (hp : PassesOwn (model X.prog X.w) X.A X.env X.xe) : DStms X T.A W (defBody (top 23)) (r__law_odd sp__law_draw) :=
  (ds_cons (ds_tup (pIdx (h.var (i := 1) (by decide +kernel)) (h.call F__law_draw (by decide) (by decide +kernel) T.m__law_draw T.k__law_draw (pCons (h.var (i := 0) (by decide +kernel)) (pCons (h.bi cd_len (by decide +kernel) T.z_len rfl (pCons (h.var (i := 1) (by decide +kernel)) da_nil)) da_nil)))) (dg_tg (g := .tup [.nm 3, .nm 4]) (h.vtup (vs_cons (h.vnm (i := 3) (by decide +kernel)) (vs_cons (h.vnm (i := 4) (by decide +kernel)) vs_nil)))))
  (ds_cons (h.set (i := 2) (by decide +kernel) (de_lst (m := true) (pCons de_non (pCons de_bl (pCons de_int (pCons (h.var (i := 3) (by decide +kernel)) (pCons (de_lst (m := false) (pCons (h.var (i := 3) (by decide +kernel)) (pCons (h.var (i := 4) (by decide +kernel)) da_nil))) (pCons (de_tup (pCons (h.var (i := 3) (by decide +kernel)) da_nil)) (pCons (de_tup (pCons (h.var (i := 3) (by decide +kernel)) (pCons (h.var (i := 4) (by decide +kernel)) (pCons (h.var (i := 4) (by decide +kernel)) da_nil)))) da_nil)))))))))
  (ds_cons (pExpr (pExtend (h.var (i := 2) (by decide +kernel)) (pCons (de_lst (m := false) (pCons (de_tup (pCons (h.var (i := 3) (by decide +kernel)) (pCons de_non da_nil))) (pCons (de_tup da_nil) (pCons (de_tup (pCons (h.var (i := 3) (by decide +kernel)) (pCons (pBin false (h.var (i := 3) (by decide +kernel)) (pStr (by decide +kernel))) da_nil))) (pCons (de_tup (pCons (pBin false (h.var (i := 4) (by decide +kernel)) (pStr (by decide +kernel))) (pCons (h.var (i := 3) (by decide +kernel)) da_nil))) da_nil))))) da_nil)))
  (ds_cons (ds_ret (pIdx (h.var (i := 2) (by decide +kernel)) (h.call F__law_draw (by decide) (by decide +kernel) T.m__law_draw T.k__law_draw (pCons (h.var (i := 0) (by decide +kernel)) (pCons (h.bi cd_len (by decide +kernel) T.z_len rfl (pCons (h.var (i := 2) (by decide +kernel)) da_nil)) da_nil)))))
  ds_nil))))
theorem n__law_odd {sp__law_draw : DSp} (T : Tx K mg) (F__law_draw : FnD P w (cc K T.A) mg base 1 T.f__law_draw sp__law_draw) : FnD P w (cc K T.A) mg base 2 T.f__law_odd (bodySp 5 2 (r__law_odd sp__law_draw)) :=
  fnd_mk T.p__law_odd sc__law_odd (fun _ _ _ _ _ _ us hl => match us, hl with | [_, _], _ => rfl) fun X W h hp => b__law_odd T F__law_draw h hp
/-! ### File.__contains__ -/
def N_File___contains__ : List Str := ["self", "line"]
def r_File___contains__ (sp_is_line : DSp) : DTS := sSeq (sRet (dAnd (dCall sp_is_line (dCons (dVar 1) (dNil))) (dOp (rCmp .In) (dVar 1) (dFld flG ("lines" : Str) (dVar 0))))) (sNext)
theorem sc_File___contains__ : FnScope N_File___contains__ ["self", "line"] (defScope (inClass (top 14) 5)) := ⟨rfl, rfl, rfl, by decide +kernel, rfl, by decide +kernel, by decide +kernel⟩
theorem b_File___contains__ {sp_is_line : DSp} (T : Tx K mg) (F_is_line : FnD P w (cc K T.A) mg base 3 T.f_is_line sp_is_line) (h : In P w K mg base N_File___contains__ (defScope (inClass (top 14) 5)) fAll 3 X W) (hp : PassesOwn (model X.prog X.w) X.A X.env X.xe) : DStms X T.A W (defBody (inClass (top 14) 5)) (r_File___contains__ sp_is_line) :=
  (ds_cons (ds_ret (de_and (h.call F_is_line (by decide) (by decide +kernel) T.m_is_line T.k_is_line (pCons (h.var (i := 1) (by decide +kernel)) da_nil)) (de_one (pCmp h.rm (h.var (i := 1) (by decide +kernel)) (h.fld (T.fo_lines) (h.var (i := 0) (by decide +kernel)))))))
  ds_nil)
theorem n_File___contains__ {sp_is_line : DSp} (T : Tx K mg) (F_is_line : FnD P w (cc K T.A) mg base 3 T.f_is_line sp_is_line) : FnD P w (cc K T.A) mg base 4 T.f_File___contains__ (bodySp 2 2 (r_File___contains__ sp_is_line)) :=
  fnd_mk T.p_File___contains__ sc_File___contains__ (fun _ _ _ _ _ _ us hl => match us, hl with | [_, _], _ => rfl) fun X W h hp => b_File___contains__ T F_is_line h hp
/-! ### law -/
def N_law : List Str := ["_law_script", "_law_at", "_law_bag_here", "_law_pool_here", "_law_many", "_law_lines_here", "_law_passed", "_law_short", "_law_told", "_law_more", "_law_less", "_law_turned", "_law_is_there", "_law_thing", "_law_file", "_law_other", "_law_spot", "_law_line", "_law_ahead", "_law_behind", "_law_due", "_law_k"]
def r_law (sp__law_bag : DSp) (sp__law_pool : DSp) (sp__law_draw : DSp) (sp__law_lines : DSp) (sp_File_of : DSp) (sp__law_direct : DSp) (sp__law_is_file : DSp) (sp_File___eq__ : DSp) (sp__law_odd : DSp) (sp_File___contains__ : DSp) (sp_File___init__ : DSp) (sp_File___len__ : DSp) : DTS := sSeq (sFor (iRng1D (dCons (dCB rMax (dCons (dCst (.int 1)) (dCons (dCB rMin (dCons (dCst (.int 4)) (dCons (dCB rLen (dCons (dVar 0) (dNil))) (dNil)))) (dNil)))) (dNil))) (gOf (.nm 1)) (sSeq (sAsg (dCall sp__law_bag (dCons (dVar 0) (dCons (dVar 1) (dNil)))) (gNm 2)) (sSeq (sAsg (dCall sp__law_pool (dCons (dVar 2) (dNil))) (gNm 3)) (sSeq (sAsg (dOp rIdx (dLst false (dCons (dCst (.int 0)) (dCons (dCst (.int 1)) (dCons (dCst (.int 2)) (dCons (dCst (.int 3)) (dCons (dCst (.int 5)) (dCons (dCst (.int 8)) (dCons (dCst (.int 40)) (dCons (dIf (dOp (rCmp .Eq) (dVar 1) (dCst (.int 0))) (dCst (.int 1000)) (dCst (.int 20))) (dNil)))))))))) (dCall sp__law_draw (dCons (dVar 2) (dCons (dCst (.int 8)) (dNil))))) (gNm 4)) (sSeq (sAsg (dCall sp__law_lines (dCons (dVar 2) (dCons (dVar 3) (dCons (dCB rMin (dCons (dVar 4) (dCons (dCst (.int 40)) (dNil)))) (dNil))))) (gNm 5)) (sSeq (sAsg (dIf (dOp (rCmp .Eq) (dVar 4) (dCst (.int 1000))) (dSlc false (dOp (rBin false .Mult) (dVar 5) (dCst (.int 25))) none (some (dCst (.int 999)))) (dVar 5)) (gNm 5)) (sSeq (sAsg (dCB (rListS true) (dCons (dVar 5) (dNil))) (gNm 6)) (sSeq (sPar [14, 15] (dCons (dCMet 0 sp_File_of (dCons (dVar 6) (dNil))) (dCons (dCMet 0 sp_File_of (dCons (dCB rTupD (dCons (dVar 5) (dNil))) (dNil))) (dNil)))) (sSeq (sAsg (dCall sp__law_direct (dCons (dSlc false (dVar 5) none (some (dCst (.int 3)))) (dNil))) (gNm 7)) (sSeq (sDrop (dMt mAppend (dVar 6) (dCons (dOp rIdx (dVar 3) (dCst (.int 0))) (dNil)))) (sSeq (sAsg (dOp rIdx (dVar 3) (dCst (.int 1))) (gSubD (dVar 6) (dCst (.int 0)))) (sSeq (sIf (dOr (dNot (dCall sp__law_is_file (dCons (dVar 14) (dCons (dVar 5) (dNil))))) (dNot (dCall sp__law_is_file (dCons (dVar 15) (dCons (dVar 5) (dNil)))))) (sSeq (sRet (dCst (.bl false))) (sNext)) (sNext)) (sSeq (sIf (dNot (dCall sp__law_is_file (dCons (dVar 7) (dCons (dSlc false (dVar 5) none (some (dCst (.int 3)))) (dNil))))) (sSeq (sRet (dCst (.bl false))) (sNext)) (sNext)) (sSeq (sAsg (dLst false (dCons (dOpX (ownCmp 0 sp_File___eq__ okG_0) (dVar 14) (dVar 15)) (dCons (dOpX (ownCmp 0 sp_File___eq__ okG_0) (dVar 14) (dVar 7)) (dCons (dOpX (ownCmp 0 sp_File___eq__ okG_0) (dVar 15) (dVar 14)) (dNil))))) (gNm 8)) (sSeq (sAsg (dOp (rBin false .Add) (dVar 8) (dLst false (dCons (dOpX (ownCmp 0 sp_File___eq__ okG_0) (dVar 14) (dCB rTupD (dCons (dVar 5) (dNil)))) (dCons (dOpX (ownCmp 0 sp_File___eq__ okG_0) (dVar 14) (dVar 5)) (dCons (dOpX (ownNe 0 sp_File___eq__ okG_0) (dVar 14) (dVar 15)) (dNil)))))) (gNm 8)) (sSeq (sIf (dOp (rCmp .NotEq) (dCB rReprD (dCons (dVar 8) (dNil))) (dCB rReprD (dCons (dLst false (dCons (dCst (.bl true)) (dCons (dOp (rCmp .Lt) (dCB rLen (dCons (dVar 5) (dNil))) (dCst (.int 4))) (dCons (dCst (.bl true)) (dCons (dCst (.bl false)) (dCons (dCst (.bl false)) (dCons (dCst (.bl false)) (dNil)))))))) (dNil)))) (sSeq (sRet (dCst (.bl false))) (sNext)) (sNext)) (sSeq (sPar [16, 17] (dCons (dCall sp__law_draw (dCons (dVar 2) (dCons (dOp (rBin false .Add) (dCB rLen (dCons (dVar 5) (dNil))) (dCst (.int 1))) (dNil)))) (dCons (dOp rIdx (dVar 3) (dCall sp__law_draw (dCons (dVar 2) (dCons (dCst (.int 12)) (dNil))))) (dNil)))) (sSeq (sPar [18, 19] (dCons (dSlc false (dVar 5) none (some (dVar 16))) (dCons (dSlc false (dVar 5) (some (dOp (rBin false .Add) (dVar 16) (dCst (.int 1)))) none) (dNil)))) (sSeq (sAsg (dCMet 0 sp_File_of (dCons (dOp (rBin false .Add) (dOp (rBin false .Add) (dVar 18) (dLst false (dCons (dVar 17) (dNil)))) (dSlc false (dVar 5) (some (dVar 16)) none)) (dNil))) (gNm 9)) (sSeq (sAsg (dCMet 0 sp_File_of (dCons (dOp (rBin false .Add) (dVar 18) (dVar 19)) (dNil))) (gNm 10)) (sSeq (sAsg (dCMet 0 sp_File_of (dCons (dOp (rBin false .Add) (dOp (rBin false .Add) (dVar 18) (dLst false (dCons (dVar 17) (dNil)))) (dVar 19)) (dNil))) (gNm 11)) (sSeq (sAsg (dOp (rCmp .Lt) (dVar 16) (dCB rLen (dCons (dVar 5) (dNil)))) (gNm 12)) (sSeq (sAsg (dLst false (dCons (dOpX (ownCmp 0 sp_File___eq__ okG_0) (dVar 14) (dVar 9)) (dCons (dOpX (ownCmp 0 sp_File___eq__ okG_0) (dVar 14) (dVar 10)) (dCons (dOpX (ownCmp 0 sp_File___eq__ okG_0) (dVar 14) (dVar 11)) (dNil))))) (gNm 8)) (sSeq (sIf (dOp (rCmp .NotEq) (dCB rReprD (dCons (dVar 8) (dNil))) (dCB rReprD (dCons (dLst false (dCons (dCst (.bl false)) (dCons (dNot (dVar 12)) (dCons (dAnd (dVar 12) (dOp (rCmp .Eq) (dOp rIdx (dVar 5) (dVar 16)) (dVar 17))) (dNil))))) (dNil)))) (sSeq (sRet (dCst (.bl false))) (sNext)) (sNext)) (sSeq (sFor (iSeqD (dOp (rBin false .Add) (dVar 3) (dLc false (iRng1D (dCons (dCst (.int 4)) (dNil))) (.nm 21) dYes (dCall sp__law_odd (dCons (dVar 2) (dCons (dVar 3) (dNil)))) [21]))) (gOf (.nm 13)) (sSeq (sAsg (dAnd (dCB (rIsiD isiG) (dCons (dVar 13) (dCons (dCst (.ty .tup)) (dNil)))) (dOp (rCmp .In) (dVar 13) (dVar 5))) (gNm 20)) (sSeq (sIf (dOp (rCmp .NotEq) (dCB rReprD (dCons (dOpX (ownR 0 sp_File___contains__ (bkTru id)) (dVar 13) (dVar 14)) (dNil))) (dCB rReprD (dCons (dVar 20) (dNil)))) (sSeq (sRet (dCst (.bl false))) (sNext)) (sNext)) (sNext)))) (sSeq (sIf (dNot (dCall sp__law_is_file (dCons (dVar 14) (dCons (dVar 5) (dNil))))) (sSeq (sRet (dCst (.bl false))) (sNext)) (sNext)) (sNext))))))))))))))))))))))))))) (sSeq (sRet (dAnd (dOpX (ownCmp 0 sp_File___eq__ okG_0) (dMake 0 false sp_File___init__ dNil) (dCMet 0 sp_File_of (dCons (dLst false (dNil)) (dNil)))) (dOp (rCmp .Eq) (dOwn1 0 sp_File___len__ bkLen (dCons (dMake 0 false sp_File___init__ dNil) (dNil))) (dCst (.int 0))))) (sNext))
theorem sc_law : FnScope N_law ["_law_script"] (defScope (top 24)) := ⟨rfl, rfl, rfl, by decide +kernel, rfl, by decide +kernel, by decide +kernel⟩
theorem b_law {sp__law_bag : DSp} {sp__law_pool : DSp} {sp__law_draw : DSp} {sp__law_lines : DSp} {sp_File_of : DSp} {sp__law_direct : DSp} {sp__law_is_file : DSp} {sp_File___eq__ : DSp} {sp__law_odd : DSp} {sp_File___contains__ : DSp} {sp_File___init__ : DSp} {sp_File___len__ : DSp} (T : Tx K mg) (F__law_bag : FnD P w (cc K T.A) mg base 1 T.f__law_bag sp__law_bag) (F__law_pool : FnD P w (cc K T.A) mg base 3 T.f__law_pool sp__law_pool) (F__law_draw : FnD P w (cc K T.A) mg base 1 T.f__law_draw sp__law_draw) (F__law_lines : FnD P w (cc K T.A) mg base 2 T.f__law_lines sp__law_lines) (F_File_of : FnD P w (cc K T.A) mg base 6 T.f_File_of sp_File_of) (F__law_direct : FnD P w (cc K T.A) mg base 6 T.f__law_direct sp__law_direct) (F__law_is_file : FnD P w (cc K T.A) mg base 8 T.f__law_is_file sp__law_is_file) (F_File___eq__ : FnD P w (cc K T.A) mg base 1 T.f_File___eq__ sp_File___eq__) (F__law_odd : FnD P w (cc K T.A) mg base 2 T.f__law_odd sp__law_odd) (F_File___contains__ : FnD P w (cc K T.A) mg base 4 T.f_File___contains__ sp_File___contains__) (F_File___init__ : FnD P w (cc K T.A) mg base 4 T.f_File___init__ sp_File___init__) (F_File___len__ : FnD P w (cc K T.A) mg base 1 T.f_File___len__ sp_File___len__) (h : In P w K mg base N_law (defScope (top 24)) fAll 8 X W) (hp : PassesOwn (model X.prog X.w) X.A X.env X.xe) : DStms X T.A W (defBody (top 24)) (r_law sp__law_bag sp__law_pool sp__law_draw sp__law_lines sp_File_of sp__law_direct sp__law_is_file sp_File___eq__ sp__law_odd sp_File___contains__ sp_File___init__ sp_File___len__) :=
  (ds_cons (h.loop hp (h.rng1 (by decide +kernel) T.z_range (pCons (h.bi (cd_max h.calm) (by decide +kernel) T.z_max rfl (pCons de_int (pCons (h.bi (cd_min h.calm) (by decide +kernel) T.z_min rfl (pCons de_int (pCons (h.bi cd_len (by decide +kernel) T.z_len rfl (pCons (h.var (i := 0) (by decide +kernel)) da_nil)) da_nil))) da_nil))) da_nil)) (dg_tg (g := .nm 1) (h.vnm (i := 1) (by decide +kernel))) (ds_cons (h.set (i := 2) (by decide +kernel) (h.call F__law_bag (by decide) (by decide +kernel) T.m__law_bag T.k__law_bag (pCons (h.var (i := 0) (by decide +kernel)) (pCons (h.var (i := 1) (by decide +kernel)) da_nil))))
  (ds_cons (h.set (i := 3) (by decide +kernel) (h.call F__law_pool (by decide) (by decide +kernel) T.m__law_pool T.k__law_pool (pCons (h.var (i := 2) (by decide +kernel)) da_nil)))
  (ds_cons (h.set (i := 4) (by decide +kernel) (pIdx (de_lst (m := false) (pCons de_int (pCons de_int (pCons de_int (pCons de_int (pCons de_int (pCons de_int (pCons de_int (pCons (de_if (pCmpT h.rm (h.var (i := 1) (by decide +kernel)) de_int) de_int de_int) da_nil))))))))) (h.call F__law_draw (by decide) (by decide +kernel) T.m__law_draw T.k__law_draw (pCons (h.var (i := 2) (by decide +kernel)) (pCons de_int da_nil)))))
  (ds_cons (h.set (i := 5) (by decide +kernel) (h.call F__law_lines (by decide) (by decide +kernel) T.m__law_lines T.k__law_lines (pCons (h.var (i := 2) (by decide +kernel)) (pCons (h.var (i := 3) (by decide +kernel)) (pCons (h.bi (cd_min h.calm) (by decide +kernel) T.z_min rfl (pCons (h.var (i := 4) (by decide +kernel)) (pCons de_int da_nil))) da_nil)))))
  (ds_cons (h.set (i := 5) (by decide +kernel) (de_if (pCmpT h.rm (h.var (i := 4) (by decide +kernel)) de_int) (de_slc (m := false) (pBin false (h.var (i := 5) (by decide +kernel)) de_int) do_none (do_some de_int)) (h.var (i := 5) (by decide +kernel))))
  (ds_cons (h.set (i := 6) (by decide +kernel) (h.bt (cd_listS (m := true) h.calm) (by decide +kernel) T.z_list rfl (pCons (h.var (i := 5) (by decide +kernel)) da_nil)))
  (ds_cons (h.par2 (i := 14) (j := 15) (by decide +kernel) (by decide +kernel) (pCons (h.cmet (C := 0) (by decide +kernel) T.m_File T.cr_File T.cm_File_of F_File_of (by decide) (pCons (h.var (i := 6) (by decide +kernel)) da_nil)) (pCons (h.cmet (C := 0) (by decide +kernel) T.m_File T.cr_File T.cm_File_of F_File_of (by decide) (pCons (h.bt cd_tup (by decide +kernel) T.z_tuple rfl (pCons (h.var (i := 5) (by decide +kernel)) da_nil)) da_nil)) da_nil)))
  (ds_cons (h.set (i := 7) (by decide +kernel) (h.call F__law_direct (by decide) (by decide +kernel) T.m__law_direct T.k__law_direct (pCons (de_slc (m := false) (h.var (i := 5) (by decide +kernel)) do_none (do_some de_int)) da_nil)))
  (ds_cons (pExpr (pAppend (h.var (i := 6) (by decide +kernel)) (pCons (pIdx (h.var (i := 3) (by decide +kernel)) de_int) da_nil)))
  (ds_cons (ds_tup (pIdx (h.var (i := 3) (by decide +kernel)) de_int) (pSub (h.var (i := 6) (by decide +kernel)) de_int))
  (ds_cons (ds_if (dt_w (dw_or (dt_not (pVal (h.call F__law_is_file (by decide) (by decide +kernel) T.m__law_is_file T.k__law_is_file (pCons (h.var (i := 14) (by decide +kernel)) (pCons (h.var (i := 5) (by decide +kernel)) da_nil))))) (dw_or1 (dt_not (pVal (h.call F__law_is_file (by decide) (by decide +kernel) T.m__law_is_file T.k__law_is_file (pCons (h.var (i := 15) (by decide +kernel)) (pCons (h.var (i := 5) (by decide +kernel)) da_nil)))))))) (ds_cons (ds_ret de_bl)
  ds_nil) ds_nil)
  (ds_cons (ds_if (dt_not (pVal (h.call F__law_is_file (by decide) (by decide +kernel) T.m__law_is_file T.k__law_is_file (pCons (h.var (i := 7) (by decide +kernel)) (pCons (de_slc (m := false) (h.var (i := 5) (by decide +kernel)) do_none (do_some de_int)) da_nil))))) (ds_cons (ds_ret de_bl)
  ds_nil) ds_nil)
  (ds_cons (h.set (i := 8) (by decide +kernel) (de_lst (m := false) (pCons (de_cmpX (h.cmpO (C := 0) T.d_File___eq__ F_File___eq__ (by decide) T.ok_File) (h.var (i := 14) (by decide +kernel)) (h.var (i := 15) (by decide +kernel))) (pCons (de_cmpX (h.cmpO (C := 0) T.d_File___eq__ F_File___eq__ (by decide) T.ok_File) (h.var (i := 14) (by decide +kernel)) (h.var (i := 7) (by decide +kernel))) (pCons (de_cmpX (h.cmpO (C := 0) T.d_File___eq__ F_File___eq__ (by decide) T.ok_File) (h.var (i := 15) (by decide +kernel)) (h.var (i := 14) (by decide +kernel))) da_nil)))))
  (ds_cons (h.set (i := 8) (by decide +kernel) (pBin false (h.var (i := 8) (by decide +kernel)) (de_lst (m := false) (pCons (de_cmpX (h.cmpO (C := 0) T.d_File___eq__ F_File___eq__ (by decide) T.ok_File) (h.var (i := 14) (by decide +kernel)) (h.bt cd_tup (by decide +kernel) T.z_tuple rfl (pCons (h.var (i := 5) (by decide +kernel)) da_nil))) (pCons (de_cmpX (h.cmpO (C := 0) T.d_File___eq__ F_File___eq__ (by decide) T.ok_File) (h.var (i := 14) (by decide +kernel)) (h.var (i := 5) (by decide +kernel))) (pCons (de_cmpX (h.neO (C := 0) T.d_File___eq__ T.ne_File T.ck_File F_File___eq__ (by decide) T.ok_File) (h.var (i := 14) (by decide +kernel)) (h.var (i := 15) (by decide +kernel))) da_nil))))))
  (ds_cons (ds_if (pCmpT h.rm (h.bi (cd_repr h.rm) (by decide +kernel) T.z_repr rfl (pCons (h.var (i := 8) (by decide +kernel)) da_nil)) (h.bi (cd_repr h.rm) (by decide +kernel) T.z_repr rfl (pCons (de_lst (m := false) (pCons de_bl (pCons (pCmp h.rm (h.bi cd_len (by decide +kernel) T.z_len rfl (pCons (h.var (i := 5) (by decide +kernel)) da_nil)) de_int) (pCons de_bl (pCons de_bl (pCons de_bl (pCons de_bl da_nil))))))) da_nil))) (ds_cons (ds_ret de_bl)
  ds_nil) ds_nil)
  (ds_cons (h.par2 (i := 16) (j := 17) (by decide +kernel) (by decide +kernel) (pCons (h.call F__law_draw (by decide) (by decide +kernel) T.m__law_draw T.k__law_draw (pCons (h.var (i := 2) (by decide +kernel)) (pCons (pBin false (h.bi cd_len (by decide +kernel) T.z_len rfl (pCons (h.var (i := 5) (by decide +kernel)) da_nil)) de_int) da_nil))) (pCons (pIdx (h.var (i := 3) (by decide +kernel)) (h.call F__law_draw (by decide) (by decide +kernel) T.m__law_draw T.k__law_draw (pCons (h.var (i := 2) (by decide +kernel)) (pCons de_int da_nil)))) da_nil)))
  (ds_cons (h.par2 (i := 18) (j := 19) (by decide +kernel) (by decide +kernel) (pCons (de_slc (m := false) (h.var (i := 5) (by decide +kernel)) do_none (do_some (h.var (i := 16) (by decide +kernel)))) (pCons (de_slc (m := false) (h.var (i := 5) (by decide +kernel)) (do_some (pBin false (h.var (i := 16) (by decide +kernel)) de_int)) do_none) da_nil)))
  (ds_cons (h.set (i := 9) (by decide +kernel) (h.cmet (C := 0) (by decide +kernel) T.m_File T.cr_File T.cm_File_of F_File_of (by decide) (pCons (pBin false (pBin false (h.var (i := 18) (by decide +kernel)) (de_lst (m := false) (pCons (h.var (i := 17) (by decide +kernel)) da_nil))) (de_slc (m := false) (h.var (i := 5) (by decide +kernel)) (do_some (h.var (i := 16) (by decide +kernel))) do_none)) da_nil)))
  (ds_cons (h.set (i := 10) (by decide +kernel) (h.cmet (C := 0) (by decide +kernel) T.m_File T.cr_File T.cm_File_of F_File_of (by decide) (pCons (pBin false (h.var (i := 18) (by decide +kernel)) (h.var (i := 19) (by decide +kernel))) da_nil)))
  (ds_cons (h.set (i := 11) (by decide +kernel) (h.cmet (C := 0) (by decide +kernel) T.m_File T.cr_File T.cm_File_of F_File_of (by decide) (pCons (pBin false (pBin false (h.var (i := 18) (by decide +kernel)) (de_lst (m := false) (pCons (h.var (i := 17) (by decide +kernel)) da_nil))) (h.var (i := 19) (by decide +kernel))) da_nil)))
  (ds_cons (h.set (i := 12) (by decide +kernel) (pCmp h.rm (h.var (i := 16) (by decide +kernel)) (h.bi cd_len (by decide +kernel) T.z_len rfl (pCons (h.var (i := 5) (by decide +kernel)) da_nil))))
  (ds_cons (h.set (i := 8) (by decide +kernel) (de_lst (m := false) (pCons (de_cmpX (h.cmpO (C := 0) T.d_File___eq__ F_File___eq__ (by decide) T.ok_File) (h.var (i := 14) (by decide +kernel)) (h.var (i := 9) (by decide +kernel))) (pCons (de_cmpX (h.cmpO (C := 0) T.d_File___eq__ F_File___eq__ (by decide) T.ok_File) (h.var (i := 14) (by decide +kernel)) (h.var (i := 10) (by decide +kernel))) (pCons (de_cmpX (h.cmpO (C := 0) T.d_File___eq__ F_File___eq__ (by decide) T.ok_File) (h.var (i := 14) (by decide +kernel)) (h.var (i := 11) (by decide +kernel))) da_nil)))))
  (ds_cons (ds_if (pCmpT h.rm (h.bi (cd_repr h.rm) (by decide +kernel) T.z_repr rfl (pCons (h.var (i := 8) (by decide +kernel)) da_nil)) (h.bi (cd_repr h.rm) (by decide +kernel) T.z_repr rfl (pCons (de_lst (m := false) (pCons de_bl (pCons (de_not (h.var (i := 12) (by decide +kernel))) (pCons (de_and (h.var (i := 12) (by decide +kernel)) (de_one (pCmp h.rm (pIdx (h.var (i := 5) (by decide +kernel)) (h.var (i := 16) (by decide +kernel))) (h.var (i := 17) (by decide +kernel))))) da_nil)))) da_nil))) (ds_cons (ds_ret de_bl)
  ds_nil) ds_nil)
  (ds_cons (h.loop hp (di_seq (pBin false (h.var (i := 3) (by decide +kernel)) (h.lc (m := false) (g := .nm 21) [("_law_k", 21)] (h.rng1 (by decide +kernel) T.z_range (pCons de_int da_nil)) (by decide +kernel) (by decide) (fun _ h => (h.vnm (i := 21) (by decide +kernel))) (fun _ h => ts_nil) (fun _ h => (h.call F__law_odd (by decide) (by decide +kernel) T.m__law_odd T.k__law_odd (pCons (h.var (i := 2) (by decide +kernel)) (pCons (h.var (i := 3) (by decide +kernel)) da_nil))))))) (dg_tg (g := .nm 13) (h.vnm (i := 13) (by decide +kernel))) (ds_cons (h.set (i := 20) (by decide +kernel) (de_and (h.bi (h.isi T.isi) (by decide +kernel) T.z_isinstance rfl (pCons (h.var (i := 13) (by decide +kernel)) (pCons (h.ty (T := .tup) (by decide +kernel) T.z_tuple rfl (fun _ e => by cases e)) da_nil))) (de_one (pCmp h.rm (h.var (i := 13) (by decide +kernel)) (h.var (i := 5) (by decide +kernel))))))
  (ds_cons (ds_if (pCmpT h.rm (h.bi (cd_repr h.rm) (by decide +kernel) T.z_repr rfl (pCons (de_cmpX (h.inO (C := 0) T.d_File___contains__ F_File___contains__ (by decide)) (h.var (i := 13) (by decide +kernel)) (h.var (i := 14) (by decide +kernel))) da_nil)) (h.bi (cd_repr h.rm) (by decide +kernel) T.z_repr rfl (pCons (h.var (i := 20) (by decide +kernel)) da_nil))) (ds_cons (ds_ret de_bl)
  ds_nil) ds_nil)
  ds_nil)))
  (ds_cons (ds_if (dt_not (pVal (h.call F__law_is_file (by decide) (by decide +kernel) T.m__law_is_file T.k__law_is_file (pCons (h.var (i := 14) (by decide +kernel)) (pCons (h.var (i := 5) (by decide +kernel)) da_nil))))) (ds_cons (ds_ret de_bl)
  ds_nil) ds_nil)
  ds_nil))))))))))))))))))))))))))
  (ds_cons (ds_ret (de_and (de_cmpX (h.cmpO (C := 0) T.d_File___eq__ F_File___eq__ (by decide) T.ok_File) (h.make0 (C := 0) (m := false) T.mk_File F_File___init__ (by decide) (by decide +kernel) T.m_File) (h.cmet (C := 0) (by decide +kernel) T.m_File T.cr_File T.cm_File_of F_File_of (by decide) (pCons (de_lst (m := false) da_nil) da_nil))) (de_one (pCmp h.rm (h.lenO (C := 0) T.d_File___len__ F_File___len__ (by decide) (by decide +kernel) T.z_len (pCons (h.make0 (C := 0) (m := false) T.mk_File F_File___init__ (by decide) (by decide +kernel) T.m_File) da_nil)) de_int))))
  ds_nil))
theorem n_law {sp__law_bag : DSp} {sp__law_pool : DSp} {sp__law_draw : DSp} {sp__law_lines : DSp} {sp_File_of : DSp} {sp__law_direct : DSp} {sp__law_is_file : DSp} {sp_File___eq__ : DSp} {sp__law_odd : DSp} {sp_File___contains__ : DSp} {sp_File___init__ : DSp} {sp_File___len__ : DSp} (T : Tx K mg) (F__law_bag : FnD P w (cc K T.A) mg base 1 T.f__law_bag sp__law_bag) (F__law_pool : FnD P w (cc K T.A) mg base 3 T.f__law_pool sp__law_pool) (F__law_draw : FnD P w (cc K T.A) mg base 1 T.f__law_draw sp__law_draw) (F__law_lines : FnD P w (cc K T.A) mg base 2 T.f__law_lines sp__law_lines) (F_File_of : FnD P w (cc K T.A) mg base 6 T.f_File_of sp_File_of) (F__law_direct : FnD P w (cc K T.A) mg base 6 T.f__law_direct sp__law_direct) (F__law_is_file : FnD P w (cc K T.A) mg base 8 T.f__law_is_file sp__law_is_file) (F_File___eq__ : FnD P w (cc K T.A) mg base 1 T.f_File___eq__ sp_File___eq__) (F__law_odd : FnD P w (cc K T.A) mg base 2 T.f__law_odd sp__law_odd) (F_File___contains__ : FnD P w (cc K T.A) mg base 4 T.f_File___contains__ sp_File___contains__) (F_File___init__ : FnD P w (cc K T.A) mg base 4 T.f_File___init__ sp_File___init__) (F_File___len__ : FnD P w (cc K T.A) mg base 1 T.f_File___len__ sp_File___len__) : FnD P w (cc K T.A) mg base 9 T.f_law (bodySp 22 1 (r_law sp__law_bag sp__law_pool sp__law_draw sp__law_lines sp_File_of sp__law_direct sp__law_is_file sp_File___eq__ sp__law_odd sp_File___contains__ sp_File___init__ sp_File___len__)) :=
  fnd_mk T.p_law sc_law (fun _ _ _ _ _ _ us hl => match us, hl with | [_], _ => rfl) fun X W h hp => b_law T F__law_bag F__law_pool F__law_draw F__law_lines F_File_of F__law_direct F__law_is_file F_File___eq__ F__law_odd F_File___contains__ F_File___init__ F_File___len__ h hp
end
end DL

-- cfg k02
namespace DL
open PySem PySem.Spec PyProof.Rows L2

/-! ### words, names, lines -/
def lowB (k : Nat) : Bool := decide (97 ≤ k) && decide (k ≤ 122)
theorem let_list : (Str.ofString "abcdefghijklmnopqrstuvwxyz").cps.toList = List.range' 97 26 := by decide +kernel
theorem in_let (k : Nat) : inStr ⟨#[k]⟩ (Str.ofString "abcdefghijklmnopqrstuvwxyz") = lowB k := by
  show decide (k ∈ (Str.ofString "abcdefghijklmnopqrstuvwxyz").cps.toList) = lowB k
  rw [let_list]
  unfold lowB
  rw [← Bool.decide_and]
  exact decide_eq_decide.mpr (by rw [List.mem_range'_1]; omega)
def isWordS (z : Str) : Bool := decide (1 ≤ z.length) && decide (z.length ≤ 8) && z.cps.toList.all lowB
def isNameS (z : Str) : Bool := if cutS z (some (-1)) none = (Str.ofString "!") then isWordS (cutS z none (some (-1))) else isWordS z
def isT : D → Bool
  | .non => true
  | .bl _ => true
  | .int _ => true
  | .str _ => true
  | .tup _ => true
  | .lst _ => true
  | .ins 0 _ => true
  | _ => false
def wordD : D → Bool
  | .str z => isWordS z
  | _ => false
def nameD : D → Bool
  | .str z => isNameS z
  | _ => false
def lineD : D → Bool
  | .tup [a, .str z] => wordD a && (decide (z = Str.ofString "") || isNameS z)
  | _ => false
def sp_is_word : DSp := fun ds S Q _ => ∃ x, ds = [x] ∧ isT x = true ∧ Q (.bl (wordD x)) S
def sp_is_name : DSp := fun ds S Q _ => ∃ x, ds = [x] ∧ isT x = true ∧ Q (.bl (nameD x)) S
def isTh (x : D) : Prop := isT x = true ∧ ∀ a b, x = .tup [a, b] → isT a = true ∧ isT b = true
def sp_is_line : DSp := fun ds S Q _ => ∃ x, ds = [x] ∧ isTh x ∧ Q (.bl (lineD x)) S
theorem word_ok : ∀ ds S Q E, sp_is_word ds S Q E → bodySp 2 1 r_is_word ds S Q E := by
  rintro ds S Q E ⟨x, ed, hx, q⟩
  subst ed
  unfold r_is_word
  cases x with
  | str z =>
    simp only [x_spr, startD, List.map_cons, List.map_nil, List.length_cons, List.length_nil, Nat.reduceAdd, Nat.reduceSub, Int.reduceLT, Int.reduceLE, Int.reduceToNat,  Int.reducePow, Int.reduceNeg, Nat.reduceLT, Nat.reduceLeDiff, Nat.reducePow, List.replicate_succ, List.replicate_zero, List.cons_append, List.nil_append, sSeq, sIf, sRet, sRetN, sNext, sAsg, sDrop, gNm, gOf, Tg.d, Tg.ds, dVar, dCst, dNil, dCons, dOp, dUn, dChain, dBl, dAnd, dOr, dNot, dIf, dTst, dCall, dCB, dLst, dTup, dM1, gSubD, mkL, dYes, dPart, dSlc, iEnumD, iSeqD, iRng1D, iRng2D, sFor, dLc, wipeD, si_str, si_tup, si_lst, si_cst, x_slcs, x_slct, x_slcl, x_slcc, dFld, insOf, sFldD, x_frz, dMake, dMt, x_isref, x_app, x_pop,
  x_lt, x_le, x_gt, x_ge, x_eqi, x_nei, x_eqs, x_nes, x_ner, x_eqr, x_in, x_nin, x_is, x_isnt, x_add, x_adds, x_addt, x_addl, x_sub, x_mul, x_div, x_mod, x_pow, x_neg, x_int, x_abs, x_max, x_min, x_len, len_str, len_tup, len_lst, len_cst, x_idxs, x_idxt, x_idxl, x_idxc, x_idxr, x_isi, ty_str, ty_int, ty_bl, ty_non, ty_tup, ty_lst, ty_cst, ty_ins, tr_bl, tr_int, tr_str, tr_tup, tr_lst, tr_non, x_all, x_ends, x_starts, at_0, at_1, at_2, ix_0, ix_1,
  List.getElem?_cons_zero, List.getElem?_cons_succ, List.getElem?_nil, List.set_cons_zero, List.set_cons_succ, List.set_nil, Option.some.injEq, exists_eq_left', exists_eq_left, exists_and_left, Bool.false_eq_true, if_false, if_true, D.int.injEq, D.bl.injEq, D.ref.injEq, D.str.injEq, D.lst.injEq, D.tup.injEq, MO.lst.injEq, MO.ins.injEq, List.cons.injEq, Prod.mk.injEq, and_true, true_and, and_assoc, decide_eq_true_eq, Sto.set_same, Sto.set_set, reduceCtorEq, false_and, exists_false, false_or, or_false, ne_eq, not_false_eq_true, exists_eq', Bool.not_true, Bool.not_false, Bool.not_eq_true', decide_eq_false_iff_not, li_0, li_1, li_2, li_3, li_4, li_5, li_6, li_7, li_8, li_9, li_10, li_11, li_12, li_13, li_14, li_15, li_16, li_17, li_18, li_19, li_20, li_21, li_22, li_23]
    by_cases h1 : (1 : Int) ≤ z.length
    · rw [if_pos h1]
      by_cases h2 : (z.length : Int) ≤ 8
      · simp only [x_spr, startD, List.map_cons, List.map_nil, List.length_cons, List.length_nil, Nat.reduceAdd, Nat.reduceSub, Int.reduceLT, Int.reduceLE, Int.reduceToNat,  Int.reducePow, Int.reduceNeg, Nat.reduceLT, Nat.reduceLeDiff, Nat.reducePow, List.replicate_succ, List.replicate_zero, List.cons_append, List.nil_append, sSeq, sIf, sRet, sRetN, sNext, sAsg, sDrop, gNm, gOf, Tg.d, Tg.ds, dVar, dCst, dNil, dCons, dOp, dUn, dChain, dBl, dAnd, dOr, dNot, dIf, dTst, dCall, dCB, dLst, dTup, dM1, gSubD, mkL, dYes, dPart, dSlc, iEnumD, iSeqD, iRng1D, iRng2D, sFor, dLc, wipeD, si_str, si_tup, si_lst, si_cst, x_slcs, x_slct, x_slcl, x_slcc, dFld, insOf, sFldD, x_frz, dMake, dMt, x_isref, x_app, x_pop,
  x_lt, x_le, x_gt, x_ge, x_eqi, x_nei, x_eqs, x_nes, x_ner, x_eqr, x_in, x_nin, x_is, x_isnt, x_add, x_adds, x_addt, x_addl, x_sub, x_mul, x_div, x_mod, x_pow, x_neg, x_int, x_abs, x_max, x_min, x_len, len_str, len_tup, len_lst, len_cst, x_idxs, x_idxt, x_idxl, x_idxc, x_idxr, x_isi, ty_str, ty_int, ty_bl, ty_non, ty_tup, ty_lst, ty_cst, ty_ins, tr_bl, tr_int, tr_str, tr_tup, tr_lst, tr_non, x_all, x_ends, x_starts, at_0, at_1, at_2, ix_0, ix_1,
  List.getElem?_cons_zero, List.getElem?_cons_succ, List.getElem?_nil, List.set_cons_zero, List.set_cons_succ, List.set_nil, Option.some.injEq, exists_eq_left', exists_eq_left, exists_and_left, Bool.false_eq_true, if_false, if_true, D.int.injEq, D.bl.injEq, D.ref.injEq, D.str.injEq, D.lst.injEq, D.tup.injEq, MO.lst.injEq, MO.ins.injEq, List.cons.injEq, Prod.mk.injEq, and_true, true_and, and_assoc, decide_eq_true_eq, Sto.set_same, Sto.set_set, reduceCtorEq, false_and, exists_false, false_or, or_false, ne_eq, not_false_eq_true, exists_eq', Bool.not_true, Bool.not_false, Bool.not_eq_true', decide_eq_false_iff_not, h2]
        refine ⟨Nat.le_trans ?_ (lt_line (n := 8) (by decide)), ?_⟩
        · rw [List.length_map]
          have : z.cps.toList.length = z.length := by simp; rfl
          omega
        refine lcGo_map (fun d => match d with | .str y => .bl (inStr y (Str.ofString "abcdefghijklmnopqrstuvwxyz")) | _ => .non) trivial _ (fun d hd Kn hk => ?_) ?_
        · obtain ⟨k, _, ek⟩ := List.mem_map.mp hd
          subst ek
          unfold chD at hk ⊢
          simp only [x_spr, startD, List.map_cons, List.map_nil, List.length_cons, List.length_nil, Nat.reduceAdd, Nat.reduceSub, Int.reduceLT, Int.reduceLE, Int.reduceToNat,  Int.reducePow, Int.reduceNeg, Nat.reduceLT, Nat.reduceLeDiff, Nat.reducePow, List.replicate_succ, List.replicate_zero, List.cons_append, List.nil_append, sSeq, sIf, sRet, sRetN, sNext, sAsg, sDrop, gNm, gOf, Tg.d, Tg.ds, dVar, dCst, dNil, dCons, dOp, dUn, dChain, dBl, dAnd, dOr, dNot, dIf, dTst, dCall, dCB, dLst, dTup, dM1, gSubD, mkL, dYes, dPart, dSlc, iEnumD, iSeqD, iRng1D, iRng2D, sFor, dLc, wipeD, si_str, si_tup, si_lst, si_cst, x_slcs, x_slct, x_slcl, x_slcc, dFld, insOf, sFldD, x_frz, dMake, dMt, x_isref, x_app, x_pop,
  x_lt, x_le, x_gt, x_ge, x_eqi, x_nei, x_eqs, x_nes, x_ner, x_eqr, x_in, x_nin, x_is, x_isnt, x_add, x_adds, x_addt, x_addl, x_sub, x_mul, x_div, x_mod, x_pow, x_neg, x_int, x_abs, x_max, x_min, x_len, len_str, len_tup, len_lst, len_cst, x_idxs, x_idxt, x_idxl, x_idxc, x_idxr, x_isi, ty_str, ty_int, ty_bl, ty_non, ty_tup, ty_lst, ty_cst, ty_ins, tr_bl, tr_int, tr_str, tr_tup, tr_lst, tr_non, x_all, x_ends, x_starts, at_0, at_1, at_2, ix_0, ix_1,
  List.getElem?_cons_zero, List.getElem?_cons_succ, List.getElem?_nil, List.set_cons_zero, List.set_cons_succ, List.set_nil, Option.some.injEq, exists_eq_left', exists_eq_left, exists_and_left, Bool.false_eq_true, if_false, if_true, D.int.injEq, D.bl.injEq, D.ref.injEq, D.str.injEq, D.lst.injEq, D.tup.injEq, MO.lst.injEq, MO.ins.injEq, List.cons.injEq, Prod.mk.injEq, and_true, true_and, and_assoc, decide_eq_true_eq, Sto.set_same, Sto.set_set, reduceCtorEq, false_and, exists_false, false_or, or_false, ne_eq, not_false_eq_true, exists_eq', Bool.not_true, Bool.not_false, Bool.not_eq_true', decide_eq_false_iff_not, wipeD]
          exact hk
        · have e : (z.cps.toList.map chD).map (fun d => match d with | .str y => D.bl (inStr y (Str.ofString "abcdefghijklmnopqrstuvwxyz")) | _ => .non) = (z.cps.toList.map lowB).map D.bl := by
            rw [List.map_map, List.map_map]
            refine List.map_congr_left fun k _ => ?_
            show D.bl (inStr ⟨#[k]⟩ _) = D.bl (lowB k)
            rw [in_let]
          show rAllD [D.lst _] S Q DX0
          rw [e, x_all]
          have e2 : wordD (.str z) = (z.cps.toList.map lowB).all id := by
            show (decide (1 ≤ z.length) && decide (z.length ≤ 8) && z.cps.toList.all lowB) = _
            rw [decide_eq_true (by omega : 1 ≤ z.length), decide_eq_true (by omega : z.length ≤ 8), List.all_map]
            rfl
          rw [← e2]
          exact q
      · have e2 : wordD (.str z) = false := by
          show (decide (1 ≤ z.length) && decide (z.length ≤ 8) && z.cps.toList.all lowB) = _
          rw [decide_eq_false (by omega : ¬ z.length ≤ 8), Bool.and_false, Bool.false_and]
        rw [e2] at q
        simp only [x_spr, startD, List.map_cons, List.map_nil, List.length_cons, List.length_nil, Nat.reduceAdd, Nat.reduceSub, Int.reduceLT, Int.reduceLE, Int.reduceToNat,  Int.reducePow, Int.reduceNeg, Nat.reduceLT, Nat.reduceLeDiff, Nat.reducePow, List.replicate_succ, List.replicate_zero, List.cons_append, List.nil_append, sSeq, sIf, sRet, sRetN, sNext, sAsg, sDrop, gNm, gOf, Tg.d, Tg.ds, dVar, dCst, dNil, dCons, dOp, dUn, dChain, dBl, dAnd, dOr, dNot, dIf, dTst, dCall, dCB, dLst, dTup, dM1, gSubD, mkL, dYes, dPart, dSlc, iEnumD, iSeqD, iRng1D, iRng2D, sFor, dLc, wipeD, si_str, si_tup, si_lst, si_cst, x_slcs, x_slct, x_slcl, x_slcc, dFld, insOf, sFldD, x_frz, dMake, dMt, x_isref, x_app, x_pop,
  x_lt, x_le, x_gt, x_ge, x_eqi, x_nei, x_eqs, x_nes, x_ner, x_eqr, x_in, x_nin, x_is, x_isnt, x_add, x_adds, x_addt, x_addl, x_sub, x_mul, x_div, x_mod, x_pow, x_neg, x_int, x_abs, x_max, x_min, x_len, len_str, len_tup, len_lst, len_cst, x_idxs, x_idxt, x_idxl, x_idxc, x_idxr, x_isi, ty_str, ty_int, ty_bl, ty_non, ty_tup, ty_lst, ty_cst, ty_ins, tr_bl, tr_int, tr_str, tr_tup, tr_lst, tr_non, x_all, x_ends, x_starts, at_0, at_1, at_2, ix_0, ix_1,
  List.getElem?_cons_zero, List.getElem?_cons_succ, List.getElem?_nil, List.set_cons_zero, List.set_cons_succ, List.set_nil, Option.some.injEq, exists_eq_left', exists_eq_left, exists_and_left, Bool.false_eq_true, if_false, if_true, D.int.injEq, D.bl.injEq, D.ref.injEq, D.str.injEq, D.lst.injEq, D.tup.injEq, MO.lst.injEq, MO.ins.injEq, List.cons.injEq, Prod.mk.injEq, and_true, true_and, and_assoc, decide_eq_true_eq, Sto.set_same, Sto.set_set, reduceCtorEq, false_and, exists_false, false_or, or_false, ne_eq, not_false_eq_true, exists_eq', Bool.not_true, Bool.not_false, Bool.not_eq_true', decide_eq_false_iff_not, h2]
        exact q
    · have e2 : wordD (.str z) = false := by
        show (decide (1 ≤ z.length) && decide (z.length ≤ 8) && z.cps.toList.all lowB) = _
        rw [decide_eq_false (by omega : ¬ 1 ≤ z.length), Bool.false_and, Bool.false_and]
      rw [e2] at q
      simp only [x_spr, startD, List.map_cons, List.map_nil, List.length_cons, List.length_nil, Nat.reduceAdd, Nat.reduceSub, Int.reduceLT, Int.reduceLE, Int.reduceToNat,  Int.reducePow, Int.reduceNeg, Nat.reduceLT, Nat.reduceLeDiff, Nat.reducePow, List.replicate_succ, List.replicate_zero, List.cons_append, List.nil_append, sSeq, sIf, sRet, sRetN, sNext, sAsg, sDrop, gNm, gOf, Tg.d, Tg.ds, dVar, dCst, dNil, dCons, dOp, dUn, dChain, dBl, dAnd, dOr, dNot, dIf, dTst, dCall, dCB, dLst, dTup, dM1, gSubD, mkL, dYes, dPart, dSlc, iEnumD, iSeqD, iRng1D, iRng2D, sFor, dLc, wipeD, si_str, si_tup, si_lst, si_cst, x_slcs, x_slct, x_slcl, x_slcc, dFld, insOf, sFldD, x_frz, dMake, dMt, x_isref, x_app, x_pop,
  x_lt, x_le, x_gt, x_ge, x_eqi, x_nei, x_eqs, x_nes, x_ner, x_eqr, x_in, x_nin, x_is, x_isnt, x_add, x_adds, x_addt, x_addl, x_sub, x_mul, x_div, x_mod, x_pow, x_neg, x_int, x_abs, x_max, x_min, x_len, len_str, len_tup, len_lst, len_cst, x_idxs, x_idxt, x_idxl, x_idxc, x_idxr, x_isi, ty_str, ty_int, ty_bl, ty_non, ty_tup, ty_lst, ty_cst, ty_ins, tr_bl, tr_int, tr_str, tr_tup, tr_lst, tr_non, x_all, x_ends, x_starts, at_0, at_1, at_2, ix_0, ix_1,
  List.getElem?_cons_zero, List.getElem?_cons_succ, List.getElem?_nil, List.set_cons_zero, List.set_cons_succ, List.set_nil, Option.some.injEq, exists_eq_left', exists_eq_left, exists_and_left, Bool.false_eq_true, if_false, if_true, D.int.injEq, D.bl.injEq, D.ref.injEq, D.str.injEq, D.lst.injEq, D.tup.injEq, MO.lst.injEq, MO.ins.injEq, List.cons.injEq, Prod.mk.injEq, and_true, true_and, and_assoc, decide_eq_true_eq, Sto.set_same, Sto.set_set, reduceCtorEq, false_and, exists_false, false_or, or_false, ne_eq, not_false_eq_true, exists_eq', Bool.not_true, Bool.not_false, Bool.not_eq_true', decide_eq_false_iff_not, h1]
      exact q
  | ins C xs => cases C with
    | zero => simp only [x_spr, startD, List.map_cons, List.map_nil, List.length_cons, List.length_nil, Nat.reduceAdd, Nat.reduceSub, Int.reduceLT, Int.reduceLE, Int.reduceToNat,  Int.reducePow, Int.reduceNeg, Nat.reduceLT, Nat.reduceLeDiff, Nat.reducePow, List.replicate_succ, List.replicate_zero, List.cons_append, List.nil_append, sSeq, sIf, sRet, sRetN, sNext, sAsg, sDrop, gNm, gOf, Tg.d, Tg.ds, dVar, dCst, dNil, dCons, dOp, dUn, dChain, dBl, dAnd, dOr, dNot, dIf, dTst, dCall, dCB, dLst, dTup, dM1, gSubD, mkL, dYes, dPart, dSlc, iEnumD, iSeqD, iRng1D, iRng2D, sFor, dLc, wipeD, si_str, si_tup, si_lst, si_cst, x_slcs, x_slct, x_slcl, x_slcc, dFld, insOf, sFldD, x_frz, dMake, dMt, x_isref, x_app, x_pop,
  x_lt, x_le, x_gt, x_ge, x_eqi, x_nei, x_eqs, x_nes, x_ner, x_eqr, x_in, x_nin, x_is, x_isnt, x_add, x_adds, x_addt, x_addl, x_sub, x_mul, x_div, x_mod, x_pow, x_neg, x_int, x_abs, x_max, x_min, x_len, len_str, len_tup, len_lst, len_cst, x_idxs, x_idxt, x_idxl, x_idxc, x_idxr, x_isi, ty_str, ty_int, ty_bl, ty_non, ty_tup, ty_lst, ty_cst, ty_ins, tr_bl, tr_int, tr_str, tr_tup, tr_lst, tr_non, x_all, x_ends, x_starts, at_0, at_1, at_2, ix_0, ix_1,
  List.getElem?_cons_zero, List.getElem?_cons_succ, List.getElem?_nil, List.set_cons_zero, List.set_cons_succ, List.set_nil, Option.some.injEq, exists_eq_left', exists_eq_left, exists_and_left, Bool.false_eq_true, if_false, if_true, D.int.injEq, D.bl.injEq, D.ref.injEq, D.str.injEq, D.lst.injEq, D.tup.injEq, MO.lst.injEq, MO.ins.injEq, List.cons.injEq, Prod.mk.injEq, and_true, true_and, and_assoc, decide_eq_true_eq, Sto.set_same, Sto.set_set, reduceCtorEq, false_and, exists_false, false_or, or_false, ne_eq, not_false_eq_true, exists_eq', Bool.not_true, Bool.not_false, Bool.not_eq_true', decide_eq_false_iff_not, li_0, li_1, li_2, li_3, li_4, li_5, li_6, li_7, li_8, li_9, li_10, li_11, li_12, li_13, li_14, li_15, li_16, li_17, li_18, li_19, li_20, li_21, li_22, li_23]; exact q
    | succ n => cases hx
  | ref _ => cases hx
  | ty _ => cases hx
  | rp _ => cases hx
  | cst _ => cases hx
  | _ => simp only [x_spr, startD, List.map_cons, List.map_nil, List.length_cons, List.length_nil, Nat.reduceAdd, Nat.reduceSub, Int.reduceLT, Int.reduceLE, Int.reduceToNat,  Int.reducePow, Int.reduceNeg, Nat.reduceLT, Nat.reduceLeDiff, Nat.reducePow, List.replicate_succ, List.replicate_zero, List.cons_append, List.nil_append, sSeq, sIf, sRet, sRetN, sNext, sAsg, sDrop, gNm, gOf, Tg.d, Tg.ds, dVar, dCst, dNil, dCons, dOp, dUn, dChain, dBl, dAnd, dOr, dNot, dIf, dTst, dCall, dCB, dLst, dTup, dM1, gSubD, mkL, dYes, dPart, dSlc, iEnumD, iSeqD, iRng1D, iRng2D, sFor, dLc, wipeD, si_str, si_tup, si_lst, si_cst, x_slcs, x_slct, x_slcl, x_slcc, dFld, insOf, sFldD, x_frz, dMake, dMt, x_isref, x_app, x_pop,
  x_lt, x_le, x_gt, x_ge, x_eqi, x_nei, x_eqs, x_nes, x_ner, x_eqr, x_in, x_nin, x_is, x_isnt, x_add, x_adds, x_addt, x_addl, x_sub, x_mul, x_div, x_mod, x_pow, x_neg, x_int, x_abs, x_max, x_min, x_len, len_str, len_tup, len_lst, len_cst, x_idxs, x_idxt, x_idxl, x_idxc, x_idxr, x_isi, ty_str, ty_int, ty_bl, ty_non, ty_tup, ty_lst, ty_cst, ty_ins, tr_bl, tr_int, tr_str, tr_tup, tr_lst, tr_non, x_all, x_ends, x_starts, at_0, at_1, at_2, ix_0, ix_1,
  List.getElem?_cons_zero, List.getElem?_cons_succ, List.getElem?_nil, List.set_cons_zero, List.set_cons_succ, List.set_nil, Option.some.injEq, exists_eq_left', exists_eq_left, exists_and_left, Bool.false_eq_true, if_false, if_true, D.int.injEq, D.bl.injEq, D.ref.injEq, D.str.injEq, D.lst.injEq, D.tup.injEq, MO.lst.injEq, MO.ins.injEq, List.cons.injEq, Prod.mk.injEq, and_true, true_and, and_assoc, decide_eq_true_eq, Sto.set_same, Sto.set_set, reduceCtorEq, false_and, exists_false, false_or, or_false, ne_eq, not_false_eq_true, exists_eq', Bool.not_true, Bool.not_false, Bool.not_eq_true', decide_eq_false_iff_not, li_0, li_1, li_2, li_3, li_4, li_5, li_6, li_7, li_8, li_9, li_10, li_11, li_12, li_13, li_14, li_15, li_16, li_17, li_18, li_19, li_20, li_21, li_22, li_23]; exact q
theorem str_ext {a b : Str} (h : a.cps.toList = b.cps.toList) : a = b := by
  obtain ⟨⟨x⟩⟩ := a
  obtain ⟨⟨y⟩⟩ := b
  cases h
  rfl
theorem len_list (z : Str) : z.cps.toList.length = z.length := by simp; rfl
theorem bang_list : (Str.ofString "!").cps.toList = [33] := by decide +kernel
theorem cut_list (z : Str) (lo hi : Option Int) : (cutS z lo hi).cps.toList = (z.cps.toList.drop (HT.sIx z.length 0 lo)).take (HT.sIx z.length z.length hi - HT.sIx z.length 0 lo) := by
  unfold cutS
  simp
theorem ends_cut (z : Str) : Txt.endswith z (Str.ofString "!") = decide (cutS z (some (-1)) none = (Str.ofString "!")) := by
  have e : (Txt.endswith z (Str.ofString "!") = true) ↔ cutS z (some (-1)) none = (Str.ofString "!") := by
    have l1 : (Str.ofString "!").length = 1 := by decide +kernel
    have s1 : HT.sIx z.length 0 (some (-1)) = z.length - 1 := by
      show (if (-1 : Int) < 0 then ((-1 : Int) + (z.length : Int)).toNat else min (-1 : Int).toNat z.length) = z.length - 1
      rw [if_pos (by decide)]
      omega
    have c : (cutS z (some (-1)) none).cps.toList = (z.cps.toList.drop (z.length - 1)).take (z.length - (z.length - 1)) := by
      rw [cut_list, s1]
      rfl
    unfold Txt.endswith
    rw [PySem.StrLaws.subAt_eq, l1, bang_list, Bool.and_eq_true, decide_eq_true_eq, beq_iff_eq]
    constructor
    · rintro ⟨h1, h2⟩
      refine str_ext ?_
      rw [c, bang_list, ← h2, show z.length - (z.length - 1) = 1 by omega]
    · intro h
      have h2 := congrArg (fun y : Str => y.cps.toList) h
      have h2 : (cutS z (some (-1)) none).cps.toList = (Str.ofString "!").cps.toList := h2
      rw [c, bang_list] at h2
      have hl := congrArg List.length h2
      rw [List.length_take, List.length_drop, len_list] at hl
      have : 1 ≤ z.length := by
        simp at hl
        omega
      rw [show z.length - (z.length - 1) = 1 by omega] at h2
      exact ⟨by omega, h2⟩
  by_cases h : cutS z (some (-1)) none = (Str.ofString "!")
  · rw [decide_eq_true h]
    exact e.mpr h
  · rw [decide_eq_false h]
    exact Bool.eq_false_iff.mpr fun k => h (e.mp k)
theorem name_eq (z : Str) : isNameS z = (isWordS z || (Txt.endswith z (Str.ofString "!") && isWordS (cutS z none (some ((z.length : Int) - 1))))) := by
  rw [ends_cut]
  unfold isNameS
  by_cases h : cutS z (some (-1)) none = (Str.ofString "!")
  · rw [if_pos h, decide_eq_true h, Bool.true_and]
    have h2 := congrArg (fun y : Str => y.cps.toList) h
    have h2 : (cutS z (some (-1)) none).cps.toList = (Str.ofString "!").cps.toList := h2
    rw [cut_list, bang_list] at h2
    have m : (33 : Nat) ∈ z.cps.toList := List.mem_of_mem_drop (List.mem_of_mem_take (by rw [h2]; exact List.mem_cons_self ..))
    have nw : isWordS z = false := by
      unfold isWordS
      have : z.cps.toList.all lowB = false := by
        rw [List.all_eq_false]
        exact ⟨33, m, by decide⟩
      rw [this, Bool.and_false]
    have hp : 0 < z.length := by
      rw [← len_list]
      exact List.length_pos_of_mem m
    rw [nw, Bool.false_or]
    congr 1
    refine str_ext ?_
    rw [cut_list, cut_list]
    congr 2
    show (if (-1 : Int) < 0 then ((-1 : Int) + (z.length : Int)).toNat else min (-1 : Int).toNat z.length) = (if (z.length : Int) - 1 < 0 then ((z.length : Int) - 1 + (z.length : Int)).toNat else min ((z.length : Int) - 1).toNat z.length)
    rw [if_pos (by decide), if_neg (by omega)]
    omega
  · rw [if_neg h, decide_eq_false h, Bool.false_and, Bool.or_false]
theorem name_ok : ∀ ds S Q E, sp_is_name ds S Q E → bodySp 1 1 (r_is_name sp_is_word) ds S Q E := by
  rintro ds S Q E ⟨x, ed, hx, q⟩
  subst ed
  unfold r_is_name
  cases x with
  | str z =>
    simp only [x_spr, startD, List.map_cons, List.map_nil, List.length_cons, List.length_nil, Nat.reduceAdd, Nat.reduceSub, Int.reduceLT, Int.reduceLE, Int.reduceToNat,  Int.reducePow, Int.reduceNeg, Nat.reduceLT, Nat.reduceLeDiff, Nat.reducePow, List.replicate_succ, List.replicate_zero, List.cons_append, List.nil_append, sSeq, sIf, sRet, sRetN, sNext, sAsg, sDrop, gNm, gOf, Tg.d, Tg.ds, dVar, dCst, dNil, dCons, dOp, dUn, dChain, dBl, dAnd, dOr, dNot, dIf, dTst, dCall, dCB, dLst, dTup, dM1, gSubD, mkL, dYes, dPart, dSlc, iEnumD, iSeqD, iRng1D, iRng2D, sFor, dLc, wipeD, si_str, si_tup, si_lst, si_cst, x_slcs, x_slct, x_slcl, x_slcc, dFld, insOf, sFldD, x_frz, dMake, dMt, x_isref, x_app, x_pop,
  x_lt, x_le, x_gt, x_ge, x_eqi, x_nei, x_eqs, x_nes, x_ner, x_eqr, x_in, x_nin, x_is, x_isnt, x_add, x_adds, x_addt, x_addl, x_sub, x_mul, x_div, x_mod, x_pow, x_neg, x_int, x_abs, x_max, x_min, x_len, len_str, len_tup, len_lst, len_cst, x_idxs, x_idxt, x_idxl, x_idxc, x_idxr, x_isi, ty_str, ty_int, ty_bl, ty_non, ty_tup, ty_lst, ty_cst, ty_ins, tr_bl, tr_int, tr_str, tr_tup, tr_lst, tr_non, x_all, x_ends, x_starts, at_0, at_1, at_2, ix_0, ix_1,
  List.getElem?_cons_zero, List.getElem?_cons_succ, List.getElem?_nil, List.set_cons_zero, List.set_cons_succ, List.set_nil, Option.some.injEq, exists_eq_left', exists_eq_left, exists_and_left, Bool.false_eq_true, if_false, if_true, D.int.injEq, D.bl.injEq, D.ref.injEq, D.str.injEq, D.lst.injEq, D.tup.injEq, MO.lst.injEq, MO.ins.injEq, List.cons.injEq, Prod.mk.injEq, and_true, true_and, and_assoc, decide_eq_true_eq, Sto.set_same, Sto.set_set, reduceCtorEq, false_and, exists_false, false_or, or_false, ne_eq, not_false_eq_true, exists_eq', Bool.not_true, Bool.not_false, Bool.not_eq_true', decide_eq_false_iff_not, li_0, li_1, li_2, li_3, li_4, li_5, li_6, li_7, li_8, li_9, li_10, li_11, li_12, li_13, li_14, li_15, li_16, li_17, li_18, li_19, li_20, li_21, li_22, li_23, sp_is_word]
    have q : Q (.bl (isNameS z)) S := q
    unfold isNameS at q
    by_cases h : cutS z (some (-1)) none = (Str.ofString "!")
    · rw [if_pos h] at q ⊢
      first | exact q | exact ⟨rfl, q⟩
    · rw [if_neg h] at q ⊢
      first | exact q | exact ⟨rfl, q⟩
  | ins C xs => cases C with
    | zero => simp only [x_spr, startD, List.map_cons, List.map_nil, List.length_cons, List.length_nil, Nat.reduceAdd, Nat.reduceSub, Int.reduceLT, Int.reduceLE, Int.reduceToNat,  Int.reducePow, Int.reduceNeg, Nat.reduceLT, Nat.reduceLeDiff, Nat.reducePow, List.replicate_succ, List.replicate_zero, List.cons_append, List.nil_append, sSeq, sIf, sRet, sRetN, sNext, sAsg, sDrop, gNm, gOf, Tg.d, Tg.ds, dVar, dCst, dNil, dCons, dOp, dUn, dChain, dBl, dAnd, dOr, dNot, dIf, dTst, dCall, dCB, dLst, dTup, dM1, gSubD, mkL, dYes, dPart, dSlc, iEnumD, iSeqD, iRng1D, iRng2D, sFor, dLc, wipeD, si_str, si_tup, si_lst, si_cst, x_slcs, x_slct, x_slcl, x_slcc, dFld, insOf, sFldD, x_frz, dMake, dMt, x_isref, x_app, x_pop,
  x_lt, x_le, x_gt, x_ge, x_eqi, x_nei, x_eqs, x_nes, x_ner, x_eqr, x_in, x_nin, x_is, x_isnt, x_add, x_adds, x_addt, x_addl, x_sub, x_mul, x_div, x_mod, x_pow, x_neg, x_int, x_abs, x_max, x_min, x_len, len_str, len_tup, len_lst, len_cst, x_idxs, x_idxt, x_idxl, x_idxc, x_idxr, x_isi, ty_str, ty_int, ty_bl, ty_non, ty_tup, ty_lst, ty_cst, ty_ins, tr_bl, tr_int, tr_str, tr_tup, tr_lst, tr_non, x_all, x_ends, x_starts, at_0, at_1, at_2, ix_0, ix_1,
  List.getElem?_cons_zero, List.getElem?_cons_succ, List.getElem?_nil, List.set_cons_zero, List.set_cons_succ, List.set_nil, Option.some.injEq, exists_eq_left', exists_eq_left, exists_and_left, Bool.false_eq_true, if_false, if_true, D.int.injEq, D.bl.injEq, D.ref.injEq, D.str.injEq, D.lst.injEq, D.tup.injEq, MO.lst.injEq, MO.ins.injEq, List.cons.injEq, Prod.mk.injEq, and_true, true_and, and_assoc, decide_eq_true_eq, Sto.set_same, Sto.set_set, reduceCtorEq, false_and, exists_false, false_or, or_false, ne_eq, not_false_eq_true, exists_eq', Bool.not_true, Bool.not_false, Bool.not_eq_true', decide_eq_false_iff_not, li_0, li_1, li_2, li_3, li_4, li_5, li_6, li_7, li_8, li_9, li_10, li_11, li_12, li_13, li_14, li_15, li_16, li_17, li_18, li_19, li_20, li_21, li_22, li_23]; exact q
    | succ n => cases hx
  | ref _ => cases hx
  | ty _ => cases hx
  | rp _ => cases hx
  | cst _ => cases hx
  | _ => simp only [x_spr, startD, List.map_cons, List.map_nil, List.length_cons, List.length_nil, Nat.reduceAdd, Nat.reduceSub, Int.reduceLT, Int.reduceLE, Int.reduceToNat,  Int.reducePow, Int.reduceNeg, Nat.reduceLT, Nat.reduceLeDiff, Nat.reducePow, List.replicate_succ, List.replicate_zero, List.cons_append, List.nil_append, sSeq, sIf, sRet, sRetN, sNext, sAsg, sDrop, gNm, gOf, Tg.d, Tg.ds, dVar, dCst, dNil, dCons, dOp, dUn, dChain, dBl, dAnd, dOr, dNot, dIf, dTst, dCall, dCB, dLst, dTup, dM1, gSubD, mkL, dYes, dPart, dSlc, iEnumD, iSeqD, iRng1D, iRng2D, sFor, dLc, wipeD, si_str, si_tup, si_lst, si_cst, x_slcs, x_slct, x_slcl, x_slcc, dFld, insOf, sFldD, x_frz, dMake, dMt, x_isref, x_app, x_pop,
  x_lt, x_le, x_gt, x_ge, x_eqi, x_nei, x_eqs, x_nes, x_ner, x_eqr, x_in, x_nin, x_is, x_isnt, x_add, x_adds, x_addt, x_addl, x_sub, x_mul, x_div, x_mod, x_pow, x_neg, x_int, x_abs, x_max, x_min, x_len, len_str, len_tup, len_lst, len_cst, x_idxs, x_idxt, x_idxl, x_idxc, x_idxr, x_isi, ty_str, ty_int, ty_bl, ty_non, ty_tup, ty_lst, ty_cst, ty_ins, tr_bl, tr_int, tr_str, tr_tup, tr_lst, tr_non, x_all, x_ends, x_starts, at_0, at_1, at_2, ix_0, ix_1,
  List.getElem?_cons_zero, List.getElem?_cons_succ, List.getElem?_nil, List.set_cons_zero, List.set_cons_succ, List.set_nil, Option.some.injEq, exists_eq_left', exists_eq_left, exists_and_left, Bool.false_eq_true, if_false, if_true, D.int.injEq, D.bl.injEq, D.ref.injEq, D.str.injEq, D.lst.injEq, D.tup.injEq, MO.lst.injEq, MO.ins.injEq, List.cons.injEq, Prod.mk.injEq, and_true, true_and, and_assoc, decide_eq_true_eq, Sto.set_same, Sto.set_set, reduceCtorEq, false_and, exists_false, false_or, or_false, ne_eq, not_false_eq_true, exists_eq', Bool.not_true, Bool.not_false, Bool.not_eq_true', decide_eq_false_iff_not, li_0, li_1, li_2, li_3, li_4, li_5, li_6, li_7, li_8, li_9, li_10, li_11, li_12, li_13, li_14, li_15, li_16, li_17, li_18, li_19, li_20, li_21, li_22, li_23]; exact q
theorem line_ok : ∀ ds S Q E, sp_is_line ds S Q E → bodySp 3 1 (r_is_line sp_is_word sp_is_name) ds S Q E := by
  rintro ds S Q E ⟨x, ed, ⟨hx, hab⟩, q⟩
  subst ed
  unfold r_is_line
  cases x with
  | tup xs =>
    match xs with
    | [a, b] =>
      obtain ⟨ha, hb⟩ := hab a b rfl
      simp only [x_spr, startD, List.map_cons, List.map_nil, List.length_cons, List.length_nil, Nat.reduceAdd, Nat.reduceSub, Int.reduceLT, Int.reduceLE, Int.reduceToNat,  Int.reducePow, Int.reduceNeg, Nat.reduceLT, Nat.reduceLeDiff, Nat.reducePow, List.replicate_succ, List.replicate_zero, List.cons_append, List.nil_append, sSeq, sIf, sRet, sRetN, sNext, sAsg, sDrop, gNm, gOf, Tg.d, Tg.ds, dVar, dCst, dNil, dCons, dOp, dUn, dChain, dBl, dAnd, dOr, dNot, dIf, dTst, dCall, dCB, dLst, dTup, dM1, gSubD, mkL, dYes, dPart, dSlc, iEnumD, iSeqD, iRng1D, iRng2D, sFor, dLc, wipeD, si_str, si_tup, si_lst, si_cst, x_slcs, x_slct, x_slcl, x_slcc, dFld, insOf, sFldD, x_frz, dMake, dMt, x_isref, x_app, x_pop,
  x_lt, x_le, x_gt, x_ge, x_eqi, x_nei, x_eqs, x_nes, x_ner, x_eqr, x_in, x_nin, x_is, x_isnt, x_add, x_adds, x_addt, x_addl, x_sub, x_mul, x_div, x_mod, x_pow, x_neg, x_int, x_abs, x_max, x_min, x_len, len_str, len_tup, len_lst, len_cst, x_idxs, x_idxt, x_idxl, x_idxc, x_idxr, x_isi, ty_str, ty_int, ty_bl, ty_non, ty_tup, ty_lst, ty_cst, ty_ins, tr_bl, tr_int, tr_str, tr_tup, tr_lst, tr_non, x_all, x_ends, x_starts, at_0, at_1, at_2, ix_0, ix_1,
  List.getElem?_cons_zero, List.getElem?_cons_succ, List.getElem?_nil, List.set_cons_zero, List.set_cons_succ, List.set_nil, Option.some.injEq, exists_eq_left', exists_eq_left, exists_and_left, Bool.false_eq_true, if_false, if_true, D.int.injEq, D.bl.injEq, D.ref.injEq, D.str.injEq, D.lst.injEq, D.tup.injEq, MO.lst.injEq, MO.ins.injEq, List.cons.injEq, Prod.mk.injEq, and_true, true_and, and_assoc, decide_eq_true_eq, Sto.set_same, Sto.set_set, reduceCtorEq, false_and, exists_false, false_or, or_false, ne_eq, not_false_eq_true, exists_eq', Bool.not_true, Bool.not_false, Bool.not_eq_true', decide_eq_false_iff_not, li_0, li_1, li_2, li_3, li_4, li_5, li_6, li_7, li_8, li_9, li_10, li_11, li_12, li_13, li_14, li_15, li_16, li_17, li_18, li_19, li_20, li_21, li_22, li_23, sp_is_word, sp_is_name]
      refine ⟨ha, ?_⟩
      cases hw : wordD a with
      | false =>
        have q2 : lineD (.tup [a, b]) = false := by
          unfold lineD
          split
          · rename_i e
            cases e
            rw [hw, Bool.false_and]
          · rfl
        rw [q2] at q
        simp only [x_spr, startD, List.map_cons, List.map_nil, List.length_cons, List.length_nil, Nat.reduceAdd, Nat.reduceSub, Int.reduceLT, Int.reduceLE, Int.reduceToNat,  Int.reducePow, Int.reduceNeg, Nat.reduceLT, Nat.reduceLeDiff, Nat.reducePow, List.replicate_succ, List.replicate_zero, List.cons_append, List.nil_append, sSeq, sIf, sRet, sRetN, sNext, sAsg, sDrop, gNm, gOf, Tg.d, Tg.ds, dVar, dCst, dNil, dCons, dOp, dUn, dChain, dBl, dAnd, dOr, dNot, dIf, dTst, dCall, dCB, dLst, dTup, dM1, gSubD, mkL, dYes, dPart, dSlc, iEnumD, iSeqD, iRng1D, iRng2D, sFor, dLc, wipeD, si_str, si_tup, si_lst, si_cst, x_slcs, x_slct, x_slcl, x_slcc, dFld, insOf, sFldD, x_frz, dMake, dMt, x_isref, x_app, x_pop,
  x_lt, x_le, x_gt, x_ge, x_eqi, x_nei, x_eqs, x_nes, x_ner, x_eqr, x_in, x_nin, x_is, x_isnt, x_add, x_adds, x_addt, x_addl, x_sub, x_mul, x_div, x_mod, x_pow, x_neg, x_int, x_abs, x_max, x_min, x_len, len_str, len_tup, len_lst, len_cst, x_idxs, x_idxt, x_idxl, x_idxc, x_idxr, x_isi, ty_str, ty_int, ty_bl, ty_non, ty_tup, ty_lst, ty_cst, ty_ins, tr_bl, tr_int, tr_str, tr_tup, tr_lst, tr_non, x_all, x_ends, x_starts, at_0, at_1, at_2, ix_0, ix_1,
  List.getElem?_cons_zero, List.getElem?_cons_succ, List.getElem?_nil, List.set_cons_zero, List.set_cons_succ, List.set_nil, Option.some.injEq, exists_eq_left', exists_eq_left, exists_and_left, Bool.false_eq_true, if_false, if_true, D.int.injEq, D.bl.injEq, D.ref.injEq, D.str.injEq, D.lst.injEq, D.tup.injEq, MO.lst.injEq, MO.ins.injEq, List.cons.injEq, Prod.mk.injEq, and_true, true_and, and_assoc, decide_eq_true_eq, Sto.set_same, Sto.set_set, reduceCtorEq, false_and, exists_false, false_or, or_false, ne_eq, not_false_eq_true, exists_eq', Bool.not_true, Bool.not_false, Bool.not_eq_true', decide_eq_false_iff_not]
        exact q
      | true =>
        cases b with
        | str z =>
          simp only [x_spr, startD, List.map_cons, List.map_nil, List.length_cons, List.length_nil, Nat.reduceAdd, Nat.reduceSub, Int.reduceLT, Int.reduceLE, Int.reduceToNat,  Int.reducePow, Int.reduceNeg, Nat.reduceLT, Nat.reduceLeDiff, Nat.reducePow, List.replicate_succ, List.replicate_zero, List.cons_append, List.nil_append, sSeq, sIf, sRet, sRetN, sNext, sAsg, sDrop, gNm, gOf, Tg.d, Tg.ds, dVar, dCst, dNil, dCons, dOp, dUn, dChain, dBl, dAnd, dOr, dNot, dIf, dTst, dCall, dCB, dLst, dTup, dM1, gSubD, mkL, dYes, dPart, dSlc, iEnumD, iSeqD, iRng1D, iRng2D, sFor, dLc, wipeD, si_str, si_tup, si_lst, si_cst, x_slcs, x_slct, x_slcl, x_slcc, dFld, insOf, sFldD, x_frz, dMake, dMt, x_isref, x_app, x_pop,
  x_lt, x_le, x_gt, x_ge, x_eqi, x_nei, x_eqs, x_nes, x_ner, x_eqr, x_in, x_nin, x_is, x_isnt, x_add, x_adds, x_addt, x_addl, x_sub, x_mul, x_div, x_mod, x_pow, x_neg, x_int, x_abs, x_max, x_min, x_len, len_str, len_tup, len_lst, len_cst, x_idxs, x_idxt, x_idxl, x_idxc, x_idxr, x_isi, ty_str, ty_int, ty_bl, ty_non, ty_tup, ty_lst, ty_cst, ty_ins, tr_bl, tr_int, tr_str, tr_tup, tr_lst, tr_non, x_all, x_ends, x_starts, at_0, at_1, at_2, ix_0, ix_1,
  List.getElem?_cons_zero, List.getElem?_cons_succ, List.getElem?_nil, List.set_cons_zero, List.set_cons_succ, List.set_nil, Option.some.injEq, exists_eq_left', exists_eq_left, exists_and_left, Bool.false_eq_true, if_false, if_true, D.int.injEq, D.bl.injEq, D.ref.injEq, D.str.injEq, D.lst.injEq, D.tup.injEq, MO.lst.injEq, MO.ins.injEq, List.cons.injEq, Prod.mk.injEq, and_true, true_and, and_assoc, decide_eq_true_eq, Sto.set_same, Sto.set_set, reduceCtorEq, false_and, exists_false, false_or, or_false, ne_eq, not_false_eq_true, exists_eq', Bool.not_true, Bool.not_false, Bool.not_eq_true', decide_eq_false_iff_not, li_0, li_1, li_2, li_3, li_4, li_5, li_6, li_7, li_8, li_9, li_10, li_11, li_12, li_13, li_14, li_15, li_16, li_17, li_18, li_19, li_20, li_21, li_22, li_23]
          have q2 : lineD (.tup [a, .str z]) = (decide (z = Str.ofString "") || isNameS z) := by
            show (wordD a && (decide (z = Str.ofString "") || isNameS z)) = _
            rw [hw, Bool.true_and]
          rw [q2] at q
          by_cases h : z = Str.ofString ""
          · rw [decide_eq_true h, Bool.true_or] at q
            rw [if_pos h, decide_eq_true h]
            exact q
          · rw [decide_eq_false h, Bool.false_or] at q
            rw [if_neg h]
            exact ⟨rfl, q⟩
        | ins C xs => cases C with
          | zero => simp only [x_spr, startD, List.map_cons, List.map_nil, List.length_cons, List.length_nil, Nat.reduceAdd, Nat.reduceSub, Int.reduceLT, Int.reduceLE, Int.reduceToNat,  Int.reducePow, Int.reduceNeg, Nat.reduceLT, Nat.reduceLeDiff, Nat.reducePow, List.replicate_succ, List.replicate_zero, List.cons_append, List.nil_append, sSeq, sIf, sRet, sRetN, sNext, sAsg, sDrop, gNm, gOf, Tg.d, Tg.ds, dVar, dCst, dNil, dCons, dOp, dUn, dChain, dBl, dAnd, dOr, dNot, dIf, dTst, dCall, dCB, dLst, dTup, dM1, gSubD, mkL, dYes, dPart, dSlc, iEnumD, iSeqD, iRng1D, iRng2D, sFor, dLc, wipeD, si_str, si_tup, si_lst, si_cst, x_slcs, x_slct, x_slcl, x_slcc, dFld, insOf, sFldD, x_frz, dMake, dMt, x_isref, x_app, x_pop,
  x_lt, x_le, x_gt, x_ge, x_eqi, x_nei, x_eqs, x_nes, x_ner, x_eqr, x_in, x_nin, x_is, x_isnt, x_add, x_adds, x_addt, x_addl, x_sub, x_mul, x_div, x_mod, x_pow, x_neg, x_int, x_abs, x_max, x_min, x_len, len_str, len_tup, len_lst, len_cst, x_idxs, x_idxt, x_idxl, x_idxc, x_idxr, x_isi, ty_str, ty_int, ty_bl, ty_non, ty_tup, ty_lst, ty_cst, ty_ins, tr_bl, tr_int, tr_str, tr_tup, tr_lst, tr_non, x_all, x_ends, x_starts, at_0, at_1, at_2, ix_0, ix_1,
  List.getElem?_cons_zero, List.getElem?_cons_succ, List.getElem?_nil, List.set_cons_zero, List.set_cons_succ, List.set_nil, Option.some.injEq, exists_eq_left', exists_eq_left, exists_and_left, Bool.false_eq_true, if_false, if_true, D.int.injEq, D.bl.injEq, D.ref.injEq, D.str.injEq, D.lst.injEq, D.tup.injEq, MO.lst.injEq, MO.ins.injEq, List.cons.injEq, Prod.mk.injEq, and_true, true_and, and_assoc, decide_eq_true_eq, Sto.set_same, Sto.set_set, reduceCtorEq, false_and, exists_false, false_or, or_false, ne_eq, not_false_eq_true, exists_eq', Bool.not_true, Bool.not_false, Bool.not_eq_true', decide_eq_false_iff_not, li_0, li_1, li_2, li_3, li_4, li_5, li_6, li_7, li_8, li_9, li_10, li_11, li_12, li_13, li_14, li_15, li_16, li_17, li_18, li_19, li_20, li_21, li_22, li_23]; exact q
          | succ n => cases hb
        | ref _ => cases hb
        | ty _ => cases hb
        | rp _ => cases hb
        | cst _ => cases hb
        | _ => simp only [x_spr, startD, List.map_cons, List.map_nil, List.length_cons, List.length_nil, Nat.reduceAdd, Nat.reduceSub, Int.reduceLT, Int.reduceLE, Int.reduceToNat,  Int.reducePow, Int.reduceNeg, Nat.reduceLT, Nat.reduceLeDiff, Nat.reducePow, List.replicate_succ, List.replicate_zero, List.cons_append, List.nil_append, sSeq, sIf, sRet, sRetN, sNext, sAsg, sDrop, gNm, gOf, Tg.d, Tg.ds, dVar, dCst, dNil, dCons, dOp, dUn, dChain, dBl, dAnd, dOr, dNot, dIf, dTst, dCall, dCB, dLst, dTup, dM1, gSubD, mkL, dYes, dPart, dSlc, iEnumD, iSeqD, iRng1D, iRng2D, sFor, dLc, wipeD, si_str, si_tup, si_lst, si_cst, x_slcs, x_slct, x_slcl, x_slcc, dFld, insOf, sFldD, x_frz, dMake, dMt, x_isref, x_app, x_pop,
  x_lt, x_le, x_gt, x_ge, x_eqi, x_nei, x_eqs, x_nes, x_ner, x_eqr, x_in, x_nin, x_is, x_isnt, x_add, x_adds, x_addt, x_addl, x_sub, x_mul, x_div, x_mod, x_pow, x_neg, x_int, x_abs, x_max, x_min, x_len, len_str, len_tup, len_lst, len_cst, x_idxs, x_idxt, x_idxl, x_idxc, x_idxr, x_isi, ty_str, ty_int, ty_bl, ty_non, ty_tup, ty_lst, ty_cst, ty_ins, tr_bl, tr_int, tr_str, tr_tup, tr_lst, tr_non, x_all, x_ends, x_starts, at_0, at_1, at_2, ix_0, ix_1,
  List.getElem?_cons_zero, List.getElem?_cons_succ, List.getElem?_nil, List.set_cons_zero, List.set_cons_succ, List.set_nil, Option.some.injEq, exists_eq_left', exists_eq_left, exists_and_left, Bool.false_eq_true, if_false, if_true, D.int.injEq, D.bl.injEq, D.ref.injEq, D.str.injEq, D.lst.injEq, D.tup.injEq, MO.lst.injEq, MO.ins.injEq, List.cons.injEq, Prod.mk.injEq, and_true, true_and, and_assoc, decide_eq_true_eq, Sto.set_same, Sto.set_set, reduceCtorEq, false_and, exists_false, false_or, or_false, ne_eq, not_false_eq_true, exists_eq', Bool.not_true, Bool.not_false, Bool.not_eq_true', decide_eq_false_iff_not, li_0, li_1, li_2, li_3, li_4, li_5, li_6, li_7, li_8, li_9, li_10, li_11, li_12, li_13, li_14, li_15, li_16, li_17, li_18, li_19, li_20, li_21, li_22, li_23]; exact q
    | [] => simp only [x_spr, startD, List.map_cons, List.map_nil, List.length_cons, List.length_nil, Nat.reduceAdd, Nat.reduceSub, Int.reduceLT, Int.reduceLE, Int.reduceToNat,  Int.reducePow, Int.reduceNeg, Nat.reduceLT, Nat.reduceLeDiff, Nat.reducePow, List.replicate_succ, List.replicate_zero, List.cons_append, List.nil_append, sSeq, sIf, sRet, sRetN, sNext, sAsg, sDrop, gNm, gOf, Tg.d, Tg.ds, dVar, dCst, dNil, dCons, dOp, dUn, dChain, dBl, dAnd, dOr, dNot, dIf, dTst, dCall, dCB, dLst, dTup, dM1, gSubD, mkL, dYes, dPart, dSlc, iEnumD, iSeqD, iRng1D, iRng2D, sFor, dLc, wipeD, si_str, si_tup, si_lst, si_cst, x_slcs, x_slct, x_slcl, x_slcc, dFld, insOf, sFldD, x_frz, dMake, dMt, x_isref, x_app, x_pop,
  x_lt, x_le, x_gt, x_ge, x_eqi, x_nei, x_eqs, x_nes, x_ner, x_eqr, x_in, x_nin, x_is, x_isnt, x_add, x_adds, x_addt, x_addl, x_sub, x_mul, x_div, x_mod, x_pow, x_neg, x_int, x_abs, x_max, x_min, x_len, len_str, len_tup, len_lst, len_cst, x_idxs, x_idxt, x_idxl, x_idxc, x_idxr, x_isi, ty_str, ty_int, ty_bl, ty_non, ty_tup, ty_lst, ty_cst, ty_ins, tr_bl, tr_int, tr_str, tr_tup, tr_lst, tr_non, x_all, x_ends, x_starts, at_0, at_1, at_2, ix_0, ix_1,
  List.getElem?_cons_zero, List.getElem?_cons_succ, List.getElem?_nil, List.set_cons_zero, List.set_cons_succ, List.set_nil, Option.some.injEq, exists_eq_left', exists_eq_left, exists_and_left, Bool.false_eq_true, if_false, if_true, D.int.injEq, D.bl.injEq, D.ref.injEq, D.str.injEq, D.lst.injEq, D.tup.injEq, MO.lst.injEq, MO.ins.injEq, List.cons.injEq, Prod.mk.injEq, and_true, true_and, and_assoc, decide_eq_true_eq, Sto.set_same, Sto.set_set, reduceCtorEq, false_and, exists_false, false_or, or_false, ne_eq, not_false_eq_true, exists_eq', Bool.not_true, Bool.not_false, Bool.not_eq_true', decide_eq_false_iff_not, li_0, li_1, li_2, li_3, li_4, li_5, li_6, li_7, li_8, li_9, li_10, li_11, li_12, li_13, li_14, li_15, li_16, li_17, li_18, li_19, li_20, li_21, li_22, li_23]; exact q
    | [a] => simp only [x_spr, startD, List.map_cons, List.map_nil, List.length_cons, List.length_nil, Nat.reduceAdd, Nat.reduceSub, Int.reduceLT, Int.reduceLE, Int.reduceToNat,  Int.reducePow, Int.reduceNeg, Nat.reduceLT, Nat.reduceLeDiff, Nat.reducePow, List.replicate_succ, List.replicate_zero, List.cons_append, List.nil_append, sSeq, sIf, sRet, sRetN, sNext, sAsg, sDrop, gNm, gOf, Tg.d, Tg.ds, dVar, dCst, dNil, dCons, dOp, dUn, dChain, dBl, dAnd, dOr, dNot, dIf, dTst, dCall, dCB, dLst, dTup, dM1, gSubD, mkL, dYes, dPart, dSlc, iEnumD, iSeqD, iRng1D, iRng2D, sFor, dLc, wipeD, si_str, si_tup, si_lst, si_cst, x_slcs, x_slct, x_slcl, x_slcc, dFld, insOf, sFldD, x_frz, dMake, dMt, x_isref, x_app, x_pop,
  x_lt, x_le, x_gt, x_ge, x_eqi, x_nei, x_eqs, x_nes, x_ner, x_eqr, x_in, x_nin, x_is, x_isnt, x_add, x_adds, x_addt, x_addl, x_sub, x_mul, x_div, x_mod, x_pow, x_neg, x_int, x_abs, x_max, x_min, x_len, len_str, len_tup, len_lst, len_cst, x_idxs, x_idxt, x_idxl, x_idxc, x_idxr, x_isi, ty_str, ty_int, ty_bl, ty_non, ty_tup, ty_lst, ty_cst, ty_ins, tr_bl, tr_int, tr_str, tr_tup, tr_lst, tr_non, x_all, x_ends, x_starts, at_0, at_1, at_2, ix_0, ix_1,
  List.getElem?_cons_zero, List.getElem?_cons_succ, List.getElem?_nil, List.set_cons_zero, List.set_cons_succ, List.set_nil, Option.some.injEq, exists_eq_left', exists_eq_left, exists_and_left, Bool.false_eq_true, if_false, if_true, D.int.injEq, D.bl.injEq, D.ref.injEq, D.str.injEq, D.lst.injEq, D.tup.injEq, MO.lst.injEq, MO.ins.injEq, List.cons.injEq, Prod.mk.injEq, and_true, true_and, and_assoc, decide_eq_true_eq, Sto.set_same, Sto.set_set, reduceCtorEq, false_and, exists_false, false_or, or_false, ne_eq, not_false_eq_true, exists_eq', Bool.not_true, Bool.not_false, Bool.not_eq_true', decide_eq_false_iff_not, li_0, li_1, li_2, li_3, li_4, li_5, li_6, li_7, li_8, li_9, li_10, li_11, li_12, li_13, li_14, li_15, li_16, li_17, li_18, li_19, li_20, li_21, li_22, li_23]; exact q
    | a :: b :: c :: r =>
      have h2 : ¬ (((r.length + 1 + 1 + 1 : Nat) : Int) = 2) := by omega
      have q2 : lineD (.tup (a :: b :: c :: r)) = false := by
        unfold lineD
        split
        · rename_i e
          cases e
        · rfl
      rw [q2] at q
      simp only [x_spr, startD, List.map_cons, List.map_nil, List.length_cons, List.length_nil, Nat.reduceAdd, Nat.reduceSub, Int.reduceLT, Int.reduceLE, Int.reduceToNat,  Int.reducePow, Int.reduceNeg, Nat.reduceLT, Nat.reduceLeDiff, Nat.reducePow, List.replicate_succ, List.replicate_zero, List.cons_append, List.nil_append, sSeq, sIf, sRet, sRetN, sNext, sAsg, sDrop, gNm, gOf, Tg.d, Tg.ds, dVar, dCst, dNil, dCons, dOp, dUn, dChain, dBl, dAnd, dOr, dNot, dIf, dTst, dCall, dCB, dLst, dTup, dM1, gSubD, mkL, dYes, dPart, dSlc, iEnumD, iSeqD, iRng1D, iRng2D, sFor, dLc, wipeD, si_str, si_tup, si_lst, si_cst, x_slcs, x_slct, x_slcl, x_slcc, dFld, insOf, sFldD, x_frz, dMake, dMt, x_isref, x_app, x_pop,
  x_lt, x_le, x_gt, x_ge, x_eqi, x_nei, x_eqs, x_nes, x_ner, x_eqr, x_in, x_nin, x_is, x_isnt, x_add, x_adds, x_addt, x_addl, x_sub, x_mul, x_div, x_mod, x_pow, x_neg, x_int, x_abs, x_max, x_min, x_len, len_str, len_tup, len_lst, len_cst, x_idxs, x_idxt, x_idxl, x_idxc, x_idxr, x_isi, ty_str, ty_int, ty_bl, ty_non, ty_tup, ty_lst, ty_cst, ty_ins, tr_bl, tr_int, tr_str, tr_tup, tr_lst, tr_non, x_all, x_ends, x_starts, at_0, at_1, at_2, ix_0, ix_1,
  List.getElem?_cons_zero, List.getElem?_cons_succ, List.getElem?_nil, List.set_cons_zero, List.set_cons_succ, List.set_nil, Option.some.injEq, exists_eq_left', exists_eq_left, exists_and_left, Bool.false_eq_true, if_false, if_true, D.int.injEq, D.bl.injEq, D.ref.injEq, D.str.injEq, D.lst.injEq, D.tup.injEq, MO.lst.injEq, MO.ins.injEq, List.cons.injEq, Prod.mk.injEq, and_true, true_and, and_assoc, decide_eq_true_eq, Sto.set_same, Sto.set_set, reduceCtorEq, false_and, exists_false, false_or, or_false, ne_eq, not_false_eq_true, exists_eq', Bool.not_true, Bool.not_false, Bool.not_eq_true', decide_eq_false_iff_not, li_0, li_1, li_2, li_3, li_4, li_5, li_6, li_7, li_8, li_9, li_10, li_11, li_12, li_13, li_14, li_15, li_16, li_17, li_18, li_19, li_20, li_21, li_22, li_23, h2]
      exact q
  | ins C xs => cases C with
    | zero => simp only [x_spr, startD, List.map_cons, List.map_nil, List.length_cons, List.length_nil, Nat.reduceAdd, Nat.reduceSub, Int.reduceLT, Int.reduceLE, Int.reduceToNat,  Int.reducePow, Int.reduceNeg, Nat.reduceLT, Nat.reduceLeDiff, Nat.reducePow, List.replicate_succ, List.replicate_zero, List.cons_append, List.nil_append, sSeq, sIf, sRet, sRetN, sNext, sAsg, sDrop, gNm, gOf, Tg.d, Tg.ds, dVar, dCst, dNil, dCons, dOp, dUn, dChain, dBl, dAnd, dOr, dNot, dIf, dTst, dCall, dCB, dLst, dTup, dM1, gSubD, mkL, dYes, dPart, dSlc, iEnumD, iSeqD, iRng1D, iRng2D, sFor, dLc, wipeD, si_str, si_tup, si_lst, si_cst, x_slcs, x_slct, x_slcl, x_slcc, dFld, insOf, sFldD, x_frz, dMake, dMt, x_isref, x_app, x_pop,
  x_lt, x_le, x_gt, x_ge, x_eqi, x_nei, x_eqs, x_nes, x_ner, x_eqr, x_in, x_nin, x_is, x_isnt, x_add, x_adds, x_addt, x_addl, x_sub, x_mul, x_div, x_mod, x_pow, x_neg, x_int, x_abs, x_max, x_min, x_len, len_str, len_tup, len_lst, len_cst, x_idxs, x_idxt, x_idxl, x_idxc, x_idxr, x_isi, ty_str, ty_int, ty_bl, ty_non, ty_tup, ty_lst, ty_cst, ty_ins, tr_bl, tr_int, tr_str, tr_tup, tr_lst, tr_non, x_all, x_ends, x_starts, at_0, at_1, at_2, ix_0, ix_1,
  List.getElem?_cons_zero, List.getElem?_cons_succ, List.getElem?_nil, List.set_cons_zero, List.set_cons_succ, List.set_nil, Option.some.injEq, exists_eq_left', exists_eq_left, exists_and_left, Bool.false_eq_true, if_false, if_true, D.int.injEq, D.bl.injEq, D.ref.injEq, D.str.injEq, D.lst.injEq, D.tup.injEq, MO.lst.injEq, MO.ins.injEq, List.cons.injEq, Prod.mk.injEq, and_true, true_and, and_assoc, decide_eq_true_eq, Sto.set_same, Sto.set_set, reduceCtorEq, false_and, exists_false, false_or, or_false, ne_eq, not_false_eq_true, exists_eq', Bool.not_true, Bool.not_false, Bool.not_eq_true', decide_eq_false_iff_not, li_0, li_1, li_2, li_3, li_4, li_5, li_6, li_7, li_8, li_9, li_10, li_11, li_12, li_13, li_14, li_15, li_16, li_17, li_18, li_19, li_20, li_21, li_22, li_23]; exact q
    | succ n => cases hx
  | ref _ => cases hx
  | ty _ => cases hx
  | rp _ => cases hx
  | cst _ => cases hx
  | _ => simp only [x_spr, startD, List.map_cons, List.map_nil, List.length_cons, List.length_nil, Nat.reduceAdd, Nat.reduceSub, Int.reduceLT, Int.reduceLE, Int.reduceToNat,  Int.reducePow, Int.reduceNeg, Nat.reduceLT, Nat.reduceLeDiff, Nat.reducePow, List.replicate_succ, List.replicate_zero, List.cons_append, List.nil_append, sSeq, sIf, sRet, sRetN, sNext, sAsg, sDrop, gNm, gOf, Tg.d, Tg.ds, dVar, dCst, dNil, dCons, dOp, dUn, dChain, dBl, dAnd, dOr, dNot, dIf, dTst, dCall, dCB, dLst, dTup, dM1, gSubD, mkL, dYes, dPart, dSlc, iEnumD, iSeqD, iRng1D, iRng2D, sFor, dLc, wipeD, si_str, si_tup, si_lst, si_cst, x_slcs, x_slct, x_slcl, x_slcc, dFld, insOf, sFldD, x_frz, dMake, dMt, x_isref, x_app, x_pop,
  x_lt, x_le, x_gt, x_ge, x_eqi, x_nei, x_eqs, x_nes, x_ner, x_eqr, x_in, x_nin, x_is, x_isnt, x_add, x_adds, x_addt, x_addl, x_sub, x_mul, x_div, x_mod, x_pow, x_neg, x_int, x_abs, x_max, x_min, x_len, len_str, len_tup, len_lst, len_cst, x_idxs, x_idxt, x_idxl, x_idxc, x_idxr, x_isi, ty_str, ty_int, ty_bl, ty_non, ty_tup, ty_lst, ty_cst, ty_ins, tr_bl, tr_int, tr_str, tr_tup, tr_lst, tr_non, x_all, x_ends, x_starts, at_0, at_1, at_2, ix_0, ix_1,
  List.getElem?_cons_zero, List.getElem?_cons_succ, List.getElem?_nil, List.set_cons_zero, List.set_cons_succ, List.set_nil, Option.some.injEq, exists_eq_left', exists_eq_left, exists_and_left, Bool.false_eq_true, if_false, if_true, D.int.injEq, D.bl.injEq, D.ref.injEq, D.str.injEq, D.lst.injEq, D.tup.injEq, MO.lst.injEq, MO.ins.injEq, List.cons.injEq, Prod.mk.injEq, and_true, true_and, and_assoc, decide_eq_true_eq, Sto.set_same, Sto.set_set, reduceCtorEq, false_and, exists_false, false_or, or_false, ne_eq, not_false_eq_true, exists_eq', Bool.not_true, Bool.not_false, Bool.not_eq_true', decide_eq_false_iff_not, li_0, li_1, li_2, li_3, li_4, li_5, li_6, li_7, li_8, li_9, li_10, li_11, li_12, li_13, li_14, li_15, li_16, li_17, li_18, li_19, li_20, li_21, li_22, li_23]; exact q
/-! ### a file is made -/
def sp_File___init__ : DSp := fun ds S Q _ => ∃ (p : Addr) (xs : List D), ds = .ref p :: xs ∧ xs.length ≤ 10000 ∧ (∀ x ∈ xs, isTh x ∧ lineD x = true) ∧ S p = some (.ins 0 []) ∧ Q .non (S.set p (.ins 0 [.tup xs]))
theorem init_ok : ∀ ds S Q E, sp_File___init__ ds S Q E → starSp 4 1 (r_File___init__ sp_is_line) ds S Q E := by
  rintro ds S Q E ⟨p, xs, ed, hl, hx, hp, q⟩
  subst ed
  refine ⟨[.ref p], xs, rfl, rfl, lt_line (by omega), ?_⟩
  unfold r_File___init__
  simp only [x_spr, startD, List.map_cons, List.map_nil, List.length_cons, List.length_nil, Nat.reduceAdd, Nat.reduceSub, Int.reduceLT, Int.reduceLE, Int.reduceToNat,  Int.reducePow, Int.reduceNeg, Nat.reduceLT, Nat.reduceLeDiff, Nat.reducePow, List.replicate_succ, List.replicate_zero, List.cons_append, List.nil_append, sSeq, sIf, sRet, sRetN, sNext, sAsg, sDrop, gNm, gOf, Tg.d, Tg.ds, dVar, dCst, dNil, dCons, dOp, dUn, dChain, dBl, dAnd, dOr, dNot, dIf, dTst, dCall, dCB, dLst, dTup, dM1, gSubD, mkL, dYes, dPart, dSlc, iEnumD, iSeqD, iRng1D, iRng2D, sFor, dLc, wipeD, si_str, si_tup, si_lst, si_cst, x_slcs, x_slct, x_slcl, x_slcc, dFld, insOf, sFldD, x_frz, dMake, dMt, x_isref, x_app, x_pop,
  x_lt, x_le, x_gt, x_ge, x_eqi, x_nei, x_eqs, x_nes, x_ner, x_eqr, x_in, x_nin, x_is, x_isnt, x_add, x_adds, x_addt, x_addl, x_sub, x_mul, x_div, x_mod, x_pow, x_neg, x_int, x_abs, x_max, x_min, x_len, len_str, len_tup, len_lst, len_cst, x_idxs, x_idxt, x_idxl, x_idxc, x_idxr, x_isi, ty_str, ty_int, ty_bl, ty_non, ty_tup, ty_lst, ty_cst, ty_ins, tr_bl, tr_int, tr_str, tr_tup, tr_lst, tr_non, x_all, x_ends, x_starts, at_0, at_1, at_2, ix_0, ix_1,
  List.getElem?_cons_zero, List.getElem?_cons_succ, List.getElem?_nil, List.set_cons_zero, List.set_cons_succ, List.set_nil, Option.some.injEq, exists_eq_left', exists_eq_left, exists_and_left, Bool.false_eq_true, if_false, if_true, D.int.injEq, D.bl.injEq, D.ref.injEq, D.str.injEq, D.lst.injEq, D.tup.injEq, MO.lst.injEq, MO.ins.injEq, List.cons.injEq, Prod.mk.injEq, and_true, true_and, and_assoc, decide_eq_true_eq, Sto.set_same, Sto.set_set, reduceCtorEq, false_and, exists_false, false_or, or_false, ne_eq, not_false_eq_true, exists_eq', Bool.not_true, Bool.not_false, Bool.not_eq_true', decide_eq_false_iff_not]
  refine forGo_inv _ (fun _ ρ S' => S' = S ∧ ∃ v2 v3, ρ = [some (.ref p), some (.tup xs), v2, v3]) ⟨rfl, none, none, rfl⟩ ?_ ?_
  · rintro i x ρ S' Kn hg ⟨eS, v2, v3, eρ⟩ hk
    subst eS eρ
    obtain ⟨y, hy, ex⟩ := enumL_get _ _ _ _ hg
    subst ex
    obtain ⟨h1, h2⟩ := hx y (List.mem_of_getElem? hy)
    simp only [x_spr, startD, List.map_cons, List.map_nil, List.length_cons, List.length_nil, Nat.reduceAdd, Nat.reduceSub, Int.reduceLT, Int.reduceLE, Int.reduceToNat,  Int.reducePow, Int.reduceNeg, Nat.reduceLT, Nat.reduceLeDiff, Nat.reducePow, List.replicate_succ, List.replicate_zero, List.cons_append, List.nil_append, sSeq, sIf, sRet, sRetN, sNext, sAsg, sDrop, gNm, gOf, Tg.d, Tg.ds, dVar, dCst, dNil, dCons, dOp, dUn, dChain, dBl, dAnd, dOr, dNot, dIf, dTst, dCall, dCB, dLst, dTup, dM1, gSubD, mkL, dYes, dPart, dSlc, iEnumD, iSeqD, iRng1D, iRng2D, sFor, dLc, wipeD, si_str, si_tup, si_lst, si_cst, x_slcs, x_slct, x_slcl, x_slcc, dFld, insOf, sFldD, x_frz, dMake, dMt, x_isref, x_app, x_pop,
  x_lt, x_le, x_gt, x_ge, x_eqi, x_nei, x_eqs, x_nes, x_ner, x_eqr, x_in, x_nin, x_is, x_isnt, x_add, x_adds, x_addt, x_addl, x_sub, x_mul, x_div, x_mod, x_pow, x_neg, x_int, x_abs, x_max, x_min, x_len, len_str, len_tup, len_lst, len_cst, x_idxs, x_idxt, x_idxl, x_idxc, x_idxr, x_isi, ty_str, ty_int, ty_bl, ty_non, ty_tup, ty_lst, ty_cst, ty_ins, tr_bl, tr_int, tr_str, tr_tup, tr_lst, tr_non, x_all, x_ends, x_starts, at_0, at_1, at_2, ix_0, ix_1,
  List.getElem?_cons_zero, List.getElem?_cons_succ, List.getElem?_nil, List.set_cons_zero, List.set_cons_succ, List.set_nil, Option.some.injEq, exists_eq_left', exists_eq_left, exists_and_left, Bool.false_eq_true, if_false, if_true, D.int.injEq, D.bl.injEq, D.ref.injEq, D.str.injEq, D.lst.injEq, D.tup.injEq, MO.lst.injEq, MO.ins.injEq, List.cons.injEq, Prod.mk.injEq, and_true, true_and, and_assoc, decide_eq_true_eq, Sto.set_same, Sto.set_set, reduceCtorEq, false_and, exists_false, false_or, or_false, ne_eq, not_false_eq_true, exists_eq', Bool.not_true, Bool.not_false, Bool.not_eq_true', decide_eq_false_iff_not, sp_is_line, h1, h2]
    exact hk _ _ ⟨rfl, _, _, rfl⟩
  · rintro ρ S' ⟨eS, v2, v3, eρ⟩
    subst eS eρ
    simp only [x_spr, startD, List.map_cons, List.map_nil, List.length_cons, List.length_nil, Nat.reduceAdd, Nat.reduceSub, Int.reduceLT, Int.reduceLE, Int.reduceToNat,  Int.reducePow, Int.reduceNeg, Nat.reduceLT, Nat.reduceLeDiff, Nat.reducePow, List.replicate_succ, List.replicate_zero, List.cons_append, List.nil_append, sSeq, sIf, sRet, sRetN, sNext, sAsg, sDrop, gNm, gOf, Tg.d, Tg.ds, dVar, dCst, dNil, dCons, dOp, dUn, dChain, dBl, dAnd, dOr, dNot, dIf, dTst, dCall, dCB, dLst, dTup, dM1, gSubD, mkL, dYes, dPart, dSlc, iEnumD, iSeqD, iRng1D, iRng2D, sFor, dLc, wipeD, si_str, si_tup, si_lst, si_cst, x_slcs, x_slct, x_slcl, x_slcc, dFld, insOf, sFldD, x_frz, dMake, dMt, x_isref, x_app, x_pop,
  x_lt, x_le, x_gt, x_ge, x_eqi, x_nei, x_eqs, x_nes, x_ner, x_eqr, x_in, x_nin, x_is, x_isnt, x_add, x_adds, x_addt, x_addl, x_sub, x_mul, x_div, x_mod, x_pow, x_neg, x_int, x_abs, x_max, x_min, x_len, len_str, len_tup, len_lst, len_cst, x_idxs, x_idxt, x_idxl, x_idxc, x_idxr, x_isi, ty_str, ty_int, ty_bl, ty_non, ty_tup, ty_lst, ty_cst, ty_ins, tr_bl, tr_int, tr_str, tr_tup, tr_lst, tr_non, x_all, x_ends, x_starts, at_0, at_1, at_2, ix_0, ix_1,
  List.getElem?_cons_zero, List.getElem?_cons_succ, List.getElem?_nil, List.set_cons_zero, List.set_cons_succ, List.set_nil, Option.some.injEq, exists_eq_left', exists_eq_left, exists_and_left, Bool.false_eq_true, if_false, if_true, D.int.injEq, D.bl.injEq, D.ref.injEq, D.str.injEq, D.lst.injEq, D.tup.injEq, MO.lst.injEq, MO.ins.injEq, List.cons.injEq, Prod.mk.injEq, and_true, true_and, and_assoc, decide_eq_true_eq, Sto.set_same, Sto.set_set, reduceCtorEq, false_and, exists_false, false_or, or_false, ne_eq, not_false_eq_true, exists_eq', Bool.not_true, Bool.not_false, Bool.not_eq_true', decide_eq_false_iff_not, hp]
    exact ⟨[.tup xs], if_pos rfl, q⟩
/-- one sign after the other -/
theorem signs_go {R : Nat → Prop} : ∀ (cs : List Nat) (_ : ∀ k ∈ cs, R k), ∃ zs, strsD (cs.map chD) = some zs ∧ zs.length = cs.length ∧ (zs.map (·.length)).sum = cs.length ∧ (Txt.join (Str.ofString "") zs).cps.toList = cs
  | [], _ => ⟨[], rfl, rfl, rfl, by rw [TL.join_eq]; decide +kernel⟩
  | c :: cs, h => by
    obtain ⟨zs, e1, e2, e3, e4⟩ := signs_go cs fun k hk => h k (List.mem_cons_of_mem _ hk)
    refine ⟨⟨#[c]⟩ :: zs, ?_, by simp [e2], ?_, ?_⟩
    · show (strsD (cs.map chD)).map _ = _
      rw [e1]
      rfl
    · rw [List.map_cons, List.sum_cons, e3]
      show 1 + cs.length = cs.length + 1
      omega
    · rw [TL.join_eq] at e4 ⊢
      cases zs with
      | nil =>
        have : cs = [] := List.length_eq_zero_iff.mp (by rw [← e2]; rfl)
        rw [this]
        rfl
      | cons z r =>
        show ((#[c] ++ (Str.ofString "").cps) ++ (Str.join (Str.ofString "") (z :: r)).cps).toList = _
        rw [Array.toList_append, Array.toList_append, e4]
        have : (Str.ofString "").cps.toList = [] := by decide +kernel
        rw [this]
        rfl
theorem app_len (a b : Str) : (a ++ b).length = a.length + b.length := by
  show (a.cps ++ b.cps).size = a.cps.size + b.cps.size
  exact Array.size_append
theorem cut_len (z : Str) (lo hi : Option Int) : (cutS z lo hi).length ≤ z.length := by
  rw [← len_list, cut_list, List.length_take, List.length_drop, len_list]
  omega
theorem word_line {z : Str} (h1 : 1 ≤ z.length) (h2 : (z.length : Int) ≤ 8) (h3 : z.cps.toList.all lowB = true) : isWordS z = true := by
  unfold isWordS
  rw [decide_eq_true h1, decide_eq_true (by omega : z.length ≤ 8), h3]
  rfl

/-! ### the law's words and lines -/
/-- a word that the law draws -/
def GoodW (z : Str) : Prop := 1 ≤ z.length ∧ z.length ≤ 8 ∧ z.cps.toList.all lowB = true
theorem GoodW.word {z : Str} (h : GoodW z) : isWordS z = true := word_line h.1 (by have := h.2.1; omega) h.2.2
def sp__law_words : DSp := fun ds S Q _ => ∃ (p : Addr) (many : Int), ds = [.ref p, .int many] ∧ 0 ≤ many ∧ many ≤ 20 ∧ Bg p S S ∧ ∀ (zs : List Str) S', Bg p S S' → (zs.length : Int) = many → (∀ z ∈ zs, GoodW z) → Q (.lst (zs.map D.str)) S'
theorem low_let : ∀ k ∈ (Str.ofString "abcdefghijklmnopqrstuvwxyz").cps.toList, lowB k = true := by
  rw [let_list]
  intro k hk
  rw [List.mem_range'_1] at hk
  unfold lowB
  rw [decide_eq_true (by omega), decide_eq_true (by omega)]
  rfl
theorem cut_low {z : Str} {lo hi : Option Int} (h : z.cps.toList.all lowB = true) : (cutS z lo hi).cps.toList.all lowB = true := by
  rw [cut_list, List.all_eq_true]
  intro k hk
  exact List.all_eq_true.mp h k (List.mem_of_mem_drop (List.mem_of_mem_take hk))
theorem app_list (a b : Str) : (a ++ b).cps.toList = a.cps.toList ++ b.cps.toList := by
  show (a.cps ++ b.cps).toList = _
  rw [Array.toList_append]
theorem app_low {a b : Str} (h1 : a.cps.toList.all lowB = true) (h2 : b.cps.toList.all lowB = true) : (a ++ b).cps.toList.all lowB = true := by
  rw [app_list, List.all_append, h1, h2]
  rfl
/-- a cut from the front -/
theorem cut_front (z : Str) {n : Int} (h0 : 0 ≤ n) (h1 : n ≤ z.length) : ((cutS z none (some n)).length : Int) = n := by
  have e : (cutS z none (some n)).length = n.toNat := by
    rw [← len_list, cut_list, List.length_take, List.length_drop, len_list]
    show min ((if n < 0 then (n + (z.length : Int)).toNat else min n.toNat z.length) - 0) (z.length - 0) = n.toNat
    rw [if_neg (by omega)]
    omega
  omega
theorem seq_ix {i : Int} {n : Nat} (h0 : 0 ≤ i) (h1 : i < n) : seqIndex? i n = some i.toNat := seqIndex_of h0 h1
theorem cut_back (z : Str) {n : Int} (h0 : 0 ≤ n) (h1 : n ≤ z.length) : ((cutS z (some n) none).length : Int) = z.length - n := by
  have e : (cutS z (some n) none).length = z.length - n.toNat := by
    rw [← len_list, cut_list, List.length_take, List.length_drop, len_list]
    show min (z.length - (if n < 0 then (n + (z.length : Int)).toNat else min n.toNat z.length)) (z.length - (if n < 0 then (n + (z.length : Int)).toNat else min n.toNat z.length)) = z.length - n.toNat
    rw [if_neg (by omega)]
    omega
  omega
theorem er_map {α β : Type} (f : α → β) : ∀ (l : List α) (k : Nat), (l.map f).eraseIdx k = (l.eraseIdx k).map f
  | [], _ => rfl
  | _ :: _, 0 => rfl
  | a :: l, k + 1 => by
    rw [List.map_cons, List.eraseIdx_cons_succ, List.eraseIdx_cons_succ, List.map_cons, er_map f l k]
theorem law_words_ok : ∀ ds S Q E, sp__law_words ds S Q E → bodySp 9 2 (r__law_words sp_draw) ds S Q E := by
  rintro ds S Q E ⟨p, many, ed, h0, h1, bg, q⟩
  subst ed
  unfold r__law_words
  have draw : ∀ (m : Int) (S1 S2 : Sto) (Q1 : DQ) (E1 : DX), 0 < m → m < 2 ^ 64 → Bg p S1 S2 → (∀ r S3, Bg p S2 S3 → 0 ≤ r → r < m → Q1 (.int r) S3) → sp_draw [.ref p, .int m] S2 Q1 E1 :=
    fun m S1 S2 Q1 E1 h0 h1 b k => ⟨p, m, rfl, h0, h1, b.self, fun z S3 b3 => k z S3 b3⟩
  (try simp only [x_spr, startD, List.map_cons, List.map_nil, List.length_cons, List.length_nil, Nat.reduceAdd, Nat.reduceSub, Int.reduceLT, Int.reduceLE, Int.reduceToNat,  Int.reducePow, Int.reduceNeg, Nat.reduceLT, Nat.reduceLeDiff, Nat.reducePow, List.replicate_succ, List.replicate_zero, List.cons_append, List.nil_append, sSeq, sIf, sRet, sRetN, sNext, sAsg, sDrop, gNm, gOf, Tg.d, Tg.ds, dVar, dCst, dNil, dCons, dOp, dUn, dChain, dBl, dAnd, dOr, dNot, dIf, dTst, dCall, dCB, dLst, dTup, dM1, gSubD, mkL, dYes, dPart, dSlc, iEnumD, iSeqD, iRng1D, iRng2D, sFor, dLc, wipeD, si_str, si_tup, si_lst, si_cst, x_slcs, x_slct, x_slcl, x_slcc, dFld, insOf, sFldD, x_frz, dMake, dMt, x_isref, x_app, x_pop,
  x_lt, x_le, x_gt, x_ge, x_eqi, x_nei, x_eqs, x_nes, x_ner, x_eqr, x_in, x_nin, x_is, x_isnt, x_add, x_adds, x_addt, x_addl, x_sub, x_mul, x_div, x_mod, x_pow, x_neg, x_int, x_abs, x_max, x_min, x_len, len_str, len_tup, len_lst, len_cst, x_idxs, x_idxt, x_idxl, x_idxc, x_idxr, x_isi, ty_str, ty_int, ty_bl, ty_non, ty_tup, ty_lst, ty_cst, ty_ins, tr_bl, tr_int, tr_str, tr_tup, tr_lst, tr_non, x_all, x_ends, x_starts, at_0, at_1, at_2, ix_0, ix_1,
  List.getElem?_cons_zero, List.getElem?_cons_succ, List.getElem?_nil, List.set_cons_zero, List.set_cons_succ, List.set_nil, Option.some.injEq, exists_eq_left', exists_eq_left, exists_and_left, Bool.false_eq_true, if_false, if_true, D.int.injEq, D.bl.injEq, D.ref.injEq, D.str.injEq, D.lst.injEq, D.tup.injEq, MO.lst.injEq, MO.ins.injEq, List.cons.injEq, Prod.mk.injEq, and_true, true_and, and_assoc, decide_eq_true_eq, Sto.set_same, Sto.set_set, reduceCtorEq, false_and, exists_false, false_or, or_false, ne_eq, not_false_eq_true, exists_eq', Bool.not_true, Bool.not_false, Bool.not_eq_true', decide_eq_false_iff_not, x_ext, sm_lst, sa_lst, sa_tup, sa_cst, x_lists, x_listl, x_listt, x_tupl, x_tupt, io_ins, x_muls, dOpX, dOwn1, dMeth, dCMet, dMakeS, ownCmp, ownL, ownR, ownNe, ownBin, bkAny, bkTru, bkLen, sPar, setAll, zl, Nat.reduceMul])
  intro q1 hq1
  have n1 : q1 ≠ p := bg.ne hq1
  have b1 : Bg p S (S.set q1 (.lst ((Str.ofString "abcdefghijklmnopqrstuvwxyz").cps.toList.map chD))) := bg.new hq1
  intro q2 hq2
  have n2 : q2 ≠ p := b1.ne hq2
  have n21 : q2 ≠ q1 := fun e => by rw [e, Sto.set_same] at hq2; cases hq2
  have b2 := b1.new (o := .lst []) hq2
  have s1 := b1.no hq2
  have hL : ((Str.ofString "abcdefghijklmnopqrstuvwxyz").cps.toList).length = 26 := by decide +kernel
  refine draw 8 S _ _ _ (by decide) (by decide) b2 fun r S3 b3 r0 r1 => ?_
  (try simp only [x_spr, startD, List.map_cons, List.map_nil, List.length_cons, List.length_nil, Nat.reduceAdd, Nat.reduceSub, Int.reduceLT, Int.reduceLE, Int.reduceToNat,  Int.reducePow, Int.reduceNeg, Nat.reduceLT, Nat.reduceLeDiff, Nat.reducePow, List.replicate_succ, List.replicate_zero, List.cons_append, List.nil_append, sSeq, sIf, sRet, sRetN, sNext, sAsg, sDrop, gNm, gOf, Tg.d, Tg.ds, dVar, dCst, dNil, dCons, dOp, dUn, dChain, dBl, dAnd, dOr, dNot, dIf, dTst, dCall, dCB, dLst, dTup, dM1, gSubD, mkL, dYes, dPart, dSlc, iEnumD, iSeqD, iRng1D, iRng2D, sFor, dLc, wipeD, si_str, si_tup, si_lst, si_cst, x_slcs, x_slct, x_slcl, x_slcc, dFld, insOf, sFldD, x_frz, dMake, dMt, x_isref, x_app, x_pop,
  x_lt, x_le, x_gt, x_ge, x_eqi, x_nei, x_eqs, x_nes, x_ner, x_eqr, x_in, x_nin, x_is, x_isnt, x_add, x_adds, x_addt, x_addl, x_sub, x_mul, x_div, x_mod, x_pow, x_neg, x_int, x_abs, x_max, x_min, x_len, len_str, len_tup, len_lst, len_cst, x_idxs, x_idxt, x_idxl, x_idxc, x_idxr, x_isi, ty_str, ty_int, ty_bl, ty_non, ty_tup, ty_lst, ty_cst, ty_ins, tr_bl, tr_int, tr_str, tr_tup, tr_lst, tr_non, x_all, x_ends, x_starts, at_0, at_1, at_2, ix_0, ix_1,
  List.getElem?_cons_zero, List.getElem?_cons_succ, List.getElem?_nil, List.set_cons_zero, List.set_cons_succ, List.set_nil, Option.some.injEq, exists_eq_left', exists_eq_left, exists_and_left, Bool.false_eq_true, if_false, if_true, D.int.injEq, D.bl.injEq, D.ref.injEq, D.str.injEq, D.lst.injEq, D.tup.injEq, MO.lst.injEq, MO.ins.injEq, List.cons.injEq, Prod.mk.injEq, and_true, true_and, and_assoc, decide_eq_true_eq, Sto.set_same, Sto.set_set, reduceCtorEq, false_and, exists_false, false_or, or_false, ne_eq, not_false_eq_true, exists_eq', Bool.not_true, Bool.not_false, Bool.not_eq_true', decide_eq_false_iff_not, x_ext, sm_lst, sa_lst, sa_tup, sa_cst, x_lists, x_listl, x_listt, x_tupl, x_tupt, io_ins, x_muls, dOpX, dOwn1, dMeth, dCMet, dMakeS, ownCmp, ownL, ownR, ownNe, ownBin, bkAny, bkTru, bkLen, sPar, setAll, zl, Nat.reduceMul])
  refine ⟨by omega, by omega, lt_line (by rw [rngD_len]; omega), ?_⟩
  have b30 := b2.trans b3
  have k1 : S3 q1 = some (.lst ((Str.ofString "abcdefghijklmnopqrstuvwxyz").cps.toList.map chD)) := b3.off n1 (by rw [Sto.set_ne (Ne.symm n21), Sto.set_same])
  have k2 : S3 q2 = some (.lst []) := b3.off n2 Sto.set_same
  refine lcGo_inv _ (fun i acc S' => Bg p S S' ∧ S' q1 = some (.lst ((Str.ofString "abcdefghijklmnopqrstuvwxyz").cps.toList.map chD)) ∧ S' q2 = some (.lst []) ∧ ∃ cs : List Nat, acc = cs.map chD ∧ cs.length = i ∧ ∀ k ∈ cs, lowB k = true) ⟨b30, k1, k2, [], rfl, rfl, fun _ h => by cases h⟩ ?_ ?_
  · rintro i x acc S4 Kn Ks hg ⟨b4, e1, e2, cs, ea, el, hc⟩ hk _
    (try simp only [x_spr, startD, List.map_cons, List.map_nil, List.length_cons, List.length_nil, Nat.reduceAdd, Nat.reduceSub, Int.reduceLT, Int.reduceLE, Int.reduceToNat,  Int.reducePow, Int.reduceNeg, Nat.reduceLT, Nat.reduceLeDiff, Nat.reducePow, List.replicate_succ, List.replicate_zero, List.cons_append, List.nil_append, sSeq, sIf, sRet, sRetN, sNext, sAsg, sDrop, gNm, gOf, Tg.d, Tg.ds, dVar, dCst, dNil, dCons, dOp, dUn, dChain, dBl, dAnd, dOr, dNot, dIf, dTst, dCall, dCB, dLst, dTup, dM1, gSubD, mkL, dYes, dPart, dSlc, iEnumD, iSeqD, iRng1D, iRng2D, sFor, dLc, wipeD, si_str, si_tup, si_lst, si_cst, x_slcs, x_slct, x_slcl, x_slcc, dFld, insOf, sFldD, x_frz, dMake, dMt, x_isref, x_app, x_pop,
  x_lt, x_le, x_gt, x_ge, x_eqi, x_nei, x_eqs, x_nes, x_ner, x_eqr, x_in, x_nin, x_is, x_isnt, x_add, x_adds, x_addt, x_addl, x_sub, x_mul, x_div, x_mod, x_pow, x_neg, x_int, x_abs, x_max, x_min, x_len, len_str, len_tup, len_lst, len_cst, x_idxs, x_idxt, x_idxl, x_idxc, x_idxr, x_isi, ty_str, ty_int, ty_bl, ty_non, ty_tup, ty_lst, ty_cst, ty_ins, tr_bl, tr_int, tr_str, tr_tup, tr_lst, tr_non, x_all, x_ends, x_starts, at_0, at_1, at_2, ix_0, ix_1,
  List.getElem?_cons_zero, List.getElem?_cons_succ, List.getElem?_nil, List.set_cons_zero, List.set_cons_succ, List.set_nil, Option.some.injEq, exists_eq_left', exists_eq_left, exists_and_left, Bool.false_eq_true, if_false, if_true, D.int.injEq, D.bl.injEq, D.ref.injEq, D.str.injEq, D.lst.injEq, D.tup.injEq, MO.lst.injEq, MO.ins.injEq, List.cons.injEq, Prod.mk.injEq, and_true, true_and, and_assoc, decide_eq_true_eq, Sto.set_same, Sto.set_set, reduceCtorEq, false_and, exists_false, false_or, or_false, ne_eq, not_false_eq_true, exists_eq', Bool.not_true, Bool.not_false, Bool.not_eq_true', decide_eq_false_iff_not, x_ext, sm_lst, sa_lst, sa_tup, sa_cst, x_lists, x_listl, x_listt, x_tupl, x_tupt, io_ins, x_muls, dOpX, dOwn1, dMeth, dCMet, dMakeS, ownCmp, ownL, ownR, ownNe, ownBin, bkAny, bkTru, bkLen, sPar, setAll, zl, Nat.reduceMul])
    refine draw 26 S _ _ _ (by decide) (by decide) b4 fun r' S5 b5 z0 z1 => ?_
    have e1' := b5.off n1 e1
    have e2' := b5.off n2 e2
    (try simp only [x_spr, startD, List.map_cons, List.map_nil, List.length_cons, List.length_nil, Nat.reduceAdd, Nat.reduceSub, Int.reduceLT, Int.reduceLE, Int.reduceToNat,  Int.reducePow, Int.reduceNeg, Nat.reduceLT, Nat.reduceLeDiff, Nat.reducePow, List.replicate_succ, List.replicate_zero, List.cons_append, List.nil_append, sSeq, sIf, sRet, sRetN, sNext, sAsg, sDrop, gNm, gOf, Tg.d, Tg.ds, dVar, dCst, dNil, dCons, dOp, dUn, dChain, dBl, dAnd, dOr, dNot, dIf, dTst, dCall, dCB, dLst, dTup, dM1, gSubD, mkL, dYes, dPart, dSlc, iEnumD, iSeqD, iRng1D, iRng2D, sFor, dLc, wipeD, si_str, si_tup, si_lst, si_cst, x_slcs, x_slct, x_slcl, x_slcc, dFld, insOf, sFldD, x_frz, dMake, dMt, x_isref, x_app, x_pop,
  x_lt, x_le, x_gt, x_ge, x_eqi, x_nei, x_eqs, x_nes, x_ner, x_eqr, x_in, x_nin, x_is, x_isnt, x_add, x_adds, x_addt, x_addl, x_sub, x_mul, x_div, x_mod, x_pow, x_neg, x_int, x_abs, x_max, x_min, x_len, len_str, len_tup, len_lst, len_cst, x_idxs, x_idxt, x_idxl, x_idxc, x_idxr, x_isi, ty_str, ty_int, ty_bl, ty_non, ty_tup, ty_lst, ty_cst, ty_ins, tr_bl, tr_int, tr_str, tr_tup, tr_lst, tr_non, x_all, x_ends, x_starts, at_0, at_1, at_2, ix_0, ix_1,
  List.getElem?_cons_zero, List.getElem?_cons_succ, List.getElem?_nil, List.set_cons_zero, List.set_cons_succ, List.set_nil, Option.some.injEq, exists_eq_left', exists_eq_left, exists_and_left, Bool.false_eq_true, if_false, if_true, D.int.injEq, D.bl.injEq, D.ref.injEq, D.str.injEq, D.lst.injEq, D.tup.injEq, MO.lst.injEq, MO.ins.injEq, List.cons.injEq, Prod.mk.injEq, and_true, true_and, and_assoc, decide_eq_true_eq, Sto.set_same, Sto.set_set, reduceCtorEq, false_and, exists_false, false_or, or_false, ne_eq, not_false_eq_true, exists_eq', Bool.not_true, Bool.not_false, Bool.not_eq_true', decide_eq_false_iff_not, x_ext, sm_lst, sa_lst, sa_tup, sa_cst, x_lists, x_listl, x_listt, x_tupl, x_tupt, io_ins, x_muls, dOpX, dOwn1, dMeth, dCMet, dMakeS, ownCmp, ownL, ownR, ownNe, ownBin, bkAny, bkTru, bkLen, sPar, setAll, zl, Nat.reduceMul, e1'])
    obtain ⟨d, hd, hm⟩ := at_in (xs := (Str.ofString "abcdefghijklmnopqrstuvwxyz").cps.toList.map chD) z0 (by rw [List.length_map, hL]; exact z1)
    obtain ⟨k, hkm, ek⟩ := List.mem_map.mp hm
    refine ⟨d, hd, hk _ _ ⟨b4.trans b5, e1', e2', cs ++ [k], by rw [ea, List.map_append, ← ek]; rfl, by rw [List.length_append, el]; rfl, fun m hm2 => ?_⟩⟩
    rcases List.mem_append.mp hm2 with h | h
    · exact hc m h
    · rw [List.mem_singleton.mp h]
      exact low_let k hkm
  · rintro acc S4 ⟨b4, e1, e2, cs, ea, el, hc⟩
    subst ea
    rw [rngD_len] at el
    obtain ⟨zs, j1, j2, j3, j4⟩ := signs_go cs hc
    have e0 : (Str.ofString "").length = 0 := by decide +kernel
    rw [x_join j1]
    refine ⟨trivial, by rw [j3, e0]; omega, ?_⟩
    generalize hst : Txt.join (Str.ofString "") zs = stem at j4 ⊢
    have sl : stem.length = r.toNat := by rw [← len_list, j4, el]
    have sw : stem.cps.toList.all lowB = true := by rw [j4, List.all_eq_true]; exact hc
    (try simp only [x_spr, startD, List.map_cons, List.map_nil, List.length_cons, List.length_nil, Nat.reduceAdd, Nat.reduceSub, Int.reduceLT, Int.reduceLE, Int.reduceToNat,  Int.reducePow, Int.reduceNeg, Nat.reduceLT, Nat.reduceLeDiff, Nat.reducePow, List.replicate_succ, List.replicate_zero, List.cons_append, List.nil_append, sSeq, sIf, sRet, sRetN, sNext, sAsg, sDrop, gNm, gOf, Tg.d, Tg.ds, dVar, dCst, dNil, dCons, dOp, dUn, dChain, dBl, dAnd, dOr, dNot, dIf, dTst, dCall, dCB, dLst, dTup, dM1, gSubD, mkL, dYes, dPart, dSlc, iEnumD, iSeqD, iRng1D, iRng2D, sFor, dLc, wipeD, si_str, si_tup, si_lst, si_cst, x_slcs, x_slct, x_slcl, x_slcc, dFld, insOf, sFldD, x_frz, dMake, dMt, x_isref, x_app, x_pop,
  x_lt, x_le, x_gt, x_ge, x_eqi, x_nei, x_eqs, x_nes, x_ner, x_eqr, x_in, x_nin, x_is, x_isnt, x_add, x_adds, x_addt, x_addl, x_sub, x_mul, x_div, x_mod, x_pow, x_neg, x_int, x_abs, x_max, x_min, x_len, len_str, len_tup, len_lst, len_cst, x_idxs, x_idxt, x_idxl, x_idxc, x_idxr, x_isi, ty_str, ty_int, ty_bl, ty_non, ty_tup, ty_lst, ty_cst, ty_ins, tr_bl, tr_int, tr_str, tr_tup, tr_lst, tr_non, x_all, x_ends, x_starts, at_0, at_1, at_2, ix_0, ix_1,
  List.getElem?_cons_zero, List.getElem?_cons_succ, List.getElem?_nil, List.set_cons_zero, List.set_cons_succ, List.set_nil, Option.some.injEq, exists_eq_left', exists_eq_left, exists_and_left, Bool.false_eq_true, if_false, if_true, D.int.injEq, D.bl.injEq, D.ref.injEq, D.str.injEq, D.lst.injEq, D.tup.injEq, MO.lst.injEq, MO.ins.injEq, List.cons.injEq, Prod.mk.injEq, and_true, true_and, and_assoc, decide_eq_true_eq, Sto.set_same, Sto.set_set, reduceCtorEq, false_and, exists_false, false_or, or_false, ne_eq, not_false_eq_true, exists_eq', Bool.not_true, Bool.not_false, Bool.not_eq_true', decide_eq_false_iff_not, x_ext, sm_lst, sa_lst, sa_tup, sa_cst, x_lists, x_listl, x_listt, x_tupl, x_tupt, io_ins, x_muls, dOpX, dOwn1, dMeth, dCMet, dMakeS, ownCmp, ownL, ownR, ownNe, ownBin, bkAny, bkTru, bkLen, sPar, setAll, zl, Nat.reduceMul])
    refine draw _ S _ _ _ (by omega) (by omega) b4 fun spot S5 b5 p0 p1 => ?_
    have e1' := b5.off n1 e1
    have e2' := b5.off n2 e2
    (try simp only [x_spr, startD, List.map_cons, List.map_nil, List.length_cons, List.length_nil, Nat.reduceAdd, Nat.reduceSub, Int.reduceLT, Int.reduceLE, Int.reduceToNat,  Int.reducePow, Int.reduceNeg, Nat.reduceLT, Nat.reduceLeDiff, Nat.reducePow, List.replicate_succ, List.replicate_zero, List.cons_append, List.nil_append, sSeq, sIf, sRet, sRetN, sNext, sAsg, sDrop, gNm, gOf, Tg.d, Tg.ds, dVar, dCst, dNil, dCons, dOp, dUn, dChain, dBl, dAnd, dOr, dNot, dIf, dTst, dCall, dCB, dLst, dTup, dM1, gSubD, mkL, dYes, dPart, dSlc, iEnumD, iSeqD, iRng1D, iRng2D, sFor, dLc, wipeD, si_str, si_tup, si_lst, si_cst, x_slcs, x_slct, x_slcl, x_slcc, dFld, insOf, sFldD, x_frz, dMake, dMt, x_isref, x_app, x_pop,
  x_lt, x_le, x_gt, x_ge, x_eqi, x_nei, x_eqs, x_nes, x_ner, x_eqr, x_in, x_nin, x_is, x_isnt, x_add, x_adds, x_addt, x_addl, x_sub, x_mul, x_div, x_mod, x_pow, x_neg, x_int, x_abs, x_max, x_min, x_len, len_str, len_tup, len_lst, len_cst, x_idxs, x_idxt, x_idxl, x_idxc, x_idxr, x_isi, ty_str, ty_int, ty_bl, ty_non, ty_tup, ty_lst, ty_cst, ty_ins, tr_bl, tr_int, tr_str, tr_tup, tr_lst, tr_non, x_all, x_ends, x_starts, at_0, at_1, at_2, ix_0, ix_1,
  List.getElem?_cons_zero, List.getElem?_cons_succ, List.getElem?_nil, List.set_cons_zero, List.set_cons_succ, List.set_nil, Option.some.injEq, exists_eq_left', exists_eq_left, exists_and_left, Bool.false_eq_true, if_false, if_true, D.int.injEq, D.bl.injEq, D.ref.injEq, D.str.injEq, D.lst.injEq, D.tup.injEq, MO.lst.injEq, MO.ins.injEq, List.cons.injEq, Prod.mk.injEq, and_true, true_and, and_assoc, decide_eq_true_eq, Sto.set_same, Sto.set_set, reduceCtorEq, false_and, exists_false, false_or, or_false, ne_eq, not_false_eq_true, exists_eq', Bool.not_true, Bool.not_false, Bool.not_eq_true', decide_eq_false_iff_not, x_ext, sm_lst, sa_lst, sa_tup, sa_cst, x_lists, x_listl, x_listt, x_tupl, x_tupt, io_ins, x_muls, dOpX, dOwn1, dMeth, dCMet, dMakeS, ownCmp, ownL, ownR, ownNe, ownBin, bkAny, bkTru, bkLen, sPar, setAll, zl, Nat.reduceMul])
    refine ⟨by omega, by omega, ?_⟩
    refine forGo_inv _ (fun i ρ S' => Bg p S S' ∧ ∃ (ks : List Nat) (zs : List Str) (v4 v7 v8 : Option D), ρ = [some (.ref p), some (.int many), some (.str stem), some (.int spot), v4, some (.ref q1), some (.ref q2), v7, v8] ∧ S' q1 = some (.lst (ks.map chD)) ∧ ks.length + i = 26 ∧ (∀ k ∈ ks, lowB k = true) ∧
      S' q2 = some (.lst (zs.map D.str)) ∧ zs.length = i ∧ ∀ z ∈ zs, GoodW z) ⟨b4.trans b5, _, [], none, none, none, rfl, e1', hL, low_let, e2', rfl, fun _ h => by cases h⟩ ?_ ?_
    · rintro i x ρ S6 Kn hg ⟨b6, ks, zs', v4, v7, v8, eρ, f1, f2, f3, f4, f5, f6⟩ hk
      subst eρ
      have hi : i < many.toNat := by
        have := (List.getElem?_eq_some_iff.mp hg).1
        rwa [rngD_len] at this
      (try simp only [x_spr, startD, List.map_cons, List.map_nil, List.length_cons, List.length_nil, Nat.reduceAdd, Nat.reduceSub, Int.reduceLT, Int.reduceLE, Int.reduceToNat,  Int.reducePow, Int.reduceNeg, Nat.reduceLT, Nat.reduceLeDiff, Nat.reducePow, List.replicate_succ, List.replicate_zero, List.cons_append, List.nil_append, sSeq, sIf, sRet, sRetN, sNext, sAsg, sDrop, gNm, gOf, Tg.d, Tg.ds, dVar, dCst, dNil, dCons, dOp, dUn, dChain, dBl, dAnd, dOr, dNot, dIf, dTst, dCall, dCB, dLst, dTup, dM1, gSubD, mkL, dYes, dPart, dSlc, iEnumD, iSeqD, iRng1D, iRng2D, sFor, dLc, wipeD, si_str, si_tup, si_lst, si_cst, x_slcs, x_slct, x_slcl, x_slcc, dFld, insOf, sFldD, x_frz, dMake, dMt, x_isref, x_app, x_pop,
  x_lt, x_le, x_gt, x_ge, x_eqi, x_nei, x_eqs, x_nes, x_ner, x_eqr, x_in, x_nin, x_is, x_isnt, x_add, x_adds, x_addt, x_addl, x_sub, x_mul, x_div, x_mod, x_pow, x_neg, x_int, x_abs, x_max, x_min, x_len, len_str, len_tup, len_lst, len_cst, x_idxs, x_idxt, x_idxl, x_idxc, x_idxr, x_isi, ty_str, ty_int, ty_bl, ty_non, ty_tup, ty_lst, ty_cst, ty_ins, tr_bl, tr_int, tr_str, tr_tup, tr_lst, tr_non, x_all, x_ends, x_starts, at_0, at_1, at_2, ix_0, ix_1,
  List.getElem?_cons_zero, List.getElem?_cons_succ, List.getElem?_nil, List.set_cons_zero, List.set_cons_succ, List.set_nil, Option.some.injEq, exists_eq_left', exists_eq_left, exists_and_left, Bool.false_eq_true, if_false, if_true, D.int.injEq, D.bl.injEq, D.ref.injEq, D.str.injEq, D.lst.injEq, D.tup.injEq, MO.lst.injEq, MO.ins.injEq, List.cons.injEq, Prod.mk.injEq, and_true, true_and, and_assoc, decide_eq_true_eq, Sto.set_same, Sto.set_set, reduceCtorEq, false_and, exists_false, false_or, or_false, ne_eq, not_false_eq_true, exists_eq', Bool.not_true, Bool.not_false, Bool.not_eq_true', decide_eq_false_iff_not, x_ext, sm_lst, sa_lst, sa_tup, sa_cst, x_lists, x_listl, x_listt, x_tupl, x_tupt, io_ins, x_muls, dOpX, dOwn1, dMeth, dCMet, dMakeS, ownCmp, ownL, ownR, ownNe, ownBin, bkAny, bkTru, bkLen, sPar, setAll, zl, Nat.reduceMul, len_ref f1, f1])
      refine draw _ S _ _ _ (by rw [List.length_map]; omega) (by rw [List.length_map]; omega) b6 fun d S7 b7 d0 d1 => ?_
      rw [List.length_map] at d1
      have g1 := b7.off n1 f1
      have g2 := b7.off n2 f4
      have hd : d.toNat < ks.length := by omega
      (try simp only [x_spr, startD, List.map_cons, List.map_nil, List.length_cons, List.length_nil, Nat.reduceAdd, Nat.reduceSub, Int.reduceLT, Int.reduceLE, Int.reduceToNat,  Int.reducePow, Int.reduceNeg, Nat.reduceLT, Nat.reduceLeDiff, Nat.reducePow, List.replicate_succ, List.replicate_zero, List.cons_append, List.nil_append, sSeq, sIf, sRet, sRetN, sNext, sAsg, sDrop, gNm, gOf, Tg.d, Tg.ds, dVar, dCst, dNil, dCons, dOp, dUn, dChain, dBl, dAnd, dOr, dNot, dIf, dTst, dCall, dCB, dLst, dTup, dM1, gSubD, mkL, dYes, dPart, dSlc, iEnumD, iSeqD, iRng1D, iRng2D, sFor, dLc, wipeD, si_str, si_tup, si_lst, si_cst, x_slcs, x_slct, x_slcl, x_slcc, dFld, insOf, sFldD, x_frz, dMake, dMt, x_isref, x_app, x_pop,
  x_lt, x_le, x_gt, x_ge, x_eqi, x_nei, x_eqs, x_nes, x_ner, x_eqr, x_in, x_nin, x_is, x_isnt, x_add, x_adds, x_addt, x_addl, x_sub, x_mul, x_div, x_mod, x_pow, x_neg, x_int, x_abs, x_max, x_min, x_len, len_str, len_tup, len_lst, len_cst, x_idxs, x_idxt, x_idxl, x_idxc, x_idxr, x_isi, ty_str, ty_int, ty_bl, ty_non, ty_tup, ty_lst, ty_cst, ty_ins, tr_bl, tr_int, tr_str, tr_tup, tr_lst, tr_non, x_all, x_ends, x_starts, at_0, at_1, at_2, ix_0, ix_1,
  List.getElem?_cons_zero, List.getElem?_cons_succ, List.getElem?_nil, List.set_cons_zero, List.set_cons_succ, List.set_nil, Option.some.injEq, exists_eq_left', exists_eq_left, exists_and_left, Bool.false_eq_true, if_false, if_true, D.int.injEq, D.bl.injEq, D.ref.injEq, D.str.injEq, D.lst.injEq, D.tup.injEq, MO.lst.injEq, MO.ins.injEq, List.cons.injEq, Prod.mk.injEq, and_true, true_and, and_assoc, decide_eq_true_eq, Sto.set_same, Sto.set_set, reduceCtorEq, false_and, exists_false, false_or, or_false, ne_eq, not_false_eq_true, exists_eq', Bool.not_true, Bool.not_false, Bool.not_eq_true', decide_eq_false_iff_not, x_ext, sm_lst, sa_lst, sa_tup, sa_cst, x_lists, x_listl, x_listt, x_tupl, x_tupt, io_ins, x_muls, dOpX, dOwn1, dMeth, dCMet, dMakeS, ownCmp, ownL, ownR, ownNe, ownBin, bkAny, bkTru, bkLen, sPar, setAll, zl, Nat.reduceMul, g1])
      refine ⟨by omega, by omega, d.toNat, seq_ix d0 (by rw [List.length_map]; exact d1), chD ks[d.toNat], by rw [List.getElem?_map, List.getElem?_eq_getElem hd]; rfl, ?_⟩
      have c0 := cut_front stem p0 (by omega)
      have c1 := cut_back stem p0 (by omega)
      have lk : (⟨#[ks[d.toNat]]⟩ : Str).length = 1 := rfl
      have b8 : Bg p S (S7.set q1 (.lst ((ks.map chD).eraseIdx d.toNat))) := (b6.trans b7).wr n1 hq1
      have g2' : (S7.set q1 (.lst ((ks.map chD).eraseIdx d.toNat))) q2 = some (.lst (zs'.map D.str)) := by rw [Sto.set_ne n21]; exact g2
      (try simp only [x_spr, startD, List.map_cons, List.map_nil, List.length_cons, List.length_nil, Nat.reduceAdd, Nat.reduceSub, Int.reduceLT, Int.reduceLE, Int.reduceToNat,  Int.reducePow, Int.reduceNeg, Nat.reduceLT, Nat.reduceLeDiff, Nat.reducePow, List.replicate_succ, List.replicate_zero, List.cons_append, List.nil_append, sSeq, sIf, sRet, sRetN, sNext, sAsg, sDrop, gNm, gOf, Tg.d, Tg.ds, dVar, dCst, dNil, dCons, dOp, dUn, dChain, dBl, dAnd, dOr, dNot, dIf, dTst, dCall, dCB, dLst, dTup, dM1, gSubD, mkL, dYes, dPart, dSlc, iEnumD, iSeqD, iRng1D, iRng2D, sFor, dLc, wipeD, si_str, si_tup, si_lst, si_cst, x_slcs, x_slct, x_slcl, x_slcc, dFld, insOf, sFldD, x_frz, dMake, dMt, x_isref, x_app, x_pop,
  x_lt, x_le, x_gt, x_ge, x_eqi, x_nei, x_eqs, x_nes, x_ner, x_eqr, x_in, x_nin, x_is, x_isnt, x_add, x_adds, x_addt, x_addl, x_sub, x_mul, x_div, x_mod, x_pow, x_neg, x_int, x_abs, x_max, x_min, x_len, len_str, len_tup, len_lst, len_cst, x_idxs, x_idxt, x_idxl, x_idxc, x_idxr, x_isi, ty_str, ty_int, ty_bl, ty_non, ty_tup, ty_lst, ty_cst, ty_ins, tr_bl, tr_int, tr_str, tr_tup, tr_lst, tr_non, x_all, x_ends, x_starts, at_0, at_1, at_2, ix_0, ix_1,
  List.getElem?_cons_zero, List.getElem?_cons_succ, List.getElem?_nil, List.set_cons_zero, List.set_cons_succ, List.set_nil, Option.some.injEq, exists_eq_left', exists_eq_left, exists_and_left, Bool.false_eq_true, if_false, if_true, D.int.injEq, D.bl.injEq, D.ref.injEq, D.str.injEq, D.lst.injEq, D.tup.injEq, MO.lst.injEq, MO.ins.injEq, List.cons.injEq, Prod.mk.injEq, and_true, true_and, and_assoc, decide_eq_true_eq, Sto.set_same, Sto.set_set, reduceCtorEq, false_and, exists_false, false_or, or_false, ne_eq, not_false_eq_true, exists_eq', Bool.not_true, Bool.not_false, Bool.not_eq_true', decide_eq_false_iff_not, x_ext, sm_lst, sa_lst, sa_tup, sa_cst, x_lists, x_listl, x_listt, x_tupl, x_tupt, io_ins, x_muls, dOpX, dOwn1, dMeth, dCMet, dMakeS, ownCmp, ownL, ownR, ownNe, ownBin, bkAny, bkTru, bkLen, sPar, setAll, zl, Nat.reduceMul, chD, app_len, g2'])
      refine ⟨lt_line (by omega), lt_line (by omega), ?_⟩
      generalize hW : cutS stem none (some spot) ++ (⟨#[ks[d.toNat]]⟩ : Str) ++ cutS stem (some spot) none = W
      have lW : W.length = stem.length + 1 := by rw [← hW, app_len, app_len]; omega
      have wW : W.cps.toList.all lowB = true := by
        rw [← hW]
        refine app_low (app_low (cut_low sw) ?_) (cut_low sw)
        show (lowB ks[d.toNat] && true) = true
        rw [f3 _ (List.getElem_mem hd)]
        rfl
      refine draw _ S _ _ _ (by omega) (by omega) b8 fun r2 S9 b9 x0 x1 => ?_
      have g2'' := b9.off n2 g2'
      have g1'' := b9.off n1 Sto.set_same
      (try simp only [x_spr, startD, List.map_cons, List.map_nil, List.length_cons, List.length_nil, Nat.reduceAdd, Nat.reduceSub, Int.reduceLT, Int.reduceLE, Int.reduceToNat,  Int.reducePow, Int.reduceNeg, Nat.reduceLT, Nat.reduceLeDiff, Nat.reducePow, List.replicate_succ, List.replicate_zero, List.cons_append, List.nil_append, sSeq, sIf, sRet, sRetN, sNext, sAsg, sDrop, gNm, gOf, Tg.d, Tg.ds, dVar, dCst, dNil, dCons, dOp, dUn, dChain, dBl, dAnd, dOr, dNot, dIf, dTst, dCall, dCB, dLst, dTup, dM1, gSubD, mkL, dYes, dPart, dSlc, iEnumD, iSeqD, iRng1D, iRng2D, sFor, dLc, wipeD, si_str, si_tup, si_lst, si_cst, x_slcs, x_slct, x_slcl, x_slcc, dFld, insOf, sFldD, x_frz, dMake, dMt, x_isref, x_app, x_pop,
  x_lt, x_le, x_gt, x_ge, x_eqi, x_nei, x_eqs, x_nes, x_ner, x_eqr, x_in, x_nin, x_is, x_isnt, x_add, x_adds, x_addt, x_addl, x_sub, x_mul, x_div, x_mod, x_pow, x_neg, x_int, x_abs, x_max, x_min, x_len, len_str, len_tup, len_lst, len_cst, x_idxs, x_idxt, x_idxl, x_idxc, x_idxr, x_isi, ty_str, ty_int, ty_bl, ty_non, ty_tup, ty_lst, ty_cst, ty_ins, tr_bl, tr_int, tr_str, tr_tup, tr_lst, tr_non, x_all, x_ends, x_starts, at_0, at_1, at_2, ix_0, ix_1,
  List.getElem?_cons_zero, List.getElem?_cons_succ, List.getElem?_nil, List.set_cons_zero, List.set_cons_succ, List.set_nil, Option.some.injEq, exists_eq_left', exists_eq_left, exists_and_left, Bool.false_eq_true, if_false, if_true, D.int.injEq, D.bl.injEq, D.ref.injEq, D.str.injEq, D.lst.injEq, D.tup.injEq, MO.lst.injEq, MO.ins.injEq, List.cons.injEq, Prod.mk.injEq, and_true, true_and, and_assoc, decide_eq_true_eq, Sto.set_same, Sto.set_set, reduceCtorEq, false_and, exists_false, false_or, or_false, ne_eq, not_false_eq_true, exists_eq', Bool.not_true, Bool.not_false, Bool.not_eq_true', decide_eq_false_iff_not, x_ext, sm_lst, sa_lst, sa_tup, sa_cst, x_lists, x_listl, x_listt, x_tupl, x_tupt, io_ins, x_muls, dOpX, dOwn1, dMeth, dCMet, dMakeS, ownCmp, ownL, ownR, ownNe, ownBin, bkAny, bkTru, bkLen, sPar, setAll, zl, Nat.reduceMul, g2''])
      have cW := cut_front W (n := spot + 1 + r2) (by omega) (by omega)
      refine ⟨by rw [List.length_map, f5]; exact Nat.lt_of_lt_of_le (by omega : i < 100) (lt_line (by omega)), hk _ _ ⟨(b8.trans b9).wr n2 s1, ks.eraseIdx d.toNat, zs' ++ [cutS W none (some (spot + 1 + r2))], _, _, _, rfl, ?_, ?_, ?_, ?_, ?_, ?_⟩⟩
      · rw [Sto.set_ne (Ne.symm n21), g1'', er_map]
      · rw [List.length_eraseIdx_of_lt hd]
        omega
      · exact fun k hk => f3 k (List.mem_of_mem_eraseIdx hk)
      · rw [Sto.set_same, List.map_append]
        rfl
      · rw [List.length_append, f5]
        rfl
      · intro z hz
        rcases List.mem_append.mp hz with h | h
        · exact f6 z h
        · rw [List.mem_singleton.mp h]
          exact ⟨by omega, by omega, cut_low wW⟩
    · rintro ρ S6 ⟨b6, ks, zs', v4, v7, v8, eρ, f1, f2, f3, f4, f5, f6⟩
      subst eρ
      (try simp only [x_spr, startD, List.map_cons, List.map_nil, List.length_cons, List.length_nil, Nat.reduceAdd, Nat.reduceSub, Int.reduceLT, Int.reduceLE, Int.reduceToNat,  Int.reducePow, Int.reduceNeg, Nat.reduceLT, Nat.reduceLeDiff, Nat.reducePow, List.replicate_succ, List.replicate_zero, List.cons_append, List.nil_append, sSeq, sIf, sRet, sRetN, sNext, sAsg, sDrop, gNm, gOf, Tg.d, Tg.ds, dVar, dCst, dNil, dCons, dOp, dUn, dChain, dBl, dAnd, dOr, dNot, dIf, dTst, dCall, dCB, dLst, dTup, dM1, gSubD, mkL, dYes, dPart, dSlc, iEnumD, iSeqD, iRng1D, iRng2D, sFor, dLc, wipeD, si_str, si_tup, si_lst, si_cst, x_slcs, x_slct, x_slcl, x_slcc, dFld, insOf, sFldD, x_frz, dMake, dMt, x_isref, x_app, x_pop,
  x_lt, x_le, x_gt, x_ge, x_eqi, x_nei, x_eqs, x_nes, x_ner, x_eqr, x_in, x_nin, x_is, x_isnt, x_add, x_adds, x_addt, x_addl, x_sub, x_mul, x_div, x_mod, x_pow, x_neg, x_int, x_abs, x_max, x_min, x_len, len_str, len_tup, len_lst, len_cst, x_idxs, x_idxt, x_idxl, x_idxc, x_idxr, x_isi, ty_str, ty_int, ty_bl, ty_non, ty_tup, ty_lst, ty_cst, ty_ins, tr_bl, tr_int, tr_str, tr_tup, tr_lst, tr_non, x_all, x_ends, x_starts, at_0, at_1, at_2, ix_0, ix_1,
  List.getElem?_cons_zero, List.getElem?_cons_succ, List.getElem?_nil, List.set_cons_zero, List.set_cons_succ, List.set_nil, Option.some.injEq, exists_eq_left', exists_eq_left, exists_and_left, Bool.false_eq_true, if_false, if_true, D.int.injEq, D.bl.injEq, D.ref.injEq, D.str.injEq, D.lst.injEq, D.tup.injEq, MO.lst.injEq, MO.ins.injEq, List.cons.injEq, Prod.mk.injEq, and_true, true_and, and_assoc, decide_eq_true_eq, Sto.set_same, Sto.set_set, reduceCtorEq, false_and, exists_false, false_or, or_false, ne_eq, not_false_eq_true, exists_eq', Bool.not_true, Bool.not_false, Bool.not_eq_true', decide_eq_false_iff_not, x_ext, sm_lst, sa_lst, sa_tup, sa_cst, x_lists, x_listl, x_listt, x_tupl, x_tupt, io_ins, x_muls, dOpX, dOwn1, dMeth, dCMet, dMakeS, ownCmp, ownL, ownR, ownNe, ownBin, bkAny, bkTru, bkLen, sPar, setAll, zl, Nat.reduceMul])
      rw [rngD_len] at f5
      exact ⟨_, f4, q zs' _ (b6.dl n2 s1) (by omega) f6⟩
/-- a name as the law makes them -/
def GoodN (n : Str) : Prop := n = Str.ofString "" ∨ GoodW n ∨ ∃ w, GoodW w ∧ n = w ++ Str.ofString "!"
/-- a line as the law makes them -/
def GoodL (l : D) : Prop := ∃ k n, l = .tup [.str k, .str n] ∧ GoodW k ∧ GoodN n
theorem cut_app {a b : Str} : cutS (a ++ b) none (some (-(b.length : Int))) = a ∨ b.length = 0 := by
  by_cases h : b.length = 0
  · exact .inr h
  · refine .inl (str_ext ?_)
    rw [cut_list, app_list]
    show (List.drop 0 (a.cps.toList ++ b.cps.toList)).take ((if -(b.length : Int) < 0 then (-(b.length : Int) + ((a ++ b).length : Int)).toNat else min (-(b.length : Int)).toNat (a ++ b).length) - 0) = a.cps.toList
    rw [if_pos (by omega), app_len, List.drop_zero]
    have : (-(b.length : Int) + ((a.length + b.length : Nat) : Int)).toNat - 0 = a.cps.toList.length := by rw [len_list]; omega
    rw [this, List.take_left']
    rfl
theorem GoodN.name {n : Str} (h : GoodN n) : (decide (n = Str.ofString "") || isNameS n) = true := by
  rcases h with h | h | ⟨w, h, e⟩
  · rw [decide_eq_true h, Bool.true_or]
  · rw [name_eq, h.word, Bool.true_or, Bool.or_true]
  · subst e
    have e1 : (Str.ofString "!").length = 1 := by decide +kernel
    have c : cutS (w ++ Str.ofString "!") none (some (-1)) = w := by
      rcases cut_app (a := w) (b := Str.ofString "!") with h | h
      · rw [e1] at h
        exact h
      · rw [e1] at h
        cases h
    have c2 : cutS (w ++ Str.ofString "!") (some (-1)) none = Str.ofString "!" := by
      refine str_ext ?_
      rw [cut_list, app_list]
      show (List.drop (if (-1 : Int) < 0 then ((-1 : Int) + ((w ++ Str.ofString "!").length : Int)).toNat else min (-1 : Int).toNat (w ++ Str.ofString "!").length) (w.cps.toList ++ (Str.ofString "!").cps.toList)).take ((w ++ Str.ofString "!").length - (if (-1 : Int) < 0 then ((-1 : Int) + ((w ++ Str.ofString "!").length : Int)).toNat else min (-1 : Int).toNat (w ++ Str.ofString "!").length)) = _
      rw [if_pos (by decide), app_len, e1]
      have : ((-1 : Int) + ((w.length + 1 : Nat) : Int)).toNat = w.cps.toList.length := by rw [len_list]; omega
      rw [this, List.drop_left' rfl, len_list]
      have : w.length + 1 - w.length = (Str.ofString "!").cps.toList.length := by rw [bang_list]; show _ = 1; omega
      rw [this, List.take_length]
    unfold isNameS
    rw [if_pos c2, c, h.word, Bool.or_true]
theorem GoodL.line {l : D} (h : GoodL l) : isTh l ∧ lineD l = true := by
  obtain ⟨k, n, e, hk, hn⟩ := h
  subst e
  refine ⟨⟨rfl, fun _ _ e => by cases e; exact ⟨rfl, rfl⟩⟩, ?_⟩
  show (isWordS k && (decide (n = Str.ofString "") || isNameS n)) = true
  rw [hk.word, hn.name]
  rfl
def sp__law_pool : DSp := fun ds S Q _ => ∃ p : Addr, ds = [.ref p] ∧ Bg p S S ∧ ∀ (ls : List D) S', Bg p S S' → ls.length = 12 → (∀ l ∈ ls, GoodL l) → Q (.lst ls) S'
theorem law_pool_ok : ∀ ds S Q E, sp__law_pool ds S Q E → bodySp 7 1 (r__law_pool sp__law_words) ds S Q E := by
  rintro ds S Q E ⟨p, ed, bg, q⟩
  subst ed
  unfold r__law_pool
  (try simp only [x_spr, startD, List.map_cons, List.map_nil, List.length_cons, List.length_nil, Nat.reduceAdd, Nat.reduceSub, Int.reduceLT, Int.reduceLE, Int.reduceToNat,  Int.reducePow, Int.reduceNeg, Nat.reduceLT, Nat.reduceLeDiff, Nat.reducePow, List.replicate_succ, List.replicate_zero, List.cons_append, List.nil_append, sSeq, sIf, sRet, sRetN, sNext, sAsg, sDrop, gNm, gOf, Tg.d, Tg.ds, dVar, dCst, dNil, dCons, dOp, dUn, dChain, dBl, dAnd, dOr, dNot, dIf, dTst, dCall, dCB, dLst, dTup, dM1, gSubD, mkL, dYes, dPart, dSlc, iEnumD, iSeqD, iRng1D, iRng2D, sFor, dLc, wipeD, si_str, si_tup, si_lst, si_cst, x_slcs, x_slct, x_slcl, x_slcc, dFld, insOf, sFldD, x_frz, dMake, dMt, x_isref, x_app, x_pop,
  x_lt, x_le, x_gt, x_ge, x_eqi, x_nei, x_eqs, x_nes, x_ner, x_eqr, x_in, x_nin, x_is, x_isnt, x_add, x_adds, x_addt, x_addl, x_sub, x_mul, x_div, x_mod, x_pow, x_neg, x_int, x_abs, x_max, x_min, x_len, len_str, len_tup, len_lst, len_cst, x_idxs, x_idxt, x_idxl, x_idxc, x_idxr, x_isi, ty_str, ty_int, ty_bl, ty_non, ty_tup, ty_lst, ty_cst, ty_ins, tr_bl, tr_int, tr_str, tr_tup, tr_lst, tr_non, x_all, x_ends, x_starts, at_0, at_1, at_2, ix_0, ix_1,
  List.getElem?_cons_zero, List.getElem?_cons_succ, List.getElem?_nil, List.set_cons_zero, List.set_cons_succ, List.set_nil, Option.some.injEq, exists_eq_left', exists_eq_left, exists_and_left, Bool.false_eq_true, if_false, if_true, D.int.injEq, D.bl.injEq, D.ref.injEq, D.str.injEq, D.lst.injEq, D.tup.injEq, MO.lst.injEq, MO.ins.injEq, List.cons.injEq, Prod.mk.injEq, and_true, true_and, and_assoc, decide_eq_true_eq, Sto.set_same, Sto.set_set, reduceCtorEq, false_and, exists_false, false_or, or_false, ne_eq, not_false_eq_true, exists_eq', Bool.not_true, Bool.not_false, Bool.not_eq_true', decide_eq_false_iff_not, x_ext, sm_lst, sa_lst, sa_tup, sa_cst, x_lists, x_listl, x_listt, x_tupl, x_tupt, io_ins, x_muls, dOpX, dOwn1, dMeth, dCMet, dMakeS, ownCmp, ownL, ownR, ownNe, ownBin, bkAny, bkTru, bkLen, sPar, setAll, zl, Nat.reduceMul])
  refine ⟨p, 3, rfl, by decide, by decide, bg, fun ks S1 b1 lk gk => ?_⟩
  (try simp only [x_spr, startD, List.map_cons, List.map_nil, List.length_cons, List.length_nil, Nat.reduceAdd, Nat.reduceSub, Int.reduceLT, Int.reduceLE, Int.reduceToNat,  Int.reducePow, Int.reduceNeg, Nat.reduceLT, Nat.reduceLeDiff, Nat.reducePow, List.replicate_succ, List.replicate_zero, List.cons_append, List.nil_append, sSeq, sIf, sRet, sRetN, sNext, sAsg, sDrop, gNm, gOf, Tg.d, Tg.ds, dVar, dCst, dNil, dCons, dOp, dUn, dChain, dBl, dAnd, dOr, dNot, dIf, dTst, dCall, dCB, dLst, dTup, dM1, gSubD, mkL, dYes, dPart, dSlc, iEnumD, iSeqD, iRng1D, iRng2D, sFor, dLc, wipeD, si_str, si_tup, si_lst, si_cst, x_slcs, x_slct, x_slcl, x_slcc, dFld, insOf, sFldD, x_frz, dMake, dMt, x_isref, x_app, x_pop,
  x_lt, x_le, x_gt, x_ge, x_eqi, x_nei, x_eqs, x_nes, x_ner, x_eqr, x_in, x_nin, x_is, x_isnt, x_add, x_adds, x_addt, x_addl, x_sub, x_mul, x_div, x_mod, x_pow, x_neg, x_int, x_abs, x_max, x_min, x_len, len_str, len_tup, len_lst, len_cst, x_idxs, x_idxt, x_idxl, x_idxc, x_idxr, x_isi, ty_str, ty_int, ty_bl, ty_non, ty_tup, ty_lst, ty_cst, ty_ins, tr_bl, tr_int, tr_str, tr_tup, tr_lst, tr_non, x_all, x_ends, x_starts, at_0, at_1, at_2, ix_0, ix_1,
  List.getElem?_cons_zero, List.getElem?_cons_succ, List.getElem?_nil, List.set_cons_zero, List.set_cons_succ, List.set_nil, Option.some.injEq, exists_eq_left', exists_eq_left, exists_and_left, Bool.false_eq_true, if_false, if_true, D.int.injEq, D.bl.injEq, D.ref.injEq, D.str.injEq, D.lst.injEq, D.tup.injEq, MO.lst.injEq, MO.ins.injEq, List.cons.injEq, Prod.mk.injEq, and_true, true_and, and_assoc, decide_eq_true_eq, Sto.set_same, Sto.set_set, reduceCtorEq, false_and, exists_false, false_or, or_false, ne_eq, not_false_eq_true, exists_eq', Bool.not_true, Bool.not_false, Bool.not_eq_true', decide_eq_false_iff_not, x_ext, sm_lst, sa_lst, sa_tup, sa_cst, x_lists, x_listl, x_listt, x_tupl, x_tupt, io_ins, x_muls, dOpX, dOwn1, dMeth, dCMet, dMakeS, ownCmp, ownL, ownR, ownNe, ownBin, bkAny, bkTru, bkLen, sPar, setAll, zl, Nat.reduceMul])
  refine ⟨p, 2, rfl, by decide, by decide, b1.self, fun ws S2 b2 lw gw => ?_⟩
  match ws, lw, gw with
  | [w0, w1], _, gw =>
    have g0 := gw w0 (by simp)
    have g1 := gw w1 (by simp)
    have e1 : (Str.ofString "!").length = 1 := by decide +kernel
    have z0 := g0.2.1
    (try simp only [x_spr, startD, List.map_cons, List.map_nil, List.length_cons, List.length_nil, Nat.reduceAdd, Nat.reduceSub, Int.reduceLT, Int.reduceLE, Int.reduceToNat,  Int.reducePow, Int.reduceNeg, Nat.reduceLT, Nat.reduceLeDiff, Nat.reducePow, List.replicate_succ, List.replicate_zero, List.cons_append, List.nil_append, sSeq, sIf, sRet, sRetN, sNext, sAsg, sDrop, gNm, gOf, Tg.d, Tg.ds, dVar, dCst, dNil, dCons, dOp, dUn, dChain, dBl, dAnd, dOr, dNot, dIf, dTst, dCall, dCB, dLst, dTup, dM1, gSubD, mkL, dYes, dPart, dSlc, iEnumD, iSeqD, iRng1D, iRng2D, sFor, dLc, wipeD, si_str, si_tup, si_lst, si_cst, x_slcs, x_slct, x_slcl, x_slcc, dFld, insOf, sFldD, x_frz, dMake, dMt, x_isref, x_app, x_pop,
  x_lt, x_le, x_gt, x_ge, x_eqi, x_nei, x_eqs, x_nes, x_ner, x_eqr, x_in, x_nin, x_is, x_isnt, x_add, x_adds, x_addt, x_addl, x_sub, x_mul, x_div, x_mod, x_pow, x_neg, x_int, x_abs, x_max, x_min, x_len, len_str, len_tup, len_lst, len_cst, x_idxs, x_idxt, x_idxl, x_idxc, x_idxr, x_isi, ty_str, ty_int, ty_bl, ty_non, ty_tup, ty_lst, ty_cst, ty_ins, tr_bl, tr_int, tr_str, tr_tup, tr_lst, tr_non, x_all, x_ends, x_starts, at_0, at_1, at_2, ix_0, ix_1,
  List.getElem?_cons_zero, List.getElem?_cons_succ, List.getElem?_nil, List.set_cons_zero, List.set_cons_succ, List.set_nil, Option.some.injEq, exists_eq_left', exists_eq_left, exists_and_left, Bool.false_eq_true, if_false, if_true, D.int.injEq, D.bl.injEq, D.ref.injEq, D.str.injEq, D.lst.injEq, D.tup.injEq, MO.lst.injEq, MO.ins.injEq, List.cons.injEq, Prod.mk.injEq, and_true, true_and, and_assoc, decide_eq_true_eq, Sto.set_same, Sto.set_set, reduceCtorEq, false_and, exists_false, false_or, or_false, ne_eq, not_false_eq_true, exists_eq', Bool.not_true, Bool.not_false, Bool.not_eq_true', decide_eq_false_iff_not, x_ext, sm_lst, sa_lst, sa_tup, sa_cst, x_lists, x_listl, x_listt, x_tupl, x_tupt, io_ins, x_muls, dOpX, dOwn1, dMeth, dCMet, dMakeS, ownCmp, ownL, ownR, ownNe, ownBin, bkAny, bkTru, bkLen, sPar, setAll, zl, Nat.reduceMul, e1])
    refine ⟨lt_line (by omega), ?_⟩
    intro q1 hq1
    have b3 := b1.trans b2
    have n1 : q1 ≠ p := b3.ne hq1
    have s1 := b3.no hq1
    have names : ∀ n ∈ [Str.ofString "", w0, w0 ++ Str.ofString "!", w1], GoodN n := by
      intro n hn
      simp only [List.mem_cons, List.not_mem_nil, or_false] at hn
      rcases hn with h | h | h | h
      · exact .inl h
      · exact .inr (.inl (by rw [h]; exact g0))
      · exact .inr (.inr ⟨w0, g0, h⟩)
      · exact .inr (.inl (by rw [h]; exact g1))
    refine forGo_inv _ (fun i ρ S' => Bg p S S' ∧ ∃ (acc : List D) (v1 v6 : Option D), ρ = [some (.ref p), v1, some (.lst (ks.map D.str)), some (.lst [.str w0, .str w1]), some (.lst [.str (Str.ofString ""), .str w0, .str (w0 ++ Str.ofString "!"), .str w1]), some (.ref q1), v6] ∧
      S' q1 = some (.lst acc) ∧ acc.length = 4 * i ∧ ∀ l ∈ acc, GoodL l) ⟨b3.new hq1, [], _, _, rfl, Sto.set_same, rfl, fun _ h => by cases h⟩ ?_ ?_
    · rintro i x ρ S4 Kn hg ⟨b4, acc, v1, v6, eρ, f1, f2, f3⟩ hk
      subst eρ
      obtain ⟨k, hkm, ek⟩ := List.mem_map.mp (List.mem_of_getElem? hg)
      subst ek
      have hi : i < 3 := by
        have := (List.getElem?_eq_some_iff.mp hg).1
        rw [List.length_map] at this
        omega
      (try simp only [x_spr, startD, List.map_cons, List.map_nil, List.length_cons, List.length_nil, Nat.reduceAdd, Nat.reduceSub, Int.reduceLT, Int.reduceLE, Int.reduceToNat,  Int.reducePow, Int.reduceNeg, Nat.reduceLT, Nat.reduceLeDiff, Nat.reducePow, List.replicate_succ, List.replicate_zero, List.cons_append, List.nil_append, sSeq, sIf, sRet, sRetN, sNext, sAsg, sDrop, gNm, gOf, Tg.d, Tg.ds, dVar, dCst, dNil, dCons, dOp, dUn, dChain, dBl, dAnd, dOr, dNot, dIf, dTst, dCall, dCB, dLst, dTup, dM1, gSubD, mkL, dYes, dPart, dSlc, iEnumD, iSeqD, iRng1D, iRng2D, sFor, dLc, wipeD, si_str, si_tup, si_lst, si_cst, x_slcs, x_slct, x_slcl, x_slcc, dFld, insOf, sFldD, x_frz, dMake, dMt, x_isref, x_app, x_pop,
  x_lt, x_le, x_gt, x_ge, x_eqi, x_nei, x_eqs, x_nes, x_ner, x_eqr, x_in, x_nin, x_is, x_isnt, x_add, x_adds, x_addt, x_addl, x_sub, x_mul, x_div, x_mod, x_pow, x_neg, x_int, x_abs, x_max, x_min, x_len, len_str, len_tup, len_lst, len_cst, x_idxs, x_idxt, x_idxl, x_idxc, x_idxr, x_isi, ty_str, ty_int, ty_bl, ty_non, ty_tup, ty_lst, ty_cst, ty_ins, tr_bl, tr_int, tr_str, tr_tup, tr_lst, tr_non, x_all, x_ends, x_starts, at_0, at_1, at_2, ix_0, ix_1,
  List.getElem?_cons_zero, List.getElem?_cons_succ, List.getElem?_nil, List.set_cons_zero, List.set_cons_succ, List.set_nil, Option.some.injEq, exists_eq_left', exists_eq_left, exists_and_left, Bool.false_eq_true, if_false, if_true, D.int.injEq, D.bl.injEq, D.ref.injEq, D.str.injEq, D.lst.injEq, D.tup.injEq, MO.lst.injEq, MO.ins.injEq, List.cons.injEq, Prod.mk.injEq, and_true, true_and, and_assoc, decide_eq_true_eq, Sto.set_same, Sto.set_set, reduceCtorEq, false_and, exists_false, false_or, or_false, ne_eq, not_false_eq_true, exists_eq', Bool.not_true, Bool.not_false, Bool.not_eq_true', decide_eq_false_iff_not, x_ext, sm_lst, sa_lst, sa_tup, sa_cst, x_lists, x_listl, x_listt, x_tupl, x_tupt, io_ins, x_muls, dOpX, dOwn1, dMeth, dCMet, dMakeS, ownCmp, ownL, ownR, ownNe, ownBin, bkAny, bkTru, bkLen, sPar, setAll, zl, Nat.reduceMul, f1])
      refine lcGo_map (fun d => .tup [.str k, d]) trivial _ (fun d hd Kn2 hk2 => ?_) ?_
      · (try simp only [x_spr, startD, List.map_cons, List.map_nil, List.length_cons, List.length_nil, Nat.reduceAdd, Nat.reduceSub, Int.reduceLT, Int.reduceLE, Int.reduceToNat,  Int.reducePow, Int.reduceNeg, Nat.reduceLT, Nat.reduceLeDiff, Nat.reducePow, List.replicate_succ, List.replicate_zero, List.cons_append, List.nil_append, sSeq, sIf, sRet, sRetN, sNext, sAsg, sDrop, gNm, gOf, Tg.d, Tg.ds, dVar, dCst, dNil, dCons, dOp, dUn, dChain, dBl, dAnd, dOr, dNot, dIf, dTst, dCall, dCB, dLst, dTup, dM1, gSubD, mkL, dYes, dPart, dSlc, iEnumD, iSeqD, iRng1D, iRng2D, sFor, dLc, wipeD, si_str, si_tup, si_lst, si_cst, x_slcs, x_slct, x_slcl, x_slcc, dFld, insOf, sFldD, x_frz, dMake, dMt, x_isref, x_app, x_pop,
  x_lt, x_le, x_gt, x_ge, x_eqi, x_nei, x_eqs, x_nes, x_ner, x_eqr, x_in, x_nin, x_is, x_isnt, x_add, x_adds, x_addt, x_addl, x_sub, x_mul, x_div, x_mod, x_pow, x_neg, x_int, x_abs, x_max, x_min, x_len, len_str, len_tup, len_lst, len_cst, x_idxs, x_idxt, x_idxl, x_idxc, x_idxr, x_isi, ty_str, ty_int, ty_bl, ty_non, ty_tup, ty_lst, ty_cst, ty_ins, tr_bl, tr_int, tr_str, tr_tup, tr_lst, tr_non, x_all, x_ends, x_starts, at_0, at_1, at_2, ix_0, ix_1,
  List.getElem?_cons_zero, List.getElem?_cons_succ, List.getElem?_nil, List.set_cons_zero, List.set_cons_succ, List.set_nil, Option.some.injEq, exists_eq_left', exists_eq_left, exists_and_left, Bool.false_eq_true, if_false, if_true, D.int.injEq, D.bl.injEq, D.ref.injEq, D.str.injEq, D.lst.injEq, D.tup.injEq, MO.lst.injEq, MO.ins.injEq, List.cons.injEq, Prod.mk.injEq, and_true, true_and, and_assoc, decide_eq_true_eq, Sto.set_same, Sto.set_set, reduceCtorEq, false_and, exists_false, false_or, or_false, ne_eq, not_false_eq_true, exists_eq', Bool.not_true, Bool.not_false, Bool.not_eq_true', decide_eq_false_iff_not, x_ext, sm_lst, sa_lst, sa_tup, sa_cst, x_lists, x_listl, x_listt, x_tupl, x_tupt, io_ins, x_muls, dOpX, dOwn1, dMeth, dCMet, dMakeS, ownCmp, ownL, ownR, ownNe, ownBin, bkAny, bkTru, bkLen, sPar, setAll, zl, Nat.reduceMul])
        exact hk2
      · (try simp only [x_spr, startD, List.map_cons, List.map_nil, List.length_cons, List.length_nil, Nat.reduceAdd, Nat.reduceSub, Int.reduceLT, Int.reduceLE, Int.reduceToNat,  Int.reducePow, Int.reduceNeg, Nat.reduceLT, Nat.reduceLeDiff, Nat.reducePow, List.replicate_succ, List.replicate_zero, List.cons_append, List.nil_append, sSeq, sIf, sRet, sRetN, sNext, sAsg, sDrop, gNm, gOf, Tg.d, Tg.ds, dVar, dCst, dNil, dCons, dOp, dUn, dChain, dBl, dAnd, dOr, dNot, dIf, dTst, dCall, dCB, dLst, dTup, dM1, gSubD, mkL, dYes, dPart, dSlc, iEnumD, iSeqD, iRng1D, iRng2D, sFor, dLc, wipeD, si_str, si_tup, si_lst, si_cst, x_slcs, x_slct, x_slcl, x_slcc, dFld, insOf, sFldD, x_frz, dMake, dMt, x_isref, x_app, x_pop,
  x_lt, x_le, x_gt, x_ge, x_eqi, x_nei, x_eqs, x_nes, x_ner, x_eqr, x_in, x_nin, x_is, x_isnt, x_add, x_adds, x_addt, x_addl, x_sub, x_mul, x_div, x_mod, x_pow, x_neg, x_int, x_abs, x_max, x_min, x_len, len_str, len_tup, len_lst, len_cst, x_idxs, x_idxt, x_idxl, x_idxc, x_idxr, x_isi, ty_str, ty_int, ty_bl, ty_non, ty_tup, ty_lst, ty_cst, ty_ins, tr_bl, tr_int, tr_str, tr_tup, tr_lst, tr_non, x_all, x_ends, x_starts, at_0, at_1, at_2, ix_0, ix_1,
  List.getElem?_cons_zero, List.getElem?_cons_succ, List.getElem?_nil, List.set_cons_zero, List.set_cons_succ, List.set_nil, Option.some.injEq, exists_eq_left', exists_eq_left, exists_and_left, Bool.false_eq_true, if_false, if_true, D.int.injEq, D.bl.injEq, D.ref.injEq, D.str.injEq, D.lst.injEq, D.tup.injEq, MO.lst.injEq, MO.ins.injEq, List.cons.injEq, Prod.mk.injEq, and_true, true_and, and_assoc, decide_eq_true_eq, Sto.set_same, Sto.set_set, reduceCtorEq, false_and, exists_false, false_or, or_false, ne_eq, not_false_eq_true, exists_eq', Bool.not_true, Bool.not_false, Bool.not_eq_true', decide_eq_false_iff_not, x_ext, sm_lst, sa_lst, sa_tup, sa_cst, x_lists, x_listl, x_listt, x_tupl, x_tupt, io_ins, x_muls, dOpX, dOwn1, dMeth, dCMet, dMakeS, ownCmp, ownL, ownR, ownNe, ownBin, bkAny, bkTru, bkLen, sPar, setAll, zl, Nat.reduceMul, f1])
        refine ⟨Nat.le_trans (Nat.le_of_eq (by rw [f2] : _ = 4 * i + 4)) (lt_line (by omega)), hk _ _ ⟨b4.wr n1 s1, _, _, _, rfl, Sto.set_same, by rw [List.length_append, f2]; rfl, fun l hl => ?_⟩⟩
        rcases List.mem_append.mp hl with h | h
        · exact f3 l h
        · simp only [List.mem_cons, List.not_mem_nil, or_false] at h
          rcases h with h | h | h | h <;> exact ⟨k, _, h, gk k hkm, names _ (by simp)⟩
    · rintro ρ S4 ⟨b4, acc, v1, v6, eρ, f1, f2, f3⟩
      subst eρ
      (try simp only [x_spr, startD, List.map_cons, List.map_nil, List.length_cons, List.length_nil, Nat.reduceAdd, Nat.reduceSub, Int.reduceLT, Int.reduceLE, Int.reduceToNat,  Int.reducePow, Int.reduceNeg, Nat.reduceLT, Nat.reduceLeDiff, Nat.reducePow, List.replicate_succ, List.replicate_zero, List.cons_append, List.nil_append, sSeq, sIf, sRet, sRetN, sNext, sAsg, sDrop, gNm, gOf, Tg.d, Tg.ds, dVar, dCst, dNil, dCons, dOp, dUn, dChain, dBl, dAnd, dOr, dNot, dIf, dTst, dCall, dCB, dLst, dTup, dM1, gSubD, mkL, dYes, dPart, dSlc, iEnumD, iSeqD, iRng1D, iRng2D, sFor, dLc, wipeD, si_str, si_tup, si_lst, si_cst, x_slcs, x_slct, x_slcl, x_slcc, dFld, insOf, sFldD, x_frz, dMake, dMt, x_isref, x_app, x_pop,
  x_lt, x_le, x_gt, x_ge, x_eqi, x_nei, x_eqs, x_nes, x_ner, x_eqr, x_in, x_nin, x_is, x_isnt, x_add, x_adds, x_addt, x_addl, x_sub, x_mul, x_div, x_mod, x_pow, x_neg, x_int, x_abs, x_max, x_min, x_len, len_str, len_tup, len_lst, len_cst, x_idxs, x_idxt, x_idxl, x_idxc, x_idxr, x_isi, ty_str, ty_int, ty_bl, ty_non, ty_tup, ty_lst, ty_cst, ty_ins, tr_bl, tr_int, tr_str, tr_tup, tr_lst, tr_non, x_all, x_ends, x_starts, at_0, at_1, at_2, ix_0, ix_1,
  List.getElem?_cons_zero, List.getElem?_cons_succ, List.getElem?_nil, List.set_cons_zero, List.set_cons_succ, List.set_nil, Option.some.injEq, exists_eq_left', exists_eq_left, exists_and_left, Bool.false_eq_true, if_false, if_true, D.int.injEq, D.bl.injEq, D.ref.injEq, D.str.injEq, D.lst.injEq, D.tup.injEq, MO.lst.injEq, MO.ins.injEq, List.cons.injEq, Prod.mk.injEq, and_true, true_and, and_assoc, decide_eq_true_eq, Sto.set_same, Sto.set_set, reduceCtorEq, false_and, exists_false, false_or, or_false, ne_eq, not_false_eq_true, exists_eq', Bool.not_true, Bool.not_false, Bool.not_eq_true', decide_eq_false_iff_not, x_ext, sm_lst, sa_lst, sa_tup, sa_cst, x_lists, x_listl, x_listt, x_tupl, x_tupt, io_ins, x_muls, dOpX, dOwn1, dMeth, dCMet, dMakeS, ownCmp, ownL, ownR, ownNe, ownBin, bkAny, bkTru, bkLen, sPar, setAll, zl, Nat.reduceMul])
      refine ⟨_, f1, q acc _ (b4.dl n1 s1) ?_ f3⟩
      rw [f2, List.length_map]
      omega
def sp__law_lines : DSp := fun ds S Q _ => ∃ (p : Addr) (ps : List D) (many : Int), ds = [.ref p, .lst ps, .int many] ∧ 0 < ps.length ∧ ps.length ≤ 100000 ∧ 0 ≤ many ∧ many ≤ 100000 ∧ Bg p S S ∧ ∀ (ls : List D) S', Bg p S S' → (ls.length : Int) = many → (∀ l ∈ ls, l ∈ ps) → Q (.lst ls) S'
theorem law_lines_ok : ∀ ds S Q E, sp__law_lines ds S Q E → bodySp 4 3 (r__law_lines sp_draw) ds S Q E := by
  rintro ds S Q E ⟨p, ps, many, ed, h0, h1, h2, h3, bg, q⟩
  subst ed
  unfold r__law_lines
  (try simp only [x_spr, startD, List.map_cons, List.map_nil, List.length_cons, List.length_nil, Nat.reduceAdd, Nat.reduceSub, Int.reduceLT, Int.reduceLE, Int.reduceToNat,  Int.reducePow, Int.reduceNeg, Nat.reduceLT, Nat.reduceLeDiff, Nat.reducePow, List.replicate_succ, List.replicate_zero, List.cons_append, List.nil_append, sSeq, sIf, sRet, sRetN, sNext, sAsg, sDrop, gNm, gOf, Tg.d, Tg.ds, dVar, dCst, dNil, dCons, dOp, dUn, dChain, dBl, dAnd, dOr, dNot, dIf, dTst, dCall, dCB, dLst, dTup, dM1, gSubD, mkL, dYes, dPart, dSlc, iEnumD, iSeqD, iRng1D, iRng2D, sFor, dLc, wipeD, si_str, si_tup, si_lst, si_cst, x_slcs, x_slct, x_slcl, x_slcc, dFld, insOf, sFldD, x_frz, dMake, dMt, x_isref, x_app, x_pop,
  x_lt, x_le, x_gt, x_ge, x_eqi, x_nei, x_eqs, x_nes, x_ner, x_eqr, x_in, x_nin, x_is, x_isnt, x_add, x_adds, x_addt, x_addl, x_sub, x_mul, x_div, x_mod, x_pow, x_neg, x_int, x_abs, x_max, x_min, x_len, len_str, len_tup, len_lst, len_cst, x_idxs, x_idxt, x_idxl, x_idxc, x_idxr, x_isi, ty_str, ty_int, ty_bl, ty_non, ty_tup, ty_lst, ty_cst, ty_ins, tr_bl, tr_int, tr_str, tr_tup, tr_lst, tr_non, x_all, x_ends, x_starts, at_0, at_1, at_2, ix_0, ix_1,
  List.getElem?_cons_zero, List.getElem?_cons_succ, List.getElem?_nil, List.set_cons_zero, List.set_cons_succ, List.set_nil, Option.some.injEq, exists_eq_left', exists_eq_left, exists_and_left, Bool.false_eq_true, if_false, if_true, D.int.injEq, D.bl.injEq, D.ref.injEq, D.str.injEq, D.lst.injEq, D.tup.injEq, MO.lst.injEq, MO.ins.injEq, List.cons.injEq, Prod.mk.injEq, and_true, true_and, and_assoc, decide_eq_true_eq, Sto.set_same, Sto.set_set, reduceCtorEq, false_and, exists_false, false_or, or_false, ne_eq, not_false_eq_true, exists_eq', Bool.not_true, Bool.not_false, Bool.not_eq_true', decide_eq_false_iff_not, x_ext, sm_lst, sa_lst, sa_tup, sa_cst, x_lists, x_listl, x_listt, x_tupl, x_tupt, io_ins, x_muls, dOpX, dOwn1, dMeth, dCMet, dMakeS, ownCmp, ownL, ownR, ownNe, ownBin, bkAny, bkTru, bkLen, sPar, setAll, zl, Nat.reduceMul])
  refine ⟨by omega, by omega, lt_line (by rw [rngD_len]; omega), ?_⟩
  refine lcGo_inv _ (fun i acc S' => Bg p S S' ∧ acc.length = i ∧ ∀ l ∈ acc, l ∈ ps) ⟨bg, rfl, fun _ h => by cases h⟩ ?_ ?_
  · rintro i x acc S4 Kn Ks hg ⟨b4, el, hc⟩ hk _
    (try simp only [x_spr, startD, List.map_cons, List.map_nil, List.length_cons, List.length_nil, Nat.reduceAdd, Nat.reduceSub, Int.reduceLT, Int.reduceLE, Int.reduceToNat,  Int.reducePow, Int.reduceNeg, Nat.reduceLT, Nat.reduceLeDiff, Nat.reducePow, List.replicate_succ, List.replicate_zero, List.cons_append, List.nil_append, sSeq, sIf, sRet, sRetN, sNext, sAsg, sDrop, gNm, gOf, Tg.d, Tg.ds, dVar, dCst, dNil, dCons, dOp, dUn, dChain, dBl, dAnd, dOr, dNot, dIf, dTst, dCall, dCB, dLst, dTup, dM1, gSubD, mkL, dYes, dPart, dSlc, iEnumD, iSeqD, iRng1D, iRng2D, sFor, dLc, wipeD, si_str, si_tup, si_lst, si_cst, x_slcs, x_slct, x_slcl, x_slcc, dFld, insOf, sFldD, x_frz, dMake, dMt, x_isref, x_app, x_pop,
  x_lt, x_le, x_gt, x_ge, x_eqi, x_nei, x_eqs, x_nes, x_ner, x_eqr, x_in, x_nin, x_is, x_isnt, x_add, x_adds, x_addt, x_addl, x_sub, x_mul, x_div, x_mod, x_pow, x_neg, x_int, x_abs, x_max, x_min, x_len, len_str, len_tup, len_lst, len_cst, x_idxs, x_idxt, x_idxl, x_idxc, x_idxr, x_isi, ty_str, ty_int, ty_bl, ty_non, ty_tup, ty_lst, ty_cst, ty_ins, tr_bl, tr_int, tr_str, tr_tup, tr_lst, tr_non, x_all, x_ends, x_starts, at_0, at_1, at_2, ix_0, ix_1,
  List.getElem?_cons_zero, List.getElem?_cons_succ, List.getElem?_nil, List.set_cons_zero, List.set_cons_succ, List.set_nil, Option.some.injEq, exists_eq_left', exists_eq_left, exists_and_left, Bool.false_eq_true, if_false, if_true, D.int.injEq, D.bl.injEq, D.ref.injEq, D.str.injEq, D.lst.injEq, D.tup.injEq, MO.lst.injEq, MO.ins.injEq, List.cons.injEq, Prod.mk.injEq, and_true, true_and, and_assoc, decide_eq_true_eq, Sto.set_same, Sto.set_set, reduceCtorEq, false_and, exists_false, false_or, or_false, ne_eq, not_false_eq_true, exists_eq', Bool.not_true, Bool.not_false, Bool.not_eq_true', decide_eq_false_iff_not, x_ext, sm_lst, sa_lst, sa_tup, sa_cst, x_lists, x_listl, x_listt, x_tupl, x_tupt, io_ins, x_muls, dOpX, dOwn1, dMeth, dCMet, dMakeS, ownCmp, ownL, ownR, ownNe, ownBin, bkAny, bkTru, bkLen, sPar, setAll, zl, Nat.reduceMul])
    refine ⟨p, _, rfl, by omega, by omega, b4.self, fun r S5 b5 z0 z1 => ?_⟩
    (try simp only [x_spr, startD, List.map_cons, List.map_nil, List.length_cons, List.length_nil, Nat.reduceAdd, Nat.reduceSub, Int.reduceLT, Int.reduceLE, Int.reduceToNat,  Int.reducePow, Int.reduceNeg, Nat.reduceLT, Nat.reduceLeDiff, Nat.reducePow, List.replicate_succ, List.replicate_zero, List.cons_append, List.nil_append, sSeq, sIf, sRet, sRetN, sNext, sAsg, sDrop, gNm, gOf, Tg.d, Tg.ds, dVar, dCst, dNil, dCons, dOp, dUn, dChain, dBl, dAnd, dOr, dNot, dIf, dTst, dCall, dCB, dLst, dTup, dM1, gSubD, mkL, dYes, dPart, dSlc, iEnumD, iSeqD, iRng1D, iRng2D, sFor, dLc, wipeD, si_str, si_tup, si_lst, si_cst, x_slcs, x_slct, x_slcl, x_slcc, dFld, insOf, sFldD, x_frz, dMake, dMt, x_isref, x_app, x_pop,
  x_lt, x_le, x_gt, x_ge, x_eqi, x_nei, x_eqs, x_nes, x_ner, x_eqr, x_in, x_nin, x_is, x_isnt, x_add, x_adds, x_addt, x_addl, x_sub, x_mul, x_div, x_mod, x_pow, x_neg, x_int, x_abs, x_max, x_min, x_len, len_str, len_tup, len_lst, len_cst, x_idxs, x_idxt, x_idxl, x_idxc, x_idxr, x_isi, ty_str, ty_int, ty_bl, ty_non, ty_tup, ty_lst, ty_cst, ty_ins, tr_bl, tr_int, tr_str, tr_tup, tr_lst, tr_non, x_all, x_ends, x_starts, at_0, at_1, at_2, ix_0, ix_1,
  List.getElem?_cons_zero, List.getElem?_cons_succ, List.getElem?_nil, List.set_cons_zero, List.set_cons_succ, List.set_nil, Option.some.injEq, exists_eq_left', exists_eq_left, exists_and_left, Bool.false_eq_true, if_false, if_true, D.int.injEq, D.bl.injEq, D.ref.injEq, D.str.injEq, D.lst.injEq, D.tup.injEq, MO.lst.injEq, MO.ins.injEq, List.cons.injEq, Prod.mk.injEq, and_true, true_and, and_assoc, decide_eq_true_eq, Sto.set_same, Sto.set_set, reduceCtorEq, false_and, exists_false, false_or, or_false, ne_eq, not_false_eq_true, exists_eq', Bool.not_true, Bool.not_false, Bool.not_eq_true', decide_eq_false_iff_not, x_ext, sm_lst, sa_lst, sa_tup, sa_cst, x_lists, x_listl, x_listt, x_tupl, x_tupt, io_ins, x_muls, dOpX, dOwn1, dMeth, dCMet, dMakeS, ownCmp, ownL, ownR, ownNe, ownBin, bkAny, bkTru, bkLen, sPar, setAll, zl, Nat.reduceMul])
    obtain ⟨d, hd, hm⟩ := at_in z0 z1
    refine ⟨d, hd, hk _ _ ⟨b4.trans b5, by rw [List.length_append, el]; rfl, fun l hl => ?_⟩⟩
    rcases List.mem_append.mp hl with h | h
    · exact hc l h
    · rw [List.mem_singleton.mp h]
      exact hm
  · rintro acc S4 ⟨b4, el, hc⟩
    rw [rngD_len] at el
    exact ⟨trivial, q acc S4 b4 (by omega) hc⟩

end DL

-- cfg k02
namespace DL
open PySem PySem.Spec PyProof.Rows L2
/-! ### what is shown of data -/
theorem text_len : ∀ (ts : List Str) (k : Nat) (acc : Str), (textFrom k acc ts).length ≤ acc.length + (ts.map (·.length)).sum + 2 * ts.length
  | [], k, acc => by
    show acc.length ≤ _
    omega
  | t :: r, k, acc => by
    have h := text_len r (k + 1) (acc ++ ((if k > 0 then ", " else "" : String) : Str) ++ t)
    have e : ((if k > 0 then ", " else "" : String) : Str).length ≤ 2 := by split <;> decide +kernel
    rw [app_len, app_len] at h
    rw [List.map_cons, List.sum_cons, List.length_cons]
    show (textFrom (k + 1) (acc ++ ((if k > 0 then ", " else "" : String) : Str) ++ t) r).length ≤ _
    omega
theorem all_shown : ∀ xs : List D, PyData.shownAll (D.ps xs) = xs.map fun x => x.p.shown
  | [] => by unfold D.ps PyData.shownAll; rfl
  | x :: xs => by unfold D.ps PyData.shownAll; rw [all_shown xs]; rfl
theorem sum_le {B : Nat} : ∀ (xs : List D), (∀ x ∈ xs, x.p.shown.length ≤ B) → ((xs.map fun x => x.p.shown).map (·.length)).sum ≤ xs.length * B
  | [], _ => Nat.zero_le _
  | x :: xs, h => by
    have h1 := h x (List.mem_cons_self ..)
    have h2 := sum_le xs fun y hy => h y (List.mem_cons_of_mem _ hy)
    rw [List.map_cons, List.map_cons, List.sum_cons, List.length_cons, Nat.succ_mul]
    omega
theorem list_shown {B : Nat} {xs : List D} (h : ∀ x ∈ xs, x.p.shown.length ≤ B) : (PyData.list (D.ps xs)).shown.length ≤ xs.length * B + 2 * xs.length + 3 := by
  unfold PyData.shown listText
  rw [all_shown]
  have h1 := text_len (xs.map fun x => x.p.shown) 0 "["
  have h2 := sum_le xs h
  have e1 : (("[" : String) : Str).length = 1 := by decide +kernel
  have e2 : (("]" : String) : Str).length = 1 := by decide +kernel
  rw [app_len, e2]
  rw [e1, List.length_map] at h1
  omega
theorem tup_shown {B : Nat} {xs : List D} (h : ∀ x ∈ xs, x.p.shown.length ≤ B) : (PyData.tuple (D.ps xs)).shown.length ≤ xs.length * B + 2 * xs.length + 3 := by
  unfold PyData.shown tupleText
  rw [all_shown]
  have h1 := join_len (Str.ofString ", ") (xs.map fun x => x.p.shown)
  rw [TL.join_eq] at h1
  have h2 := sum_le xs h
  have e1 : (("(" : String) : Str).length = 1 := by decide +kernel
  have e3 : ((", " : String) : Str).length = 2 := by decide +kernel
  have e2 : ((if (xs.map fun x => x.p.shown).length == 1 then ",)" else ")" : String) : Str).length ≤ 2 := by split <;> decide +kernel
  rw [app_len, app_len, e1]
  rw [e3, List.length_map] at h1
  omega
theorem GoodW.shown {z : Str} (h : ∀ c ∈ z.cps.toList, c < 16 ^ 8) {n : Nat} (hl : z.length ≤ n) : (D.str z).p.shown.length ≤ 10 * n + 2 := by
  have := PySem.StrLaws.reprText_len z h
  show (reprText z).length ≤ _
  omega
theorem low_small {z : Str} (h : z.cps.toList.all lowB = true) : ∀ c ∈ z.cps.toList, c < 16 ^ 8 := fun c hc => by
  have := List.all_eq_true.mp h c hc
  unfold lowB at this
  simp only [Bool.and_eq_true, decide_eq_true_eq] at this
  omega
theorem GoodN.small {n : Str} (h : GoodN n) : n.length ≤ 9 ∧ ∀ c ∈ n.cps.toList, c < 16 ^ 8 := by
  have e1 : (Str.ofString "!").length = 1 := by decide +kernel
  rcases h with h | h | ⟨w, h, e⟩
  · subst h
    have : (Str.ofString "").cps.toList = [] := by decide +kernel
    exact ⟨by decide +kernel, fun c hc => by rw [this] at hc; cases hc⟩
  · exact ⟨by have := h.2.1; omega, low_small h.2.2⟩
  · subst e
    refine ⟨by rw [app_len, e1]; have := h.2.1; omega, fun c hc => ?_⟩
    rw [app_list, bang_list] at hc
    rcases List.mem_append.mp hc with hc | hc
    · exact low_small h.2.2 c hc
    · rw [List.mem_singleton.mp hc]
      decide
theorem GoodL.facts {l : D} (h : GoodL l) : l.dat 1 = true ∧ l.p.showable = true ∧ l.p.shown.length ≤ 300 := by
  obtain ⟨k, n, e, hk, hn⟩ := h
  subst e
  refine ⟨rfl, rfl, ?_⟩
  have := tup_shown (B := 92) (xs := [.str k, .str n]) fun x hx => by
    simp only [List.mem_cons, List.not_mem_nil, or_false] at hx
    rcases hx with h | h
    · subst h
      exact Nat.le_trans (GoodW.shown (low_small hk.2.2) hk.2.1) (by decide)
    · subst h
      exact GoodW.shown hn.small.2 hn.small.1
  exact Nat.le_trans this (by show 2 * 92 + 2 * 2 + 3 ≤ 300; decide)
theorem dat_mono : ∀ {n m : Nat}, n ≤ m → ∀ {d : D}, d.dat n = true → d.dat m = true := by
  intro n
  induction n with
  | zero => intro m _ d h; cases d <;> cases m <;> first | rfl | cases h
  | succ n ih =>
    intro m hm d h
    obtain ⟨m, rfl⟩ : ∃ k, m = k + 1 := ⟨m - 1, by omega⟩
    have hm : n ≤ m := by omega
    cases d with
    | tup xs => exact List.all_eq_true.mpr fun x hx => ih hm (List.all_eq_true.mp h x hx)
    | lst xs => exact List.all_eq_true.mpr fun x hx => ih hm (List.all_eq_true.mp h x hx)
    | cst xs => exact List.all_eq_true.mpr fun x hx => ih hm (List.all_eq_true.mp h x hx)
    | _ => first | rfl | cases h
theorem all_showable : ∀ xs : List D, (∀ x ∈ xs, x.p.showable = true) → PyData.showableAll (D.ps xs) = true
  | [], _ => by unfold D.ps PyData.showableAll; rfl
  | x :: xs, h => by
    unfold D.ps PyData.showableAll
    rw [h x (List.mem_cons_self ..), all_showable xs fun y hy => h y (List.mem_cons_of_mem _ hy)]
    rfl
theorem good_dat {xs : List D} (h : ∀ x ∈ xs, GoodL x) {n : Nat} (hn : 1 ≤ n) : xs.all (D.dat n) = true := List.all_eq_true.mpr fun x hx => dat_mono hn (h x hx).facts.1
/-! ### equal data -/
theorem eqv_self : ∀ (n : Nat) (d : D), d.dat n = true → PyData.eqv d.p d.p = true := by
  intro n
  induction n with
  | zero =>
    intro d h
    cases d with
    | non => unfold D.p PyData.eqv; rfl
    | bl b => unfold D.p PyData.eqv; exact beq_self_eq_true _
    | int b => unfold D.p PyData.eqv; exact beq_self_eq_true _
    | str b => unfold D.p PyData.eqv; exact beq_self_eq_true _
    | _ => cases h
  | succ n ih =>
    intro d h
    have all : ∀ xs : List D, xs.all (D.dat n) = true → PyData.eqvAll (D.ps xs) (D.ps xs) = true := by
      intro xs
      induction xs with
      | nil => intro _; unfold D.ps PyData.eqvAll; rfl
      | cons x xs ihx =>
        intro hx
        rw [List.all_cons, Bool.and_eq_true] at hx
        unfold D.ps PyData.eqvAll
        rw [ih x hx.1, ihx hx.2]
        rfl
    cases d with
    | tup xs => unfold D.p PyData.eqv; exact all xs h
    | lst xs => unfold D.p PyData.eqv; exact all xs h
    | cst xs => unfold D.p PyData.eqv; exact all xs h
    | non => unfold D.p PyData.eqv; rfl
    | bl b => unfold D.p PyData.eqv; exact beq_self_eq_true _
    | int b => unfold D.p PyData.eqv; exact beq_self_eq_true _
    | str b => unfold D.p PyData.eqv; exact beq_self_eq_true _
    | _ => cases h
def eqL (xs ys : List D) : Bool := PyData.eqvAll (D.ps xs) (D.ps ys)
theorem eqL_nil : eqL [] [] = true := by unfold eqL D.ps PyData.eqvAll; rfl
theorem eqL_cons {x y : D} {xs ys : List D} : eqL (x :: xs) (y :: ys) = (PyData.eqv x.p y.p && eqL xs ys) := by
  show PyData.eqvAll (D.ps (x :: xs)) (D.ps (y :: ys)) = _
  unfold D.ps PyData.eqvAll
  rfl
theorem eqL_len : ∀ {xs ys : List D}, xs.length ≠ ys.length → eqL xs ys = false
  | [], [], h => absurd rfl h
  | [], _ :: _, _ => by unfold eqL D.ps PyData.eqvAll; rfl
  | _ :: _, [], _ => by unfold eqL D.ps PyData.eqvAll; rfl
  | x :: xs, y :: ys, h => by
    rw [eqL_cons, eqL_len (xs := xs) (ys := ys) fun e => h (by rw [List.length_cons, List.length_cons, e]), Bool.and_false]
theorem eqL_self {xs : List D} {n : Nat} (h : xs.all (D.dat n) = true) : eqL xs xs = true := by
  have := eqv_self (n + 1) (.tup xs) h
  unfold D.p PyData.eqv at this
  exact this
theorem eqL_app : ∀ {a : List D} {n : Nat} (_ : a.all (D.dat n) = true) {xs ys : List D}, eqL (a ++ xs) (a ++ ys) = eqL xs ys
  | [], _, _, _, _ => rfl
  | x :: a, n, h, xs, ys => by
    rw [List.all_cons, Bool.and_eq_true] at h
    rw [List.cons_append, List.cons_append, eqL_cons, eqv_self n x h.1, Bool.true_and, eqL_app h.2]
/-! ### files -/
def LinesOk (xs : List D) : Prop := xs.length ≤ 10000 ∧ ∀ x ∈ xs, GoodL x
theorem LinesOk.init {xs : List D} (h : LinesOk xs) : ∀ x ∈ xs, isTh x ∧ lineD x = true := fun x hx => (h.2 x hx).line
def fileD (xs : List D) : D := .ins 0 [.tup xs]
theorem io_file {xs : List D} {S : Sto} : insOf S (fileD xs) = some (0, [.tup xs]) := rfl
theorem ty_file {xs : List D} {S : Sto} : tyN S (fileD xs) = some (.own 0) := rfl
theorem lk_lines {x : D} : ((flG 0).zip [x]).lookup (Str.ofString "lines") = some x := by
  show (([Str.ofString "lines"] : List Str).zip [x]).lookup (Str.ofString "lines") = some x
  rw [List.zip_cons_cons, List.lookup_cons, beq_self_eq_true]
def sp_File_of : DSp := fun ds S Q _ => ∃ y xs, ds = [.ty (.own 0), y] ∧ seqA S y = some xs ∧ LinesOk xs ∧ Q (fileD xs) S
theorem file_made {xs : List D} {S : Sto} {Q : DQ} {E : DX} (h : LinesOk xs) (q : Q (fileD xs) S) : ∀ p, S p = none → sp_File___init__ (.ref p :: xs) (S.set p (.ins 0 [])) (fun r S2 => r = .non ∧ mkI false 0 p S2 Q) E := fun p hp => by
  refine ⟨p, xs, rfl, h.1, h.init, Sto.set_same, rfl, ?_⟩
  unfold mkI
  rw [if_neg Bool.false_ne_true]
  refine ⟨_, by rw [Sto.set_set, Sto.set_same], ?_⟩
  rw [Sto.set_set, Sto.del_set hp]
  exact q
theorem File_of_ok : ∀ ds S Q E, sp_File_of ds S Q E → bodySp 2 2 (r_File_of sp_File___init__) ds S Q E := by
  rintro ds S Q E ⟨y, xs, ed, hy, h, q⟩
  subst ed
  unfold r_File_of
  (try simp only [x_spr, startD, List.map_cons, List.map_nil, List.length_cons, List.length_nil, Nat.reduceAdd, Nat.reduceSub, Int.reduceLT, Int.reduceLE, Int.reduceToNat,  Int.reducePow, Int.reduceNeg, Nat.reduceLT, Nat.reduceLeDiff, Nat.reducePow, List.replicate_succ, List.replicate_zero, List.cons_append, List.nil_append, sSeq, sIf, sRet, sRetN, sNext, sAsg, sDrop, gNm, gOf, Tg.d, Tg.ds, dVar, dCst, dNil, dCons, dOp, dUn, dChain, dBl, dAnd, dOr, dNot, dIf, dTst, dCall, dCB, dLst, dTup, dM1, gSubD, mkL, dYes, dPart, dSlc, iEnumD, iSeqD, iRng1D, iRng2D, sFor, dLc, wipeD, si_str, si_tup, si_lst, si_cst, x_slcs, x_slct, x_slcl, x_slcc, dFld, sFldD, x_frz, dMake, dMt, x_isref, x_app, x_pop,
  x_lt, x_le, x_gt, x_ge, x_eqi, x_nei, x_eqs, x_nes, x_ner, x_eqr, x_in, x_nin, x_is, x_isnt, x_add, x_adds, x_addt, x_addl, x_sub, x_mul, x_div, x_mod, x_pow, x_neg, x_int, x_abs, x_max, x_min, x_len, len_str, len_tup, len_lst, len_cst, x_idxs, x_idxt, x_idxl, x_idxc, x_idxr, x_isi, ty_str, ty_int, ty_bl, ty_non, ty_tup, ty_lst, ty_cst, ty_ins, tr_bl, tr_int, tr_str, tr_tup, tr_lst, tr_non, x_all, x_ends, x_starts, at_0, at_1, at_2, ix_0, ix_1,
  List.getElem?_cons_zero, List.getElem?_cons_succ, List.getElem?_nil, List.set_cons_zero, List.set_cons_succ, List.set_nil, Option.some.injEq, exists_eq_left', exists_eq_left, exists_and_left, Bool.false_eq_true, if_false, if_true, D.int.injEq, D.bl.injEq, D.ref.injEq, D.str.injEq, D.lst.injEq, D.tup.injEq, MO.lst.injEq, MO.ins.injEq, List.cons.injEq, Prod.mk.injEq, and_true, true_and, and_assoc, decide_eq_true_eq, Sto.set_same, Sto.set_set, reduceCtorEq, false_and, exists_false, false_or, or_false, ne_eq, not_false_eq_true, exists_eq', Bool.not_true, Bool.not_false, Bool.not_eq_true', decide_eq_false_iff_not, x_ext, sm_lst, sa_lst, sa_tup, sa_cst, x_lists, x_listl, x_listt, x_tupl, x_tupt, io_ins, x_muls, isC, dOpX, dOwn1, dMeth, dCMet, dMakeS, ownCmp, ownL, ownR, ownNe, ownBin, bkAny, bkTru, bkLen, sPar, setAll, zl, Nat.reduceMul])
  exact ⟨xs, hy, fun p hp => file_made h q p hp⟩
def sp_File___len__ : DSp := fun ds S Q _ => ∃ xs, ds = [fileD xs] ∧ Q (.int (xs.length : Nat)) S
theorem File___len___ok : ∀ ds S Q E, sp_File___len__ ds S Q E → bodySp 1 1 r_File___len__ ds S Q E := by
  rintro ds S Q E ⟨xs, ed, q⟩
  subst ed
  unfold r_File___len__ fileD
  (try simp only [x_spr, startD, List.map_cons, List.map_nil, List.length_cons, List.length_nil, Nat.reduceAdd, Nat.reduceSub, Int.reduceLT, Int.reduceLE, Int.reduceToNat,  Int.reducePow, Int.reduceNeg, Nat.reduceLT, Nat.reduceLeDiff, Nat.reducePow, List.replicate_succ, List.replicate_zero, List.cons_append, List.nil_append, sSeq, sIf, sRet, sRetN, sNext, sAsg, sDrop, gNm, gOf, Tg.d, Tg.ds, dVar, dCst, dNil, dCons, dOp, dUn, dChain, dBl, dAnd, dOr, dNot, dIf, dTst, dCall, dCB, dLst, dTup, dM1, gSubD, mkL, dYes, dPart, dSlc, iEnumD, iSeqD, iRng1D, iRng2D, sFor, dLc, wipeD, si_str, si_tup, si_lst, si_cst, x_slcs, x_slct, x_slcl, x_slcc, dFld, sFldD, x_frz, dMake, dMt, x_isref, x_app, x_pop,
  x_lt, x_le, x_gt, x_ge, x_eqi, x_nei, x_eqs, x_nes, x_ner, x_eqr, x_in, x_nin, x_is, x_isnt, x_add, x_adds, x_addt, x_addl, x_sub, x_mul, x_div, x_mod, x_pow, x_neg, x_int, x_abs, x_max, x_min, x_len, len_str, len_tup, len_lst, len_cst, x_idxs, x_idxt, x_idxl, x_idxc, x_idxr, x_isi, ty_str, ty_int, ty_bl, ty_non, ty_tup, ty_lst, ty_cst, ty_ins, tr_bl, tr_int, tr_str, tr_tup, tr_lst, tr_non, x_all, x_ends, x_starts, at_0, at_1, at_2, ix_0, ix_1,
  List.getElem?_cons_zero, List.getElem?_cons_succ, List.getElem?_nil, List.set_cons_zero, List.set_cons_succ, List.set_nil, Option.some.injEq, exists_eq_left', exists_eq_left, exists_and_left, Bool.false_eq_true, if_false, if_true, D.int.injEq, D.bl.injEq, D.ref.injEq, D.str.injEq, D.lst.injEq, D.tup.injEq, MO.lst.injEq, MO.ins.injEq, List.cons.injEq, Prod.mk.injEq, and_true, true_and, and_assoc, decide_eq_true_eq, Sto.set_same, Sto.set_set, reduceCtorEq, false_and, exists_false, false_or, or_false, ne_eq, not_false_eq_true, exists_eq', Bool.not_true, Bool.not_false, Bool.not_eq_true', decide_eq_false_iff_not, x_ext, sm_lst, sa_lst, sa_tup, sa_cst, x_lists, x_listl, x_listt, x_tupl, x_tupt, io_ins, x_muls, isC, dOpX, dOwn1, dMeth, dCMet, dMakeS, ownCmp, ownL, ownR, ownNe, ownBin, bkAny, bkTru, bkLen, sPar, setAll, zl, Nat.reduceMul, lk_lines])
  exact q
def sp_File___eq__ : DSp := fun ds S Q _ => (∃ xs ys, ds = [fileD xs, fileD ys] ∧ xs.all (D.dat 16) = true ∧ ys.all (D.dat 16) = true ∧ Q (.bl (eqL xs ys)) S) ∨ ∃ xs y, ds = [fileD xs, y] ∧ ((∃ zs, y = .tup zs) ∨ ∃ zs, y = .lst zs) ∧ Q (.bl false) S
theorem eq_tups {xs ys : List D} {S : Sto} {Q : DQ} {E : DX} (h1 : xs.all (D.dat 31) = true) (h2 : ys.all (D.dat 31) = true) (q : Q (.bl (eqL xs ys)) S) : rCmp .Eq (.tup xs) (.tup ys) S Q E := ⟨h1, h2, q⟩
theorem eq_lsts {xs ys : List D} {S : Sto} {Q : DQ} {E : DX} (h1 : xs.all (D.dat 31) = true) (h2 : ys.all (D.dat 31) = true) (q : Q (.bl (eqL xs ys)) S) : rCmp .Eq (.lst xs) (.lst ys) S Q E := ⟨h1, h2, q⟩
theorem all_mono {xs : List D} {n m : Nat} (h : n ≤ m) (a : xs.all (D.dat n) = true) : xs.all (D.dat m) = true := List.all_eq_true.mpr fun x hx => dat_mono h (List.all_eq_true.mp a x hx)
theorem File___eq___ok : ∀ ds S Q E, sp_File___eq__ ds S Q E → bodySp 2 2 r_File___eq__ ds S Q E := by
  rintro ds S Q E (⟨xs, ys, ed, h1, h2, q⟩ | ⟨xs, y, ed, hy, q⟩)
  · subst ed
    unfold r_File___eq__ fileD
    (try simp only [x_spr, startD, List.map_cons, List.map_nil, List.length_cons, List.length_nil, Nat.reduceAdd, Nat.reduceSub, Int.reduceLT, Int.reduceLE, Int.reduceToNat,  Int.reducePow, Int.reduceNeg, Nat.reduceLT, Nat.reduceLeDiff, Nat.reducePow, List.replicate_succ, List.replicate_zero, List.cons_append, List.nil_append, sSeq, sIf, sRet, sRetN, sNext, sAsg, sDrop, gNm, gOf, Tg.d, Tg.ds, dVar, dCst, dNil, dCons, dOp, dUn, dChain, dBl, dAnd, dOr, dNot, dIf, dTst, dCall, dCB, dLst, dTup, dM1, gSubD, mkL, dYes, dPart, dSlc, iEnumD, iSeqD, iRng1D, iRng2D, sFor, dLc, wipeD, si_str, si_tup, si_lst, si_cst, x_slcs, x_slct, x_slcl, x_slcc, dFld, sFldD, x_frz, dMake, dMt, x_isref, x_app, x_pop,
  x_lt, x_le, x_gt, x_ge, x_eqi, x_nei, x_eqs, x_nes, x_ner, x_eqr, x_in, x_nin, x_is, x_isnt, x_add, x_adds, x_addt, x_addl, x_sub, x_mul, x_div, x_mod, x_pow, x_neg, x_int, x_abs, x_max, x_min, x_len, len_str, len_tup, len_lst, len_cst, x_idxs, x_idxt, x_idxl, x_idxc, x_idxr, x_isi, ty_str, ty_int, ty_bl, ty_non, ty_tup, ty_lst, ty_cst, ty_ins, tr_bl, tr_int, tr_str, tr_tup, tr_lst, tr_non, x_all, x_ends, x_starts, at_0, at_1, at_2, ix_0, ix_1,
  List.getElem?_cons_zero, List.getElem?_cons_succ, List.getElem?_nil, List.set_cons_zero, List.set_cons_succ, List.set_nil, Option.some.injEq, exists_eq_left', exists_eq_left, exists_and_left, Bool.false_eq_true, if_false, if_true, D.int.injEq, D.bl.injEq, D.ref.injEq, D.str.injEq, D.lst.injEq, D.tup.injEq, MO.lst.injEq, MO.ins.injEq, List.cons.injEq, Prod.mk.injEq, and_true, true_and, and_assoc, decide_eq_true_eq, Sto.set_same, Sto.set_set, reduceCtorEq, false_and, exists_false, false_or, or_false, ne_eq, not_false_eq_true, exists_eq', Bool.not_true, Bool.not_false, Bool.not_eq_true', decide_eq_false_iff_not, x_ext, sm_lst, sa_lst, sa_tup, sa_cst, x_lists, x_listl, x_listt, x_tupl, x_tupt, io_ins, x_muls, isC, dOpX, dOwn1, dMeth, dCMet, dMakeS, ownCmp, ownL, ownR, ownNe, ownBin, bkAny, bkTru, bkLen, sPar, setAll, zl, Nat.reduceMul, lk_lines, li_0, li_1, li_2, li_3, li_4, li_5, li_6, li_7, li_8, li_9, li_10, li_11, li_12, li_13, li_14, li_15, li_16, li_17, li_18, li_19, li_20, li_21, li_22, li_23])
    exact eq_tups (all_mono (by decide) h1) (all_mono (by decide) h2) q
  · subst ed
    unfold r_File___eq__ fileD
    rcases hy with ⟨zs, e⟩ | ⟨zs, e⟩ <;> subst e
    · (try simp only [x_spr, startD, List.map_cons, List.map_nil, List.length_cons, List.length_nil, Nat.reduceAdd, Nat.reduceSub, Int.reduceLT, Int.reduceLE, Int.reduceToNat,  Int.reducePow, Int.reduceNeg, Nat.reduceLT, Nat.reduceLeDiff, Nat.reducePow, List.replicate_succ, List.replicate_zero, List.cons_append, List.nil_append, sSeq, sIf, sRet, sRetN, sNext, sAsg, sDrop, gNm, gOf, Tg.d, Tg.ds, dVar, dCst, dNil, dCons, dOp, dUn, dChain, dBl, dAnd, dOr, dNot, dIf, dTst, dCall, dCB, dLst, dTup, dM1, gSubD, mkL, dYes, dPart, dSlc, iEnumD, iSeqD, iRng1D, iRng2D, sFor, dLc, wipeD, si_str, si_tup, si_lst, si_cst, x_slcs, x_slct, x_slcl, x_slcc, dFld, sFldD, x_frz, dMake, dMt, x_isref, x_app, x_pop,
  x_lt, x_le, x_gt, x_ge, x_eqi, x_nei, x_eqs, x_nes, x_ner, x_eqr, x_in, x_nin, x_is, x_isnt, x_add, x_adds, x_addt, x_addl, x_sub, x_mul, x_div, x_mod, x_pow, x_neg, x_int, x_abs, x_max, x_min, x_len, len_str, len_tup, len_lst, len_cst, x_idxs, x_idxt, x_idxl, x_idxc, x_idxr, x_isi, ty_str, ty_int, ty_bl, ty_non, ty_tup, ty_lst, ty_cst, ty_ins, tr_bl, tr_int, tr_str, tr_tup, tr_lst, tr_non, x_all, x_ends, x_starts, at_0, at_1, at_2, ix_0, ix_1,
  List.getElem?_cons_zero, List.getElem?_cons_succ, List.getElem?_nil, List.set_cons_zero, List.set_cons_succ, List.set_nil, Option.some.injEq, exists_eq_left', exists_eq_left, exists_and_left, Bool.false_eq_true, if_false, if_true, D.int.injEq, D.bl.injEq, D.ref.injEq, D.str.injEq, D.lst.injEq, D.tup.injEq, MO.lst.injEq, MO.ins.injEq, List.cons.injEq, Prod.mk.injEq, and_true, true_and, and_assoc, decide_eq_true_eq, Sto.set_same, Sto.set_set, reduceCtorEq, false_and, exists_false, false_or, or_false, ne_eq, not_false_eq_true, exists_eq', Bool.not_true, Bool.not_false, Bool.not_eq_true', decide_eq_false_iff_not, x_ext, sm_lst, sa_lst, sa_tup, sa_cst, x_lists, x_listl, x_listt, x_tupl, x_tupt, io_ins, x_muls, isC, dOpX, dOwn1, dMeth, dCMet, dMakeS, ownCmp, ownL, ownR, ownNe, ownBin, bkAny, bkTru, bkLen, sPar, setAll, zl, Nat.reduceMul, lk_lines, li_0, li_1, li_2, li_3, li_4, li_5, li_6, li_7, li_8, li_9, li_10, li_11, li_12, li_13, li_14, li_15, li_16, li_17, li_18, li_19, li_20, li_21, li_22, li_23])
      exact q
    · (try simp only [x_spr, startD, List.map_cons, List.map_nil, List.length_cons, List.length_nil, Nat.reduceAdd, Nat.reduceSub, Int.reduceLT, Int.reduceLE, Int.reduceToNat,  Int.reducePow, Int.reduceNeg, Nat.reduceLT, Nat.reduceLeDiff, Nat.reducePow, List.replicate_succ, List.replicate_zero, List.cons_append, List.nil_append, sSeq, sIf, sRet, sRetN, sNext, sAsg, sDrop, gNm, gOf, Tg.d, Tg.ds, dVar, dCst, dNil, dCons, dOp, dUn, dChain, dBl, dAnd, dOr, dNot, dIf, dTst, dCall, dCB, dLst, dTup, dM1, gSubD, mkL, dYes, dPart, dSlc, iEnumD, iSeqD, iRng1D, iRng2D, sFor, dLc, wipeD, si_str, si_tup, si_lst, si_cst, x_slcs, x_slct, x_slcl, x_slcc, dFld, sFldD, x_frz, dMake, dMt, x_isref, x_app, x_pop,
  x_lt, x_le, x_gt, x_ge, x_eqi, x_nei, x_eqs, x_nes, x_ner, x_eqr, x_in, x_nin, x_is, x_isnt, x_add, x_adds, x_addt, x_addl, x_sub, x_mul, x_div, x_mod, x_pow, x_neg, x_int, x_abs, x_max, x_min, x_len, len_str, len_tup, len_lst, len_cst, x_idxs, x_idxt, x_idxl, x_idxc, x_idxr, x_isi, ty_str, ty_int, ty_bl, ty_non, ty_tup, ty_lst, ty_cst, ty_ins, tr_bl, tr_int, tr_str, tr_tup, tr_lst, tr_non, x_all, x_ends, x_starts, at_0, at_1, at_2, ix_0, ix_1,
  List.getElem?_cons_zero, List.getElem?_cons_succ, List.getElem?_nil, List.set_cons_zero, List.set_cons_succ, List.set_nil, Option.some.injEq, exists_eq_left', exists_eq_left, exists_and_left, Bool.false_eq_true, if_false, if_true, D.int.injEq, D.bl.injEq, D.ref.injEq, D.str.injEq, D.lst.injEq, D.tup.injEq, MO.lst.injEq, MO.ins.injEq, List.cons.injEq, Prod.mk.injEq, and_true, true_and, and_assoc, decide_eq_true_eq, Sto.set_same, Sto.set_set, reduceCtorEq, false_and, exists_false, false_or, or_false, ne_eq, not_false_eq_true, exists_eq', Bool.not_true, Bool.not_false, Bool.not_eq_true', decide_eq_false_iff_not, x_ext, sm_lst, sa_lst, sa_tup, sa_cst, x_lists, x_listl, x_listt, x_tupl, x_tupt, io_ins, x_muls, isC, dOpX, dOwn1, dMeth, dCMet, dMakeS, ownCmp, ownL, ownR, ownNe, ownBin, bkAny, bkTru, bkLen, sPar, setAll, zl, Nat.reduceMul, lk_lines, li_0, li_1, li_2, li_3, li_4, li_5, li_6, li_7, li_8, li_9, li_10, li_11, li_12, li_13, li_14, li_15, li_16, li_17, li_18, li_19, li_20, li_21, li_22, li_23])
      exact q
def sp_File___getitem__ : DSp := fun ds S Q _ => ∃ xs i d, ds = [fileD xs, .int i] ∧ xs.length ≤ 10000 ∧ 0 ≤ i ∧ i < xs.length ∧ atI xs i = some d ∧ Q d S
theorem File___getitem___ok : ∀ ds S Q E, sp_File___getitem__ ds S Q E → bodySp 3 2 (r_File___getitem__ sp_File___init__) ds S Q E := by
  rintro ds S Q E ⟨xs, i, d, ed, hl, h0, h1, hd, q⟩
  subst ed
  unfold r_File___getitem__ fileD
  have a1 : -(xs.length : Int) ≤ i := by omega
  (try simp only [x_spr, startD, List.map_cons, List.map_nil, List.length_cons, List.length_nil, Nat.reduceAdd, Nat.reduceSub, Int.reduceLT, Int.reduceLE, Int.reduceToNat,  Int.reducePow, Int.reduceNeg, Nat.reduceLT, Nat.reduceLeDiff, Nat.reducePow, List.replicate_succ, List.replicate_zero, List.cons_append, List.nil_append, sSeq, sIf, sRet, sRetN, sNext, sAsg, sDrop, gNm, gOf, Tg.d, Tg.ds, dVar, dCst, dNil, dCons, dOp, dUn, dChain, dBl, dAnd, dOr, dNot, dIf, dTst, dCall, dCB, dLst, dTup, dM1, gSubD, mkL, dYes, dPart, dSlc, iEnumD, iSeqD, iRng1D, iRng2D, sFor, dLc, wipeD, si_str, si_tup, si_lst, si_cst, x_slcs, x_slct, x_slcl, x_slcc, dFld, sFldD, x_frz, dMake, dMt, x_isref, x_app, x_pop,
  x_lt, x_le, x_gt, x_ge, x_eqi, x_nei, x_eqs, x_nes, x_ner, x_eqr, x_in, x_nin, x_is, x_isnt, x_add, x_adds, x_addt, x_addl, x_sub, x_mul, x_div, x_mod, x_pow, x_neg, x_int, x_abs, x_max, x_min, x_len, len_str, len_tup, len_lst, len_cst, x_idxs, x_idxt, x_idxl, x_idxc, x_idxr, x_isi, ty_str, ty_int, ty_bl, ty_non, ty_tup, ty_lst, ty_cst, ty_ins, tr_bl, tr_int, tr_str, tr_tup, tr_lst, tr_non, x_all, x_ends, x_starts, at_0, at_1, at_2, ix_0, ix_1,
  List.getElem?_cons_zero, List.getElem?_cons_succ, List.getElem?_nil, List.set_cons_zero, List.set_cons_succ, List.set_nil, Option.some.injEq, exists_eq_left', exists_eq_left, exists_and_left, Bool.false_eq_true, if_false, if_true, D.int.injEq, D.bl.injEq, D.ref.injEq, D.str.injEq, D.lst.injEq, D.tup.injEq, MO.lst.injEq, MO.ins.injEq, List.cons.injEq, Prod.mk.injEq, and_true, true_and, and_assoc, decide_eq_true_eq, Sto.set_same, Sto.set_set, reduceCtorEq, false_and, exists_false, false_or, or_false, ne_eq, not_false_eq_true, exists_eq', Bool.not_true, Bool.not_false, Bool.not_eq_true', decide_eq_false_iff_not, x_ext, sm_lst, sa_lst, sa_tup, sa_cst, x_lists, x_listl, x_listt, x_tupl, x_tupt, io_ins, x_muls, isC, dOpX, dOwn1, dMeth, dCMet, dMakeS, ownCmp, ownL, ownR, ownNe, ownBin, bkAny, bkTru, bkLen, sPar, setAll, zl, Nat.reduceMul, lk_lines, li_0, li_1, li_2, li_3, li_4, li_5, li_6, li_7, li_8, li_9, li_10, li_11, li_12, li_13, li_14, li_15, li_16, li_17, li_18, li_19, li_20, li_21, li_22, li_23, a1, h1])
  exact ⟨d, hd, q⟩
/-- data for which it is asked whether they are lines of a file -/
def sp_File___contains__ : DSp := fun ds S Q _ => ∃ xs x, ds = [fileD xs, x] ∧ isTh x ∧ x.dat 8 = true ∧ xs.all (D.dat 8) = true ∧ Q (.bl (lineD x && xs.any fun z => PyData.eqv z.p x.p)) S
theorem lineD_tup {x : D} (h : lineD x = true) : ∃ xs, x = .tup xs := by
  cases x with
  | tup xs => exact ⟨xs, rfl⟩
  | _ => cases h
theorem File___contains___ok : ∀ ds S Q E, sp_File___contains__ ds S Q E → bodySp 2 2 (r_File___contains__ sp_is_line) ds S Q E := by
  rintro ds S Q E ⟨xs, x, ed, hx, d1, d2, q⟩
  subst ed
  unfold r_File___contains__ fileD
  (try simp only [x_spr, startD, List.map_cons, List.map_nil, List.length_cons, List.length_nil, Nat.reduceAdd, Nat.reduceSub, Int.reduceLT, Int.reduceLE, Int.reduceToNat,  Int.reducePow, Int.reduceNeg, Nat.reduceLT, Nat.reduceLeDiff, Nat.reducePow, List.replicate_succ, List.replicate_zero, List.cons_append, List.nil_append, sSeq, sIf, sRet, sRetN, sNext, sAsg, sDrop, gNm, gOf, Tg.d, Tg.ds, dVar, dCst, dNil, dCons, dOp, dUn, dChain, dBl, dAnd, dOr, dNot, dIf, dTst, dCall, dCB, dLst, dTup, dM1, gSubD, mkL, dYes, dPart, dSlc, iEnumD, iSeqD, iRng1D, iRng2D, sFor, dLc, wipeD, si_str, si_tup, si_lst, si_cst, x_slcs, x_slct, x_slcl, x_slcc, dFld, sFldD, x_frz, dMake, dMt, x_isref, x_app, x_pop,
  x_lt, x_le, x_gt, x_ge, x_eqi, x_nei, x_eqs, x_nes, x_ner, x_eqr, x_in, x_nin, x_is, x_isnt, x_add, x_adds, x_addt, x_addl, x_sub, x_mul, x_div, x_mod, x_pow, x_neg, x_int, x_abs, x_max, x_min, x_len, len_str, len_tup, len_lst, len_cst, x_idxs, x_idxt, x_idxl, x_idxc, x_idxr, x_isi, ty_str, ty_int, ty_bl, ty_non, ty_tup, ty_lst, ty_cst, ty_ins, tr_bl, tr_int, tr_str, tr_tup, tr_lst, tr_non, x_all, x_ends, x_starts, at_0, at_1, at_2, ix_0, ix_1,
  List.getElem?_cons_zero, List.getElem?_cons_succ, List.getElem?_nil, List.set_cons_zero, List.set_cons_succ, List.set_nil, Option.some.injEq, exists_eq_left', exists_eq_left, exists_and_left, Bool.false_eq_true, if_false, if_true, D.int.injEq, D.bl.injEq, D.ref.injEq, D.str.injEq, D.lst.injEq, D.tup.injEq, MO.lst.injEq, MO.ins.injEq, List.cons.injEq, Prod.mk.injEq, and_true, true_and, and_assoc, decide_eq_true_eq, Sto.set_same, Sto.set_set, reduceCtorEq, false_and, exists_false, false_or, or_false, ne_eq, not_false_eq_true, exists_eq', Bool.not_true, Bool.not_false, Bool.not_eq_true', decide_eq_false_iff_not, x_ext, sm_lst, sa_lst, sa_tup, sa_cst, x_lists, x_listl, x_listt, x_tupl, x_tupt, io_ins, x_muls, isC, dOpX, dOwn1, dMeth, dCMet, dMakeS, ownCmp, ownL, ownR, ownNe, ownBin, bkAny, bkTru, bkLen, sPar, setAll, zl, Nat.reduceMul, lk_lines, li_0, li_1, li_2, li_3, li_4, li_5, li_6, li_7, li_8, li_9, li_10, li_11, li_12, li_13, li_14, li_15, li_16, li_17, li_18, li_19, li_20, li_21, li_22, li_23, sp_is_line])
  refine ⟨hx, ?_⟩
  cases hl : lineD x with
  | false =>
    rw [hl] at q
    (try simp only [x_spr, startD, List.map_cons, List.map_nil, List.length_cons, List.length_nil, Nat.reduceAdd, Nat.reduceSub, Int.reduceLT, Int.reduceLE, Int.reduceToNat,  Int.reducePow, Int.reduceNeg, Nat.reduceLT, Nat.reduceLeDiff, Nat.reducePow, List.replicate_succ, List.replicate_zero, List.cons_append, List.nil_append, sSeq, sIf, sRet, sRetN, sNext, sAsg, sDrop, gNm, gOf, Tg.d, Tg.ds, dVar, dCst, dNil, dCons, dOp, dUn, dChain, dBl, dAnd, dOr, dNot, dIf, dTst, dCall, dCB, dLst, dTup, dM1, gSubD, mkL, dYes, dPart, dSlc, iEnumD, iSeqD, iRng1D, iRng2D, sFor, dLc, wipeD, si_str, si_tup, si_lst, si_cst, x_slcs, x_slct, x_slcl, x_slcc, dFld, sFldD, x_frz, dMake, dMt, x_isref, x_app, x_pop,
  x_lt, x_le, x_gt, x_ge, x_eqi, x_nei, x_eqs, x_nes, x_ner, x_eqr, x_in, x_nin, x_is, x_isnt, x_add, x_adds, x_addt, x_addl, x_sub, x_mul, x_div, x_mod, x_pow, x_neg, x_int, x_abs, x_max, x_min, x_len, len_str, len_tup, len_lst, len_cst, x_idxs, x_idxt, x_idxl, x_idxc, x_idxr, x_isi, ty_str, ty_int, ty_bl, ty_non, ty_tup, ty_lst, ty_cst, ty_ins, tr_bl, tr_int, tr_str, tr_tup, tr_lst, tr_non, x_all, x_ends, x_starts, at_0, at_1, at_2, ix_0, ix_1,
  List.getElem?_cons_zero, List.getElem?_cons_succ, List.getElem?_nil, List.set_cons_zero, List.set_cons_succ, List.set_nil, Option.some.injEq, exists_eq_left', exists_eq_left, exists_and_left, Bool.false_eq_true, if_false, if_true, D.int.injEq, D.bl.injEq, D.ref.injEq, D.str.injEq, D.lst.injEq, D.tup.injEq, MO.lst.injEq, MO.ins.injEq, List.cons.injEq, Prod.mk.injEq, and_true, true_and, and_assoc, decide_eq_true_eq, Sto.set_same, Sto.set_set, reduceCtorEq, false_and, exists_false, false_or, or_false, ne_eq, not_false_eq_true, exists_eq', Bool.not_true, Bool.not_false, Bool.not_eq_true', decide_eq_false_iff_not, x_ext, sm_lst, sa_lst, sa_tup, sa_cst, x_lists, x_listl, x_listt, x_tupl, x_tupt, io_ins, x_muls, isC, dOpX, dOwn1, dMeth, dCMet, dMakeS, ownCmp, ownL, ownR, ownNe, ownBin, bkAny, bkTru, bkLen, sPar, setAll, zl, Nat.reduceMul])
    exact q
  | true =>
    obtain ⟨zs, e⟩ := lineD_tup hl
    subst e
    rw [hl, Bool.true_and] at q
    (try simp only [x_spr, startD, List.map_cons, List.map_nil, List.length_cons, List.length_nil, Nat.reduceAdd, Nat.reduceSub, Int.reduceLT, Int.reduceLE, Int.reduceToNat,  Int.reducePow, Int.reduceNeg, Nat.reduceLT, Nat.reduceLeDiff, Nat.reducePow, List.replicate_succ, List.replicate_zero, List.cons_append, List.nil_append, sSeq, sIf, sRet, sRetN, sNext, sAsg, sDrop, gNm, gOf, Tg.d, Tg.ds, dVar, dCst, dNil, dCons, dOp, dUn, dChain, dBl, dAnd, dOr, dNot, dIf, dTst, dCall, dCB, dLst, dTup, dM1, gSubD, mkL, dYes, dPart, dSlc, iEnumD, iSeqD, iRng1D, iRng2D, sFor, dLc, wipeD, si_str, si_tup, si_lst, si_cst, x_slcs, x_slct, x_slcl, x_slcc, dFld, sFldD, x_frz, dMake, dMt, x_isref, x_app, x_pop,
  x_lt, x_le, x_gt, x_ge, x_eqi, x_nei, x_eqs, x_nes, x_ner, x_eqr, x_in, x_nin, x_is, x_isnt, x_add, x_adds, x_addt, x_addl, x_sub, x_mul, x_div, x_mod, x_pow, x_neg, x_int, x_abs, x_max, x_min, x_len, len_str, len_tup, len_lst, len_cst, x_idxs, x_idxt, x_idxl, x_idxc, x_idxr, x_isi, ty_str, ty_int, ty_bl, ty_non, ty_tup, ty_lst, ty_cst, ty_ins, tr_bl, tr_int, tr_str, tr_tup, tr_lst, tr_non, x_all, x_ends, x_starts, at_0, at_1, at_2, ix_0, ix_1,
  List.getElem?_cons_zero, List.getElem?_cons_succ, List.getElem?_nil, List.set_cons_zero, List.set_cons_succ, List.set_nil, Option.some.injEq, exists_eq_left', exists_eq_left, exists_and_left, Bool.false_eq_true, if_false, if_true, D.int.injEq, D.bl.injEq, D.ref.injEq, D.str.injEq, D.lst.injEq, D.tup.injEq, MO.lst.injEq, MO.ins.injEq, List.cons.injEq, Prod.mk.injEq, and_true, true_and, and_assoc, decide_eq_true_eq, Sto.set_same, Sto.set_set, reduceCtorEq, false_and, exists_false, false_or, or_false, ne_eq, not_false_eq_true, exists_eq', Bool.not_true, Bool.not_false, Bool.not_eq_true', decide_eq_false_iff_not, x_ext, sm_lst, sa_lst, sa_tup, sa_cst, x_lists, x_listl, x_listt, x_tupl, x_tupt, io_ins, x_muls, isC, dOpX, dOwn1, dMeth, dCMet, dMakeS, ownCmp, ownL, ownR, ownNe, ownBin, bkAny, bkTru, bkLen, sPar, setAll, zl, Nat.reduceMul])
    exact ⟨xs, rfl, dat_mono (by decide) d1, all_mono (by decide) d2, q⟩

end DL

-- cfg k02
namespace DL
open PySem PySem.Spec PyProof.Rows L2

/-! ### k02's own helpers -/
def sp__law_direct : DSp := fun ds S Q _ => ∃ xs, ds = [.lst xs] ∧ xs.length ≤ 3 ∧ LinesOk xs ∧ Q (fileD xs) S
theorem law_direct_ok : ∀ ds S Q E, sp__law_direct ds S Q E → bodySp 1 1 (r__law_direct sp_File___init__) ds S Q E := by
  rintro ds S Q E ⟨xs, ed, hl, h, q⟩
  subst ed
  unfold r__law_direct
  match xs, hl, h, q with
  | [], _, h, q => (try simp only [x_spr, startD, List.map_cons, List.map_nil, List.length_cons, List.length_nil, Nat.reduceAdd, Nat.reduceSub, Int.reduceLT, Int.reduceLE, Int.reduceToNat,  Int.reducePow, Int.reduceNeg, Nat.reduceLT, Nat.reduceLeDiff, Nat.reducePow, List.replicate_succ, List.replicate_zero, List.cons_append, List.nil_append, sSeq, sIf, sRet, sRetN, sNext, sAsg, sDrop, gNm, gOf, Tg.d, Tg.ds, dVar, dCst, dNil, dCons, dOp, dUn, dChain, dBl, dAnd, dOr, dNot, dIf, dTst, dCall, dCB, dLst, dTup, dM1, gSubD, mkL, dYes, dPart, dSlc, iEnumD, iSeqD, iRng1D, iRng2D, sFor, dLc, wipeD, si_str, si_tup, si_lst, si_cst, x_slcs, x_slct, x_slcl, x_slcc, dFld, sFldD, x_frz, dMake, dMt, x_isref, x_app, x_pop,
  x_lt, x_le, x_gt, x_ge, x_eqi, x_nei, x_eqs, x_nes, x_ner, x_eqr, x_in, x_nin, x_is, x_isnt, x_add, x_adds, x_addt, x_addl, x_sub, x_mul, x_div, x_mod, x_pow, x_neg, x_int, x_abs, x_max, x_min, x_len, len_str, len_tup, len_lst, len_cst, x_idxs, x_idxt, x_idxl, x_idxc, x_idxr, x_isi, ty_str, ty_int, ty_bl, ty_non, ty_tup, ty_lst, ty_cst, ty_ins, tr_bl, tr_int, tr_str, tr_tup, tr_lst, tr_non, x_all, x_ends, x_starts, at_0, at_1, at_2, ix_0, ix_1,
  List.getElem?_cons_zero, List.getElem?_cons_succ, List.getElem?_nil, List.set_cons_zero, List.set_cons_succ, List.set_nil, Option.some.injEq, exists_eq_left', exists_eq_left, exists_and_left, Bool.false_eq_true, if_false, if_true, D.int.injEq, D.bl.injEq, D.ref.injEq, D.str.injEq, D.lst.injEq, D.tup.injEq, MO.lst.injEq, MO.ins.injEq, List.cons.injEq, Prod.mk.injEq, and_true, true_and, and_assoc, decide_eq_true_eq, Sto.set_same, Sto.set_set, reduceCtorEq, false_and, exists_false, false_or, or_false, ne_eq, not_false_eq_true, exists_eq', Bool.not_true, Bool.not_false, Bool.not_eq_true', decide_eq_false_iff_not, x_ext, sm_lst, sa_lst, sa_tup, sa_cst, x_lists, x_listl, x_listt, x_tupl, x_tupt, io_ins, x_muls, isC, dOpX, dOwn1, dMeth, dCMet, dMakeS, ownCmp, ownL, ownR, ownNe, ownBin, bkAny, bkTru, bkLen, sPar, setAll, zl, Nat.reduceMul]); exact fun p hp => file_made h q p hp
  | [a], _, h, q => (try simp only [x_spr, startD, List.map_cons, List.map_nil, List.length_cons, List.length_nil, Nat.reduceAdd, Nat.reduceSub, Int.reduceLT, Int.reduceLE, Int.reduceToNat,  Int.reducePow, Int.reduceNeg, Nat.reduceLT, Nat.reduceLeDiff, Nat.reducePow, List.replicate_succ, List.replicate_zero, List.cons_append, List.nil_append, sSeq, sIf, sRet, sRetN, sNext, sAsg, sDrop, gNm, gOf, Tg.d, Tg.ds, dVar, dCst, dNil, dCons, dOp, dUn, dChain, dBl, dAnd, dOr, dNot, dIf, dTst, dCall, dCB, dLst, dTup, dM1, gSubD, mkL, dYes, dPart, dSlc, iEnumD, iSeqD, iRng1D, iRng2D, sFor, dLc, wipeD, si_str, si_tup, si_lst, si_cst, x_slcs, x_slct, x_slcl, x_slcc, dFld, sFldD, x_frz, dMake, dMt, x_isref, x_app, x_pop,
  x_lt, x_le, x_gt, x_ge, x_eqi, x_nei, x_eqs, x_nes, x_ner, x_eqr, x_in, x_nin, x_is, x_isnt, x_add, x_adds, x_addt, x_addl, x_sub, x_mul, x_div, x_mod, x_pow, x_neg, x_int, x_abs, x_max, x_min, x_len, len_str, len_tup, len_lst, len_cst, x_idxs, x_idxt, x_idxl, x_idxc, x_idxr, x_isi, ty_str, ty_int, ty_bl, ty_non, ty_tup, ty_lst, ty_cst, ty_ins, tr_bl, tr_int, tr_str, tr_tup, tr_lst, tr_non, x_all, x_ends, x_starts, at_0, at_1, at_2, ix_0, ix_1,
  List.getElem?_cons_zero, List.getElem?_cons_succ, List.getElem?_nil, List.set_cons_zero, List.set_cons_succ, List.set_nil, Option.some.injEq, exists_eq_left', exists_eq_left, exists_and_left, Bool.false_eq_true, if_false, if_true, D.int.injEq, D.bl.injEq, D.ref.injEq, D.str.injEq, D.lst.injEq, D.tup.injEq, MO.lst.injEq, MO.ins.injEq, List.cons.injEq, Prod.mk.injEq, and_true, true_and, and_assoc, decide_eq_true_eq, Sto.set_same, Sto.set_set, reduceCtorEq, false_and, exists_false, false_or, or_false, ne_eq, not_false_eq_true, exists_eq', Bool.not_true, Bool.not_false, Bool.not_eq_true', decide_eq_false_iff_not, x_ext, sm_lst, sa_lst, sa_tup, sa_cst, x_lists, x_listl, x_listt, x_tupl, x_tupt, io_ins, x_muls, isC, dOpX, dOwn1, dMeth, dCMet, dMakeS, ownCmp, ownL, ownR, ownNe, ownBin, bkAny, bkTru, bkLen, sPar, setAll, zl, Nat.reduceMul]); exact fun p hp => file_made h q p hp
  | [a, b], _, h, q => (try simp only [x_spr, startD, List.map_cons, List.map_nil, List.length_cons, List.length_nil, Nat.reduceAdd, Nat.reduceSub, Int.reduceLT, Int.reduceLE, Int.reduceToNat,  Int.reducePow, Int.reduceNeg, Nat.reduceLT, Nat.reduceLeDiff, Nat.reducePow, List.replicate_succ, List.replicate_zero, List.cons_append, List.nil_append, sSeq, sIf, sRet, sRetN, sNext, sAsg, sDrop, gNm, gOf, Tg.d, Tg.ds, dVar, dCst, dNil, dCons, dOp, dUn, dChain, dBl, dAnd, dOr, dNot, dIf, dTst, dCall, dCB, dLst, dTup, dM1, gSubD, mkL, dYes, dPart, dSlc, iEnumD, iSeqD, iRng1D, iRng2D, sFor, dLc, wipeD, si_str, si_tup, si_lst, si_cst, x_slcs, x_slct, x_slcl, x_slcc, dFld, sFldD, x_frz, dMake, dMt, x_isref, x_app, x_pop,
  x_lt, x_le, x_gt, x_ge, x_eqi, x_nei, x_eqs, x_nes, x_ner, x_eqr, x_in, x_nin, x_is, x_isnt, x_add, x_adds, x_addt, x_addl, x_sub, x_mul, x_div, x_mod, x_pow, x_neg, x_int, x_abs, x_max, x_min, x_len, len_str, len_tup, len_lst, len_cst, x_idxs, x_idxt, x_idxl, x_idxc, x_idxr, x_isi, ty_str, ty_int, ty_bl, ty_non, ty_tup, ty_lst, ty_cst, ty_ins, tr_bl, tr_int, tr_str, tr_tup, tr_lst, tr_non, x_all, x_ends, x_starts, at_0, at_1, at_2, ix_0, ix_1,
  List.getElem?_cons_zero, List.getElem?_cons_succ, List.getElem?_nil, List.set_cons_zero, List.set_cons_succ, List.set_nil, Option.some.injEq, exists_eq_left', exists_eq_left, exists_and_left, Bool.false_eq_true, if_false, if_true, D.int.injEq, D.bl.injEq, D.ref.injEq, D.str.injEq, D.lst.injEq, D.tup.injEq, MO.lst.injEq, MO.ins.injEq, List.cons.injEq, Prod.mk.injEq, and_true, true_and, and_assoc, decide_eq_true_eq, Sto.set_same, Sto.set_set, reduceCtorEq, false_and, exists_false, false_or, or_false, ne_eq, not_false_eq_true, exists_eq', Bool.not_true, Bool.not_false, Bool.not_eq_true', decide_eq_false_iff_not, x_ext, sm_lst, sa_lst, sa_tup, sa_cst, x_lists, x_listl, x_listt, x_tupl, x_tupt, io_ins, x_muls, isC, dOpX, dOwn1, dMeth, dCMet, dMakeS, ownCmp, ownL, ownR, ownNe, ownBin, bkAny, bkTru, bkLen, sPar, setAll, zl, Nat.reduceMul]); exact fun p hp => file_made h q p hp
  | [a, b, c], _, h, q => (try simp only [x_spr, startD, List.map_cons, List.map_nil, List.length_cons, List.length_nil, Nat.reduceAdd, Nat.reduceSub, Int.reduceLT, Int.reduceLE, Int.reduceToNat,  Int.reducePow, Int.reduceNeg, Nat.reduceLT, Nat.reduceLeDiff, Nat.reducePow, List.replicate_succ, List.replicate_zero, List.cons_append, List.nil_append, sSeq, sIf, sRet, sRetN, sNext, sAsg, sDrop, gNm, gOf, Tg.d, Tg.ds, dVar, dCst, dNil, dCons, dOp, dUn, dChain, dBl, dAnd, dOr, dNot, dIf, dTst, dCall, dCB, dLst, dTup, dM1, gSubD, mkL, dYes, dPart, dSlc, iEnumD, iSeqD, iRng1D, iRng2D, sFor, dLc, wipeD, si_str, si_tup, si_lst, si_cst, x_slcs, x_slct, x_slcl, x_slcc, dFld, sFldD, x_frz, dMake, dMt, x_isref, x_app, x_pop,
  x_lt, x_le, x_gt, x_ge, x_eqi, x_nei, x_eqs, x_nes, x_ner, x_eqr, x_in, x_nin, x_is, x_isnt, x_add, x_adds, x_addt, x_addl, x_sub, x_mul, x_div, x_mod, x_pow, x_neg, x_int, x_abs, x_max, x_min, x_len, len_str, len_tup, len_lst, len_cst, x_idxs, x_idxt, x_idxl, x_idxc, x_idxr, x_isi, ty_str, ty_int, ty_bl, ty_non, ty_tup, ty_lst, ty_cst, ty_ins, tr_bl, tr_int, tr_str, tr_tup, tr_lst, tr_non, x_all, x_ends, x_starts, at_0, at_1, at_2, ix_0, ix_1,
  List.getElem?_cons_zero, List.getElem?_cons_succ, List.getElem?_nil, List.set_cons_zero, List.set_cons_succ, List.set_nil, Option.some.injEq, exists_eq_left', exists_eq_left, exists_and_left, Bool.false_eq_true, if_false, if_true, D.int.injEq, D.bl.injEq, D.ref.injEq, D.str.injEq, D.lst.injEq, D.tup.injEq, MO.lst.injEq, MO.ins.injEq, List.cons.injEq, Prod.mk.injEq, and_true, true_and, and_assoc, decide_eq_true_eq, Sto.set_same, Sto.set_set, reduceCtorEq, false_and, exists_false, false_or, or_false, ne_eq, not_false_eq_true, exists_eq', Bool.not_true, Bool.not_false, Bool.not_eq_true', decide_eq_false_iff_not, x_ext, sm_lst, sa_lst, sa_tup, sa_cst, x_lists, x_listl, x_listt, x_tupl, x_tupt, io_ins, x_muls, isC, dOpX, dOwn1, dMeth, dCMet, dMakeS, ownCmp, ownL, ownR, ownNe, ownBin, bkAny, bkTru, bkLen, sPar, setAll, zl, Nat.reduceMul]); exact fun p hp => file_made h q p hp
theorem seq_rp {xs : List D} (hl : xs.length ≤ 10000) (h : ∀ x ∈ xs, GoodL x) : (D.tup xs).dat 16 = true ∧ (D.tup xs).p.showable = true ∧ (D.tup xs).p.shown.length ≤ sizeLine := by
  refine ⟨good_dat h (n := 15) (by decide), ?_, ?_⟩
  · show (PyData.tuple (D.ps xs)).showable = true
    unfold PyData.showable
    exact all_showable xs fun x hx => (h x hx).facts.2.1
  · have := tup_shown (B := 300) (xs := xs) fun x hx => (h x hx).facts.2.2
    refine Nat.le_trans this (lt_line ?_)
    omega
theorem x_reprt {xs : List D} {S : Sto} {Q : DQ} {E : DX} (hl : xs.length ≤ 10000) (h : ∀ x ∈ xs, GoodL x) (q : Q (.rp (D.tup xs).p) S) : rReprD [.tup xs] S Q E := by
  obtain ⟨a, b, c⟩ := seq_rp hl h
  exact ⟨_, rfl, .inr (.inl ⟨xs, rfl, a, b, c, q⟩)⟩
def sp__law_is_file : DSp := fun ds S Q _ => ∃ xs, ds = [fileD xs, .lst xs] ∧ LinesOk xs ∧ Q (.bl true) S
theorem law_is_file_ok : ∀ ds S Q E, sp__law_is_file ds S Q E → bodySp 3 2 (r__law_is_file sp_File___len__ sp_File___getitem__) ds S Q E := by
  rintro ds S Q E ⟨xs, ed, h, q⟩
  subst ed
  unfold r__law_is_file
  have hl := h.1
  unfold fileD
  (try simp only [x_spr, startD, List.map_cons, List.map_nil, List.length_cons, List.length_nil, Nat.reduceAdd, Nat.reduceSub, Int.reduceLT, Int.reduceLE, Int.reduceToNat,  Int.reducePow, Int.reduceNeg, Nat.reduceLT, Nat.reduceLeDiff, Nat.reducePow, List.replicate_succ, List.replicate_zero, List.cons_append, List.nil_append, sSeq, sIf, sRet, sRetN, sNext, sAsg, sDrop, gNm, gOf, Tg.d, Tg.ds, dVar, dCst, dNil, dCons, dOp, dUn, dChain, dBl, dAnd, dOr, dNot, dIf, dTst, dCall, dCB, dLst, dTup, dM1, gSubD, mkL, dYes, dPart, dSlc, iEnumD, iSeqD, iRng1D, iRng2D, sFor, dLc, wipeD, si_str, si_tup, si_lst, si_cst, x_slcs, x_slct, x_slcl, x_slcc, dFld, sFldD, x_frz, dMake, dMt, x_isref, x_app, x_pop,
  x_lt, x_le, x_gt, x_ge, x_eqi, x_nei, x_eqs, x_nes, x_ner, x_eqr, x_in, x_nin, x_is, x_isnt, x_add, x_adds, x_addt, x_addl, x_sub, x_mul, x_div, x_mod, x_pow, x_neg, x_int, x_abs, x_max, x_min, x_len, len_str, len_tup, len_lst, len_cst, x_idxs, x_idxt, x_idxl, x_idxc, x_idxr, x_isi, ty_str, ty_int, ty_bl, ty_non, ty_tup, ty_lst, ty_cst, ty_ins, tr_bl, tr_int, tr_str, tr_tup, tr_lst, tr_non, x_all, x_ends, x_starts, at_0, at_1, at_2, ix_0, ix_1,
  List.getElem?_cons_zero, List.getElem?_cons_succ, List.getElem?_nil, List.set_cons_zero, List.set_cons_succ, List.set_nil, Option.some.injEq, exists_eq_left', exists_eq_left, exists_and_left, Bool.false_eq_true, if_false, if_true, D.int.injEq, D.bl.injEq, D.ref.injEq, D.str.injEq, D.lst.injEq, D.tup.injEq, MO.lst.injEq, MO.ins.injEq, List.cons.injEq, Prod.mk.injEq, and_true, true_and, and_assoc, decide_eq_true_eq, Sto.set_same, Sto.set_set, reduceCtorEq, false_and, exists_false, false_or, or_false, ne_eq, not_false_eq_true, exists_eq', Bool.not_true, Bool.not_false, Bool.not_eq_true', decide_eq_false_iff_not, x_ext, sm_lst, sa_lst, sa_tup, sa_cst, x_lists, x_listl, x_listt, x_tupl, x_tupt, io_ins, x_muls, isC, dOpX, dOwn1, dMeth, dCMet, dMakeS, ownCmp, ownL, ownR, ownNe, ownBin, bkAny, bkTru, bkLen, sPar, setAll, zl, Nat.reduceMul, lk_lines, li_0, li_1, li_2, li_3, li_4, li_5, li_6, li_7, li_8, li_9, li_10, li_11, li_12, li_13, li_14, li_15, li_16, li_17, li_18, li_19, li_20, li_21, li_22, li_23])
  refine x_reprt hl h.2 (x_reprt hl h.2 ?_)
  (try simp only [x_spr, startD, List.map_cons, List.map_nil, List.length_cons, List.length_nil, Nat.reduceAdd, Nat.reduceSub, Int.reduceLT, Int.reduceLE, Int.reduceToNat,  Int.reducePow, Int.reduceNeg, Nat.reduceLT, Nat.reduceLeDiff, Nat.reducePow, List.replicate_succ, List.replicate_zero, List.cons_append, List.nil_append, sSeq, sIf, sRet, sRetN, sNext, sAsg, sDrop, gNm, gOf, Tg.d, Tg.ds, dVar, dCst, dNil, dCons, dOp, dUn, dChain, dBl, dAnd, dOr, dNot, dIf, dTst, dCall, dCB, dLst, dTup, dM1, gSubD, mkL, dYes, dPart, dSlc, iEnumD, iSeqD, iRng1D, iRng2D, sFor, dLc, wipeD, si_str, si_tup, si_lst, si_cst, x_slcs, x_slct, x_slcl, x_slcc, dFld, sFldD, x_frz, dMake, dMt, x_isref, x_app, x_pop,
  x_lt, x_le, x_gt, x_ge, x_eqi, x_nei, x_eqs, x_nes, x_ner, x_eqr, x_in, x_nin, x_is, x_isnt, x_add, x_adds, x_addt, x_addl, x_sub, x_mul, x_div, x_mod, x_pow, x_neg, x_int, x_abs, x_max, x_min, x_len, len_str, len_tup, len_lst, len_cst, x_idxs, x_idxt, x_idxl, x_idxc, x_idxr, x_isi, ty_str, ty_int, ty_bl, ty_non, ty_tup, ty_lst, ty_cst, ty_ins, tr_bl, tr_int, tr_str, tr_tup, tr_lst, tr_non, x_all, x_ends, x_starts, at_0, at_1, at_2, ix_0, ix_1,
  List.getElem?_cons_zero, List.getElem?_cons_succ, List.getElem?_nil, List.set_cons_zero, List.set_cons_succ, List.set_nil, Option.some.injEq, exists_eq_left', exists_eq_left, exists_and_left, Bool.false_eq_true, if_false, if_true, D.int.injEq, D.bl.injEq, D.ref.injEq, D.str.injEq, D.lst.injEq, D.tup.injEq, MO.lst.injEq, MO.ins.injEq, List.cons.injEq, Prod.mk.injEq, and_true, true_and, and_assoc, decide_eq_true_eq, Sto.set_same, Sto.set_set, reduceCtorEq, false_and, exists_false, false_or, or_false, ne_eq, not_false_eq_true, exists_eq', Bool.not_true, Bool.not_false, Bool.not_eq_true', decide_eq_false_iff_not, x_ext, sm_lst, sa_lst, sa_tup, sa_cst, x_lists, x_listl, x_listt, x_tupl, x_tupt, io_ins, x_muls, isC, dOpX, dOwn1, dMeth, dCMet, dMakeS, ownCmp, ownL, ownR, ownNe, ownBin, bkAny, bkTru, bkLen, sPar, setAll, zl, Nat.reduceMul])
  refine ⟨xs, rfl, ?_⟩
  (try simp only [x_spr, startD, List.map_cons, List.map_nil, List.length_cons, List.length_nil, Nat.reduceAdd, Nat.reduceSub, Int.reduceLT, Int.reduceLE, Int.reduceToNat,  Int.reducePow, Int.reduceNeg, Nat.reduceLT, Nat.reduceLeDiff, Nat.reducePow, List.replicate_succ, List.replicate_zero, List.cons_append, List.nil_append, sSeq, sIf, sRet, sRetN, sNext, sAsg, sDrop, gNm, gOf, Tg.d, Tg.ds, dVar, dCst, dNil, dCons, dOp, dUn, dChain, dBl, dAnd, dOr, dNot, dIf, dTst, dCall, dCB, dLst, dTup, dM1, gSubD, mkL, dYes, dPart, dSlc, iEnumD, iSeqD, iRng1D, iRng2D, sFor, dLc, wipeD, si_str, si_tup, si_lst, si_cst, x_slcs, x_slct, x_slcl, x_slcc, dFld, sFldD, x_frz, dMake, dMt, x_isref, x_app, x_pop,
  x_lt, x_le, x_gt, x_ge, x_eqi, x_nei, x_eqs, x_nes, x_ner, x_eqr, x_in, x_nin, x_is, x_isnt, x_add, x_adds, x_addt, x_addl, x_sub, x_mul, x_div, x_mod, x_pow, x_neg, x_int, x_abs, x_max, x_min, x_len, len_str, len_tup, len_lst, len_cst, x_idxs, x_idxt, x_idxl, x_idxc, x_idxr, x_isi, ty_str, ty_int, ty_bl, ty_non, ty_tup, ty_lst, ty_cst, ty_ins, tr_bl, tr_int, tr_str, tr_tup, tr_lst, tr_non, x_all, x_ends, x_starts, at_0, at_1, at_2, ix_0, ix_1,
  List.getElem?_cons_zero, List.getElem?_cons_succ, List.getElem?_nil, List.set_cons_zero, List.set_cons_succ, List.set_nil, Option.some.injEq, exists_eq_left', exists_eq_left, exists_and_left, Bool.false_eq_true, if_false, if_true, D.int.injEq, D.bl.injEq, D.ref.injEq, D.str.injEq, D.lst.injEq, D.tup.injEq, MO.lst.injEq, MO.ins.injEq, List.cons.injEq, Prod.mk.injEq, and_true, true_and, and_assoc, decide_eq_true_eq, Sto.set_same, Sto.set_set, reduceCtorEq, false_and, exists_false, false_or, or_false, ne_eq, not_false_eq_true, exists_eq', Bool.not_true, Bool.not_false, Bool.not_eq_true', decide_eq_false_iff_not, x_ext, sm_lst, sa_lst, sa_tup, sa_cst, x_lists, x_listl, x_listt, x_tupl, x_tupt, io_ins, x_muls, isC, dOpX, dOwn1, dMeth, dCMet, dMakeS, ownCmp, ownL, ownR, ownNe, ownBin, bkAny, bkTru, bkLen, sPar, setAll, zl, Nat.reduceMul])
  refine ⟨by omega, by omega, by omega, by omega, lt_line (by rw [rngD_len]; omega), ?_⟩
  refine lcGo_inv _ (fun i acc S' => S' = S ∧ acc = xs.take i) ⟨rfl, rfl⟩ ?_ ?_
  · rintro i x acc S4 Kn Ks hg ⟨eS, ea⟩ hk _
    subst eS
    obtain ⟨j, hj, ej⟩ := List.mem_map.mp (List.mem_of_getElem? hg)
    have hi : i < xs.length := by
      have := (List.getElem?_eq_some_iff.mp hg).1
      rw [rngD_len] at this
      omega
    have ex : x = .int (0 + (i : Nat)) := by
      unfold rngD at hg
      rw [List.getElem?_map, List.getElem?_range (by omega)] at hg
      cases hg
      rfl
    subst ex
    (try simp only [x_spr, startD, List.map_cons, List.map_nil, List.length_cons, List.length_nil, Nat.reduceAdd, Nat.reduceSub, Int.reduceLT, Int.reduceLE, Int.reduceToNat,  Int.reducePow, Int.reduceNeg, Nat.reduceLT, Nat.reduceLeDiff, Nat.reducePow, List.replicate_succ, List.replicate_zero, List.cons_append, List.nil_append, sSeq, sIf, sRet, sRetN, sNext, sAsg, sDrop, gNm, gOf, Tg.d, Tg.ds, dVar, dCst, dNil, dCons, dOp, dUn, dChain, dBl, dAnd, dOr, dNot, dIf, dTst, dCall, dCB, dLst, dTup, dM1, gSubD, mkL, dYes, dPart, dSlc, iEnumD, iSeqD, iRng1D, iRng2D, sFor, dLc, wipeD, si_str, si_tup, si_lst, si_cst, x_slcs, x_slct, x_slcl, x_slcc, dFld, sFldD, x_frz, dMake, dMt, x_isref, x_app, x_pop,
  x_lt, x_le, x_gt, x_ge, x_eqi, x_nei, x_eqs, x_nes, x_ner, x_eqr, x_in, x_nin, x_is, x_isnt, x_add, x_adds, x_addt, x_addl, x_sub, x_mul, x_div, x_mod, x_pow, x_neg, x_int, x_abs, x_max, x_min, x_len, len_str, len_tup, len_lst, len_cst, x_idxs, x_idxt, x_idxl, x_idxc, x_idxr, x_isi, ty_str, ty_int, ty_bl, ty_non, ty_tup, ty_lst, ty_cst, ty_ins, tr_bl, tr_int, tr_str, tr_tup, tr_lst, tr_non, x_all, x_ends, x_starts, at_0, at_1, at_2, ix_0, ix_1,
  List.getElem?_cons_zero, List.getElem?_cons_succ, List.getElem?_nil, List.set_cons_zero, List.set_cons_succ, List.set_nil, Option.some.injEq, exists_eq_left', exists_eq_left, exists_and_left, Bool.false_eq_true, if_false, if_true, D.int.injEq, D.bl.injEq, D.ref.injEq, D.str.injEq, D.lst.injEq, D.tup.injEq, MO.lst.injEq, MO.ins.injEq, List.cons.injEq, Prod.mk.injEq, and_true, true_and, and_assoc, decide_eq_true_eq, Sto.set_same, Sto.set_set, reduceCtorEq, false_and, exists_false, false_or, or_false, ne_eq, not_false_eq_true, exists_eq', Bool.not_true, Bool.not_false, Bool.not_eq_true', decide_eq_false_iff_not, x_ext, sm_lst, sa_lst, sa_tup, sa_cst, x_lists, x_listl, x_listt, x_tupl, x_tupt, io_ins, x_muls, isC, dOpX, dOwn1, dMeth, dCMet, dMakeS, ownCmp, ownL, ownR, ownNe, ownBin, bkAny, bkTru, bkLen, sPar, setAll, zl, Nat.reduceMul])
    refine ⟨xs, _, xs[i], rfl, hl, by omega, by omega, ?_, hk _ _ ⟨rfl, ?_⟩⟩
    · rw [Int.zero_add]
      exact at_nat (List.getElem?_eq_getElem hi)
    · rw [ea, List.take_succ, List.getElem?_eq_getElem hi]
      rfl
  · rintro acc S4 ⟨eS, ea⟩
    subst eS
    have e : acc = xs := by
      rw [ea, rngD_len]
      exact List.take_of_length_le (by omega)
    subst e
    refine ⟨trivial, eq_lsts (good_dat h.2 (by decide)) (good_dat h.2 (by decide)) ?_⟩
    rw [eqL_self (good_dat h.2 (n := 1) (by decide))]
    exact q
def isTupD : D → Bool
  | .tup _ => true
  | _ => false
def OddOk (x : D) : Prop := isTh x ∧ x.dat 8 = true
def sp__law_odd : DSp := fun ds S Q _ => ∃ (p : Addr) (ps : List D), ds = [.ref p, .lst ps] ∧ 0 < ps.length ∧ ps.length ≤ 10000 ∧ (∀ l ∈ ps, GoodL l) ∧ Bg p S S ∧ ∀ x S', Bg p S S' → OddOk x → Q x S'
theorem law_odd_ok : ∀ ds S Q E, sp__law_odd ds S Q E → bodySp 5 2 (r__law_odd sp_draw) ds S Q E := by
  rintro ds S Q E ⟨p, ps, ed, h0, h1, hg, bg, q⟩
  subst ed
  unfold r__law_odd
  (try simp only [x_spr, startD, List.map_cons, List.map_nil, List.length_cons, List.length_nil, Nat.reduceAdd, Nat.reduceSub, Int.reduceLT, Int.reduceLE, Int.reduceToNat,  Int.reducePow, Int.reduceNeg, Nat.reduceLT, Nat.reduceLeDiff, Nat.reducePow, List.replicate_succ, List.replicate_zero, List.cons_append, List.nil_append, sSeq, sIf, sRet, sRetN, sNext, sAsg, sDrop, gNm, gOf, Tg.d, Tg.ds, dVar, dCst, dNil, dCons, dOp, dUn, dChain, dBl, dAnd, dOr, dNot, dIf, dTst, dCall, dCB, dLst, dTup, dM1, gSubD, mkL, dYes, dPart, dSlc, iEnumD, iSeqD, iRng1D, iRng2D, sFor, dLc, wipeD, si_str, si_tup, si_lst, si_cst, x_slcs, x_slct, x_slcl, x_slcc, dFld, sFldD, x_frz, dMake, dMt, x_isref, x_app, x_pop,
  x_lt, x_le, x_gt, x_ge, x_eqi, x_nei, x_eqs, x_nes, x_ner, x_eqr, x_in, x_nin, x_is, x_isnt, x_add, x_adds, x_addt, x_addl, x_sub, x_mul, x_div, x_mod, x_pow, x_neg, x_int, x_abs, x_max, x_min, x_len, len_str, len_tup, len_lst, len_cst, x_idxs, x_idxt, x_idxl, x_idxc, x_idxr, x_isi, ty_str, ty_int, ty_bl, ty_non, ty_tup, ty_lst, ty_cst, ty_ins, tr_bl, tr_int, tr_str, tr_tup, tr_lst, tr_non, x_all, x_ends, x_starts, at_0, at_1, at_2, ix_0, ix_1,
  List.getElem?_cons_zero, List.getElem?_cons_succ, List.getElem?_nil, List.set_cons_zero, List.set_cons_succ, List.set_nil, Option.some.injEq, exists_eq_left', exists_eq_left, exists_and_left, Bool.false_eq_true, if_false, if_true, D.int.injEq, D.bl.injEq, D.ref.injEq, D.str.injEq, D.lst.injEq, D.tup.injEq, MO.lst.injEq, MO.ins.injEq, List.cons.injEq, Prod.mk.injEq, and_true, true_and, and_assoc, decide_eq_true_eq, Sto.set_same, Sto.set_set, reduceCtorEq, false_and, exists_false, false_or, or_false, ne_eq, not_false_eq_true, exists_eq', Bool.not_true, Bool.not_false, Bool.not_eq_true', decide_eq_false_iff_not, x_ext, sm_lst, sa_lst, sa_tup, sa_cst, x_lists, x_listl, x_listt, x_tupl, x_tupt, io_ins, x_muls, isC, dOpX, dOwn1, dMeth, dCMet, dMakeS, ownCmp, ownL, ownR, ownNe, ownBin, bkAny, bkTru, bkLen, sPar, setAll, zl, Nat.reduceMul])
  refine ⟨p, _, rfl, by omega, by omega, bg, fun r S1 b1 r0 r1 => ?_⟩
  obtain ⟨d, hd, hm⟩ := at_in r0 r1
  obtain ⟨k, n, e, hk, hn⟩ := hg d hm
  subst e
  have e1 : (Str.ofString "!").length = 1 := by decide +kernel
  have l1 := hk.2.1
  have l2 := hn.small.1
  (try simp only [x_spr, startD, List.map_cons, List.map_nil, List.length_cons, List.length_nil, Nat.reduceAdd, Nat.reduceSub, Int.reduceLT, Int.reduceLE, Int.reduceToNat,  Int.reducePow, Int.reduceNeg, Nat.reduceLT, Nat.reduceLeDiff, Nat.reducePow, List.replicate_succ, List.replicate_zero, List.cons_append, List.nil_append, sSeq, sIf, sRet, sRetN, sNext, sAsg, sDrop, gNm, gOf, Tg.d, Tg.ds, dVar, dCst, dNil, dCons, dOp, dUn, dChain, dBl, dAnd, dOr, dNot, dIf, dTst, dCall, dCB, dLst, dTup, dM1, gSubD, mkL, dYes, dPart, dSlc, iEnumD, iSeqD, iRng1D, iRng2D, sFor, dLc, wipeD, si_str, si_tup, si_lst, si_cst, x_slcs, x_slct, x_slcl, x_slcc, dFld, sFldD, x_frz, dMake, dMt, x_isref, x_app, x_pop,
  x_lt, x_le, x_gt, x_ge, x_eqi, x_nei, x_eqs, x_nes, x_ner, x_eqr, x_in, x_nin, x_is, x_isnt, x_add, x_adds, x_addt, x_addl, x_sub, x_mul, x_div, x_mod, x_pow, x_neg, x_int, x_abs, x_max, x_min, x_len, len_str, len_tup, len_lst, len_cst, x_idxs, x_idxt, x_idxl, x_idxc, x_idxr, x_isi, ty_str, ty_int, ty_bl, ty_non, ty_tup, ty_lst, ty_cst, ty_ins, tr_bl, tr_int, tr_str, tr_tup, tr_lst, tr_non, x_all, x_ends, x_starts, at_0, at_1, at_2, ix_0, ix_1,
  List.getElem?_cons_zero, List.getElem?_cons_succ, List.getElem?_nil, List.set_cons_zero, List.set_cons_succ, List.set_nil, Option.some.injEq, exists_eq_left', exists_eq_left, exists_and_left, Bool.false_eq_true, if_false, if_true, D.int.injEq, D.bl.injEq, D.ref.injEq, D.str.injEq, D.lst.injEq, D.tup.injEq, MO.lst.injEq, MO.ins.injEq, List.cons.injEq, Prod.mk.injEq, and_true, true_and, and_assoc, decide_eq_true_eq, Sto.set_same, Sto.set_set, reduceCtorEq, false_and, exists_false, false_or, or_false, ne_eq, not_false_eq_true, exists_eq', Bool.not_true, Bool.not_false, Bool.not_eq_true', decide_eq_false_iff_not, x_ext, sm_lst, sa_lst, sa_tup, sa_cst, x_lists, x_listl, x_listt, x_tupl, x_tupt, io_ins, x_muls, isC, dOpX, dOwn1, dMeth, dCMet, dMakeS, ownCmp, ownL, ownR, ownNe, ownBin, bkAny, bkTru, bkLen, sPar, setAll, zl, Nat.reduceMul, hd, e1])
  intro q1 hq1
  have n1 : q1 ≠ p := b1.ne hq1
  have s1 := b1.no hq1
  refine ⟨lt_line (by omega), lt_line (by omega), 11, len_ref Sto.set_same, ?_⟩
  refine ⟨p, 11, rfl, by decide, by decide, (b1.new hq1).self, fun r2 S2 b2 z0 z1 => ?_⟩
  have f := b2.off n1 Sto.set_same
  (try simp only [x_spr, startD, List.map_cons, List.map_nil, List.length_cons, List.length_nil, Nat.reduceAdd, Nat.reduceSub, Int.reduceLT, Int.reduceLE, Int.reduceToNat,  Int.reducePow, Int.reduceNeg, Nat.reduceLT, Nat.reduceLeDiff, Nat.reducePow, List.replicate_succ, List.replicate_zero, List.cons_append, List.nil_append, sSeq, sIf, sRet, sRetN, sNext, sAsg, sDrop, gNm, gOf, Tg.d, Tg.ds, dVar, dCst, dNil, dCons, dOp, dUn, dChain, dBl, dAnd, dOr, dNot, dIf, dTst, dCall, dCB, dLst, dTup, dM1, gSubD, mkL, dYes, dPart, dSlc, iEnumD, iSeqD, iRng1D, iRng2D, sFor, dLc, wipeD, si_str, si_tup, si_lst, si_cst, x_slcs, x_slct, x_slcl, x_slcc, dFld, sFldD, x_frz, dMake, dMt, x_isref, x_app, x_pop,
  x_lt, x_le, x_gt, x_ge, x_eqi, x_nei, x_eqs, x_nes, x_ner, x_eqr, x_in, x_nin, x_is, x_isnt, x_add, x_adds, x_addt, x_addl, x_sub, x_mul, x_div, x_mod, x_pow, x_neg, x_int, x_abs, x_max, x_min, x_len, len_str, len_tup, len_lst, len_cst, x_idxs, x_idxt, x_idxl, x_idxc, x_idxr, x_isi, ty_str, ty_int, ty_bl, ty_non, ty_tup, ty_lst, ty_cst, ty_ins, tr_bl, tr_int, tr_str, tr_tup, tr_lst, tr_non, x_all, x_ends, x_starts, at_0, at_1, at_2, ix_0, ix_1,
  List.getElem?_cons_zero, List.getElem?_cons_succ, List.getElem?_nil, List.set_cons_zero, List.set_cons_succ, List.set_nil, Option.some.injEq, exists_eq_left', exists_eq_left, exists_and_left, Bool.false_eq_true, if_false, if_true, D.int.injEq, D.bl.injEq, D.ref.injEq, D.str.injEq, D.lst.injEq, D.tup.injEq, MO.lst.injEq, MO.ins.injEq, List.cons.injEq, Prod.mk.injEq, and_true, true_and, and_assoc, decide_eq_true_eq, Sto.set_same, Sto.set_set, reduceCtorEq, false_and, exists_false, false_or, or_false, ne_eq, not_false_eq_true, exists_eq', Bool.not_true, Bool.not_false, Bool.not_eq_true', decide_eq_false_iff_not, x_ext, sm_lst, sa_lst, sa_tup, sa_cst, x_lists, x_listl, x_listt, x_tupl, x_tupt, io_ins, x_muls, isC, dOpX, dOwn1, dMeth, dCMet, dMakeS, ownCmp, ownL, ownR, ownNe, ownBin, bkAny, bkTru, bkLen, sPar, setAll, zl, Nat.reduceMul, f])
  obtain ⟨x, hx, hm⟩ := at_in (xs := [D.non, D.bl true, D.int 0, D.str k, D.lst [D.str k, D.str n], D.tup [D.str k], D.tup [D.str k, D.str n, D.str n], D.tup [D.str k, D.non], D.tup [], D.tup [D.str k, D.str (k ++ Str.ofString "!")], D.tup [D.str (n ++ Str.ofString "!"), D.str k]]) z0 z1
  refine ⟨x, hx, q _ _ ((b1.new hq1).trans b2) ?_⟩
  simp only [List.mem_cons, List.not_mem_nil, or_false] at hm
  rcases hm with e | e | e | e | e | e | e | e | e | e | e <;> subst e <;> exact ⟨⟨rfl, fun _ _ e => by cases e <;> exact ⟨rfl, rfl⟩⟩, rfl⟩
end DL

-- cfg k02
namespace DL
open PySem PySem.Spec PyProof.Rows L2

/-! ### slices, plainly -/
theorem cut_take {α : Type} {xs : List α} {n : Int} (h : 0 ≤ n) : cutD xs none (some n) = xs.take n.toNat := by
  unfold cutD
  show (xs.drop 0).take ((if n < 0 then (n + (xs.length : Int)).toNat else min n.toNat xs.length) - 0) = _
  rw [if_neg (by omega), List.drop_zero, Nat.sub_zero]
  by_cases e : n.toNat ≤ xs.length
  · rw [Nat.min_eq_left e]
  · rw [Nat.min_eq_right (by omega), List.take_length, List.take_of_length_le (by omega)]
theorem cut_drop {α : Type} {xs : List α} {n : Int} (h : 0 ≤ n) : cutD xs (some n) none = xs.drop n.toNat := by
  unfold cutD
  show (xs.drop (if n < 0 then (n + (xs.length : Int)).toNat else min n.toNat xs.length)).take (xs.length - (if n < 0 then (n + (xs.length : Int)).toNat else min n.toNat xs.length)) = _
  rw [if_neg (by omega)]
  by_cases e : n.toNat ≤ xs.length
  · rw [Nat.min_eq_left e]
    exact List.take_of_length_le (by rw [List.length_drop]; omega)
  · rw [Nat.min_eq_right (by omega), List.drop_eq_nil_of_le (by omega), List.drop_eq_nil_of_le (by omega)]
    exact List.take_nil
theorem LinesOk.take {xs : List D} (h : LinesOk xs) (n : Nat) : LinesOk (xs.take n) := ⟨by rw [List.length_take]; have := h.1; omega, fun x hx => h.2 x (List.mem_of_mem_take hx)⟩
theorem LinesOk.drop {xs : List D} (h : LinesOk xs) (n : Nat) : LinesOk (xs.drop n) := ⟨by rw [List.length_drop]; have := h.1; omega, fun x hx => h.2 x (List.mem_of_mem_drop hx)⟩
theorem LinesOk.app {xs ys : List D} (h : LinesOk xs) (h2 : LinesOk ys) (hl : xs.length + ys.length ≤ 10000) : LinesOk (xs ++ ys) := ⟨by rw [List.length_append]; exact hl, fun x hx => (List.mem_append.mp hx).elim (h.2 x) (h2.2 x)⟩
theorem LinesOk.dat {xs : List D} (h : LinesOk xs) {n : Nat} (hn : 1 ≤ n) : xs.all (D.dat n) = true := good_dat h.2 hn

def R_m7 : DT := dIf (dOp (rCmp .Eq) (dVar 1) (dCst (.int 0))) (dCst (.int 1000)) (dCst (.int 20))
theorem m7_eq {j : Int} {ρ : DSt} {S : Sto} {Q : DQ} {E : DX} (h : ρ[1]? = some (some (.int j))) (q : ∀ m, m = 1000 ∨ m = 20 → Q (.int m) S) : R_m7 ρ S Q E := by
  unfold R_m7
  (try simp only [x_spr, startD, List.map_cons, List.map_nil, List.length_cons, List.length_nil, Nat.reduceAdd, Nat.reduceSub, Int.reduceLT, Int.reduceLE, Int.reduceToNat,  Int.reducePow, Int.reduceNeg, Nat.reduceLT, Nat.reduceLeDiff, Nat.reducePow, List.replicate_succ, List.replicate_zero, List.cons_append, List.nil_append, sSeq, sIf, sRet, sRetN, sNext, sAsg, sDrop, gNm, gOf, Tg.d, Tg.ds, dVar, dCst, dNil, dCons, dOp, dUn, dChain, dBl, dAnd, dOr, dNot, dIf, dTst, dCall, dCB, dLst, dTup, dM1, gSubD, mkL, dYes, dPart, dSlc, iEnumD, iSeqD, iRng1D, iRng2D, sFor, dLc, wipeD, si_str, si_tup, si_lst, si_cst, x_slcs, x_slct, x_slcl, x_slcc, dFld, sFldD, x_frz, dMake, dMt, x_isref, x_app, x_pop,
  x_lt, x_le, x_gt, x_ge, x_eqi, x_nei, x_eqs, x_nes, x_ner, x_eqr, x_in, x_nin, x_is, x_isnt, x_add, x_adds, x_addt, x_addl, x_sub, x_mul, x_div, x_mod, x_pow, x_neg, x_int, x_abs, x_max, x_min, x_len, len_str, len_tup, len_lst, len_cst, x_idxs, x_idxt, x_idxl, x_idxc, x_idxr, x_isi, ty_str, ty_int, ty_bl, ty_non, ty_tup, ty_lst, ty_cst, ty_ins, tr_bl, tr_int, tr_str, tr_tup, tr_lst, tr_non, x_all, x_ends, x_starts, at_0, at_1, at_2, ix_0, ix_1,
  List.getElem?_cons_zero, List.getElem?_cons_succ, List.getElem?_nil, List.set_cons_zero, List.set_cons_succ, List.set_nil, Option.some.injEq, exists_eq_left', exists_eq_left, exists_and_left, Bool.false_eq_true, if_false, if_true, D.int.injEq, D.bl.injEq, D.ref.injEq, D.str.injEq, D.lst.injEq, D.tup.injEq, MO.lst.injEq, MO.ins.injEq, List.cons.injEq, Prod.mk.injEq, and_true, true_and, and_assoc, decide_eq_true_eq, Sto.set_same, Sto.set_set, reduceCtorEq, false_and, exists_false, false_or, or_false, ne_eq, not_false_eq_true, exists_eq', Bool.not_true, Bool.not_false, Bool.not_eq_true', decide_eq_false_iff_not, x_ext, sm_lst, sa_lst, sa_tup, sa_cst, x_lists, x_listl, x_listt, x_tupl, x_tupt, io_ins, x_muls, isC, dOpX, dOwn1, dMeth, dCMet, dMakeS, ownCmp, ownL, ownR, ownNe, ownBin, bkAny, bkTru, bkLen, sPar, setAll, zl, Nat.reduceMul, h])
  split
  · exact q _ (.inl rfl)
  · exact q _ (.inr rfl)
def R_ls : DT := dIf (dOp (rCmp .Eq) (dVar 4) (dCst (.int 1000))) (dSlc false (dOp (rBin false .Mult) (dVar 5) (dCst (.int 25))) none (some (dCst (.int 999)))) (dVar 5)
theorem ls_eq {m : Int} {ls : List D} {ρ : DSt} {S : Sto} {Q : DQ} {E : DX} (h : ρ[4]? = some (some (.int m))) (h2 : ρ[5]? = some (some (.lst ls))) (hl : ls.length ≤ 40) (hg : ∀ l ∈ ls, GoodL l) (q : ∀ ls', ls'.length ≤ 1000 → LinesOk ls' → Q (.lst ls') S) : R_ls ρ S Q E := by
  unfold R_ls
  (try simp only [x_spr, startD, List.map_cons, List.map_nil, List.length_cons, List.length_nil, Nat.reduceAdd, Nat.reduceSub, Int.reduceLT, Int.reduceLE, Int.reduceToNat,  Int.reducePow, Int.reduceNeg, Nat.reduceLT, Nat.reduceLeDiff, Nat.reducePow, List.replicate_succ, List.replicate_zero, List.cons_append, List.nil_append, sSeq, sIf, sRet, sRetN, sNext, sAsg, sDrop, gNm, gOf, Tg.d, Tg.ds, dVar, dCst, dNil, dCons, dOp, dUn, dChain, dBl, dAnd, dOr, dNot, dIf, dTst, dCall, dCB, dLst, dTup, dM1, gSubD, mkL, dYes, dPart, dSlc, iEnumD, iSeqD, iRng1D, iRng2D, sFor, dLc, wipeD, si_str, si_tup, si_lst, si_cst, x_slcs, x_slct, x_slcl, x_slcc, dFld, sFldD, x_frz, dMake, dMt, x_isref, x_app, x_pop,
  x_lt, x_le, x_gt, x_ge, x_eqi, x_nei, x_eqs, x_nes, x_ner, x_eqr, x_in, x_nin, x_is, x_isnt, x_add, x_adds, x_addt, x_addl, x_sub, x_mul, x_div, x_mod, x_pow, x_neg, x_int, x_abs, x_max, x_min, x_len, len_str, len_tup, len_lst, len_cst, x_idxs, x_idxt, x_idxl, x_idxc, x_idxr, x_isi, ty_str, ty_int, ty_bl, ty_non, ty_tup, ty_lst, ty_cst, ty_ins, tr_bl, tr_int, tr_str, tr_tup, tr_lst, tr_non, x_all, x_ends, x_starts, at_0, at_1, at_2, ix_0, ix_1,
  List.getElem?_cons_zero, List.getElem?_cons_succ, List.getElem?_nil, List.set_cons_zero, List.set_cons_succ, List.set_nil, Option.some.injEq, exists_eq_left', exists_eq_left, exists_and_left, Bool.false_eq_true, if_false, if_true, D.int.injEq, D.bl.injEq, D.ref.injEq, D.str.injEq, D.lst.injEq, D.tup.injEq, MO.lst.injEq, MO.ins.injEq, List.cons.injEq, Prod.mk.injEq, and_true, true_and, and_assoc, decide_eq_true_eq, Sto.set_same, Sto.set_set, reduceCtorEq, false_and, exists_false, false_or, or_false, ne_eq, not_false_eq_true, exists_eq', Bool.not_true, Bool.not_false, Bool.not_eq_true', decide_eq_false_iff_not, x_ext, sm_lst, sa_lst, sa_tup, sa_cst, x_lists, x_listl, x_listt, x_tupl, x_tupt, io_ins, x_muls, isC, dOpX, dOwn1, dMeth, dCMet, dMakeS, ownCmp, ownL, ownR, ownNe, ownBin, bkAny, bkTru, bkLen, sPar, setAll, zl, Nat.reduceMul, h, h2])
  split
  · refine ⟨lt_line (by omega), ?_⟩
    rw [cut_take (by decide)]
    have lt : ∀ L : List D, (L.take (Int.toNat 999)).length ≤ 999 := fun L => by
      rw [List.length_take]
      exact Nat.min_le_left _ _
    refine q _ (Nat.le_trans (lt _) (by decide)) ⟨Nat.le_trans (lt _) (by decide), fun x hx => ?_⟩
    obtain ⟨l, hl, hx⟩ := List.mem_flatten.mp (List.mem_of_mem_take hx)
    have e : l = ls := by simpa using hl
    rw [e] at hx
    exact hg x hx
  · exact q _ (by omega) ⟨by omega, hg⟩
def R_due : DT := dAnd (dCB (rIsiD isiG) (dCons (dVar 13) (dCons (dCst (.ty .tup)) (dNil)))) (dOp (rCmp .In) (dVar 13) (dVar 5))
theorem due_eq {x : D} {ls : List D} {ρ : DSt} {S : Sto} {Q : DQ} {E : DX} (h : ρ[13]? = some (some x)) (h2 : ρ[5]? = some (some (.lst ls))) (hx : OddOk x) (hl : LinesOk ls) (q : Q (.bl (isTupD x && ls.any fun z => PyData.eqv z.p x.p)) S) : R_due ρ S Q E := by
  unfold R_due
  obtain ⟨⟨ht, _⟩, hd⟩ := hx
  cases x with
  | tup xs => (try simp only [x_spr, startD, List.map_cons, List.map_nil, List.length_cons, List.length_nil, Nat.reduceAdd, Nat.reduceSub, Int.reduceLT, Int.reduceLE, Int.reduceToNat,  Int.reducePow, Int.reduceNeg, Nat.reduceLT, Nat.reduceLeDiff, Nat.reducePow, List.replicate_succ, List.replicate_zero, List.cons_append, List.nil_append, sSeq, sIf, sRet, sRetN, sNext, sAsg, sDrop, gNm, gOf, Tg.d, Tg.ds, dVar, dCst, dNil, dCons, dOp, dUn, dChain, dBl, dAnd, dOr, dNot, dIf, dTst, dCall, dCB, dLst, dTup, dM1, gSubD, mkL, dYes, dPart, dSlc, iEnumD, iSeqD, iRng1D, iRng2D, sFor, dLc, wipeD, si_str, si_tup, si_lst, si_cst, x_slcs, x_slct, x_slcl, x_slcc, dFld, sFldD, x_frz, dMake, dMt, x_isref, x_app, x_pop,
  x_lt, x_le, x_gt, x_ge, x_eqi, x_nei, x_eqs, x_nes, x_ner, x_eqr, x_in, x_nin, x_is, x_isnt, x_add, x_adds, x_addt, x_addl, x_sub, x_mul, x_div, x_mod, x_pow, x_neg, x_int, x_abs, x_max, x_min, x_len, len_str, len_tup, len_lst, len_cst, x_idxs, x_idxt, x_idxl, x_idxc, x_idxr, x_isi, ty_str, ty_int, ty_bl, ty_non, ty_tup, ty_lst, ty_cst, ty_ins, tr_bl, tr_int, tr_str, tr_tup, tr_lst, tr_non, x_all, x_ends, x_starts, at_0, at_1, at_2, ix_0, ix_1,
  List.getElem?_cons_zero, List.getElem?_cons_succ, List.getElem?_nil, List.set_cons_zero, List.set_cons_succ, List.set_nil, Option.some.injEq, exists_eq_left', exists_eq_left, exists_and_left, Bool.false_eq_true, if_false, if_true, D.int.injEq, D.bl.injEq, D.ref.injEq, D.str.injEq, D.lst.injEq, D.tup.injEq, MO.lst.injEq, MO.ins.injEq, List.cons.injEq, Prod.mk.injEq, and_true, true_and, and_assoc, decide_eq_true_eq, Sto.set_same, Sto.set_set, reduceCtorEq, false_and, exists_false, false_or, or_false, ne_eq, not_false_eq_true, exists_eq', Bool.not_true, Bool.not_false, Bool.not_eq_true', decide_eq_false_iff_not, x_ext, sm_lst, sa_lst, sa_tup, sa_cst, x_lists, x_listl, x_listt, x_tupl, x_tupt, io_ins, x_muls, isC, dOpX, dOwn1, dMeth, dCMet, dMakeS, ownCmp, ownL, ownR, ownNe, ownBin, bkAny, bkTru, bkLen, sPar, setAll, zl, Nat.reduceMul, li_0, li_1, li_2, li_3, li_4, li_5, li_6, li_7, li_8, li_9, li_10, li_11, li_12, li_13, li_14, li_15, li_16, li_17, li_18, li_19, li_20, li_21, li_22, li_23, h, h2]); exact ⟨ls, rfl, dat_mono (by decide) hd, hl.dat (by decide), q⟩
  | ins C xs => cases C with
    | zero => (try simp only [x_spr, startD, List.map_cons, List.map_nil, List.length_cons, List.length_nil, Nat.reduceAdd, Nat.reduceSub, Int.reduceLT, Int.reduceLE, Int.reduceToNat,  Int.reducePow, Int.reduceNeg, Nat.reduceLT, Nat.reduceLeDiff, Nat.reducePow, List.replicate_succ, List.replicate_zero, List.cons_append, List.nil_append, sSeq, sIf, sRet, sRetN, sNext, sAsg, sDrop, gNm, gOf, Tg.d, Tg.ds, dVar, dCst, dNil, dCons, dOp, dUn, dChain, dBl, dAnd, dOr, dNot, dIf, dTst, dCall, dCB, dLst, dTup, dM1, gSubD, mkL, dYes, dPart, dSlc, iEnumD, iSeqD, iRng1D, iRng2D, sFor, dLc, wipeD, si_str, si_tup, si_lst, si_cst, x_slcs, x_slct, x_slcl, x_slcc, dFld, sFldD, x_frz, dMake, dMt, x_isref, x_app, x_pop,
  x_lt, x_le, x_gt, x_ge, x_eqi, x_nei, x_eqs, x_nes, x_ner, x_eqr, x_in, x_nin, x_is, x_isnt, x_add, x_adds, x_addt, x_addl, x_sub, x_mul, x_div, x_mod, x_pow, x_neg, x_int, x_abs, x_max, x_min, x_len, len_str, len_tup, len_lst, len_cst, x_idxs, x_idxt, x_idxl, x_idxc, x_idxr, x_isi, ty_str, ty_int, ty_bl, ty_non, ty_tup, ty_lst, ty_cst, ty_ins, tr_bl, tr_int, tr_str, tr_tup, tr_lst, tr_non, x_all, x_ends, x_starts, at_0, at_1, at_2, ix_0, ix_1,
  List.getElem?_cons_zero, List.getElem?_cons_succ, List.getElem?_nil, List.set_cons_zero, List.set_cons_succ, List.set_nil, Option.some.injEq, exists_eq_left', exists_eq_left, exists_and_left, Bool.false_eq_true, if_false, if_true, D.int.injEq, D.bl.injEq, D.ref.injEq, D.str.injEq, D.lst.injEq, D.tup.injEq, MO.lst.injEq, MO.ins.injEq, List.cons.injEq, Prod.mk.injEq, and_true, true_and, and_assoc, decide_eq_true_eq, Sto.set_same, Sto.set_set, reduceCtorEq, false_and, exists_false, false_or, or_false, ne_eq, not_false_eq_true, exists_eq', Bool.not_true, Bool.not_false, Bool.not_eq_true', decide_eq_false_iff_not, x_ext, sm_lst, sa_lst, sa_tup, sa_cst, x_lists, x_listl, x_listt, x_tupl, x_tupt, io_ins, x_muls, isC, dOpX, dOwn1, dMeth, dCMet, dMakeS, ownCmp, ownL, ownR, ownNe, ownBin, bkAny, bkTru, bkLen, sPar, setAll, zl, Nat.reduceMul, li_0, li_1, li_2, li_3, li_4, li_5, li_6, li_7, li_8, li_9, li_10, li_11, li_12, li_13, li_14, li_15, li_16, li_17, li_18, li_19, li_20, li_21, li_22, li_23, h]); exact q
    | succ n => cases ht
  | ref _ => cases ht
  | ty _ => cases ht
  | rp _ => cases ht
  | cst _ => cases ht
  | _ => (try simp only [x_spr, startD, List.map_cons, List.map_nil, List.length_cons, List.length_nil, Nat.reduceAdd, Nat.reduceSub, Int.reduceLT, Int.reduceLE, Int.reduceToNat,  Int.reducePow, Int.reduceNeg, Nat.reduceLT, Nat.reduceLeDiff, Nat.reducePow, List.replicate_succ, List.replicate_zero, List.cons_append, List.nil_append, sSeq, sIf, sRet, sRetN, sNext, sAsg, sDrop, gNm, gOf, Tg.d, Tg.ds, dVar, dCst, dNil, dCons, dOp, dUn, dChain, dBl, dAnd, dOr, dNot, dIf, dTst, dCall, dCB, dLst, dTup, dM1, gSubD, mkL, dYes, dPart, dSlc, iEnumD, iSeqD, iRng1D, iRng2D, sFor, dLc, wipeD, si_str, si_tup, si_lst, si_cst, x_slcs, x_slct, x_slcl, x_slcc, dFld, sFldD, x_frz, dMake, dMt, x_isref, x_app, x_pop,
  x_lt, x_le, x_gt, x_ge, x_eqi, x_nei, x_eqs, x_nes, x_ner, x_eqr, x_in, x_nin, x_is, x_isnt, x_add, x_adds, x_addt, x_addl, x_sub, x_mul, x_div, x_mod, x_pow, x_neg, x_int, x_abs, x_max, x_min, x_len, len_str, len_tup, len_lst, len_cst, x_idxs, x_idxt, x_idxl, x_idxc, x_idxr, x_isi, ty_str, ty_int, ty_bl, ty_non, ty_tup, ty_lst, ty_cst, ty_ins, tr_bl, tr_int, tr_str, tr_tup, tr_lst, tr_non, x_all, x_ends, x_starts, at_0, at_1, at_2, ix_0, ix_1,
  List.getElem?_cons_zero, List.getElem?_cons_succ, List.getElem?_nil, List.set_cons_zero, List.set_cons_succ, List.set_nil, Option.some.injEq, exists_eq_left', exists_eq_left, exists_and_left, Bool.false_eq_true, if_false, if_true, D.int.injEq, D.bl.injEq, D.ref.injEq, D.str.injEq, D.lst.injEq, D.tup.injEq, MO.lst.injEq, MO.ins.injEq, List.cons.injEq, Prod.mk.injEq, and_true, true_and, and_assoc, decide_eq_true_eq, Sto.set_same, Sto.set_set, reduceCtorEq, false_and, exists_false, false_or, or_false, ne_eq, not_false_eq_true, exists_eq', Bool.not_true, Bool.not_false, Bool.not_eq_true', decide_eq_false_iff_not, x_ext, sm_lst, sa_lst, sa_tup, sa_cst, x_lists, x_listl, x_listt, x_tupl, x_tupt, io_ins, x_muls, isC, dOpX, dOwn1, dMeth, dCMet, dMakeS, ownCmp, ownL, ownR, ownNe, ownBin, bkAny, bkTru, bkLen, sPar, setAll, zl, Nat.reduceMul, li_0, li_1, li_2, li_3, li_4, li_5, li_6, li_7, li_8, li_9, li_10, li_11, li_12, li_13, li_14, li_15, li_16, li_17, li_18, li_19, li_20, li_21, li_22, li_23, h]); exact q
theorem in_tup {x : D} {ls : List D} (hl : ∀ l ∈ ls, GoodL l) : (lineD x && ls.any fun z => PyData.eqv z.p x.p) = (isTupD x && ls.any fun z => PyData.eqv z.p x.p) := by
  cases ha : (ls.any fun z => PyData.eqv z.p x.p) with
  | false => rw [Bool.and_false, Bool.and_false]
  | true =>
    rw [Bool.and_true, Bool.and_true]
    obtain ⟨z, hz, e⟩ := List.any_eq_true.mp ha
    obtain ⟨k, n, ez, hk, hn⟩ := hl z hz
    subst ez
    have st : ∀ (a : Str) (d : D), PyData.eqv (.str a) d.p = true → d = .str a := fun a d h => by
      cases d with
      | str b =>
        have h : (a == b) = true := h
        rw [eq_of_beq h]
      | _ => cases h
    cases x with
    | tup xs =>
      have e : eqL [.str k, .str n] xs = true := e
      match xs, e with
      | [a, b], e =>
        rw [eqL_cons, eqL_cons, Bool.and_eq_true, Bool.and_eq_true] at e
        rw [st k a e.1, st n b e.2.1]
        exact (GoodL.line ⟨k, n, rfl, hk, hn⟩).2
      | [], e => rw [eqL_len (by simp)] at e; cases e
      | [_], e => rw [eqL_len (by simp)] at e; cases e
      | _ :: _ :: _ :: _, e => rw [eqL_len (by simp)] at e; cases e
    | _ => cases e
theorem x_reprb {b : Bool} {S : Sto} {Q : DQ} {E : DX} (q : Q (.rp (.bool b)) S) : rReprD [.bl b] S Q E := ⟨_, rfl, .inr (.inr ⟨rfl, lt_line (by cases b <;> decide +kernel), q⟩)⟩
/-- repr of a list of truths -/
theorem x_reprbs {bs : List Bool} {S : Sto} {Q : DQ} {E : DX} (hl : bs.length ≤ 100) (q : Q (.rp (.list (bs.map PyData.bool))) S) : rReprD [.lst (bs.map D.bl)] S Q E := by
  have ps : D.ps (bs.map D.bl) = bs.map PyData.bool := by
    rw [D.ps_map, List.map_map]
    rfl
  have sh : ∀ x ∈ bs.map D.bl, x.p.shown.length ≤ 5 := fun x hx => by
    obtain ⟨b, _, e⟩ := List.mem_map.mp hx
    subst e
    cases b <;> decide +kernel
  refine ⟨_, rfl, .inr (.inl ⟨_, rfl, ?_, ?_, ?_, ?_⟩)⟩
  · exact List.all_eq_true.mpr fun x hx => by
      obtain ⟨b, _, e⟩ := List.mem_map.mp hx
      subst e
      rfl
  · show (PyData.list (D.ps (bs.map D.bl))).showable = true
    unfold PyData.showable
    exact all_showable _ fun x hx => by
      obtain ⟨b, _, e⟩ := List.mem_map.mp hx
      subst e
      rfl
  · have := list_shown sh
    rw [List.length_map] at this
    exact Nat.le_trans this (lt_line (by omega))
  · show Q (.rp (PyData.list (D.ps (bs.map D.bl)))) S
    rw [ps]
    exact q
end DL

-- cfg k02
namespace DL
open PySem PySem.Spec PyProof.Rows L2

theorem split_at {ls : List D} {k : Nat} (h : k < ls.length) : ls = ls.take k ++ ([ls[k]] ++ ls.drop (k + 1)) := by
  rw [List.singleton_append, ← List.drop_eq_getElem_cons h, List.take_append_drop]
theorem told_more {ls : List D} {d : D} {k : Nat} (h : k ≤ ls.length) : eqL ls (ls.take k ++ [d] ++ ls.drop k) = false := eqL_len (by
  rw [List.length_append, List.length_append, List.length_take, List.length_drop]
  show _ ≠ _ + 1 + _
  omega)
theorem told_less {ls : List D} {k : Nat} (h : k ≤ ls.length) (ok : LinesOk ls) : eqL ls (ls.take k ++ ls.drop (k + 1)) = !decide ((k : Int) < ls.length) := by
  by_cases e : k < ls.length
  · rw [decide_eq_true (by omega), eqL_len (by rw [List.length_append, List.length_take, List.length_drop]; omega)]
    rfl
  · rw [decide_eq_false (by omega), List.take_of_length_le (by omega), List.drop_eq_nil_of_le (by omega), List.append_nil, eqL_self (ok.dat (n := 1) (by decide))]
    rfl
theorem told_turn {ls : List D} {d : D} {k : Nat} (e : k < ls.length) (ok : LinesOk ls) : eqL ls (ls.take k ++ [d] ++ ls.drop (k + 1)) = PyData.eqv ls[k].p d.p := by
  have h : eqL ls (ls.take k ++ [d] ++ ls.drop (k + 1)) = eqL (ls.take k ++ ([ls[k]] ++ ls.drop (k + 1))) (ls.take k ++ ([d] ++ ls.drop (k + 1))) := by
    rw [← split_at e, List.append_assoc]
  rw [h, eqL_app ((ok.take k).dat (n := 1) (by decide)), List.singleton_append, List.singleton_append, eqL_cons, eqL_self ((ok.drop (k + 1)).dat (n := 1) (by decide)), Bool.and_true]
theorem told_turn2 {ls : List D} {d : D} {k : Nat} (h : k ≤ ls.length) (e : ¬ k < ls.length) : eqL ls (ls.take k ++ [d] ++ ls.drop (k + 1)) = false := eqL_len (by
  rw [List.length_append, List.length_append, List.length_take, List.length_drop]
  show _ ≠ _ + 1 + _
  omega)
def R_spot : DT := dAnd (dVar 12) (dOp (rCmp .Eq) (dOp rIdx (dVar 5) (dVar 16)) (dVar 17))
theorem spot_eq {k : Nat} {d : D} {ls : List D} {ρ : DSt} {S : Sto} {Q : DQ} {E : DX} (h12 : ρ[12]? = some (some (.bl (decide ((k : Int) < ls.length))))) (h5 : ρ[5]? = some (some (.lst ls))) (h16 : ρ[16]? = some (some (.int k))) (h17 : ρ[17]? = some (some d)) (hk : k ≤ ls.length) (ok : LinesOk ls) (gd : GoodL d) (q : Q (.bl (eqL ls (ls.take k ++ [d] ++ ls.drop (k + 1)))) S) : R_spot ρ S Q E := by
  unfold R_spot
  by_cases e : k < ls.length
  · rw [told_turn e ok] at q
    have e2 : decide ((k : Int) < ls.length) = true := decide_eq_true (by omega)
    rw [e2] at h12
    have ge := ok.2 ls[k] (List.getElem_mem e)
    have at_ : atI ls (k : Int) = some ls[k] := at_nat (List.getElem?_eq_getElem e)
    (try simp only [x_spr, startD, List.map_cons, List.map_nil, List.length_cons, List.length_nil, Nat.reduceAdd, Nat.reduceSub, Int.reduceLT, Int.reduceLE, Int.reduceToNat,  Int.reducePow, Int.reduceNeg, Nat.reduceLT, Nat.reduceLeDiff, Nat.reducePow, List.replicate_succ, List.replicate_zero, List.cons_append, List.nil_append, sSeq, sIf, sRet, sRetN, sNext, sAsg, sDrop, gNm, gOf, Tg.d, Tg.ds, dVar, dCst, dNil, dCons, dOp, dUn, dChain, dBl, dAnd, dOr, dNot, dIf, dTst, dCall, dCB, dLst, dTup, dM1, gSubD, mkL, dYes, dPart, dSlc, iEnumD, iSeqD, iRng1D, iRng2D, sFor, dLc, wipeD, si_str, si_tup, si_lst, si_cst, x_slcs, x_slct, x_slcl, x_slcc, dFld, sFldD, x_frz, dMake, dMt, x_isref, x_app, x_pop,
  x_lt, x_le, x_gt, x_ge, x_eqi, x_nei, x_eqs, x_nes, x_ner, x_eqr, x_in, x_nin, x_is, x_isnt, x_add, x_adds, x_addt, x_addl, x_sub, x_mul, x_div, x_mod, x_pow, x_neg, x_int, x_abs, x_max, x_min, x_len, len_str, len_tup, len_lst, len_cst, x_idxs, x_idxt, x_idxl, x_idxc, x_idxr, x_isi, ty_str, ty_int, ty_bl, ty_non, ty_tup, ty_lst, ty_cst, ty_ins, tr_bl, tr_int, tr_str, tr_tup, tr_lst, tr_non, x_all, x_ends, x_starts, at_0, at_1, at_2, ix_0, ix_1,
  List.getElem?_cons_zero, List.getElem?_cons_succ, List.getElem?_nil, List.set_cons_zero, List.set_cons_succ, List.set_nil, Option.some.injEq, exists_eq_left', exists_eq_left, exists_and_left, Bool.false_eq_true, if_false, if_true, D.int.injEq, D.bl.injEq, D.ref.injEq, D.str.injEq, D.lst.injEq, D.tup.injEq, MO.lst.injEq, MO.ins.injEq, List.cons.injEq, Prod.mk.injEq, and_true, true_and, and_assoc, decide_eq_true_eq, Sto.set_same, Sto.set_set, reduceCtorEq, false_and, exists_false, false_or, or_false, ne_eq, not_false_eq_true, exists_eq', Bool.not_true, Bool.not_false, Bool.not_eq_true', decide_eq_false_iff_not, x_ext, sm_lst, sa_lst, sa_tup, sa_cst, x_lists, x_listl, x_listt, x_tupl, x_tupt, io_ins, x_muls, isC, dOpX, dOwn1, dMeth, dCMet, dMakeS, ownCmp, ownL, ownR, ownNe, ownBin, bkAny, bkTru, bkLen, sPar, setAll, zl, Nat.reduceMul, h12, h5, h16, h17])
    refine ⟨_, at_, ?_⟩
    obtain ⟨a, b, e3, _, _⟩ := ge
    obtain ⟨a2, b2, e4, _, _⟩ := gd
    subst e4
    rw [e3] at q ⊢
    exact eq_tups rfl rfl q
  · rw [told_turn2 hk e] at q
    have e2 : decide ((k : Int) < ls.length) = false := decide_eq_false (by omega)
    rw [e2] at h12
    (try simp only [x_spr, startD, List.map_cons, List.map_nil, List.length_cons, List.length_nil, Nat.reduceAdd, Nat.reduceSub, Int.reduceLT, Int.reduceLE, Int.reduceToNat,  Int.reducePow, Int.reduceNeg, Nat.reduceLT, Nat.reduceLeDiff, Nat.reducePow, List.replicate_succ, List.replicate_zero, List.cons_append, List.nil_append, sSeq, sIf, sRet, sRetN, sNext, sAsg, sDrop, gNm, gOf, Tg.d, Tg.ds, dVar, dCst, dNil, dCons, dOp, dUn, dChain, dBl, dAnd, dOr, dNot, dIf, dTst, dCall, dCB, dLst, dTup, dM1, gSubD, mkL, dYes, dPart, dSlc, iEnumD, iSeqD, iRng1D, iRng2D, sFor, dLc, wipeD, si_str, si_tup, si_lst, si_cst, x_slcs, x_slct, x_slcl, x_slcc, dFld, sFldD, x_frz, dMake, dMt, x_isref, x_app, x_pop,
  x_lt, x_le, x_gt, x_ge, x_eqi, x_nei, x_eqs, x_nes, x_ner, x_eqr, x_in, x_nin, x_is, x_isnt, x_add, x_adds, x_addt, x_addl, x_sub, x_mul, x_div, x_mod, x_pow, x_neg, x_int, x_abs, x_max, x_min, x_len, len_str, len_tup, len_lst, len_cst, x_idxs, x_idxt, x_idxl, x_idxc, x_idxr, x_isi, ty_str, ty_int, ty_bl, ty_non, ty_tup, ty_lst, ty_cst, ty_ins, tr_bl, tr_int, tr_str, tr_tup, tr_lst, tr_non, x_all, x_ends, x_starts, at_0, at_1, at_2, ix_0, ix_1,
  List.getElem?_cons_zero, List.getElem?_cons_succ, List.getElem?_nil, List.set_cons_zero, List.set_cons_succ, List.set_nil, Option.some.injEq, exists_eq_left', exists_eq_left, exists_and_left, Bool.false_eq_true, if_false, if_true, D.int.injEq, D.bl.injEq, D.ref.injEq, D.str.injEq, D.lst.injEq, D.tup.injEq, MO.lst.injEq, MO.ins.injEq, List.cons.injEq, Prod.mk.injEq, and_true, true_and, and_assoc, decide_eq_true_eq, Sto.set_same, Sto.set_set, reduceCtorEq, false_and, exists_false, false_or, or_false, ne_eq, not_false_eq_true, exists_eq', Bool.not_true, Bool.not_false, Bool.not_eq_true', decide_eq_false_iff_not, x_ext, sm_lst, sa_lst, sa_tup, sa_cst, x_lists, x_listl, x_listt, x_tupl, x_tupt, io_ins, x_muls, isC, dOpX, dOwn1, dMeth, dCMet, dMakeS, ownCmp, ownL, ownR, ownNe, ownBin, bkAny, bkTru, bkLen, sPar, setAll, zl, Nat.reduceMul, h12])
    exact q
def sp_law : DSp := fun ds S Q _ => ∃ ns : List Int, ds = [.cst (ns.map D.int)] ∧ ns.length ≤ 63 ∧ ∀ S', Q (.bl true) S'
abbrev sp__law_bag : DSp := sp_bag
abbrev sp__law_draw : DSp := sp_draw
theorem law_ok : ∀ ds S Q E, sp_law ds S Q E → bodySp 22 1 (r_law sp_bag sp__law_pool sp_draw sp__law_lines sp_File_of sp__law_direct sp__law_is_file sp_File___eq__ sp__law_odd sp_File___contains__ sp_File___init__ sp_File___len__) ds S Q E := by
  rintro ds S Q E ⟨ns, ed, hl, q⟩
  subst ed
  unfold r_law
  have o0 : okG_0 (.own 0) = true := rfl
  have o1 : okG_0 .tup = true := rfl
  have o2 : okG_0 .lst = true := rfl
  rw [show (dIf (dOp (rCmp .Eq) (dVar 1) (dCst (.int 0))) (dCst (.int 1000)) (dCst (.int 20))) = R_m7 from rfl]
  rw [show (dIf (dOp (rCmp .Eq) (dVar 4) (dCst (.int 1000))) (dSlc false (dOp (rBin false .Mult) (dVar 5) (dCst (.int 25))) none (some (dCst (.int 999)))) (dVar 5)) = R_ls from rfl]
  rw [show (dAnd (dCB (rIsiD isiG) (dCons (dVar 13) (dCons (dCst (.ty .tup)) (dNil)))) (dOp (rCmp .In) (dVar 13) (dVar 5))) = R_due from rfl]
  rw [show (dAnd (dVar 12) (dOp (rCmp .Eq) (dOp rIdx (dVar 5) (dVar 16)) (dVar 17))) = R_spot from rfl]
  (try simp only [x_spr, startD, List.map_cons, List.map_nil, List.length_cons, List.length_nil, Nat.reduceAdd, Nat.reduceSub, Int.reduceLT, Int.reduceLE, Int.reduceToNat,  Int.reducePow, Int.reduceNeg, Nat.reduceLT, Nat.reduceLeDiff, Nat.reducePow, List.replicate_succ, List.replicate_zero, List.cons_append, List.nil_append, sSeq, sIf, sRet, sRetN, sNext, sAsg, sDrop, gNm, gOf, Tg.d, Tg.ds, dVar, dCst, dNil, dCons, dOp, dUn, dChain, dBl, dAnd, dOr, dNot, dIf, dTst, dCall, dCB, dLst, dTup, dM1, gSubD, mkL, dYes, dPart, dSlc, iEnumD, iSeqD, iRng1D, iRng2D, sFor, dLc, wipeD, si_str, si_tup, si_lst, si_cst, x_slcs, x_slct, x_slcl, x_slcc, dFld, sFldD, x_frz, dMake, dMt, x_isref, x_app, x_pop,
  x_lt, x_le, x_gt, x_ge, x_eqi, x_nei, x_eqs, x_nes, x_ner, x_eqr, x_in, x_nin, x_is, x_isnt, x_add, x_adds, x_addt, x_addl, x_sub, x_mul, x_div, x_mod, x_pow, x_neg, x_int, x_abs, x_max, x_min, x_len, len_str, len_tup, len_lst, len_cst, x_idxs, x_idxt, x_idxl, x_idxc, x_idxr, x_isi, ty_str, ty_int, ty_bl, ty_non, ty_tup, ty_lst, ty_cst, ty_ins, tr_bl, tr_int, tr_str, tr_tup, tr_lst, tr_non, x_all, x_ends, x_starts, at_0, at_1, at_2, ix_0, ix_1,
  List.getElem?_cons_zero, List.getElem?_cons_succ, List.getElem?_nil, List.set_cons_zero, List.set_cons_succ, List.set_nil, Option.some.injEq, exists_eq_left', exists_eq_left, exists_and_left, Bool.false_eq_true, if_false, if_true, D.int.injEq, D.bl.injEq, D.ref.injEq, D.str.injEq, D.lst.injEq, D.tup.injEq, MO.lst.injEq, MO.ins.injEq, List.cons.injEq, Prod.mk.injEq, and_true, true_and, and_assoc, decide_eq_true_eq, Sto.set_same, Sto.set_set, reduceCtorEq, false_and, exists_false, false_or, or_false, ne_eq, not_false_eq_true, exists_eq', Bool.not_true, Bool.not_false, Bool.not_eq_true', decide_eq_false_iff_not, x_ext, sm_lst, sa_lst, sa_tup, sa_cst, x_lists, x_listl, x_listt, x_tupl, x_tupt, io_ins, x_muls, isC, dOpX, dOwn1, dMeth, dCMet, dMakeS, ownCmp, ownL, ownR, ownNe, ownBin, bkAny, bkTru, bkLen, sPar, setAll, zl, Nat.reduceMul])
  generalize hk : (if ((List.map D.int ns).length : Int) < 4 then ((List.map D.int ns).length : Int) else 4) = k
  have hk2 : k ≤ 4 := by
    rw [← hk]
    split <;> omega
  generalize hm : (if k > 1 then k else 1) = m
  have hm2 : 1 ≤ m ∧ m ≤ 4 := by
    rw [← hm]
    split <;> omega
  refine ⟨by omega, by omega, ?_⟩
  refine forGo_inv _ (fun _ ρ S' => ∃ v1 v2 v3 v4 v5 v6 v7 v8 v9 v10 v11 v12 v13 v14 v15 v16 v17 v18 v19 v20 v21, ρ = [some (.cst (ns.map D.int)), v1, v2, v3, v4, v5, v6, v7, v8, v9, v10, v11, v12, v13, v14, v15, v16, v17, v18, v19, v20, v21]) ⟨_, _, _, _, _, _, _, _, _, _, _, _, _, _, _, _, _, _, _, _, _, rfl⟩ ?_ ?_
  · rintro i x ρ S1 Kn hg ⟨v1, v2, v3, v4, v5, v6, v7, v8, v9, v10, v11, v12, v13, v14, v15, v16, v17, v18, v19, v20, v21, eρ⟩ hk
    subst eρ
    obtain ⟨j, hj, ej⟩ := List.mem_map.mp (List.mem_of_getElem? hg)
    have hj := List.mem_range.mp hj
    subst ej
    (try simp only [x_spr, startD, List.map_cons, List.map_nil, List.length_cons, List.length_nil, Nat.reduceAdd, Nat.reduceSub, Int.reduceLT, Int.reduceLE, Int.reduceToNat,  Int.reducePow, Int.reduceNeg, Nat.reduceLT, Nat.reduceLeDiff, Nat.reducePow, List.replicate_succ, List.replicate_zero, List.cons_append, List.nil_append, sSeq, sIf, sRet, sRetN, sNext, sAsg, sDrop, gNm, gOf, Tg.d, Tg.ds, dVar, dCst, dNil, dCons, dOp, dUn, dChain, dBl, dAnd, dOr, dNot, dIf, dTst, dCall, dCB, dLst, dTup, dM1, gSubD, mkL, dYes, dPart, dSlc, iEnumD, iSeqD, iRng1D, iRng2D, sFor, dLc, wipeD, si_str, si_tup, si_lst, si_cst, x_slcs, x_slct, x_slcl, x_slcc, dFld, sFldD, x_frz, dMake, dMt, x_isref, x_app, x_pop,
  x_lt, x_le, x_gt, x_ge, x_eqi, x_nei, x_eqs, x_nes, x_ner, x_eqr, x_in, x_nin, x_is, x_isnt, x_add, x_adds, x_addt, x_addl, x_sub, x_mul, x_div, x_mod, x_pow, x_neg, x_int, x_abs, x_max, x_min, x_len, len_str, len_tup, len_lst, len_cst, x_idxs, x_idxt, x_idxl, x_idxc, x_idxr, x_isi, ty_str, ty_int, ty_bl, ty_non, ty_tup, ty_lst, ty_cst, ty_ins, tr_bl, tr_int, tr_str, tr_tup, tr_lst, tr_non, x_all, x_ends, x_starts, at_0, at_1, at_2, ix_0, ix_1,
  List.getElem?_cons_zero, List.getElem?_cons_succ, List.getElem?_nil, List.set_cons_zero, List.set_cons_succ, List.set_nil, Option.some.injEq, exists_eq_left', exists_eq_left, exists_and_left, Bool.false_eq_true, if_false, if_true, D.int.injEq, D.bl.injEq, D.ref.injEq, D.str.injEq, D.lst.injEq, D.tup.injEq, MO.lst.injEq, MO.ins.injEq, List.cons.injEq, Prod.mk.injEq, and_true, true_and, and_assoc, decide_eq_true_eq, Sto.set_same, Sto.set_set, reduceCtorEq, false_and, exists_false, false_or, or_false, ne_eq, not_false_eq_true, exists_eq', Bool.not_true, Bool.not_false, Bool.not_eq_true', decide_eq_false_iff_not, x_ext, sm_lst, sa_lst, sa_tup, sa_cst, x_lists, x_listl, x_listt, x_tupl, x_tupt, io_ins, x_muls, isC, dOpX, dOwn1, dMeth, dCMet, dMakeS, ownCmp, ownL, ownR, ownNe, ownBin, bkAny, bkTru, bkLen, sPar, setAll, zl, Nat.reduceMul])
    refine ⟨ns, _, rfl, by omega, by omega, hl, fun p S2 hp b2 => ?_⟩
    (try simp only [x_spr, startD, List.map_cons, List.map_nil, List.length_cons, List.length_nil, Nat.reduceAdd, Nat.reduceSub, Int.reduceLT, Int.reduceLE, Int.reduceToNat,  Int.reducePow, Int.reduceNeg, Nat.reduceLT, Nat.reduceLeDiff, Nat.reducePow, List.replicate_succ, List.replicate_zero, List.cons_append, List.nil_append, sSeq, sIf, sRet, sRetN, sNext, sAsg, sDrop, gNm, gOf, Tg.d, Tg.ds, dVar, dCst, dNil, dCons, dOp, dUn, dChain, dBl, dAnd, dOr, dNot, dIf, dTst, dCall, dCB, dLst, dTup, dM1, gSubD, mkL, dYes, dPart, dSlc, iEnumD, iSeqD, iRng1D, iRng2D, sFor, dLc, wipeD, si_str, si_tup, si_lst, si_cst, x_slcs, x_slct, x_slcl, x_slcc, dFld, sFldD, x_frz, dMake, dMt, x_isref, x_app, x_pop,
  x_lt, x_le, x_gt, x_ge, x_eqi, x_nei, x_eqs, x_nes, x_ner, x_eqr, x_in, x_nin, x_is, x_isnt, x_add, x_adds, x_addt, x_addl, x_sub, x_mul, x_div, x_mod, x_pow, x_neg, x_int, x_abs, x_max, x_min, x_len, len_str, len_tup, len_lst, len_cst, x_idxs, x_idxt, x_idxl, x_idxc, x_idxr, x_isi, ty_str, ty_int, ty_bl, ty_non, ty_tup, ty_lst, ty_cst, ty_ins, tr_bl, tr_int, tr_str, tr_tup, tr_lst, tr_non, x_all, x_ends, x_starts, at_0, at_1, at_2, ix_0, ix_1,
  List.getElem?_cons_zero, List.getElem?_cons_succ, List.getElem?_nil, List.set_cons_zero, List.set_cons_succ, List.set_nil, Option.some.injEq, exists_eq_left', exists_eq_left, exists_and_left, Bool.false_eq_true, if_false, if_true, D.int.injEq, D.bl.injEq, D.ref.injEq, D.str.injEq, D.lst.injEq, D.tup.injEq, MO.lst.injEq, MO.ins.injEq, List.cons.injEq, Prod.mk.injEq, and_true, true_and, and_assoc, decide_eq_true_eq, Sto.set_same, Sto.set_set, reduceCtorEq, false_and, exists_false, false_or, or_false, ne_eq, not_false_eq_true, exists_eq', Bool.not_true, Bool.not_false, Bool.not_eq_true', decide_eq_false_iff_not, x_ext, sm_lst, sa_lst, sa_tup, sa_cst, x_lists, x_listl, x_listt, x_tupl, x_tupt, io_ins, x_muls, isC, dOpX, dOwn1, dMeth, dCMet, dMakeS, ownCmp, ownL, ownR, ownNe, ownBin, bkAny, bkTru, bkLen, sPar, setAll, zl, Nat.reduceMul])
    refine ⟨p, rfl, b2.self, fun pool S3 b3 lp gp => ?_⟩
    (try simp only [x_spr, startD, List.map_cons, List.map_nil, List.length_cons, List.length_nil, Nat.reduceAdd, Nat.reduceSub, Int.reduceLT, Int.reduceLE, Int.reduceToNat,  Int.reducePow, Int.reduceNeg, Nat.reduceLT, Nat.reduceLeDiff, Nat.reducePow, List.replicate_succ, List.replicate_zero, List.cons_append, List.nil_append, sSeq, sIf, sRet, sRetN, sNext, sAsg, sDrop, gNm, gOf, Tg.d, Tg.ds, dVar, dCst, dNil, dCons, dOp, dUn, dChain, dBl, dAnd, dOr, dNot, dIf, dTst, dCall, dCB, dLst, dTup, dM1, gSubD, mkL, dYes, dPart, dSlc, iEnumD, iSeqD, iRng1D, iRng2D, sFor, dLc, wipeD, si_str, si_tup, si_lst, si_cst, x_slcs, x_slct, x_slcl, x_slcc, dFld, sFldD, x_frz, dMake, dMt, x_isref, x_app, x_pop,
  x_lt, x_le, x_gt, x_ge, x_eqi, x_nei, x_eqs, x_nes, x_ner, x_eqr, x_in, x_nin, x_is, x_isnt, x_add, x_adds, x_addt, x_addl, x_sub, x_mul, x_div, x_mod, x_pow, x_neg, x_int, x_abs, x_max, x_min, x_len, len_str, len_tup, len_lst, len_cst, x_idxs, x_idxt, x_idxl, x_idxc, x_idxr, x_isi, ty_str, ty_int, ty_bl, ty_non, ty_tup, ty_lst, ty_cst, ty_ins, tr_bl, tr_int, tr_str, tr_tup, tr_lst, tr_non, x_all, x_ends, x_starts, at_0, at_1, at_2, ix_0, ix_1,
  List.getElem?_cons_zero, List.getElem?_cons_succ, List.getElem?_nil, List.set_cons_zero, List.set_cons_succ, List.set_nil, Option.some.injEq, exists_eq_left', exists_eq_left, exists_and_left, Bool.false_eq_true, if_false, if_true, D.int.injEq, D.bl.injEq, D.ref.injEq, D.str.injEq, D.lst.injEq, D.tup.injEq, MO.lst.injEq, MO.ins.injEq, List.cons.injEq, Prod.mk.injEq, and_true, true_and, and_assoc, decide_eq_true_eq, Sto.set_same, Sto.set_set, reduceCtorEq, false_and, exists_false, false_or, or_false, ne_eq, not_false_eq_true, exists_eq', Bool.not_true, Bool.not_false, Bool.not_eq_true', decide_eq_false_iff_not, x_ext, sm_lst, sa_lst, sa_tup, sa_cst, x_lists, x_listl, x_listt, x_tupl, x_tupt, io_ins, x_muls, isC, dOpX, dOwn1, dMeth, dCMet, dMakeS, ownCmp, ownL, ownR, ownNe, ownBin, bkAny, bkTru, bkLen, sPar, setAll, zl, Nat.reduceMul])
    refine m7_eq rfl fun m7 hm7 => ?_
    (try simp only [x_spr, startD, List.map_cons, List.map_nil, List.length_cons, List.length_nil, Nat.reduceAdd, Nat.reduceSub, Int.reduceLT, Int.reduceLE, Int.reduceToNat,  Int.reducePow, Int.reduceNeg, Nat.reduceLT, Nat.reduceLeDiff, Nat.reducePow, List.replicate_succ, List.replicate_zero, List.cons_append, List.nil_append, sSeq, sIf, sRet, sRetN, sNext, sAsg, sDrop, gNm, gOf, Tg.d, Tg.ds, dVar, dCst, dNil, dCons, dOp, dUn, dChain, dBl, dAnd, dOr, dNot, dIf, dTst, dCall, dCB, dLst, dTup, dM1, gSubD, mkL, dYes, dPart, dSlc, iEnumD, iSeqD, iRng1D, iRng2D, sFor, dLc, wipeD, si_str, si_tup, si_lst, si_cst, x_slcs, x_slct, x_slcl, x_slcc, dFld, sFldD, x_frz, dMake, dMt, x_isref, x_app, x_pop,
  x_lt, x_le, x_gt, x_ge, x_eqi, x_nei, x_eqs, x_nes, x_ner, x_eqr, x_in, x_nin, x_is, x_isnt, x_add, x_adds, x_addt, x_addl, x_sub, x_mul, x_div, x_mod, x_pow, x_neg, x_int, x_abs, x_max, x_min, x_len, len_str, len_tup, len_lst, len_cst, x_idxs, x_idxt, x_idxl, x_idxc, x_idxr, x_isi, ty_str, ty_int, ty_bl, ty_non, ty_tup, ty_lst, ty_cst, ty_ins, tr_bl, tr_int, tr_str, tr_tup, tr_lst, tr_non, x_all, x_ends, x_starts, at_0, at_1, at_2, ix_0, ix_1,
  List.getElem?_cons_zero, List.getElem?_cons_succ, List.getElem?_nil, List.set_cons_zero, List.set_cons_succ, List.set_nil, Option.some.injEq, exists_eq_left', exists_eq_left, exists_and_left, Bool.false_eq_true, if_false, if_true, D.int.injEq, D.bl.injEq, D.ref.injEq, D.str.injEq, D.lst.injEq, D.tup.injEq, MO.lst.injEq, MO.ins.injEq, List.cons.injEq, Prod.mk.injEq, and_true, true_and, and_assoc, decide_eq_true_eq, Sto.set_same, Sto.set_set, reduceCtorEq, false_and, exists_false, false_or, or_false, ne_eq, not_false_eq_true, exists_eq', Bool.not_true, Bool.not_false, Bool.not_eq_true', decide_eq_false_iff_not, x_ext, sm_lst, sa_lst, sa_tup, sa_cst, x_lists, x_listl, x_listt, x_tupl, x_tupt, io_ins, x_muls, isC, dOpX, dOwn1, dMeth, dCMet, dMakeS, ownCmp, ownL, ownR, ownNe, ownBin, bkAny, bkTru, bkLen, sPar, setAll, zl, Nat.reduceMul])
    refine ⟨p, 8, rfl, by decide, by decide, b3.self, fun r S4 b4 r0 r1 => ?_⟩
    (try simp only [x_spr, startD, List.map_cons, List.map_nil, List.length_cons, List.length_nil, Nat.reduceAdd, Nat.reduceSub, Int.reduceLT, Int.reduceLE, Int.reduceToNat,  Int.reducePow, Int.reduceNeg, Nat.reduceLT, Nat.reduceLeDiff, Nat.reducePow, List.replicate_succ, List.replicate_zero, List.cons_append, List.nil_append, sSeq, sIf, sRet, sRetN, sNext, sAsg, sDrop, gNm, gOf, Tg.d, Tg.ds, dVar, dCst, dNil, dCons, dOp, dUn, dChain, dBl, dAnd, dOr, dNot, dIf, dTst, dCall, dCB, dLst, dTup, dM1, gSubD, mkL, dYes, dPart, dSlc, iEnumD, iSeqD, iRng1D, iRng2D, sFor, dLc, wipeD, si_str, si_tup, si_lst, si_cst, x_slcs, x_slct, x_slcl, x_slcc, dFld, sFldD, x_frz, dMake, dMt, x_isref, x_app, x_pop,
  x_lt, x_le, x_gt, x_ge, x_eqi, x_nei, x_eqs, x_nes, x_ner, x_eqr, x_in, x_nin, x_is, x_isnt, x_add, x_adds, x_addt, x_addl, x_sub, x_mul, x_div, x_mod, x_pow, x_neg, x_int, x_abs, x_max, x_min, x_len, len_str, len_tup, len_lst, len_cst, x_idxs, x_idxt, x_idxl, x_idxc, x_idxr, x_isi, ty_str, ty_int, ty_bl, ty_non, ty_tup, ty_lst, ty_cst, ty_ins, tr_bl, tr_int, tr_str, tr_tup, tr_lst, tr_non, x_all, x_ends, x_starts, at_0, at_1, at_2, ix_0, ix_1,
  List.getElem?_cons_zero, List.getElem?_cons_succ, List.getElem?_nil, List.set_cons_zero, List.set_cons_succ, List.set_nil, Option.some.injEq, exists_eq_left', exists_eq_left, exists_and_left, Bool.false_eq_true, if_false, if_true, D.int.injEq, D.bl.injEq, D.ref.injEq, D.str.injEq, D.lst.injEq, D.tup.injEq, MO.lst.injEq, MO.ins.injEq, List.cons.injEq, Prod.mk.injEq, and_true, true_and, and_assoc, decide_eq_true_eq, Sto.set_same, Sto.set_set, reduceCtorEq, false_and, exists_false, false_or, or_false, ne_eq, not_false_eq_true, exists_eq', Bool.not_true, Bool.not_false, Bool.not_eq_true', decide_eq_false_iff_not, x_ext, sm_lst, sa_lst, sa_tup, sa_cst, x_lists, x_listl, x_listt, x_tupl, x_tupt, io_ins, x_muls, isC, dOpX, dOwn1, dMeth, dCMet, dMakeS, ownCmp, ownL, ownR, ownNe, ownBin, bkAny, bkTru, bkLen, sPar, setAll, zl, Nat.reduceMul])
    obtain ⟨d, hd, hdm⟩ := at_in (xs := [D.int 0, .int 1, .int 2, .int 3, .int 5, .int 8, .int 40, .int m7]) r0 r1
    have : ∃ mm : Int, d = .int mm ∧ 0 ≤ mm := by
      simp only [List.mem_cons, List.not_mem_nil, or_false] at hdm
      rcases hdm with e | e | e | e | e | e | e | e <;> subst e
      all_goals first | exact ⟨_, rfl, by decide⟩ | (refine ⟨_, rfl, ?_⟩; rcases hm7 with h | h <;> omega)
    obtain ⟨mm, ed, hmm⟩ := this
    subst ed
    refine ⟨_, hd, ?_⟩
    (try simp only [x_spr, startD, List.map_cons, List.map_nil, List.length_cons, List.length_nil, Nat.reduceAdd, Nat.reduceSub, Int.reduceLT, Int.reduceLE, Int.reduceToNat,  Int.reducePow, Int.reduceNeg, Nat.reduceLT, Nat.reduceLeDiff, Nat.reducePow, List.replicate_succ, List.replicate_zero, List.cons_append, List.nil_append, sSeq, sIf, sRet, sRetN, sNext, sAsg, sDrop, gNm, gOf, Tg.d, Tg.ds, dVar, dCst, dNil, dCons, dOp, dUn, dChain, dBl, dAnd, dOr, dNot, dIf, dTst, dCall, dCB, dLst, dTup, dM1, gSubD, mkL, dYes, dPart, dSlc, iEnumD, iSeqD, iRng1D, iRng2D, sFor, dLc, wipeD, si_str, si_tup, si_lst, si_cst, x_slcs, x_slct, x_slcl, x_slcc, dFld, sFldD, x_frz, dMake, dMt, x_isref, x_app, x_pop,
  x_lt, x_le, x_gt, x_ge, x_eqi, x_nei, x_eqs, x_nes, x_ner, x_eqr, x_in, x_nin, x_is, x_isnt, x_add, x_adds, x_addt, x_addl, x_sub, x_mul, x_div, x_mod, x_pow, x_neg, x_int, x_abs, x_max, x_min, x_len, len_str, len_tup, len_lst, len_cst, x_idxs, x_idxt, x_idxl, x_idxc, x_idxr, x_isi, ty_str, ty_int, ty_bl, ty_non, ty_tup, ty_lst, ty_cst, ty_ins, tr_bl, tr_int, tr_str, tr_tup, tr_lst, tr_non, x_all, x_ends, x_starts, at_0, at_1, at_2, ix_0, ix_1,
  List.getElem?_cons_zero, List.getElem?_cons_succ, List.getElem?_nil, List.set_cons_zero, List.set_cons_succ, List.set_nil, Option.some.injEq, exists_eq_left', exists_eq_left, exists_and_left, Bool.false_eq_true, if_false, if_true, D.int.injEq, D.bl.injEq, D.ref.injEq, D.str.injEq, D.lst.injEq, D.tup.injEq, MO.lst.injEq, MO.ins.injEq, List.cons.injEq, Prod.mk.injEq, and_true, true_and, and_assoc, decide_eq_true_eq, Sto.set_same, Sto.set_set, reduceCtorEq, false_and, exists_false, false_or, or_false, ne_eq, not_false_eq_true, exists_eq', Bool.not_true, Bool.not_false, Bool.not_eq_true', decide_eq_false_iff_not, x_ext, sm_lst, sa_lst, sa_tup, sa_cst, x_lists, x_listl, x_listt, x_tupl, x_tupt, io_ins, x_muls, isC, dOpX, dOwn1, dMeth, dCMet, dMakeS, ownCmp, ownL, ownR, ownNe, ownBin, bkAny, bkTru, bkLen, sPar, setAll, zl, Nat.reduceMul])
    refine ⟨p, pool, _, rfl, by omega, by omega, by split <;> omega, by split <;> omega, b4.self, fun ls0 S5 b5 ll gl => ?_⟩
    refine ls_eq rfl rfl (by split at ll <;> omega) (fun l h => gp l (gl l h)) fun ls hls ok => ?_
    have b25 := b3.trans (b4.trans b5)
    (try simp only [x_spr, startD, List.map_cons, List.map_nil, List.length_cons, List.length_nil, Nat.reduceAdd, Nat.reduceSub, Int.reduceLT, Int.reduceLE, Int.reduceToNat,  Int.reducePow, Int.reduceNeg, Nat.reduceLT, Nat.reduceLeDiff, Nat.reducePow, List.replicate_succ, List.replicate_zero, List.cons_append, List.nil_append, sSeq, sIf, sRet, sRetN, sNext, sAsg, sDrop, gNm, gOf, Tg.d, Tg.ds, dVar, dCst, dNil, dCons, dOp, dUn, dChain, dBl, dAnd, dOr, dNot, dIf, dTst, dCall, dCB, dLst, dTup, dM1, gSubD, mkL, dYes, dPart, dSlc, iEnumD, iSeqD, iRng1D, iRng2D, sFor, dLc, wipeD, si_str, si_tup, si_lst, si_cst, x_slcs, x_slct, x_slcl, x_slcc, dFld, sFldD, x_frz, dMake, dMt, x_isref, x_app, x_pop,
  x_lt, x_le, x_gt, x_ge, x_eqi, x_nei, x_eqs, x_nes, x_ner, x_eqr, x_in, x_nin, x_is, x_isnt, x_add, x_adds, x_addt, x_addl, x_sub, x_mul, x_div, x_mod, x_pow, x_neg, x_int, x_abs, x_max, x_min, x_len, len_str, len_tup, len_lst, len_cst, x_idxs, x_idxt, x_idxl, x_idxc, x_idxr, x_isi, ty_str, ty_int, ty_bl, ty_non, ty_tup, ty_lst, ty_cst, ty_ins, tr_bl, tr_int, tr_str, tr_tup, tr_lst, tr_non, x_all, x_ends, x_starts, at_0, at_1, at_2, ix_0, ix_1,
  List.getElem?_cons_zero, List.getElem?_cons_succ, List.getElem?_nil, List.set_cons_zero, List.set_cons_succ, List.set_nil, Option.some.injEq, exists_eq_left', exists_eq_left, exists_and_left, Bool.false_eq_true, if_false, if_true, D.int.injEq, D.bl.injEq, D.ref.injEq, D.str.injEq, D.lst.injEq, D.tup.injEq, MO.lst.injEq, MO.ins.injEq, List.cons.injEq, Prod.mk.injEq, and_true, true_and, and_assoc, decide_eq_true_eq, Sto.set_same, Sto.set_set, reduceCtorEq, false_and, exists_false, false_or, or_false, ne_eq, not_false_eq_true, exists_eq', Bool.not_true, Bool.not_false, Bool.not_eq_true', decide_eq_false_iff_not, x_ext, sm_lst, sa_lst, sa_tup, sa_cst, x_lists, x_listl, x_listt, x_tupl, x_tupt, io_ins, x_muls, isC, dOpX, dOwn1, dMeth, dCMet, dMakeS, ownCmp, ownL, ownR, ownNe, ownBin, bkAny, bkTru, bkLen, sPar, setAll, zl, Nat.reduceMul])
    intro q1 hq1
    have n1 : q1 ≠ p := b25.ne hq1
    have b6 := b25.new (o := .lst ls) hq1
    (try simp only [x_spr, startD, List.map_cons, List.map_nil, List.length_cons, List.length_nil, Nat.reduceAdd, Nat.reduceSub, Int.reduceLT, Int.reduceLE, Int.reduceToNat,  Int.reducePow, Int.reduceNeg, Nat.reduceLT, Nat.reduceLeDiff, Nat.reducePow, List.replicate_succ, List.replicate_zero, List.cons_append, List.nil_append, sSeq, sIf, sRet, sRetN, sNext, sAsg, sDrop, gNm, gOf, Tg.d, Tg.ds, dVar, dCst, dNil, dCons, dOp, dUn, dChain, dBl, dAnd, dOr, dNot, dIf, dTst, dCall, dCB, dLst, dTup, dM1, gSubD, mkL, dYes, dPart, dSlc, iEnumD, iSeqD, iRng1D, iRng2D, sFor, dLc, wipeD, si_str, si_tup, si_lst, si_cst, x_slcs, x_slct, x_slcl, x_slcc, dFld, sFldD, x_frz, dMake, dMt, x_isref, x_app, x_pop,
  x_lt, x_le, x_gt, x_ge, x_eqi, x_nei, x_eqs, x_nes, x_ner, x_eqr, x_in, x_nin, x_is, x_isnt, x_add, x_adds, x_addt, x_addl, x_sub, x_mul, x_div, x_mod, x_pow, x_neg, x_int, x_abs, x_max, x_min, x_len, len_str, len_tup, len_lst, len_cst, x_idxs, x_idxt, x_idxl, x_idxc, x_idxr, x_isi, ty_str, ty_int, ty_bl, ty_non, ty_tup, ty_lst, ty_cst, ty_ins, tr_bl, tr_int, tr_str, tr_tup, tr_lst, tr_non, x_all, x_ends, x_starts, at_0, at_1, at_2, ix_0, ix_1,
  List.getElem?_cons_zero, List.getElem?_cons_succ, List.getElem?_nil, List.set_cons_zero, List.set_cons_succ, List.set_nil, Option.some.injEq, exists_eq_left', exists_eq_left, exists_and_left, Bool.false_eq_true, if_false, if_true, D.int.injEq, D.bl.injEq, D.ref.injEq, D.str.injEq, D.lst.injEq, D.tup.injEq, MO.lst.injEq, MO.ins.injEq, List.cons.injEq, Prod.mk.injEq, and_true, true_and, and_assoc, decide_eq_true_eq, Sto.set_same, Sto.set_set, reduceCtorEq, false_and, exists_false, false_or, or_false, ne_eq, not_false_eq_true, exists_eq', Bool.not_true, Bool.not_false, Bool.not_eq_true', decide_eq_false_iff_not, x_ext, sm_lst, sa_lst, sa_tup, sa_cst, x_lists, x_listl, x_listt, x_tupl, x_tupt, io_ins, x_muls, isC, dOpX, dOwn1, dMeth, dCMet, dMakeS, ownCmp, ownL, ownR, ownNe, ownBin, bkAny, bkTru, bkLen, sPar, setAll, zl, Nat.reduceMul])
    refine ⟨_, ls, rfl, sa_ref Sto.set_same, ok, ?_⟩
    (try simp only [x_spr, startD, List.map_cons, List.map_nil, List.length_cons, List.length_nil, Nat.reduceAdd, Nat.reduceSub, Int.reduceLT, Int.reduceLE, Int.reduceToNat,  Int.reducePow, Int.reduceNeg, Nat.reduceLT, Nat.reduceLeDiff, Nat.reducePow, List.replicate_succ, List.replicate_zero, List.cons_append, List.nil_append, sSeq, sIf, sRet, sRetN, sNext, sAsg, sDrop, gNm, gOf, Tg.d, Tg.ds, dVar, dCst, dNil, dCons, dOp, dUn, dChain, dBl, dAnd, dOr, dNot, dIf, dTst, dCall, dCB, dLst, dTup, dM1, gSubD, mkL, dYes, dPart, dSlc, iEnumD, iSeqD, iRng1D, iRng2D, sFor, dLc, wipeD, si_str, si_tup, si_lst, si_cst, x_slcs, x_slct, x_slcl, x_slcc, dFld, sFldD, x_frz, dMake, dMt, x_isref, x_app, x_pop,
  x_lt, x_le, x_gt, x_ge, x_eqi, x_nei, x_eqs, x_nes, x_ner, x_eqr, x_in, x_nin, x_is, x_isnt, x_add, x_adds, x_addt, x_addl, x_sub, x_mul, x_div, x_mod, x_pow, x_neg, x_int, x_abs, x_max, x_min, x_len, len_str, len_tup, len_lst, len_cst, x_idxs, x_idxt, x_idxl, x_idxc, x_idxr, x_isi, ty_str, ty_int, ty_bl, ty_non, ty_tup, ty_lst, ty_cst, ty_ins, tr_bl, tr_int, tr_str, tr_tup, tr_lst, tr_non, x_all, x_ends, x_starts, at_0, at_1, at_2, ix_0, ix_1,
  List.getElem?_cons_zero, List.getElem?_cons_succ, List.getElem?_nil, List.set_cons_zero, List.set_cons_succ, List.set_nil, Option.some.injEq, exists_eq_left', exists_eq_left, exists_and_left, Bool.false_eq_true, if_false, if_true, D.int.injEq, D.bl.injEq, D.ref.injEq, D.str.injEq, D.lst.injEq, D.tup.injEq, MO.lst.injEq, MO.ins.injEq, List.cons.injEq, Prod.mk.injEq, and_true, true_and, and_assoc, decide_eq_true_eq, Sto.set_same, Sto.set_set, reduceCtorEq, false_and, exists_false, false_or, or_false, ne_eq, not_false_eq_true, exists_eq', Bool.not_true, Bool.not_false, Bool.not_eq_true', decide_eq_false_iff_not, x_ext, sm_lst, sa_lst, sa_tup, sa_cst, x_lists, x_listl, x_listt, x_tupl, x_tupt, io_ins, x_muls, isC, dOpX, dOwn1, dMeth, dCMet, dMakeS, ownCmp, ownL, ownR, ownNe, ownBin, bkAny, bkTru, bkLen, sPar, setAll, zl, Nat.reduceMul])
    refine ⟨_, ls, rfl, rfl, ok, ?_⟩
    have p0 := at_nat (xs := pool) (k := 0) (List.getElem?_eq_getElem (by omega))
    have p1 := at_nat (xs := pool) (k := 1) (List.getElem?_eq_getElem (by omega))
    have p0 : atI pool 0 = some (pool[0]'(by omega)) := p0
    have p1 : atI pool 1 = some (pool[1]'(by omega)) := p1
    have ct : cutD ls none (some 3) = ls.take 3 := cut_take (by decide)
    (try simp only [x_spr, startD, List.map_cons, List.map_nil, List.length_cons, List.length_nil, Nat.reduceAdd, Nat.reduceSub, Int.reduceLT, Int.reduceLE, Int.reduceToNat,  Int.reducePow, Int.reduceNeg, Nat.reduceLT, Nat.reduceLeDiff, Nat.reducePow, List.replicate_succ, List.replicate_zero, List.cons_append, List.nil_append, sSeq, sIf, sRet, sRetN, sNext, sAsg, sDrop, gNm, gOf, Tg.d, Tg.ds, dVar, dCst, dNil, dCons, dOp, dUn, dChain, dBl, dAnd, dOr, dNot, dIf, dTst, dCall, dCB, dLst, dTup, dM1, gSubD, mkL, dYes, dPart, dSlc, iEnumD, iSeqD, iRng1D, iRng2D, sFor, dLc, wipeD, si_str, si_tup, si_lst, si_cst, x_slcs, x_slct, x_slcl, x_slcc, dFld, sFldD, x_frz, dMake, dMt, x_isref, x_app, x_pop,
  x_lt, x_le, x_gt, x_ge, x_eqi, x_nei, x_eqs, x_nes, x_ner, x_eqr, x_in, x_nin, x_is, x_isnt, x_add, x_adds, x_addt, x_addl, x_sub, x_mul, x_div, x_mod, x_pow, x_neg, x_int, x_abs, x_max, x_min, x_len, len_str, len_tup, len_lst, len_cst, x_idxs, x_idxt, x_idxl, x_idxc, x_idxr, x_isi, ty_str, ty_int, ty_bl, ty_non, ty_tup, ty_lst, ty_cst, ty_ins, tr_bl, tr_int, tr_str, tr_tup, tr_lst, tr_non, x_all, x_ends, x_starts, at_0, at_1, at_2, ix_0, ix_1,
  List.getElem?_cons_zero, List.getElem?_cons_succ, List.getElem?_nil, List.set_cons_zero, List.set_cons_succ, List.set_nil, Option.some.injEq, exists_eq_left', exists_eq_left, exists_and_left, Bool.false_eq_true, if_false, if_true, D.int.injEq, D.bl.injEq, D.ref.injEq, D.str.injEq, D.lst.injEq, D.tup.injEq, MO.lst.injEq, MO.ins.injEq, List.cons.injEq, Prod.mk.injEq, and_true, true_and, and_assoc, decide_eq_true_eq, Sto.set_same, Sto.set_set, reduceCtorEq, false_and, exists_false, false_or, or_false, ne_eq, not_false_eq_true, exists_eq', Bool.not_true, Bool.not_false, Bool.not_eq_true', decide_eq_false_iff_not, x_ext, sm_lst, sa_lst, sa_tup, sa_cst, x_lists, x_listl, x_listt, x_tupl, x_tupt, io_ins, x_muls, isC, dOpX, dOwn1, dMeth, dCMet, dMakeS, ownCmp, ownL, ownR, ownNe, ownBin, bkAny, bkTru, bkLen, sPar, setAll, zl, Nat.reduceMul, ct])
    refine ⟨ls.take 3, rfl, by rw [List.length_take]; omega, ok.take 3, ?_⟩
    have ix : ixN (ls.length + 1) 0 = some 0 := by
      unfold ixN
      rw [if_pos (by decide), if_pos (by omega)]
      rfl
    (try simp only [x_spr, startD, List.map_cons, List.map_nil, List.length_cons, List.length_nil, Nat.reduceAdd, Nat.reduceSub, Int.reduceLT, Int.reduceLE, Int.reduceToNat,  Int.reducePow, Int.reduceNeg, Nat.reduceLT, Nat.reduceLeDiff, Nat.reducePow, List.replicate_succ, List.replicate_zero, List.cons_append, List.nil_append, sSeq, sIf, sRet, sRetN, sNext, sAsg, sDrop, gNm, gOf, Tg.d, Tg.ds, dVar, dCst, dNil, dCons, dOp, dUn, dChain, dBl, dAnd, dOr, dNot, dIf, dTst, dCall, dCB, dLst, dTup, dM1, gSubD, mkL, dYes, dPart, dSlc, iEnumD, iSeqD, iRng1D, iRng2D, sFor, dLc, wipeD, si_str, si_tup, si_lst, si_cst, x_slcs, x_slct, x_slcl, x_slcc, dFld, sFldD, x_frz, dMake, dMt, x_isref, x_app, x_pop,
  x_lt, x_le, x_gt, x_ge, x_eqi, x_nei, x_eqs, x_nes, x_ner, x_eqr, x_in, x_nin, x_is, x_isnt, x_add, x_adds, x_addt, x_addl, x_sub, x_mul, x_div, x_mod, x_pow, x_neg, x_int, x_abs, x_max, x_min, x_len, len_str, len_tup, len_lst, len_cst, x_idxs, x_idxt, x_idxl, x_idxc, x_idxr, x_isi, ty_str, ty_int, ty_bl, ty_non, ty_tup, ty_lst, ty_cst, ty_ins, tr_bl, tr_int, tr_str, tr_tup, tr_lst, tr_non, x_all, x_ends, x_starts, at_0, at_1, at_2, ix_0, ix_1,
  List.getElem?_cons_zero, List.getElem?_cons_succ, List.getElem?_nil, List.set_cons_zero, List.set_cons_succ, List.set_nil, Option.some.injEq, exists_eq_left', exists_eq_left, exists_and_left, Bool.false_eq_true, if_false, if_true, D.int.injEq, D.bl.injEq, D.ref.injEq, D.str.injEq, D.lst.injEq, D.tup.injEq, MO.lst.injEq, MO.ins.injEq, List.cons.injEq, Prod.mk.injEq, and_true, true_and, and_assoc, decide_eq_true_eq, Sto.set_same, Sto.set_set, reduceCtorEq, false_and, exists_false, false_or, or_false, ne_eq, not_false_eq_true, exists_eq', Bool.not_true, Bool.not_false, Bool.not_eq_true', decide_eq_false_iff_not, x_ext, sm_lst, sa_lst, sa_tup, sa_cst, x_lists, x_listl, x_listt, x_tupl, x_tupt, io_ins, x_muls, isC, dOpX, dOwn1, dMeth, dCMet, dMakeS, ownCmp, ownL, ownR, ownNe, ownBin, bkAny, bkTru, bkLen, sPar, setAll, zl, Nat.reduceMul, p0, p1, List.length_append, ix, io_file, ty_file, o0, o1, o2])
    have dl : ls.all (D.dat 16) = true := ok.dat (by decide)
    have dt : (ls.take 3).all (D.dat 16) = true := (ok.take 3).dat (by decide)
    have self := eqL_self dl
    refine ⟨Nat.lt_of_le_of_lt hls (lt_line (n := 1001) (by decide)), ls, rfl, ok, ?_⟩
    (try simp only [x_spr, startD, List.map_cons, List.map_nil, List.length_cons, List.length_nil, Nat.reduceAdd, Nat.reduceSub, Int.reduceLT, Int.reduceLE, Int.reduceToNat,  Int.reducePow, Int.reduceNeg, Nat.reduceLT, Nat.reduceLeDiff, Nat.reducePow, List.replicate_succ, List.replicate_zero, List.cons_append, List.nil_append, sSeq, sIf, sRet, sRetN, sNext, sAsg, sDrop, gNm, gOf, Tg.d, Tg.ds, dVar, dCst, dNil, dCons, dOp, dUn, dChain, dBl, dAnd, dOr, dNot, dIf, dTst, dCall, dCB, dLst, dTup, dM1, gSubD, mkL, dYes, dPart, dSlc, iEnumD, iSeqD, iRng1D, iRng2D, sFor, dLc, wipeD, si_str, si_tup, si_lst, si_cst, x_slcs, x_slct, x_slcl, x_slcc, dFld, sFldD, x_frz, dMake, dMt, x_isref, x_app, x_pop,
  x_lt, x_le, x_gt, x_ge, x_eqi, x_nei, x_eqs, x_nes, x_ner, x_eqr, x_in, x_nin, x_is, x_isnt, x_add, x_adds, x_addt, x_addl, x_sub, x_mul, x_div, x_mod, x_pow, x_neg, x_int, x_abs, x_max, x_min, x_len, len_str, len_tup, len_lst, len_cst, x_idxs, x_idxt, x_idxl, x_idxc, x_idxr, x_isi, ty_str, ty_int, ty_bl, ty_non, ty_tup, ty_lst, ty_cst, ty_ins, tr_bl, tr_int, tr_str, tr_tup, tr_lst, tr_non, x_all, x_ends, x_starts, at_0, at_1, at_2, ix_0, ix_1,
  List.getElem?_cons_zero, List.getElem?_cons_succ, List.getElem?_nil, List.set_cons_zero, List.set_cons_succ, List.set_nil, Option.some.injEq, exists_eq_left', exists_eq_left, exists_and_left, Bool.false_eq_true, if_false, if_true, D.int.injEq, D.bl.injEq, D.ref.injEq, D.str.injEq, D.lst.injEq, D.tup.injEq, MO.lst.injEq, MO.ins.injEq, List.cons.injEq, Prod.mk.injEq, and_true, true_and, and_assoc, decide_eq_true_eq, Sto.set_same, Sto.set_set, reduceCtorEq, false_and, exists_false, false_or, or_false, ne_eq, not_false_eq_true, exists_eq', Bool.not_true, Bool.not_false, Bool.not_eq_true', decide_eq_false_iff_not, x_ext, sm_lst, sa_lst, sa_tup, sa_cst, x_lists, x_listl, x_listt, x_tupl, x_tupt, io_ins, x_muls, isC, dOpX, dOwn1, dMeth, dCMet, dMakeS, ownCmp, ownL, ownR, ownNe, ownBin, bkAny, bkTru, bkLen, sPar, setAll, zl, Nat.reduceMul])
    refine ⟨ls, rfl, ok, ?_⟩
    (try simp only [x_spr, startD, List.map_cons, List.map_nil, List.length_cons, List.length_nil, Nat.reduceAdd, Nat.reduceSub, Int.reduceLT, Int.reduceLE, Int.reduceToNat,  Int.reducePow, Int.reduceNeg, Nat.reduceLT, Nat.reduceLeDiff, Nat.reducePow, List.replicate_succ, List.replicate_zero, List.cons_append, List.nil_append, sSeq, sIf, sRet, sRetN, sNext, sAsg, sDrop, gNm, gOf, Tg.d, Tg.ds, dVar, dCst, dNil, dCons, dOp, dUn, dChain, dBl, dAnd, dOr, dNot, dIf, dTst, dCall, dCB, dLst, dTup, dM1, gSubD, mkL, dYes, dPart, dSlc, iEnumD, iSeqD, iRng1D, iRng2D, sFor, dLc, wipeD, si_str, si_tup, si_lst, si_cst, x_slcs, x_slct, x_slcl, x_slcc, dFld, sFldD, x_frz, dMake, dMt, x_isref, x_app, x_pop,
  x_lt, x_le, x_gt, x_ge, x_eqi, x_nei, x_eqs, x_nes, x_ner, x_eqr, x_in, x_nin, x_is, x_isnt, x_add, x_adds, x_addt, x_addl, x_sub, x_mul, x_div, x_mod, x_pow, x_neg, x_int, x_abs, x_max, x_min, x_len, len_str, len_tup, len_lst, len_cst, x_idxs, x_idxt, x_idxl, x_idxc, x_idxr, x_isi, ty_str, ty_int, ty_bl, ty_non, ty_tup, ty_lst, ty_cst, ty_ins, tr_bl, tr_int, tr_str, tr_tup, tr_lst, tr_non, x_all, x_ends, x_starts, at_0, at_1, at_2, ix_0, ix_1,
  List.getElem?_cons_zero, List.getElem?_cons_succ, List.getElem?_nil, List.set_cons_zero, List.set_cons_succ, List.set_nil, Option.some.injEq, exists_eq_left', exists_eq_left, exists_and_left, Bool.false_eq_true, if_false, if_true, D.int.injEq, D.bl.injEq, D.ref.injEq, D.str.injEq, D.lst.injEq, D.tup.injEq, MO.lst.injEq, MO.ins.injEq, List.cons.injEq, Prod.mk.injEq, and_true, true_and, and_assoc, decide_eq_true_eq, Sto.set_same, Sto.set_set, reduceCtorEq, false_and, exists_false, false_or, or_false, ne_eq, not_false_eq_true, exists_eq', Bool.not_true, Bool.not_false, Bool.not_eq_true', decide_eq_false_iff_not, x_ext, sm_lst, sa_lst, sa_tup, sa_cst, x_lists, x_listl, x_listt, x_tupl, x_tupt, io_ins, x_muls, isC, dOpX, dOwn1, dMeth, dCMet, dMakeS, ownCmp, ownL, ownR, ownNe, ownBin, bkAny, bkTru, bkLen, sPar, setAll, zl, Nat.reduceMul])
    refine ⟨ls.take 3, rfl, ok.take 3, ?_⟩
    (try simp only [x_spr, startD, List.map_cons, List.map_nil, List.length_cons, List.length_nil, Nat.reduceAdd, Nat.reduceSub, Int.reduceLT, Int.reduceLE, Int.reduceToNat,  Int.reducePow, Int.reduceNeg, Nat.reduceLT, Nat.reduceLeDiff, Nat.reducePow, List.replicate_succ, List.replicate_zero, List.cons_append, List.nil_append, sSeq, sIf, sRet, sRetN, sNext, sAsg, sDrop, gNm, gOf, Tg.d, Tg.ds, dVar, dCst, dNil, dCons, dOp, dUn, dChain, dBl, dAnd, dOr, dNot, dIf, dTst, dCall, dCB, dLst, dTup, dM1, gSubD, mkL, dYes, dPart, dSlc, iEnumD, iSeqD, iRng1D, iRng2D, sFor, dLc, wipeD, si_str, si_tup, si_lst, si_cst, x_slcs, x_slct, x_slcl, x_slcc, dFld, sFldD, x_frz, dMake, dMt, x_isref, x_app, x_pop,
  x_lt, x_le, x_gt, x_ge, x_eqi, x_nei, x_eqs, x_nes, x_ner, x_eqr, x_in, x_nin, x_is, x_isnt, x_add, x_adds, x_addt, x_addl, x_sub, x_mul, x_div, x_mod, x_pow, x_neg, x_int, x_abs, x_max, x_min, x_len, len_str, len_tup, len_lst, len_cst, x_idxs, x_idxt, x_idxl, x_idxc, x_idxr, x_isi, ty_str, ty_int, ty_bl, ty_non, ty_tup, ty_lst, ty_cst, ty_ins, tr_bl, tr_int, tr_str, tr_tup, tr_lst, tr_non, x_all, x_ends, x_starts, at_0, at_1, at_2, ix_0, ix_1,
  List.getElem?_cons_zero, List.getElem?_cons_succ, List.getElem?_nil, List.set_cons_zero, List.set_cons_succ, List.set_nil, Option.some.injEq, exists_eq_left', exists_eq_left, exists_and_left, Bool.false_eq_true, if_false, if_true, D.int.injEq, D.bl.injEq, D.ref.injEq, D.str.injEq, D.lst.injEq, D.tup.injEq, MO.lst.injEq, MO.ins.injEq, List.cons.injEq, Prod.mk.injEq, and_true, true_and, and_assoc, decide_eq_true_eq, Sto.set_same, Sto.set_set, reduceCtorEq, false_and, exists_false, false_or, or_false, ne_eq, not_false_eq_true, exists_eq', Bool.not_true, Bool.not_false, Bool.not_eq_true', decide_eq_false_iff_not, x_ext, sm_lst, sa_lst, sa_tup, sa_cst, x_lists, x_listl, x_listt, x_tupl, x_tupt, io_ins, x_muls, isC, dOpX, dOwn1, dMeth, dCMet, dMakeS, ownCmp, ownL, ownR, ownNe, ownBin, bkAny, bkTru, bkLen, sPar, setAll, zl, Nat.reduceMul])
    refine .inl ⟨ls, ls, rfl, dl, dl, ?_⟩
    refine .inl ⟨ls, ls.take 3, rfl, dl, dt, ?_⟩
    refine .inl ⟨ls, ls, rfl, dl, dl, ?_⟩
    refine .inr ⟨ls, _, rfl, .inl ⟨_, rfl⟩, ?_⟩
    refine .inr ⟨ls, _, rfl, .inr ⟨_, rfl⟩, ?_⟩
    refine .inl ⟨ls, ls, rfl, dl, dl, ?_⟩
    have short : eqL ls (ls.take 3) = decide ((ls.length : Int) < 4) := by
      by_cases h : ls.length ≤ 3
      · rw [List.take_of_length_le h, self, decide_eq_true (by omega)]
      · rw [eqL_len (by rw [List.length_take]; omega), decide_eq_false (by omega)]
    rw [short, self]
    (try simp only [x_spr, startD, List.map_cons, List.map_nil, List.length_cons, List.length_nil, Nat.reduceAdd, Nat.reduceSub, Int.reduceLT, Int.reduceLE, Int.reduceToNat,  Int.reducePow, Int.reduceNeg, Nat.reduceLT, Nat.reduceLeDiff, Nat.reducePow, List.replicate_succ, List.replicate_zero, List.cons_append, List.nil_append, sSeq, sIf, sRet, sRetN, sNext, sAsg, sDrop, gNm, gOf, Tg.d, Tg.ds, dVar, dCst, dNil, dCons, dOp, dUn, dChain, dBl, dAnd, dOr, dNot, dIf, dTst, dCall, dCB, dLst, dTup, dM1, gSubD, mkL, dYes, dPart, dSlc, iEnumD, iSeqD, iRng1D, iRng2D, sFor, dLc, wipeD, si_str, si_tup, si_lst, si_cst, x_slcs, x_slct, x_slcl, x_slcc, dFld, sFldD, x_frz, dMake, dMt, x_isref, x_app, x_pop,
  x_lt, x_le, x_gt, x_ge, x_eqi, x_nei, x_eqs, x_nes, x_ner, x_eqr, x_in, x_nin, x_is, x_isnt, x_add, x_adds, x_addt, x_addl, x_sub, x_mul, x_div, x_mod, x_pow, x_neg, x_int, x_abs, x_max, x_min, x_len, len_str, len_tup, len_lst, len_cst, x_idxs, x_idxt, x_idxl, x_idxc, x_idxr, x_isi, ty_str, ty_int, ty_bl, ty_non, ty_tup, ty_lst, ty_cst, ty_ins, tr_bl, tr_int, tr_str, tr_tup, tr_lst, tr_non, x_all, x_ends, x_starts, at_0, at_1, at_2, ix_0, ix_1,
  List.getElem?_cons_zero, List.getElem?_cons_succ, List.getElem?_nil, List.set_cons_zero, List.set_cons_succ, List.set_nil, Option.some.injEq, exists_eq_left', exists_eq_left, exists_and_left, Bool.false_eq_true, if_false, if_true, D.int.injEq, D.bl.injEq, D.ref.injEq, D.str.injEq, D.lst.injEq, D.tup.injEq, MO.lst.injEq, MO.ins.injEq, List.cons.injEq, Prod.mk.injEq, and_true, true_and, and_assoc, decide_eq_true_eq, Sto.set_same, Sto.set_set, reduceCtorEq, false_and, exists_false, false_or, or_false, ne_eq, not_false_eq_true, exists_eq', Bool.not_true, Bool.not_false, Bool.not_eq_true', decide_eq_false_iff_not, x_ext, sm_lst, sa_lst, sa_tup, sa_cst, x_lists, x_listl, x_listt, x_tupl, x_tupt, io_ins, x_muls, isC, dOpX, dOwn1, dMeth, dCMet, dMakeS, ownCmp, ownL, ownR, ownNe, ownBin, bkAny, bkTru, bkLen, sPar, setAll, zl, Nat.reduceMul, List.cons_append, List.nil_append])
    generalize decide ((ls.length : Int) < 4) = b4
    refine x_reprbs (bs := [true, b4, true, false, false, false]) (Nat.le_of_ble_eq_true rfl) (x_reprbs (bs := [true, b4, true, false, false, false]) (Nat.le_of_ble_eq_true rfl) ?_)
    (try simp only [x_spr, startD, List.map_cons, List.map_nil, List.length_cons, List.length_nil, Nat.reduceAdd, Nat.reduceSub, Int.reduceLT, Int.reduceLE, Int.reduceToNat,  Int.reducePow, Int.reduceNeg, Nat.reduceLT, Nat.reduceLeDiff, Nat.reducePow, List.replicate_succ, List.replicate_zero, List.cons_append, List.nil_append, sSeq, sIf, sRet, sRetN, sNext, sAsg, sDrop, gNm, gOf, Tg.d, Tg.ds, dVar, dCst, dNil, dCons, dOp, dUn, dChain, dBl, dAnd, dOr, dNot, dIf, dTst, dCall, dCB, dLst, dTup, dM1, gSubD, mkL, dYes, dPart, dSlc, iEnumD, iSeqD, iRng1D, iRng2D, sFor, dLc, wipeD, si_str, si_tup, si_lst, si_cst, x_slcs, x_slct, x_slcl, x_slcc, dFld, sFldD, x_frz, dMake, dMt, x_isref, x_app, x_pop,
  x_lt, x_le, x_gt, x_ge, x_eqi, x_nei, x_eqs, x_nes, x_ner, x_eqr, x_in, x_nin, x_is, x_isnt, x_add, x_adds, x_addt, x_addl, x_sub, x_mul, x_div, x_mod, x_pow, x_neg, x_int, x_abs, x_max, x_min, x_len, len_str, len_tup, len_lst, len_cst, x_idxs, x_idxt, x_idxl, x_idxc, x_idxr, x_isi, ty_str, ty_int, ty_bl, ty_non, ty_tup, ty_lst, ty_cst, ty_ins, tr_bl, tr_int, tr_str, tr_tup, tr_lst, tr_non, x_all, x_ends, x_starts, at_0, at_1, at_2, ix_0, ix_1,
  List.getElem?_cons_zero, List.getElem?_cons_succ, List.getElem?_nil, List.set_cons_zero, List.set_cons_succ, List.set_nil, Option.some.injEq, exists_eq_left', exists_eq_left, exists_and_left, Bool.false_eq_true, if_false, if_true, D.int.injEq, D.bl.injEq, D.ref.injEq, D.str.injEq, D.lst.injEq, D.tup.injEq, MO.lst.injEq, MO.ins.injEq, List.cons.injEq, Prod.mk.injEq, and_true, true_and, and_assoc, decide_eq_true_eq, Sto.set_same, Sto.set_set, reduceCtorEq, false_and, exists_false, false_or, or_false, ne_eq, not_false_eq_true, exists_eq', Bool.not_true, Bool.not_false, Bool.not_eq_true', decide_eq_false_iff_not, x_ext, sm_lst, sa_lst, sa_tup, sa_cst, x_lists, x_listl, x_listt, x_tupl, x_tupt, io_ins, x_muls, isC, dOpX, dOwn1, dMeth, dCMet, dMakeS, ownCmp, ownL, ownR, ownNe, ownBin, bkAny, bkTru, bkLen, sPar, setAll, zl, Nat.reduceMul, decide_true, Bool.not_true])
    have Lp : LinesOk pool := ⟨by omega, gp⟩
    have lz := ok.1
    refine ⟨p, _, rfl, by omega, by omega, (b25.new hq1).self, fun sp S6 b7 s0 s1 => ?_⟩
    obtain ⟨k, rfl⟩ := Int.eq_ofNat_of_zero_le s0
    have hk1 : k ≤ ls.length := by omega
    have c1 : cutD ls none (some (k : Int)) = ls.take k := cut_take s0
    have c2 : cutD ls (some (k : Int)) none = ls.drop k := cut_drop s0
    have c3 : cutD ls (some ((k : Int) + 1)) none = ls.drop (k + 1) := cut_drop (by omega)
    (try simp only [x_spr, startD, List.map_cons, List.map_nil, List.length_cons, List.length_nil, Nat.reduceAdd, Nat.reduceSub, Int.reduceLT, Int.reduceLE, Int.reduceToNat,  Int.reducePow, Int.reduceNeg, Nat.reduceLT, Nat.reduceLeDiff, Nat.reducePow, List.replicate_succ, List.replicate_zero, List.cons_append, List.nil_append, sSeq, sIf, sRet, sRetN, sNext, sAsg, sDrop, gNm, gOf, Tg.d, Tg.ds, dVar, dCst, dNil, dCons, dOp, dUn, dChain, dBl, dAnd, dOr, dNot, dIf, dTst, dCall, dCB, dLst, dTup, dM1, gSubD, mkL, dYes, dPart, dSlc, iEnumD, iSeqD, iRng1D, iRng2D, sFor, dLc, wipeD, si_str, si_tup, si_lst, si_cst, x_slcs, x_slct, x_slcl, x_slcc, dFld, sFldD, x_frz, dMake, dMt, x_isref, x_app, x_pop,
  x_lt, x_le, x_gt, x_ge, x_eqi, x_nei, x_eqs, x_nes, x_ner, x_eqr, x_in, x_nin, x_is, x_isnt, x_add, x_adds, x_addt, x_addl, x_sub, x_mul, x_div, x_mod, x_pow, x_neg, x_int, x_abs, x_max, x_min, x_len, len_str, len_tup, len_lst, len_cst, x_idxs, x_idxt, x_idxl, x_idxc, x_idxr, x_isi, ty_str, ty_int, ty_bl, ty_non, ty_tup, ty_lst, ty_cst, ty_ins, tr_bl, tr_int, tr_str, tr_tup, tr_lst, tr_non, x_all, x_ends, x_starts, at_0, at_1, at_2, ix_0, ix_1,
  List.getElem?_cons_zero, List.getElem?_cons_succ, List.getElem?_nil, List.set_cons_zero, List.set_cons_succ, List.set_nil, Option.some.injEq, exists_eq_left', exists_eq_left, exists_and_left, Bool.false_eq_true, if_false, if_true, D.int.injEq, D.bl.injEq, D.ref.injEq, D.str.injEq, D.lst.injEq, D.tup.injEq, MO.lst.injEq, MO.ins.injEq, List.cons.injEq, Prod.mk.injEq, and_true, true_and, and_assoc, decide_eq_true_eq, Sto.set_same, Sto.set_set, reduceCtorEq, false_and, exists_false, false_or, or_false, ne_eq, not_false_eq_true, exists_eq', Bool.not_true, Bool.not_false, Bool.not_eq_true', decide_eq_false_iff_not, x_ext, sm_lst, sa_lst, sa_tup, sa_cst, x_lists, x_listl, x_listt, x_tupl, x_tupt, io_ins, x_muls, isC, dOpX, dOwn1, dMeth, dCMet, dMakeS, ownCmp, ownL, ownR, ownNe, ownBin, bkAny, bkTru, bkLen, sPar, setAll, zl, Nat.reduceMul, c1, c2, c3])
    have b27 := (b25.new (o := .lst ((ls ++ [pool[0]]).set 0 pool[1])) hq1).trans b7
    refine ⟨p, 12, rfl, by decide, by decide, b27.self, fun z S7 b8 z0 z1 => ?_⟩
    obtain ⟨d, hd2, hdm2⟩ := at_in (xs := pool) z0 (by omega)
    have gd := gp d hdm2
    (try simp only [x_spr, startD, List.map_cons, List.map_nil, List.length_cons, List.length_nil, Nat.reduceAdd, Nat.reduceSub, Int.reduceLT, Int.reduceLE, Int.reduceToNat,  Int.reducePow, Int.reduceNeg, Nat.reduceLT, Nat.reduceLeDiff, Nat.reducePow, List.replicate_succ, List.replicate_zero, List.cons_append, List.nil_append, sSeq, sIf, sRet, sRetN, sNext, sAsg, sDrop, gNm, gOf, Tg.d, Tg.ds, dVar, dCst, dNil, dCons, dOp, dUn, dChain, dBl, dAnd, dOr, dNot, dIf, dTst, dCall, dCB, dLst, dTup, dM1, gSubD, mkL, dYes, dPart, dSlc, iEnumD, iSeqD, iRng1D, iRng2D, sFor, dLc, wipeD, si_str, si_tup, si_lst, si_cst, x_slcs, x_slct, x_slcl, x_slcc, dFld, sFldD, x_frz, dMake, dMt, x_isref, x_app, x_pop,
  x_lt, x_le, x_gt, x_ge, x_eqi, x_nei, x_eqs, x_nes, x_ner, x_eqr, x_in, x_nin, x_is, x_isnt, x_add, x_adds, x_addt, x_addl, x_sub, x_mul, x_div, x_mod, x_pow, x_neg, x_int, x_abs, x_max, x_min, x_len, len_str, len_tup, len_lst, len_cst, x_idxs, x_idxt, x_idxl, x_idxc, x_idxr, x_isi, ty_str, ty_int, ty_bl, ty_non, ty_tup, ty_lst, ty_cst, ty_ins, tr_bl, tr_int, tr_str, tr_tup, tr_lst, tr_non, x_all, x_ends, x_starts, at_0, at_1, at_2, ix_0, ix_1,
  List.getElem?_cons_zero, List.getElem?_cons_succ, List.getElem?_nil, List.set_cons_zero, List.set_cons_succ, List.set_nil, Option.some.injEq, exists_eq_left', exists_eq_left, exists_and_left, Bool.false_eq_true, if_false, if_true, D.int.injEq, D.bl.injEq, D.ref.injEq, D.str.injEq, D.lst.injEq, D.tup.injEq, MO.lst.injEq, MO.ins.injEq, List.cons.injEq, Prod.mk.injEq, and_true, true_and, and_assoc, decide_eq_true_eq, Sto.set_same, Sto.set_set, reduceCtorEq, false_and, exists_false, false_or, or_false, ne_eq, not_false_eq_true, exists_eq', Bool.not_true, Bool.not_false, Bool.not_eq_true', decide_eq_false_iff_not, x_ext, sm_lst, sa_lst, sa_tup, sa_cst, x_lists, x_listl, x_listt, x_tupl, x_tupt, io_ins, x_muls, isC, dOpX, dOwn1, dMeth, dCMet, dMakeS, ownCmp, ownL, ownR, ownNe, ownBin, bkAny, bkTru, bkLen, sPar, setAll, zl, Nat.reduceMul])
    refine ⟨d, hd2, ?_⟩
    (try simp only [x_spr, startD, List.map_cons, List.map_nil, List.length_cons, List.length_nil, Nat.reduceAdd, Nat.reduceSub, Int.reduceLT, Int.reduceLE, Int.reduceToNat,  Int.reducePow, Int.reduceNeg, Nat.reduceLT, Nat.reduceLeDiff, Nat.reducePow, List.replicate_succ, List.replicate_zero, List.cons_append, List.nil_append, sSeq, sIf, sRet, sRetN, sNext, sAsg, sDrop, gNm, gOf, Tg.d, Tg.ds, dVar, dCst, dNil, dCons, dOp, dUn, dChain, dBl, dAnd, dOr, dNot, dIf, dTst, dCall, dCB, dLst, dTup, dM1, gSubD, mkL, dYes, dPart, dSlc, iEnumD, iSeqD, iRng1D, iRng2D, sFor, dLc, wipeD, si_str, si_tup, si_lst, si_cst, x_slcs, x_slct, x_slcl, x_slcc, dFld, sFldD, x_frz, dMake, dMt, x_isref, x_app, x_pop,
  x_lt, x_le, x_gt, x_ge, x_eqi, x_nei, x_eqs, x_nes, x_ner, x_eqr, x_in, x_nin, x_is, x_isnt, x_add, x_adds, x_addt, x_addl, x_sub, x_mul, x_div, x_mod, x_pow, x_neg, x_int, x_abs, x_max, x_min, x_len, len_str, len_tup, len_lst, len_cst, x_idxs, x_idxt, x_idxl, x_idxc, x_idxr, x_isi, ty_str, ty_int, ty_bl, ty_non, ty_tup, ty_lst, ty_cst, ty_ins, tr_bl, tr_int, tr_str, tr_tup, tr_lst, tr_non, x_all, x_ends, x_starts, at_0, at_1, at_2, ix_0, ix_1,
  List.getElem?_cons_zero, List.getElem?_cons_succ, List.getElem?_nil, List.set_cons_zero, List.set_cons_succ, List.set_nil, Option.some.injEq, exists_eq_left', exists_eq_left, exists_and_left, Bool.false_eq_true, if_false, if_true, D.int.injEq, D.bl.injEq, D.ref.injEq, D.str.injEq, D.lst.injEq, D.tup.injEq, MO.lst.injEq, MO.ins.injEq, List.cons.injEq, Prod.mk.injEq, and_true, true_and, and_assoc, decide_eq_true_eq, Sto.set_same, Sto.set_set, reduceCtorEq, false_and, exists_false, false_or, or_false, ne_eq, not_false_eq_true, exists_eq', Bool.not_true, Bool.not_false, Bool.not_eq_true', decide_eq_false_iff_not, x_ext, sm_lst, sa_lst, sa_tup, sa_cst, x_lists, x_listl, x_listt, x_tupl, x_tupt, io_ins, x_muls, isC, dOpX, dOwn1, dMeth, dCMet, dMakeS, ownCmp, ownL, ownR, ownNe, ownBin, bkAny, bkTru, bkLen, sPar, setAll, zl, Nat.reduceMul, c1, c2, c3])
    have t1 : (ls.take k).length = k := by rw [List.length_take]; omega
    have t2 : (ls.drop k).length = ls.length - k := List.length_drop ..
    have t3 : (ls.drop (k + 1)).length = ls.length - (k + 1) := List.length_drop ..
    have k1 : LinesOk [d] := ⟨Nat.le_of_ble_eq_true rfl, fun x hx => by rw [List.mem_singleton.mp hx]; exact gd⟩
    have sz : ∀ n, n ≤ 3000 → n ≤ sizeLine := fun n h => lt_line (by omega)
    have g1 := (ok.take k).app k1 (by rw [t1]; show k + 1 ≤ _; omega)
    have g2 := g1.app (ok.drop k) (by rw [List.length_append, t1, t2]; show k + 1 + _ ≤ _; omega)
    have g3 := (ok.take k).app (ok.drop (k + 1)) (by rw [t1, t3]; omega)
    have g4 := g1.app (ok.drop (k + 1)) (by rw [List.length_append, t1, t3]; show k + 1 + _ ≤ _; omega)
    refine ⟨sz _ (by omega), sz _ (by omega), _, _, rfl, rfl, g2, ?_⟩
    (try simp only [x_spr, startD, List.map_cons, List.map_nil, List.length_cons, List.length_nil, Nat.reduceAdd, Nat.reduceSub, Int.reduceLT, Int.reduceLE, Int.reduceToNat,  Int.reducePow, Int.reduceNeg, Nat.reduceLT, Nat.reduceLeDiff, Nat.reducePow, List.replicate_succ, List.replicate_zero, List.cons_append, List.nil_append, sSeq, sIf, sRet, sRetN, sNext, sAsg, sDrop, gNm, gOf, Tg.d, Tg.ds, dVar, dCst, dNil, dCons, dOp, dUn, dChain, dBl, dAnd, dOr, dNot, dIf, dTst, dCall, dCB, dLst, dTup, dM1, gSubD, mkL, dYes, dPart, dSlc, iEnumD, iSeqD, iRng1D, iRng2D, sFor, dLc, wipeD, si_str, si_tup, si_lst, si_cst, x_slcs, x_slct, x_slcl, x_slcc, dFld, sFldD, x_frz, dMake, dMt, x_isref, x_app, x_pop,
  x_lt, x_le, x_gt, x_ge, x_eqi, x_nei, x_eqs, x_nes, x_ner, x_eqr, x_in, x_nin, x_is, x_isnt, x_add, x_adds, x_addt, x_addl, x_sub, x_mul, x_div, x_mod, x_pow, x_neg, x_int, x_abs, x_max, x_min, x_len, len_str, len_tup, len_lst, len_cst, x_idxs, x_idxt, x_idxl, x_idxc, x_idxr, x_isi, ty_str, ty_int, ty_bl, ty_non, ty_tup, ty_lst, ty_cst, ty_ins, tr_bl, tr_int, tr_str, tr_tup, tr_lst, tr_non, x_all, x_ends, x_starts, at_0, at_1, at_2, ix_0, ix_1,
  List.getElem?_cons_zero, List.getElem?_cons_succ, List.getElem?_nil, List.set_cons_zero, List.set_cons_succ, List.set_nil, Option.some.injEq, exists_eq_left', exists_eq_left, exists_and_left, Bool.false_eq_true, if_false, if_true, D.int.injEq, D.bl.injEq, D.ref.injEq, D.str.injEq, D.lst.injEq, D.tup.injEq, MO.lst.injEq, MO.ins.injEq, List.cons.injEq, Prod.mk.injEq, and_true, true_and, and_assoc, decide_eq_true_eq, Sto.set_same, Sto.set_set, reduceCtorEq, false_and, exists_false, false_or, or_false, ne_eq, not_false_eq_true, exists_eq', Bool.not_true, Bool.not_false, Bool.not_eq_true', decide_eq_false_iff_not, x_ext, sm_lst, sa_lst, sa_tup, sa_cst, x_lists, x_listl, x_listt, x_tupl, x_tupt, io_ins, x_muls, isC, dOpX, dOwn1, dMeth, dCMet, dMakeS, ownCmp, ownL, ownR, ownNe, ownBin, bkAny, bkTru, bkLen, sPar, setAll, zl, Nat.reduceMul, c1, c2, c3])
    refine ⟨sz _ (by omega), _, _, rfl, rfl, g3, ?_⟩
    (try simp only [x_spr, startD, List.map_cons, List.map_nil, List.length_cons, List.length_nil, Nat.reduceAdd, Nat.reduceSub, Int.reduceLT, Int.reduceLE, Int.reduceToNat,  Int.reducePow, Int.reduceNeg, Nat.reduceLT, Nat.reduceLeDiff, Nat.reducePow, List.replicate_succ, List.replicate_zero, List.cons_append, List.nil_append, sSeq, sIf, sRet, sRetN, sNext, sAsg, sDrop, gNm, gOf, Tg.d, Tg.ds, dVar, dCst, dNil, dCons, dOp, dUn, dChain, dBl, dAnd, dOr, dNot, dIf, dTst, dCall, dCB, dLst, dTup, dM1, gSubD, mkL, dYes, dPart, dSlc, iEnumD, iSeqD, iRng1D, iRng2D, sFor, dLc, wipeD, si_str, si_tup, si_lst, si_cst, x_slcs, x_slct, x_slcl, x_slcc, dFld, sFldD, x_frz, dMake, dMt, x_isref, x_app, x_pop,
  x_lt, x_le, x_gt, x_ge, x_eqi, x_nei, x_eqs, x_nes, x_ner, x_eqr, x_in, x_nin, x_is, x_isnt, x_add, x_adds, x_addt, x_addl, x_sub, x_mul, x_div, x_mod, x_pow, x_neg, x_int, x_abs, x_max, x_min, x_len, len_str, len_tup, len_lst, len_cst, x_idxs, x_idxt, x_idxl, x_idxc, x_idxr, x_isi, ty_str, ty_int, ty_bl, ty_non, ty_tup, ty_lst, ty_cst, ty_ins, tr_bl, tr_int, tr_str, tr_tup, tr_lst, tr_non, x_all, x_ends, x_starts, at_0, at_1, at_2, ix_0, ix_1,
  List.getElem?_cons_zero, List.getElem?_cons_succ, List.getElem?_nil, List.set_cons_zero, List.set_cons_succ, List.set_nil, Option.some.injEq, exists_eq_left', exists_eq_left, exists_and_left, Bool.false_eq_true, if_false, if_true, D.int.injEq, D.bl.injEq, D.ref.injEq, D.str.injEq, D.lst.injEq, D.tup.injEq, MO.lst.injEq, MO.ins.injEq, List.cons.injEq, Prod.mk.injEq, and_true, true_and, and_assoc, decide_eq_true_eq, Sto.set_same, Sto.set_set, reduceCtorEq, false_and, exists_false, false_or, or_false, ne_eq, not_false_eq_true, exists_eq', Bool.not_true, Bool.not_false, Bool.not_eq_true', decide_eq_false_iff_not, x_ext, sm_lst, sa_lst, sa_tup, sa_cst, x_lists, x_listl, x_listt, x_tupl, x_tupt, io_ins, x_muls, isC, dOpX, dOwn1, dMeth, dCMet, dMakeS, ownCmp, ownL, ownR, ownNe, ownBin, bkAny, bkTru, bkLen, sPar, setAll, zl, Nat.reduceMul, c1, c2, c3])
    refine ⟨sz _ (by omega), sz _ (by omega), _, _, rfl, rfl, g4, ?_⟩
    (try simp only [x_spr, startD, List.map_cons, List.map_nil, List.length_cons, List.length_nil, Nat.reduceAdd, Nat.reduceSub, Int.reduceLT, Int.reduceLE, Int.reduceToNat,  Int.reducePow, Int.reduceNeg, Nat.reduceLT, Nat.reduceLeDiff, Nat.reducePow, List.replicate_succ, List.replicate_zero, List.cons_append, List.nil_append, sSeq, sIf, sRet, sRetN, sNext, sAsg, sDrop, gNm, gOf, Tg.d, Tg.ds, dVar, dCst, dNil, dCons, dOp, dUn, dChain, dBl, dAnd, dOr, dNot, dIf, dTst, dCall, dCB, dLst, dTup, dM1, gSubD, mkL, dYes, dPart, dSlc, iEnumD, iSeqD, iRng1D, iRng2D, sFor, dLc, wipeD, si_str, si_tup, si_lst, si_cst, x_slcs, x_slct, x_slcl, x_slcc, dFld, sFldD, x_frz, dMake, dMt, x_isref, x_app, x_pop,
  x_lt, x_le, x_gt, x_ge, x_eqi, x_nei, x_eqs, x_nes, x_ner, x_eqr, x_in, x_nin, x_is, x_isnt, x_add, x_adds, x_addt, x_addl, x_sub, x_mul, x_div, x_mod, x_pow, x_neg, x_int, x_abs, x_max, x_min, x_len, len_str, len_tup, len_lst, len_cst, x_idxs, x_idxt, x_idxl, x_idxc, x_idxr, x_isi, ty_str, ty_int, ty_bl, ty_non, ty_tup, ty_lst, ty_cst, ty_ins, tr_bl, tr_int, tr_str, tr_tup, tr_lst, tr_non, x_all, x_ends, x_starts, at_0, at_1, at_2, ix_0, ix_1,
  List.getElem?_cons_zero, List.getElem?_cons_succ, List.getElem?_nil, List.set_cons_zero, List.set_cons_succ, List.set_nil, Option.some.injEq, exists_eq_left', exists_eq_left, exists_and_left, Bool.false_eq_true, if_false, if_true, D.int.injEq, D.bl.injEq, D.ref.injEq, D.str.injEq, D.lst.injEq, D.tup.injEq, MO.lst.injEq, MO.ins.injEq, List.cons.injEq, Prod.mk.injEq, and_true, true_and, and_assoc, decide_eq_true_eq, Sto.set_same, Sto.set_set, reduceCtorEq, false_and, exists_false, false_or, or_false, ne_eq, not_false_eq_true, exists_eq', Bool.not_true, Bool.not_false, Bool.not_eq_true', decide_eq_false_iff_not, x_ext, sm_lst, sa_lst, sa_tup, sa_cst, x_lists, x_listl, x_listt, x_tupl, x_tupt, io_ins, x_muls, isC, dOpX, dOwn1, dMeth, dCMet, dMakeS, ownCmp, ownL, ownR, ownNe, ownBin, bkAny, bkTru, bkLen, sPar, setAll, zl, Nat.reduceMul, io_file, ty_file, o0, o1, o2])
    refine .inl ⟨ls, _, rfl, dl, g2.dat (by decide), ?_⟩
    refine .inl ⟨ls, _, rfl, dl, g3.dat (by decide), ?_⟩
    refine .inl ⟨ls, _, rfl, dl, g4.dat (by decide), ?_⟩
    have u1 := told_more (d := d) hk1
    have u2 := told_less hk1 ok
    rw [u1, u2]
    generalize hu : eqL ls (ls.take k ++ [d] ++ ls.drop (k + 1)) = u3
    refine x_reprbs (bs := [false, !decide ((k : Int) < ls.length), u3]) (Nat.le_of_ble_eq_true rfl) ?_
    refine spot_eq (k := k) (ls := ls) (d := d) rfl rfl rfl rfl hk1 ok gd ?_
    rw [hu]
    refine x_reprbs (bs := [false, !decide ((k : Int) < ls.length), u3]) (Nat.le_of_ble_eq_true rfl) ?_
    (try simp only [x_spr, startD, List.map_cons, List.map_nil, List.length_cons, List.length_nil, Nat.reduceAdd, Nat.reduceSub, Int.reduceLT, Int.reduceLE, Int.reduceToNat,  Int.reducePow, Int.reduceNeg, Nat.reduceLT, Nat.reduceLeDiff, Nat.reducePow, List.replicate_succ, List.replicate_zero, List.cons_append, List.nil_append, sSeq, sIf, sRet, sRetN, sNext, sAsg, sDrop, gNm, gOf, Tg.d, Tg.ds, dVar, dCst, dNil, dCons, dOp, dUn, dChain, dBl, dAnd, dOr, dNot, dIf, dTst, dCall, dCB, dLst, dTup, dM1, gSubD, mkL, dYes, dPart, dSlc, iEnumD, iSeqD, iRng1D, iRng2D, sFor, dLc, wipeD, si_str, si_tup, si_lst, si_cst, x_slcs, x_slct, x_slcl, x_slcc, dFld, sFldD, x_frz, dMake, dMt, x_isref, x_app, x_pop,
  x_lt, x_le, x_gt, x_ge, x_eqi, x_nei, x_eqs, x_nes, x_ner, x_eqr, x_in, x_nin, x_is, x_isnt, x_add, x_adds, x_addt, x_addl, x_sub, x_mul, x_div, x_mod, x_pow, x_neg, x_int, x_abs, x_max, x_min, x_len, len_str, len_tup, len_lst, len_cst, x_idxs, x_idxt, x_idxl, x_idxc, x_idxr, x_isi, ty_str, ty_int, ty_bl, ty_non, ty_tup, ty_lst, ty_cst, ty_ins, tr_bl, tr_int, tr_str, tr_tup, tr_lst, tr_non, x_all, x_ends, x_starts, at_0, at_1, at_2, ix_0, ix_1,
  List.getElem?_cons_zero, List.getElem?_cons_succ, List.getElem?_nil, List.set_cons_zero, List.set_cons_succ, List.set_nil, Option.some.injEq, exists_eq_left', exists_eq_left, exists_and_left, Bool.false_eq_true, if_false, if_true, D.int.injEq, D.bl.injEq, D.ref.injEq, D.str.injEq, D.lst.injEq, D.tup.injEq, MO.lst.injEq, MO.ins.injEq, List.cons.injEq, Prod.mk.injEq, and_true, true_and, and_assoc, decide_eq_true_eq, Sto.set_same, Sto.set_set, reduceCtorEq, false_and, exists_false, false_or, or_false, ne_eq, not_false_eq_true, exists_eq', Bool.not_true, Bool.not_false, Bool.not_eq_true', decide_eq_false_iff_not, x_ext, sm_lst, sa_lst, sa_tup, sa_cst, x_lists, x_listl, x_listt, x_tupl, x_tupt, io_ins, x_muls, isC, dOpX, dOwn1, dMeth, dCMet, dMakeS, ownCmp, ownL, ownR, ownNe, ownBin, bkAny, bkTru, bkLen, sPar, setAll, zl, Nat.reduceMul, decide_true, Bool.not_true])
    have bg7 := b7.self.trans b8
    refine ⟨lt_line (by decide), ?_⟩
    refine lcGo_inv _ (fun i acc S' => Bg p S7 S' ∧ (acc.length = i ∧ ∀ x ∈ acc, OddOk x)) ⟨b8.self, rfl, fun _ h => by cases h⟩ ?_ ?_
    · rintro i x acc S8 Kn2 Ks2 hg2 ⟨b9, la, ga⟩ hk2 _
      (try simp only [x_spr, startD, List.map_cons, List.map_nil, List.length_cons, List.length_nil, Nat.reduceAdd, Nat.reduceSub, Int.reduceLT, Int.reduceLE, Int.reduceToNat,  Int.reducePow, Int.reduceNeg, Nat.reduceLT, Nat.reduceLeDiff, Nat.reducePow, List.replicate_succ, List.replicate_zero, List.cons_append, List.nil_append, sSeq, sIf, sRet, sRetN, sNext, sAsg, sDrop, gNm, gOf, Tg.d, Tg.ds, dVar, dCst, dNil, dCons, dOp, dUn, dChain, dBl, dAnd, dOr, dNot, dIf, dTst, dCall, dCB, dLst, dTup, dM1, gSubD, mkL, dYes, dPart, dSlc, iEnumD, iSeqD, iRng1D, iRng2D, sFor, dLc, wipeD, si_str, si_tup, si_lst, si_cst, x_slcs, x_slct, x_slcl, x_slcc, dFld, sFldD, x_frz, dMake, dMt, x_isref, x_app, x_pop,
  x_lt, x_le, x_gt, x_ge, x_eqi, x_nei, x_eqs, x_nes, x_ner, x_eqr, x_in, x_nin, x_is, x_isnt, x_add, x_adds, x_addt, x_addl, x_sub, x_mul, x_div, x_mod, x_pow, x_neg, x_int, x_abs, x_max, x_min, x_len, len_str, len_tup, len_lst, len_cst, x_idxs, x_idxt, x_idxl, x_idxc, x_idxr, x_isi, ty_str, ty_int, ty_bl, ty_non, ty_tup, ty_lst, ty_cst, ty_ins, tr_bl, tr_int, tr_str, tr_tup, tr_lst, tr_non, x_all, x_ends, x_starts, at_0, at_1, at_2, ix_0, ix_1,
  List.getElem?_cons_zero, List.getElem?_cons_succ, List.getElem?_nil, List.set_cons_zero, List.set_cons_succ, List.set_nil, Option.some.injEq, exists_eq_left', exists_eq_left, exists_and_left, Bool.false_eq_true, if_false, if_true, D.int.injEq, D.bl.injEq, D.ref.injEq, D.str.injEq, D.lst.injEq, D.tup.injEq, MO.lst.injEq, MO.ins.injEq, List.cons.injEq, Prod.mk.injEq, and_true, true_and, and_assoc, decide_eq_true_eq, Sto.set_same, Sto.set_set, reduceCtorEq, false_and, exists_false, false_or, or_false, ne_eq, not_false_eq_true, exists_eq', Bool.not_true, Bool.not_false, Bool.not_eq_true', decide_eq_false_iff_not, x_ext, sm_lst, sa_lst, sa_tup, sa_cst, x_lists, x_listl, x_listt, x_tupl, x_tupt, io_ins, x_muls, isC, dOpX, dOwn1, dMeth, dCMet, dMakeS, ownCmp, ownL, ownR, ownNe, ownBin, bkAny, bkTru, bkLen, sPar, setAll, zl, Nat.reduceMul])
      refine ⟨p, pool, rfl, by omega, by omega, gp, b9.self, fun x S9 b10 ox => ?_⟩
      exact hk2 _ _ ⟨b9.trans b10, by rw [List.length_append, la]; rfl, fun y hy => (List.mem_append.mp hy).elim (ga y) fun h => by rw [List.mem_singleton.mp h]; exact ox⟩
    · rintro acc S8 ⟨b9, la, ga⟩
      rw [rngD_len] at la
      refine ⟨trivial, lt_line (by omega), ?_⟩
      refine forGo_inv _ (fun _ ρ S' => S' = S8 ∧ ∃ v13 v20, ρ = [some (D.cst (List.map D.int ns)), some (D.int (0 + ↑j)), some (D.ref p), some (D.lst pool), some (D.int mm),
          some (D.lst ls), some (D.ref q1), some (fileD (List.take 3 ls)),
          some (D.lst [D.bl false, D.bl !decide ((k : Int) < ↑ls.length), D.bl u3]),
          some (fileD (List.take k ls ++ [d] ++ List.drop k ls)), some (fileD (List.take k ls ++ List.drop (k + 1) ls)),
          some (fileD (List.take k ls ++ [d] ++ List.drop (k + 1) ls)), some (D.bl (decide ((k : Int) < ↑ls.length))), v13,
          some (fileD ls), some (fileD ls), some (D.int ↑k), some d, some (D.lst (List.take k ls)),
          some (D.lst (List.drop (k + 1) ls)), v20, v21]) ⟨rfl, _, _, rfl⟩ ?_ ?_
      · rintro i x ρ S9 Kn2 hg2 ⟨eS, w13, w20, eρ⟩ hk2
        subst eS
        subst eρ
        have ox : OddOk x := (List.mem_append.mp (List.mem_of_getElem? hg2)).elim (fun h => ⟨((gp x h).line).1, dat_mono (by decide) (gp x h).facts.1⟩) (ga x)
        (try simp only [x_spr, startD, List.map_cons, List.map_nil, List.length_cons, List.length_nil, Nat.reduceAdd, Nat.reduceSub, Int.reduceLT, Int.reduceLE, Int.reduceToNat,  Int.reducePow, Int.reduceNeg, Nat.reduceLT, Nat.reduceLeDiff, Nat.reducePow, List.replicate_succ, List.replicate_zero, List.cons_append, List.nil_append, sSeq, sIf, sRet, sRetN, sNext, sAsg, sDrop, gNm, gOf, Tg.d, Tg.ds, dVar, dCst, dNil, dCons, dOp, dUn, dChain, dBl, dAnd, dOr, dNot, dIf, dTst, dCall, dCB, dLst, dTup, dM1, gSubD, mkL, dYes, dPart, dSlc, iEnumD, iSeqD, iRng1D, iRng2D, sFor, dLc, wipeD, si_str, si_tup, si_lst, si_cst, x_slcs, x_slct, x_slcl, x_slcc, dFld, sFldD, x_frz, dMake, dMt, x_isref, x_app, x_pop,
  x_lt, x_le, x_gt, x_ge, x_eqi, x_nei, x_eqs, x_nes, x_ner, x_eqr, x_in, x_nin, x_is, x_isnt, x_add, x_adds, x_addt, x_addl, x_sub, x_mul, x_div, x_mod, x_pow, x_neg, x_int, x_abs, x_max, x_min, x_len, len_str, len_tup, len_lst, len_cst, x_idxs, x_idxt, x_idxl, x_idxc, x_idxr, x_isi, ty_str, ty_int, ty_bl, ty_non, ty_tup, ty_lst, ty_cst, ty_ins, tr_bl, tr_int, tr_str, tr_tup, tr_lst, tr_non, x_all, x_ends, x_starts, at_0, at_1, at_2, ix_0, ix_1,
  List.getElem?_cons_zero, List.getElem?_cons_succ, List.getElem?_nil, List.set_cons_zero, List.set_cons_succ, List.set_nil, Option.some.injEq, exists_eq_left', exists_eq_left, exists_and_left, Bool.false_eq_true, if_false, if_true, D.int.injEq, D.bl.injEq, D.ref.injEq, D.str.injEq, D.lst.injEq, D.tup.injEq, MO.lst.injEq, MO.ins.injEq, List.cons.injEq, Prod.mk.injEq, and_true, true_and, and_assoc, decide_eq_true_eq, Sto.set_same, Sto.set_set, reduceCtorEq, false_and, exists_false, false_or, or_false, ne_eq, not_false_eq_true, exists_eq', Bool.not_true, Bool.not_false, Bool.not_eq_true', decide_eq_false_iff_not, x_ext, sm_lst, sa_lst, sa_tup, sa_cst, x_lists, x_listl, x_listt, x_tupl, x_tupt, io_ins, x_muls, isC, dOpX, dOwn1, dMeth, dCMet, dMakeS, ownCmp, ownL, ownR, ownNe, ownBin, bkAny, bkTru, bkLen, sPar, setAll, zl, Nat.reduceMul])
        refine due_eq rfl rfl ox ok ?_
        (try simp only [x_spr, startD, List.map_cons, List.map_nil, List.length_cons, List.length_nil, Nat.reduceAdd, Nat.reduceSub, Int.reduceLT, Int.reduceLE, Int.reduceToNat,  Int.reducePow, Int.reduceNeg, Nat.reduceLT, Nat.reduceLeDiff, Nat.reducePow, List.replicate_succ, List.replicate_zero, List.cons_append, List.nil_append, sSeq, sIf, sRet, sRetN, sNext, sAsg, sDrop, gNm, gOf, Tg.d, Tg.ds, dVar, dCst, dNil, dCons, dOp, dUn, dChain, dBl, dAnd, dOr, dNot, dIf, dTst, dCall, dCB, dLst, dTup, dM1, gSubD, mkL, dYes, dPart, dSlc, iEnumD, iSeqD, iRng1D, iRng2D, sFor, dLc, wipeD, si_str, si_tup, si_lst, si_cst, x_slcs, x_slct, x_slcl, x_slcc, dFld, sFldD, x_frz, dMake, dMt, x_isref, x_app, x_pop,
  x_lt, x_le, x_gt, x_ge, x_eqi, x_nei, x_eqs, x_nes, x_ner, x_eqr, x_in, x_nin, x_is, x_isnt, x_add, x_adds, x_addt, x_addl, x_sub, x_mul, x_div, x_mod, x_pow, x_neg, x_int, x_abs, x_max, x_min, x_len, len_str, len_tup, len_lst, len_cst, x_idxs, x_idxt, x_idxl, x_idxc, x_idxr, x_isi, ty_str, ty_int, ty_bl, ty_non, ty_tup, ty_lst, ty_cst, ty_ins, tr_bl, tr_int, tr_str, tr_tup, tr_lst, tr_non, x_all, x_ends, x_starts, at_0, at_1, at_2, ix_0, ix_1,
  List.getElem?_cons_zero, List.getElem?_cons_succ, List.getElem?_nil, List.set_cons_zero, List.set_cons_succ, List.set_nil, Option.some.injEq, exists_eq_left', exists_eq_left, exists_and_left, Bool.false_eq_true, if_false, if_true, D.int.injEq, D.bl.injEq, D.ref.injEq, D.str.injEq, D.lst.injEq, D.tup.injEq, MO.lst.injEq, MO.ins.injEq, List.cons.injEq, Prod.mk.injEq, and_true, true_and, and_assoc, decide_eq_true_eq, Sto.set_same, Sto.set_set, reduceCtorEq, false_and, exists_false, false_or, or_false, ne_eq, not_false_eq_true, exists_eq', Bool.not_true, Bool.not_false, Bool.not_eq_true', decide_eq_false_iff_not, x_ext, sm_lst, sa_lst, sa_tup, sa_cst, x_lists, x_listl, x_listt, x_tupl, x_tupt, io_ins, x_muls, isC, dOpX, dOwn1, dMeth, dCMet, dMakeS, ownCmp, ownL, ownR, ownNe, ownBin, bkAny, bkTru, bkLen, sPar, setAll, zl, Nat.reduceMul])
        refine ⟨⟨_, rfl⟩, ls, x, rfl, ox.1, ox.2, ok.dat (by decide), ?_⟩
        refine ⟨_, rfl, ?_⟩
        rw [in_tup ok.2]
        refine x_reprb (x_reprb ?_)
        (try simp only [x_spr, startD, List.map_cons, List.map_nil, List.length_cons, List.length_nil, Nat.reduceAdd, Nat.reduceSub, Int.reduceLT, Int.reduceLE, Int.reduceToNat,  Int.reducePow, Int.reduceNeg, Nat.reduceLT, Nat.reduceLeDiff, Nat.reducePow, List.replicate_succ, List.replicate_zero, List.cons_append, List.nil_append, sSeq, sIf, sRet, sRetN, sNext, sAsg, sDrop, gNm, gOf, Tg.d, Tg.ds, dVar, dCst, dNil, dCons, dOp, dUn, dChain, dBl, dAnd, dOr, dNot, dIf, dTst, dCall, dCB, dLst, dTup, dM1, gSubD, mkL, dYes, dPart, dSlc, iEnumD, iSeqD, iRng1D, iRng2D, sFor, dLc, wipeD, si_str, si_tup, si_lst, si_cst, x_slcs, x_slct, x_slcl, x_slcc, dFld, sFldD, x_frz, dMake, dMt, x_isref, x_app, x_pop,
  x_lt, x_le, x_gt, x_ge, x_eqi, x_nei, x_eqs, x_nes, x_ner, x_eqr, x_in, x_nin, x_is, x_isnt, x_add, x_adds, x_addt, x_addl, x_sub, x_mul, x_div, x_mod, x_pow, x_neg, x_int, x_abs, x_max, x_min, x_len, len_str, len_tup, len_lst, len_cst, x_idxs, x_idxt, x_idxl, x_idxc, x_idxr, x_isi, ty_str, ty_int, ty_bl, ty_non, ty_tup, ty_lst, ty_cst, ty_ins, tr_bl, tr_int, tr_str, tr_tup, tr_lst, tr_non, x_all, x_ends, x_starts, at_0, at_1, at_2, ix_0, ix_1,
  List.getElem?_cons_zero, List.getElem?_cons_succ, List.getElem?_nil, List.set_cons_zero, List.set_cons_succ, List.set_nil, Option.some.injEq, exists_eq_left', exists_eq_left, exists_and_left, Bool.false_eq_true, if_false, if_true, D.int.injEq, D.bl.injEq, D.ref.injEq, D.str.injEq, D.lst.injEq, D.tup.injEq, MO.lst.injEq, MO.ins.injEq, List.cons.injEq, Prod.mk.injEq, and_true, true_and, and_assoc, decide_eq_true_eq, Sto.set_same, Sto.set_set, reduceCtorEq, false_and, exists_false, false_or, or_false, ne_eq, not_false_eq_true, exists_eq', Bool.not_true, Bool.not_false, Bool.not_eq_true', decide_eq_false_iff_not, x_ext, sm_lst, sa_lst, sa_tup, sa_cst, x_lists, x_listl, x_listt, x_tupl, x_tupt, io_ins, x_muls, isC, dOpX, dOwn1, dMeth, dCMet, dMakeS, ownCmp, ownL, ownR, ownNe, ownBin, bkAny, bkTru, bkLen, sPar, setAll, zl, Nat.reduceMul, id, decide_true, Bool.not_true])
        exact hk2 _ _ ⟨rfl, _, _, rfl⟩
      · rintro ρ S9 ⟨eS, w13, w20, eρ⟩
        subst eS
        subst eρ
        (try simp only [x_spr, startD, List.map_cons, List.map_nil, List.length_cons, List.length_nil, Nat.reduceAdd, Nat.reduceSub, Int.reduceLT, Int.reduceLE, Int.reduceToNat,  Int.reducePow, Int.reduceNeg, Nat.reduceLT, Nat.reduceLeDiff, Nat.reducePow, List.replicate_succ, List.replicate_zero, List.cons_append, List.nil_append, sSeq, sIf, sRet, sRetN, sNext, sAsg, sDrop, gNm, gOf, Tg.d, Tg.ds, dVar, dCst, dNil, dCons, dOp, dUn, dChain, dBl, dAnd, dOr, dNot, dIf, dTst, dCall, dCB, dLst, dTup, dM1, gSubD, mkL, dYes, dPart, dSlc, iEnumD, iSeqD, iRng1D, iRng2D, sFor, dLc, wipeD, si_str, si_tup, si_lst, si_cst, x_slcs, x_slct, x_slcl, x_slcc, dFld, sFldD, x_frz, dMake, dMt, x_isref, x_app, x_pop,
  x_lt, x_le, x_gt, x_ge, x_eqi, x_nei, x_eqs, x_nes, x_ner, x_eqr, x_in, x_nin, x_is, x_isnt, x_add, x_adds, x_addt, x_addl, x_sub, x_mul, x_div, x_mod, x_pow, x_neg, x_int, x_abs, x_max, x_min, x_len, len_str, len_tup, len_lst, len_cst, x_idxs, x_idxt, x_idxl, x_idxc, x_idxr, x_isi, ty_str, ty_int, ty_bl, ty_non, ty_tup, ty_lst, ty_cst, ty_ins, tr_bl, tr_int, tr_str, tr_tup, tr_lst, tr_non, x_all, x_ends, x_starts, at_0, at_1, at_2, ix_0, ix_1,
  List.getElem?_cons_zero, List.getElem?_cons_succ, List.getElem?_nil, List.set_cons_zero, List.set_cons_succ, List.set_nil, Option.some.injEq, exists_eq_left', exists_eq_left, exists_and_left, Bool.false_eq_true, if_false, if_true, D.int.injEq, D.bl.injEq, D.ref.injEq, D.str.injEq, D.lst.injEq, D.tup.injEq, MO.lst.injEq, MO.ins.injEq, List.cons.injEq, Prod.mk.injEq, and_true, true_and, and_assoc, decide_eq_true_eq, Sto.set_same, Sto.set_set, reduceCtorEq, false_and, exists_false, false_or, or_false, ne_eq, not_false_eq_true, exists_eq', Bool.not_true, Bool.not_false, Bool.not_eq_true', decide_eq_false_iff_not, x_ext, sm_lst, sa_lst, sa_tup, sa_cst, x_lists, x_listl, x_listt, x_tupl, x_tupt, io_ins, x_muls, isC, dOpX, dOwn1, dMeth, dCMet, dMakeS, ownCmp, ownL, ownR, ownNe, ownBin, bkAny, bkTru, bkLen, sPar, setAll, zl, Nat.reduceMul])
        refine ⟨ls, rfl, ok, ?_⟩
        (try simp only [x_spr, startD, List.map_cons, List.map_nil, List.length_cons, List.length_nil, Nat.reduceAdd, Nat.reduceSub, Int.reduceLT, Int.reduceLE, Int.reduceToNat,  Int.reducePow, Int.reduceNeg, Nat.reduceLT, Nat.reduceLeDiff, Nat.reducePow, List.replicate_succ, List.replicate_zero, List.cons_append, List.nil_append, sSeq, sIf, sRet, sRetN, sNext, sAsg, sDrop, gNm, gOf, Tg.d, Tg.ds, dVar, dCst, dNil, dCons, dOp, dUn, dChain, dBl, dAnd, dOr, dNot, dIf, dTst, dCall, dCB, dLst, dTup, dM1, gSubD, mkL, dYes, dPart, dSlc, iEnumD, iSeqD, iRng1D, iRng2D, sFor, dLc, wipeD, si_str, si_tup, si_lst, si_cst, x_slcs, x_slct, x_slcl, x_slcc, dFld, sFldD, x_frz, dMake, dMt, x_isref, x_app, x_pop,
  x_lt, x_le, x_gt, x_ge, x_eqi, x_nei, x_eqs, x_nes, x_ner, x_eqr, x_in, x_nin, x_is, x_isnt, x_add, x_adds, x_addt, x_addl, x_sub, x_mul, x_div, x_mod, x_pow, x_neg, x_int, x_abs, x_max, x_min, x_len, len_str, len_tup, len_lst, len_cst, x_idxs, x_idxt, x_idxl, x_idxc, x_idxr, x_isi, ty_str, ty_int, ty_bl, ty_non, ty_tup, ty_lst, ty_cst, ty_ins, tr_bl, tr_int, tr_str, tr_tup, tr_lst, tr_non, x_all, x_ends, x_starts, at_0, at_1, at_2, ix_0, ix_1,
  List.getElem?_cons_zero, List.getElem?_cons_succ, List.getElem?_nil, List.set_cons_zero, List.set_cons_succ, List.set_nil, Option.some.injEq, exists_eq_left', exists_eq_left, exists_and_left, Bool.false_eq_true, if_false, if_true, D.int.injEq, D.bl.injEq, D.ref.injEq, D.str.injEq, D.lst.injEq, D.tup.injEq, MO.lst.injEq, MO.ins.injEq, List.cons.injEq, Prod.mk.injEq, and_true, true_and, and_assoc, decide_eq_true_eq, Sto.set_same, Sto.set_set, reduceCtorEq, false_and, exists_false, false_or, or_false, ne_eq, not_false_eq_true, exists_eq', Bool.not_true, Bool.not_false, Bool.not_eq_true', decide_eq_false_iff_not, x_ext, sm_lst, sa_lst, sa_tup, sa_cst, x_lists, x_listl, x_listt, x_tupl, x_tupt, io_ins, x_muls, isC, dOpX, dOwn1, dMeth, dCMet, dMakeS, ownCmp, ownL, ownR, ownNe, ownBin, bkAny, bkTru, bkLen, sPar, setAll, zl, Nat.reduceMul])
        exact hk _ _ ⟨_, _, _, _, _, _, _, _, _, _, _, _, _, _, _, _, _, _, _, _, _, rfl⟩
  · rintro ρ S1 ⟨v1, v2, v3, v4, v5, v6, v7, v8, v9, v10, v11, v12, v13, v14, v15, v16, v17, v18, v19, v20, v21, eρ⟩
    subst eρ
    (try simp only [x_spr, startD, List.map_cons, List.map_nil, List.length_cons, List.length_nil, Nat.reduceAdd, Nat.reduceSub, Int.reduceLT, Int.reduceLE, Int.reduceToNat,  Int.reducePow, Int.reduceNeg, Nat.reduceLT, Nat.reduceLeDiff, Nat.reducePow, List.replicate_succ, List.replicate_zero, List.cons_append, List.nil_append, sSeq, sIf, sRet, sRetN, sNext, sAsg, sDrop, gNm, gOf, Tg.d, Tg.ds, dVar, dCst, dNil, dCons, dOp, dUn, dChain, dBl, dAnd, dOr, dNot, dIf, dTst, dCall, dCB, dLst, dTup, dM1, gSubD, mkL, dYes, dPart, dSlc, iEnumD, iSeqD, iRng1D, iRng2D, sFor, dLc, wipeD, si_str, si_tup, si_lst, si_cst, x_slcs, x_slct, x_slcl, x_slcc, dFld, sFldD, x_frz, dMake, dMt, x_isref, x_app, x_pop,
  x_lt, x_le, x_gt, x_ge, x_eqi, x_nei, x_eqs, x_nes, x_ner, x_eqr, x_in, x_nin, x_is, x_isnt, x_add, x_adds, x_addt, x_addl, x_sub, x_mul, x_div, x_mod, x_pow, x_neg, x_int, x_abs, x_max, x_min, x_len, len_str, len_tup, len_lst, len_cst, x_idxs, x_idxt, x_idxl, x_idxc, x_idxr, x_isi, ty_str, ty_int, ty_bl, ty_non, ty_tup, ty_lst, ty_cst, ty_ins, tr_bl, tr_int, tr_str, tr_tup, tr_lst, tr_non, x_all, x_ends, x_starts, at_0, at_1, at_2, ix_0, ix_1,
  List.getElem?_cons_zero, List.getElem?_cons_succ, List.getElem?_nil, List.set_cons_zero, List.set_cons_succ, List.set_nil, Option.some.injEq, exists_eq_left', exists_eq_left, exists_and_left, Bool.false_eq_true, if_false, if_true, D.int.injEq, D.bl.injEq, D.ref.injEq, D.str.injEq, D.lst.injEq, D.tup.injEq, MO.lst.injEq, MO.ins.injEq, List.cons.injEq, Prod.mk.injEq, and_true, true_and, and_assoc, decide_eq_true_eq, Sto.set_same, Sto.set_set, reduceCtorEq, false_and, exists_false, false_or, or_false, ne_eq, not_false_eq_true, exists_eq', Bool.not_true, Bool.not_false, Bool.not_eq_true', decide_eq_false_iff_not, x_ext, sm_lst, sa_lst, sa_tup, sa_cst, x_lists, x_listl, x_listt, x_tupl, x_tupt, io_ins, x_muls, isC, dOpX, dOwn1, dMeth, dCMet, dMakeS, ownCmp, ownL, ownR, ownNe, ownBin, bkAny, bkTru, bkLen, sPar, setAll, zl, Nat.reduceMul])
    have nil : LinesOk [] := ⟨Nat.zero_le _, fun _ h => by cases h⟩
    intro p1 h1
    refine file_made nil ?_ p1 h1
    refine ⟨_, [], rfl, rfl, nil, ?_⟩
    refine ⟨⟨_, rfl⟩, ⟨_, rfl, rfl⟩, .inl ⟨[], [], rfl, rfl, rfl, ?_⟩⟩
    rw [eqL_nil]
    refine ⟨true, rfl, ?_⟩
    rw [if_pos rfl]
    intro p2 h2
    refine file_made nil ?_ p2 h2
    refine ⟨⟨_, rfl⟩, [], rfl, ?_⟩
    refine ⟨_, rfl, ?_⟩
    (try simp only [x_spr, startD, List.map_cons, List.map_nil, List.length_cons, List.length_nil, Nat.reduceAdd, Nat.reduceSub, Int.reduceLT, Int.reduceLE, Int.reduceToNat,  Int.reducePow, Int.reduceNeg, Nat.reduceLT, Nat.reduceLeDiff, Nat.reducePow, List.replicate_succ, List.replicate_zero, List.cons_append, List.nil_append, sSeq, sIf, sRet, sRetN, sNext, sAsg, sDrop, gNm, gOf, Tg.d, Tg.ds, dVar, dCst, dNil, dCons, dOp, dUn, dChain, dBl, dAnd, dOr, dNot, dIf, dTst, dCall, dCB, dLst, dTup, dM1, gSubD, mkL, dYes, dPart, dSlc, iEnumD, iSeqD, iRng1D, iRng2D, sFor, dLc, wipeD, si_str, si_tup, si_lst, si_cst, x_slcs, x_slct, x_slcl, x_slcc, dFld, sFldD, x_frz, dMake, dMt, x_isref, x_app, x_pop,
  x_lt, x_le, x_gt, x_ge, x_eqi, x_nei, x_eqs, x_nes, x_ner, x_eqr, x_in, x_nin, x_is, x_isnt, x_add, x_adds, x_addt, x_addl, x_sub, x_mul, x_div, x_mod, x_pow, x_neg, x_int, x_abs, x_max, x_min, x_len, len_str, len_tup, len_lst, len_cst, x_idxs, x_idxt, x_idxl, x_idxc, x_idxr, x_isi, ty_str, ty_int, ty_bl, ty_non, ty_tup, ty_lst, ty_cst, ty_ins, tr_bl, tr_int, tr_str, tr_tup, tr_lst, tr_non, x_all, x_ends, x_starts, at_0, at_1, at_2, ix_0, ix_1,
  List.getElem?_cons_zero, List.getElem?_cons_succ, List.getElem?_nil, List.set_cons_zero, List.set_cons_succ, List.set_nil, Option.some.injEq, exists_eq_left', exists_eq_left, exists_and_left, Bool.false_eq_true, if_false, if_true, D.int.injEq, D.bl.injEq, D.ref.injEq, D.str.injEq, D.lst.injEq, D.tup.injEq, MO.lst.injEq, MO.ins.injEq, List.cons.injEq, Prod.mk.injEq, and_true, true_and, and_assoc, decide_eq_true_eq, Sto.set_same, Sto.set_set, reduceCtorEq, false_and, exists_false, false_or, or_false, ne_eq, not_false_eq_true, exists_eq', Bool.not_true, Bool.not_false, Bool.not_eq_true', decide_eq_false_iff_not, x_ext, sm_lst, sa_lst, sa_tup, sa_cst, x_lists, x_listl, x_listt, x_tupl, x_tupt, io_ins, x_muls, isC, dOpX, dOwn1, dMeth, dCMet, dMakeS, ownCmp, ownL, ownR, ownNe, ownBin, bkAny, bkTru, bkLen, sPar, setAll, zl, Nat.reduceMul])
    exact ⟨by decide, by decide, q _⟩
theorem law_asks : ∀ (zs : List Int) (Qd : DQ), zs.length ≤ 63 → (∀ S, Qd (.bl true) S) → sp_law [.cst (zs.map D.int)] (fun _ => none) Qd DX0 := fun zs _ h q => ⟨zs, rfl, h, q⟩
end DL

namespace DL
open PySem PySem.Spec PyProof.Rows L2

/-! ### the promises, one by one -/
section
variable {P : Program} {w : World} {K : PySem.W.Frag} {mg : Str → Option Value} {base : Heap}
theorem fd__law_bag (T : Tx K mg) : FnD P w (cc K T.A) mg base 1 T.f__law_bag sp__law_bag := (n__law_bag T).imp bag_ok
theorem fd__law_draw (T : Tx K mg) : FnD P w (cc K T.A) mg base 1 T.f__law_draw sp__law_draw := (n__law_draw T).imp draw_ok
theorem fd__law_words (T : Tx K mg) : FnD P w (cc K T.A) mg base 2 T.f__law_words sp__law_words := (n__law_words T (fd__law_draw T)).imp law_words_ok
theorem fd__law_pool (T : Tx K mg) : FnD P w (cc K T.A) mg base 3 T.f__law_pool sp__law_pool := (n__law_pool T (fd__law_words T)).imp law_pool_ok
theorem fd__law_lines (T : Tx K mg) : FnD P w (cc K T.A) mg base 2 T.f__law_lines sp__law_lines := (n__law_lines T (fd__law_draw T)).imp law_lines_ok
theorem fd_is_word (T : Tx K mg) : FnD P w (cc K T.A) mg base 1 T.f_is_word sp_is_word := (n_is_word T).imp word_ok
theorem fd_is_name (T : Tx K mg) : FnD P w (cc K T.A) mg base 2 T.f_is_name sp_is_name := (n_is_name T (fd_is_word T)).imp name_ok
theorem fd_is_line (T : Tx K mg) : FnD P w (cc K T.A) mg base 3 T.f_is_line sp_is_line := (n_is_line T (fd_is_word T) (fd_is_name T)).imp line_ok
theorem fd_File___init__ (T : Tx K mg) : FnD P w (cc K T.A) mg base 4 T.f_File___init__ sp_File___init__ := (n_File___init__ T (fd_is_line T)).imp init_ok
theorem fd_File_of (T : Tx K mg) : FnD P w (cc K T.A) mg base 6 T.f_File_of sp_File_of := (n_File_of T (fd_File___init__ T)).imp File_of_ok
theorem fd__law_direct (T : Tx K mg) : FnD P w (cc K T.A) mg base 6 T.f__law_direct sp__law_direct := (n__law_direct T (fd_File___init__ T)).imp law_direct_ok
theorem fd_File___len__ (T : Tx K mg) : FnD P w (cc K T.A) mg base 1 T.f_File___len__ sp_File___len__ := (n_File___len__ T).imp File___len___ok
theorem fd_File___getitem__ (T : Tx K mg) : FnD P w (cc K T.A) mg base 6 T.f_File___getitem__ sp_File___getitem__ := (n_File___getitem__ T (fd_File___init__ T)).imp File___getitem___ok
theorem fd__law_is_file (T : Tx K mg) : FnD P w (cc K T.A) mg base 8 T.f__law_is_file sp__law_is_file := (n__law_is_file T (fd_File___len__ T) (fd_File___getitem__ T)).imp law_is_file_ok
theorem fd_File___eq__ (T : Tx K mg) : FnD P w (cc K T.A) mg base 1 T.f_File___eq__ sp_File___eq__ := (n_File___eq__ T).imp File___eq___ok
theorem fd__law_odd (T : Tx K mg) : FnD P w (cc K T.A) mg base 2 T.f__law_odd sp__law_odd := (n__law_odd T (fd__law_draw T)).imp law_odd_ok
theorem fd_File___contains__ (T : Tx K mg) : FnD P w (cc K T.A) mg base 4 T.f_File___contains__ sp_File___contains__ := (n_File___contains__ T (fd_is_line T)).imp File___contains___ok
theorem fd_law (T : Tx K mg) : FnD P w (cc K T.A) mg base 9 T.f_law sp_law := (n_law T (fd__law_bag T) (fd__law_pool T) (fd__law_draw T) (fd__law_lines T) (fd_File_of T) (fd__law_direct T) (fd__law_is_file T) (fd_File___eq__ T) (fd__law_odd T) (fd_File___contains__ T) (fd_File___init__ T) (fd_File___len__ T)).imp law_ok
end
/-! ### the head -/
theorem all_mk {l : PySem.W.OpenLaw} {w : World} {K : PySem.W.Frag} {h : Heap} {mg : Str → Option Value} {fa : Addr} (X : K.In h) (G : h.Ns mainGlobals mg) (hfa : mg "law" = some (.ref fa))
    {f__law_bag f__law_draw f__law_words f__law_pool f__law_lines f_is_word f_is_name f_is_line f_File___init__ f_File_of r_File_of f__law_direct f_File___len__ f_File___getitem__ f__law_is_file f_File___eq__ f__law_odd f_File___contains__ f_law c_File : Addr} {od0 od1 od2 od3 od4 od5 od6 od7 od8 od9 od10 od11 od12 od13 od14 od15 od16 od17 an0 an1 an2 an3 an4 an5 an6 an7 an8 an9 an10 an11 an12 an13 an14 an15 an16 an17 : Option Addr} {sl0 sl1 sl2 sl3 sl4 sl5 sl6 sl7 sl8 sl9 sl10 sl11 sl12 sl13 sl14 sl15 sl16 sl17 : Array (Option Value)} {oc0 kV0 dc0 pm0 cd0 ct0 oc1 kV1 dc1 pm1 cd1 ct1 oc2 kV2 dc2 pm2 cd2 ct2 oc3 kV3 dc3 pm3 cd3 ct3 oc4 kV4 dc4 pm4 cd4 ct4 oc5 kV5 dc5 pm5 cd5 ct5 oc6 kV6 dc6 pm6 cd6 ct6 oc7 kV7 dc7 pm7 cd7 ct7 oc8 kV8 dc8 pm8 cd8 ct8 oc9 kV9 dc9 pm9 cd9 ct9 oc10 kV10 dc10 pm10 cd10 ct10 oc11 kV11 dc11 pm11 cd11 ct11 oc12 kV12 dc12 pm12 cd12 ct12 oc13 kV13 dc13 pm13 cd13 ct13 oc14 kV14 dc14 pm14 cd14 ct14 oc15 kV15 dc15 pm15 cd15 ct15 oc16 kV16 dc16 pm16 cd16 ct16 oc17 kV17 dc17 pm17 cd17 ct17 : Value} {rest9 : List Value} {t_LETTERS t_MOST_LETTERS : Tok}
    (m_File : PySem.W.nsIn K mainGlobals "File" = some (some (.ref c_File)))
    (a0 : PySem.W.nsIn K mainGlobals "_law_bag" = some (some (.ref f__law_bag)))
    (l0 : K.lookup f__law_bag = some ⟨oc0, od0, .func (PySem.W.fnOf "_law_bag" "_law_bag" (defArgs (top 16)) (defBody (top 16)) (defScope (top 16)) .none kV0 dc0 pm0 an0 cd0 ct0), sl0⟩)
    (e0 : PySem.W.codeIn K cd0 "_law_bag" = true)
    (k0 : PySem.W.keepIn K (.ref f__law_bag) = true)
    (a1 : PySem.W.nsIn K mainGlobals "_law_draw" = some (some (.ref f__law_draw)))
    (l1 : K.lookup f__law_draw = some ⟨oc1, od1, .func (PySem.W.fnOf "_law_draw" "_law_draw" (defArgs (top 17)) (defBody (top 17)) (defScope (top 17)) .none kV1 dc1 pm1 an1 cd1 ct1), sl1⟩)
    (e1 : PySem.W.codeIn K cd1 "_law_draw" = true)
    (k1 : PySem.W.keepIn K (.ref f__law_draw) = true)
    (a2 : PySem.W.nsIn K mainGlobals "_law_words" = some (some (.ref f__law_words)))
    (l2 : K.lookup f__law_words = some ⟨oc2, od2, .func (PySem.W.fnOf "_law_words" "_law_words" (defArgs (top 18)) (defBody (top 18)) (defScope (top 18)) .none kV2 dc2 pm2 an2 cd2 ct2), sl2⟩)
    (e2 : PySem.W.codeIn K cd2 "_law_words" = true)
    (k2 : PySem.W.keepIn K (.ref f__law_words) = true)
    (a3 : PySem.W.nsIn K mainGlobals "_law_pool" = some (some (.ref f__law_pool)))
    (l3 : K.lookup f__law_pool = some ⟨oc3, od3, .func (PySem.W.fnOf "_law_pool" "_law_pool" (defArgs (top 19)) (defBody (top 19)) (defScope (top 19)) .none kV3 dc3 pm3 an3 cd3 ct3), sl3⟩)
    (e3 : PySem.W.codeIn K cd3 "_law_pool" = true)
    (k3 : PySem.W.keepIn K (.ref f__law_pool) = true)
    (a4 : PySem.W.nsIn K mainGlobals "_law_lines" = some (some (.ref f__law_lines)))
    (l4 : K.lookup f__law_lines = some ⟨oc4, od4, .func (PySem.W.fnOf "_law_lines" "_law_lines" (defArgs (top 20)) (defBody (top 20)) (defScope (top 20)) .none kV4 dc4 pm4 an4 cd4 ct4), sl4⟩)
    (e4 : PySem.W.codeIn K cd4 "_law_lines" = true)
    (k4 : PySem.W.keepIn K (.ref f__law_lines) = true)
    (a5 : PySem.W.nsIn K mainGlobals "is_word" = some (some (.ref f_is_word)))
    (l5 : K.lookup f_is_word = some ⟨oc5, od5, .func (PySem.W.fnOf "is_word" "is_word" (defArgs (top 8)) (defBody (top 8)) (defScope (top 8)) .none kV5 dc5 pm5 an5 cd5 ct5), sl5⟩)
    (e5 : PySem.W.codeIn K cd5 "is_word" = true)
    (k5 : PySem.W.keepIn K (.ref f_is_word) = true)
    (a6 : PySem.W.nsIn K mainGlobals "is_name" = some (some (.ref f_is_name)))
    (l6 : K.lookup f_is_name = some ⟨oc6, od6, .func (PySem.W.fnOf "is_name" "is_name" (defArgs (top 9)) (defBody (top 9)) (defScope (top 9)) .none kV6 dc6 pm6 an6 cd6 ct6), sl6⟩)
    (e6 : PySem.W.codeIn K cd6 "is_name" = true)
    (k6 : PySem.W.keepIn K (.ref f_is_name) = true)
    (a7 : PySem.W.nsIn K mainGlobals "is_line" = some (some (.ref f_is_line)))
    (l7 : K.lookup f_is_line = some ⟨oc7, od7, .func (PySem.W.fnOf "is_line" "is_line" (defArgs (top 10)) (defBody (top 10)) (defScope (top 10)) .none kV7 dc7 pm7 an7 cd7 ct7), sl7⟩)
    (e7 : PySem.W.codeIn K cd7 "is_line" = true)
    (k7 : PySem.W.keepIn K (.ref f_is_line) = true)
    (a8 : PySem.W.findIn K (.ref c_File) "__init__" = some (some (.ref f_File___init__)))
    (i8 : PySem.W.isFn K (.ref f_File___init__) = true)
    (l8 : K.lookup f_File___init__ = some ⟨oc8, od8, .func (PySem.W.fnOf "__init__" "File.__init__" (defArgs (inClass (top 14) 0)) (defBody (inClass (top 14) 0)) (defScope (inClass (top 14) 0)) .none kV8 dc8 pm8 an8 cd8 ct8), sl8⟩)
    (e8 : PySem.W.codeIn K cd8 "File.__init__" = true)
    (k8 : PySem.W.keepIn K (.ref f_File___init__) = true)
    (a9 : PySem.W.findCls K (.ref c_File) (.type "type") "of" = some (.get (.builtin "classmethod.__get__") (.ref r_File_of) .none (.ref c_File)))
    (i9 : PySem.W.recIn K r_File_of "classmethod" = some (.ref f_File_of :: rest9))
    (fi9 : PySem.W.fnIn K f_File_of = true)
    (l9 : K.lookup f_File_of = some ⟨oc9, od9, .func (PySem.W.fnOf "of" "File.of" (defArgs (inClass (top 14) 9)) (defBody (inClass (top 14) 9)) (defScope (inClass (top 14) 9)) .none kV9 dc9 pm9 an9 cd9 ct9), sl9⟩)
    (e9 : PySem.W.codeIn K cd9 "File.of" = true)
    (k9 : PySem.W.keepIn K (.ref f_File_of) = true)
    (a10 : PySem.W.nsIn K mainGlobals "_law_direct" = some (some (.ref f__law_direct)))
    (l10 : K.lookup f__law_direct = some ⟨oc10, od10, .func (PySem.W.fnOf "_law_direct" "_law_direct" (defArgs (top 21)) (defBody (top 21)) (defScope (top 21)) .none kV10 dc10 pm10 an10 cd10 ct10), sl10⟩)
    (e10 : PySem.W.codeIn K cd10 "_law_direct" = true)
    (k10 : PySem.W.keepIn K (.ref f__law_direct) = true)
    (a11 : PySem.W.findIn K (.ref c_File) "__len__" = some (some (.ref f_File___len__)))
    (i11 : PySem.W.isFn K (.ref f_File___len__) = true)
    (l11 : K.lookup f_File___len__ = some ⟨oc11, od11, .func (PySem.W.fnOf "__len__" "File.__len__" (defArgs (inClass (top 14) 3)) (defBody (inClass (top 14) 3)) (defScope (inClass (top 14) 3)) .none kV11 dc11 pm11 an11 cd11 ct11), sl11⟩)
    (e11 : PySem.W.codeIn K cd11 "File.__len__" = true)
    (k11 : PySem.W.keepIn K (.ref f_File___len__) = true)
    (a12 : PySem.W.findIn K (.ref c_File) "__getitem__" = some (some (.ref f_File___getitem__)))
    (i12 : PySem.W.isFn K (.ref f_File___getitem__) = true)
    (l12 : K.lookup f_File___getitem__ = some ⟨oc12, od12, .func (PySem.W.fnOf "__getitem__" "File.__getitem__" (defArgs (inClass (top 14) 6)) (defBody (inClass (top 14) 6)) (defScope (inClass (top 14) 6)) .none kV12 dc12 pm12 an12 cd12 ct12), sl12⟩)
    (e12 : PySem.W.codeIn K cd12 "File.__getitem__" = true)
    (k12 : PySem.W.keepIn K (.ref f_File___getitem__) = true)
    (fi12 : PySem.W.fnIn K f_File___getitem__ = true)
    (a13 : PySem.W.nsIn K mainGlobals "_law_is_file" = some (some (.ref f__law_is_file)))
    (l13 : K.lookup f__law_is_file = some ⟨oc13, od13, .func (PySem.W.fnOf "_law_is_file" "_law_is_file" (defArgs (top 22)) (defBody (top 22)) (defScope (top 22)) .none kV13 dc13 pm13 an13 cd13 ct13), sl13⟩)
    (e13 : PySem.W.codeIn K cd13 "_law_is_file" = true)
    (k13 : PySem.W.keepIn K (.ref f__law_is_file) = true)
    (a14 : PySem.W.findIn K (.ref c_File) "__eq__" = some (some (.ref f_File___eq__)))
    (i14 : PySem.W.isFn K (.ref f_File___eq__) = true)
    (l14 : K.lookup f_File___eq__ = some ⟨oc14, od14, .func (PySem.W.fnOf "__eq__" "File.__eq__" (defArgs (inClass (top 14) 1)) (defBody (inClass (top 14) 1)) (defScope (inClass (top 14) 1)) .none kV14 dc14 pm14 an14 cd14 ct14), sl14⟩)
    (e14 : PySem.W.codeIn K cd14 "File.__eq__" = true)
    (k14 : PySem.W.keepIn K (.ref f_File___eq__) = true)
    (a15 : PySem.W.nsIn K mainGlobals "_law_odd" = some (some (.ref f__law_odd)))
    (l15 : K.lookup f__law_odd = some ⟨oc15, od15, .func (PySem.W.fnOf "_law_odd" "_law_odd" (defArgs (top 23)) (defBody (top 23)) (defScope (top 23)) .none kV15 dc15 pm15 an15 cd15 ct15), sl15⟩)
    (e15 : PySem.W.codeIn K cd15 "_law_odd" = true)
    (k15 : PySem.W.keepIn K (.ref f__law_odd) = true)
    (a16 : PySem.W.findIn K (.ref c_File) "__contains__" = some (some (.ref f_File___contains__)))
    (i16 : PySem.W.isFn K (.ref f_File___contains__) = true)
    (l16 : K.lookup f_File___contains__ = some ⟨oc16, od16, .func (PySem.W.fnOf "__contains__" "File.__contains__" (defArgs (inClass (top 14) 5)) (defBody (inClass (top 14) 5)) (defScope (inClass (top 14) 5)) .none kV16 dc16 pm16 an16 cd16 ct16), sl16⟩)
    (e16 : PySem.W.codeIn K cd16 "File.__contains__" = true)
    (k16 : PySem.W.keepIn K (.ref f_File___contains__) = true)
    (a17 : PySem.W.nsIn K mainGlobals "law" = some (some (.ref f_law)))
    (l17 : K.lookup f_law = some ⟨oc17, od17, .func (PySem.W.fnOf "law" "law" (defArgs (top 24)) (defBody (top 24)) (defScope (top 24)) .none kV17 dc17 pm17 an17 cd17 ct17), sl17⟩)
    (e17 : PySem.W.codeIn K cd17 "law" = true)
    (k17 : PySem.W.keepIn K (.ref f_law) = true)
    (z_abs : PySem.W.nsIn K mainGlobals "abs" = some none)
    (z_all : PySem.W.nsIn K mainGlobals "all" = some none)
    (z_enumerate : PySem.W.nsIn K mainGlobals "enumerate" = some none)
    (z_int : PySem.W.nsIn K mainGlobals "int" = some none)
    (z_isinstance : PySem.W.nsIn K mainGlobals "isinstance" = some none)
    (z_len : PySem.W.nsIn K mainGlobals "len" = some none)
    (z_list : PySem.W.nsIn K mainGlobals "list" = some none)
    (z_max : PySem.W.nsIn K mainGlobals "max" = some none)
    (z_min : PySem.W.nsIn K mainGlobals "min" = some none)
    (z_range : PySem.W.nsIn K mainGlobals "range" = some none)
    (z_repr : PySem.W.nsIn K mainGlobals "repr" = some none)
    (z_str : PySem.W.nsIn K mainGlobals "str" = some none)
    (z_tuple : PySem.W.nsIn K mainGlobals "tuple" = some none)
    (m_LETTERS : PySem.W.nsIn K mainGlobals "LETTERS" = some (some (.str ("abcdefghijklmnopqrstuvwxyz" : Str) t_LETTERS)))
    (m_MOST_LETTERS : PySem.W.nsIn K mainGlobals "MOST_LETTERS" = some (some (.int 8 t_MOST_LETTERS)))
    (k_File : PySem.W.keepIn K (.ref c_File) = true)
    (pg_File : PySem.W.plainGet K c_File Str.empty = true)
    (hd_File : PySem.W.hasDictIn K c_File = true)
    (po_File : PySem.W.plainOver K c_File = true)
    (sa_File : PySem.W.findIn K (.ref c_File) "__setattr__" = some (some (.builtin "object.__setattr__")))
    (ha_File : PySem.W.findIn K (.ref c_File) "__class__" = some (some (.builtin "object.__class__")))
    (mr_File : PySem.W.mroIn K c_File (.type "object") = some true)
    (n_File_lines : PySem.W.findIn K (.ref c_File) "lines" = some none)
    (ne_File : PySem.W.findIn K (.ref c_File) "__ne__" = some (some (.builtin "object.__ne__")))
    (rd_File : PySem.W.readsIn K c_File (.type "type") = true)
    (ga_File : PySem.W.specialIn K (.ref c_File) "__getattribute__" = some (some (.builtin "type.__getattribute__")))
    (so_File_tup : PySem.W.subIn K (.type "tuple") (.ref c_File) = some false)
    (so_File_lst : PySem.W.subIn K (.type "list") (.ref c_File) = some false)
    (mk_File : PySem.W.makesIn K c_File = true)
    (hgs : PySem.W.specialIn K (.builtin "object.__class__") "__get__" = some (some (.builtin "getset_descriptor.__get__")))
    (htk : PySem.W.takesIn K (.builtin "object.__class__") = some true)
    (cs_File : PySem.W.clsIn K c_File = some cl_File)
    (ct_File : PySem.W.typeIn K (.ref c_File) = some (.type "type"))
    (q2 : PySem.W.subIn K (.type "NoneType") (.ref c_File) = some false)
    (q5 : PySem.W.subIn K (.type "bool") (.ref c_File) = some false)
    (q8 : PySem.W.subIn K (.type "int") (.ref c_File) = some false)
    (q11 : PySem.W.subIn K (.type "str") (.ref c_File) = some false)
    (q14 : PySem.W.subIn K (.type "tuple") (.ref c_File) = some false)
    (q17 : PySem.W.subIn K (.type "list") (.ref c_File) = some false)
    (q18 : PySem.W.subIn K (.ref c_File) (.type "str") = some false)
    (q19 : PySem.W.subIn K (.ref c_File) (.type "tuple") = some false)
    : ∃ A : Cla, ∀ base : Heap, K.In base → base.Ns mainGlobals mg → FnD l.prog w (cc K A) mg base 9 fa sp_law := by
  have e := hfa.symm.trans (PySem.W.mg_of X G a17)
  cases e
  let T : Tx K mg := {
    f__law_bag := f__law_bag
    p__law_bag := ⟨_, _, _, _, _, _, _, _, _, l0, e0⟩
    m__law_bag := PySem.W.mg_of X G a0
    k__law_bag := k0
    f__law_draw := f__law_draw
    p__law_draw := ⟨_, _, _, _, _, _, _, _, _, l1, e1⟩
    m__law_draw := PySem.W.mg_of X G a1
    k__law_draw := k1
    f__law_words := f__law_words
    p__law_words := ⟨_, _, _, _, _, _, _, _, _, l2, e2⟩
    m__law_words := PySem.W.mg_of X G a2
    k__law_words := k2
    f__law_pool := f__law_pool
    p__law_pool := ⟨_, _, _, _, _, _, _, _, _, l3, e3⟩
    m__law_pool := PySem.W.mg_of X G a3
    k__law_pool := k3
    f__law_lines := f__law_lines
    p__law_lines := ⟨_, _, _, _, _, _, _, _, _, l4, e4⟩
    m__law_lines := PySem.W.mg_of X G a4
    k__law_lines := k4
    f_is_word := f_is_word
    p_is_word := ⟨_, _, _, _, _, _, _, _, _, l5, e5⟩
    m_is_word := PySem.W.mg_of X G a5
    k_is_word := k5
    f_is_name := f_is_name
    p_is_name := ⟨_, _, _, _, _, _, _, _, _, l6, e6⟩
    m_is_name := PySem.W.mg_of X G a6
    k_is_name := k6
    f_is_line := f_is_line
    p_is_line := ⟨_, _, _, _, _, _, _, _, _, l7, e7⟩
    m_is_line := PySem.W.mg_of X G a7
    k_is_line := k7
    f_File___init__ := f_File___init__
    p_File___init__ := ⟨_, _, _, _, _, _, _, _, _, l8, e8⟩
    k_File___init__ := k8
    f_File_of := f_File_of
    p_File_of := ⟨_, _, _, _, _, _, _, _, _, l9, e9⟩
    k_File_of := k9
    r_File_of := r_File_of
    cm_File_of := ⟨a9, ⟨_, i9⟩, fi9⟩
    f__law_direct := f__law_direct
    p__law_direct := ⟨_, _, _, _, _, _, _, _, _, l10, e10⟩
    m__law_direct := PySem.W.mg_of X G a10
    k__law_direct := k10
    f_File___len__ := f_File___len__
    p_File___len__ := ⟨_, _, _, _, _, _, _, _, _, l11, e11⟩
    k_File___len__ := k11
    d_File___len__ := ⟨a11, i11⟩
    f_File___getitem__ := f_File___getitem__
    p_File___getitem__ := ⟨_, _, _, _, _, _, _, _, _, l12, e12⟩
    k_File___getitem__ := k12
    d_File___getitem__ := ⟨a12, i12⟩
    fi_File___getitem__ := fi12
    f__law_is_file := f__law_is_file
    p__law_is_file := ⟨_, _, _, _, _, _, _, _, _, l13, e13⟩
    m__law_is_file := PySem.W.mg_of X G a13
    k__law_is_file := k13
    f_File___eq__ := f_File___eq__
    p_File___eq__ := ⟨_, _, _, _, _, _, _, _, _, l14, e14⟩
    k_File___eq__ := k14
    d_File___eq__ := ⟨a14, i14⟩
    f__law_odd := f__law_odd
    p__law_odd := ⟨_, _, _, _, _, _, _, _, _, l15, e15⟩
    m__law_odd := PySem.W.mg_of X G a15
    k__law_odd := k15
    f_File___contains__ := f_File___contains__
    p_File___contains__ := ⟨_, _, _, _, _, _, _, _, _, l16, e16⟩
    k_File___contains__ := k16
    d_File___contains__ := ⟨a16, i16⟩
    f_law := fa
    p_law := ⟨_, _, _, _, _, _, _, _, _, l17, e17⟩
    m_law := PySem.W.mg_of X G a17
    k_law := k17
    z_abs := PySem.W.mg_none_of X G z_abs
    z_all := PySem.W.mg_none_of X G z_all
    z_enumerate := PySem.W.mg_none_of X G z_enumerate
    z_int := PySem.W.mg_none_of X G z_int
    z_isinstance := PySem.W.mg_none_of X G z_isinstance
    z_len := PySem.W.mg_none_of X G z_len
    z_list := PySem.W.mg_none_of X G z_list
    z_max := PySem.W.mg_none_of X G z_max
    z_min := PySem.W.mg_none_of X G z_min
    z_range := PySem.W.mg_none_of X G z_range
    z_repr := PySem.W.mg_none_of X G z_repr
    z_str := PySem.W.mg_none_of X G z_str
    z_tuple := PySem.W.mg_none_of X G z_tuple
    t_LETTERS := t_LETTERS
    m_LETTERS := PySem.W.mg_of X G m_LETTERS
    t_MOST_LETTERS := t_MOST_LETTERS
    m_MOST_LETTERS := PySem.W.mg_of X G m_MOST_LETTERS
    c_File := c_File
    m_File := PySem.W.mg_of X G m_File
    k_File := k_File
    ck_File := ⟨⟨pg_File, hd_File, po_File, sa_File⟩, ha_File, hgs, htk, mr_File⟩
    n_File_lines := n_File_lines
    ne_File := ne_File
    cr_File := ⟨rd_File, ga_File⟩
    so_File_tup := so_File_tup
    so_File_lst := so_File_lst
    mk_File := ⟨mk_File, a8, i8, k_File⟩
    i_0 := kit_ty (by decide +kernel)
    i_1 := kit_ty (by decide +kernel)
    i_2 := kit_xr rfl cs_File ct_File q2
    i_3 := kit_ty (by decide +kernel)
    i_4 := kit_ty (by decide +kernel)
    i_5 := kit_xr rfl cs_File ct_File q5
    i_6 := kit_ty (by decide +kernel)
    i_7 := kit_ty (by decide +kernel)
    i_8 := kit_xr rfl cs_File ct_File q8
    i_9 := kit_ty (by decide +kernel)
    i_10 := kit_ty (by decide +kernel)
    i_11 := kit_xr rfl cs_File ct_File q11
    i_12 := kit_ty (by decide +kernel)
    i_13 := kit_ty (by decide +kernel)
    i_14 := kit_xr rfl cs_File ct_File q14
    i_15 := kit_ty (by decide +kernel)
    i_16 := kit_ty (by decide +kernel)
    i_17 := kit_xr rfl cs_File ct_File q17
    i_18 := kit_rt (by decide +kernel) q18
    i_19 := kit_rt (by decide +kernel) q19
    i_20 := kit_self
    i_21 := kit_ty (by decide +kernel)
    i_22 := kit_ty (by decide +kernel)
    i_23 := kit_ty (by decide +kernel)
  }
  exact ⟨T.A, fun base _ _ => fd_law T⟩
end DL

open PySem PySem.W PyProof.Rows in
set_option maxRecDepth 100000 in
set_option maxHeartbeats 0 in
theorem PySem.Challenge.cw_cleanmerges_k02_files_made_holds : PySem.Challenge.rw_cleanmerges_k02_files_made.Holds := by
  w_on; o_law; k_head; (case hw => w_witness2)
  k_fill
  refine DL.walkD (l := PySem.Challenge.rw_cleanmerges_k02_files_made) (n := 63) (k := 9) DL.sp_law rfl (by decide) rfl ⟨rfl, by decide, by decide⟩ (fun w h Y => PySem.W.kIn_of Y) DL.law_asks ?F
  case F =>
    intro w mg fa h KX G hmg
    refine' DL.all_mk KX G hmg ?m_File ?a0 ?l0 ?e0 ?k0 ?a1 ?l1 ?e1 ?k1 ?a2 ?l2 ?e2 ?k2 ?a3 ?l3 ?e3 ?k3 ?a4 ?l4 ?e4 ?k4 ?a5 ?l5 ?e5 ?k5 ?a6 ?l6 ?e6 ?k6 ?a7 ?l7 ?e7 ?k7 ?a8 ?i8 ?l8 ?e8 ?k8 ?a9 ?i9 ?fi9 ?l9 ?e9 ?k9 ?a10 ?l10 ?e10 ?k10 ?a11 ?i11 ?l11 ?e11 ?k11 ?a12 ?i12 ?l12 ?e12 ?k12 ?fi12 ?a13 ?l13 ?e13 ?k13 ?a14 ?i14 ?l14 ?e14 ?k14 ?a15 ?l15 ?e15 ?k15 ?a16 ?i16 ?l16 ?e16 ?k16 ?a17 ?l17 ?e17 ?k17 ?z_abs ?z_all ?z_enumerate ?z_int ?z_isinstance ?z_len ?z_list ?z_max ?z_min ?z_range ?z_repr ?z_str ?z_tuple ?m_LETTERS ?m_MOST_LETTERS ?k_File ?pg_File ?hd_File ?po_File ?sa_File ?ha_File ?mr_File ?n_File_lines ?ne_File ?rd_File ?ga_File ?so_File_tup ?so_File_lst ?mk_File ?hgs ?htk ?cs_File ?ct_File ?q2 ?q5 ?q8 ?q11 ?q14 ?q17 ?q18 ?q19
    (case m_File => k_is)
    (case a0 => k_is)
    (case l0 => k_is)
    (case e0 => k_is)
    (case k0 => k_is)
    (case a1 => k_is)
    (case l1 => k_is)
    (case e1 => k_is)
    (case k1 => k_is)
    (case a2 => k_is)
    (case l2 => k_is)
    (case e2 => k_is)
    (case k2 => k_is)
    (case a3 => k_is)
    (case l3 => k_is)
    (case e3 => k_is)
    (case k3 => k_is)
    (case a4 => k_is)
    (case l4 => k_is)
    (case e4 => k_is)
    (case k4 => k_is)
    (case a5 => k_is)
    (case l5 => k_is)
    (case e5 => k_is)
    (case k5 => k_is)
    (case a6 => k_is)
    (case l6 => k_is)
    (case e6 => k_is)
    (case k6 => k_is)
    (case a7 => k_is)
    (case l7 => k_is)
    (case e7 => k_is)
    (case k7 => k_is)
    (case a8 => k_is)
    (case i8 => k_is)
    (case l8 => k_is)
    (case e8 => k_is)
    (case k8 => k_is)
    (case a9 => k_is)
    (case i9 => k_is)
    (case fi9 => k_is)
    (case l9 => k_is)
    (case e9 => k_is)
    (case k9 => k_is)
    (case a10 => k_is)
    (case l10 => k_is)
    (case e10 => k_is)
    (case k10 => k_is)
    (case a11 => k_is)
    (case i11 => k_is)
    (case l11 => k_is)
    (case e11 => k_is)
    (case k11 => k_is)
    (case a12 => k_is)
    (case i12 => k_is)
    (case l12 => k_is)
    (case e12 => k_is)
    (case k12 => k_is)
    (case fi12 => k_is)
    (case a13 => k_is)
    (case l13 => k_is)
    (case e13 => k_is)
    (case k13 => k_is)
    (case a14 => k_is)
    (case i14 => k_is)
    (case l14 => k_is)
    (case e14 => k_is)
    (case k14 => k_is)
    (case a15 => k_is)
    (case l15 => k_is)
    (case e15 => k_is)
    (case k15 => k_is)
    (case a16 => k_is)
    (case i16 => k_is)
    (case l16 => k_is)
    (case e16 => k_is)
    (case k16 => k_is)
    (case a17 => k_is)
    (case l17 => k_is)
    (case e17 => k_is)
    (case k17 => k_is)
    (case z_abs => k_is)
    (case z_all => k_is)
    (case z_enumerate => k_is)
    (case z_int => k_is)
    (case z_isinstance => k_is)
    (case z_len => k_is)
    (case z_list => k_is)
    (case z_max => k_is)
    (case z_min => k_is)
    (case z_range => k_is)
    (case z_repr => k_is)
    (case z_str => k_is)
    (case z_tuple => k_is)
    (case m_LETTERS => k_is)
    (case m_MOST_LETTERS => k_is)
    (case k_File => k_is)
    (case pg_File => k_is)
    (case hd_File => k_is)
    (case po_File => k_is)
    (case sa_File => k_is)
    (case ha_File => k_is)
    (case mr_File => k_is)
    (case n_File_lines => k_is)
    (case ne_File => k_is)
    (case rd_File => k_is)
    (case ga_File => k_is)
    (case so_File_tup => k_is)
    (case so_File_lst => k_is)
    (case mk_File => k_is)
    (case hgs => k_is)
    (case htk => k_is)
    (case cs_File => k_is)
    (case ct_File => k_is)
    (case q2 => k_is)
    (case q5 => k_is)
    (case q8 => k_is)
    (case q11 => k_is)
    (case q14 => k_is)
    (case q17 => k_is)
    (case q18 => k_is)
    (case q19 => k_is)
#print axioms PySem.Challenge.cw_cleanmerges_k02_files_made_holds
