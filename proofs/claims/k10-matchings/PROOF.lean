import PyProof.Rows.All
import Wide.All
import OpenK.AllK
import Wide.FinOn
import HandS.ForMost
import HandS.Exc
import HandS.Deep
import HandS.TupAny
import HandS.Flow
import HandS.Wide
import KE.DataCmp
import KE.DataFind
import KE.DataMinMax
import KE.SortUse
import KE.DataIsa
import HandS.RaiseMore
import PyProof.ReprRoads
import HandS.Text
import HandS.Codes
import HandS.Conv
import HandS.Words
import HandS.IsInst
import HandS.Style
import HandS.Ends
import PySem.Challenge.RW_idsremembered_k10_matchings
set_option Elab.async false
set_option linter.all false
set_option maxRecDepth 1000000
/-! the evaluator over plain data: slots, outcomes, how they stand in an abstract heap -/
namespace Ev
open PySem PySem.Spec PyProof.Rows L2
abbrev D := PyData
/-- what a name of a def holds -/
inductive Slot where
  | un
  | dat (d : D)
  | lst (z : Bool) (ds : List D)
  | dic (z : Bool) (kvs : List (D × D))
  | giv (ds : List D)
abbrev Rho := List Slot
def Slot.own? : Slot → Option Bool
  | .lst z _ => some z
  | .dic z _ => some z
  | _ => none
structure Exn where
  cls : Str
  arg : Option (Str × D)
inductive Out (α : Type) where
  | ok (a : α) (ρ : Rho)
  | exn (e : Exn) (ρ : Rho)
  | no
abbrev M (α : Type) := Rho → Out α
def Out.andThen {α β : Type} (o : Out α) (f : α → Rho → Out β) : Out β := match o with
  | .ok a ρ => f a ρ
  | .exn e ρ => .exn e ρ
  | .no => .no
@[simp] theorem andThen_ok {α β : Type} (a : α) (ρ : Rho) (f : α → Rho → Out β) : (Out.ok a ρ).andThen f = f a ρ := rfl
@[simp] theorem andThen_exn {α β : Type} (e : Exn) (ρ : Rho) (f : α → Rho → Out β) : (Out.exn e ρ : Out α).andThen f = .exn e ρ := rfl
@[simp] theorem andThen_no {α β : Type} (f : α → Rho → Out β) : (Out.no : Out α).andThen f = .no := rfl
/-- an expression's end: a value, or a new list, a new dict that nobody else holds -/
inductive Ret where
  | val (d : D)
  | fl (ds : List D)
  | fd (kvs : List (D × D))
def Ret.toD : Ret → D
  | .val d => d
  | .fl ds => .list ds
  | .fd kvs => .dict kvs
/-- keys of dicts -/
def keyOf : D → Option Key
  | .int i => some (.inl i)
  | .str x => some (.inr x)
  | _ => none
abbrev AS := Addr → Prop
mutual
/-- v is the data d: all objects of it are known, and stand in S or in the written part -/
inductive R (K : PySem.W.Frag) (H : Hp) (S : AS) : V → D → Prop
  | non : R K H S .non .none
  | bl (b : Bool) : R K H S (.bl b) (.bool b)
  | int (i : Int) : R K H S (.int i) (.int i)
  | str (x : Str) : R K H S (.str x) (.str x)
  | lst {a : Addr} {xs : List V} {ds : List D} : H a = some (.lst xs) → S a → RAll K H S xs ds → R K H S (.ref a) (.list ds)
  | tup {a : Addr} {xs : List V} {ds : List D} : SqT K H a xs → (S a ∨ ∀ H', SqT K H' a xs) → RAll K H S xs ds → R K H S (.ref a) (.tuple ds)
  | dct {a : Addr} {kvs : List (Key × V)} {ds : List (D × D)} : H a = some (.dK kvs) → S a → RKv K H S kvs ds → R K H S (.ref a) (.dict ds)
inductive RAll (K : PySem.W.Frag) (H : Hp) (S : AS) : List V → List D → Prop
  | nil : RAll K H S [] []
  | cons {v : V} {vs : List V} {d : D} {ds : List D} : R K H S v d → RAll K H S vs ds → RAll K H S (v :: vs) (d :: ds)
inductive RKv (K : PySem.W.Frag) (H : Hp) (S : AS) : List (Key × V) → List (D × D) → Prop
  | nil : RKv K H S [] []
  | cons {k : Key} {v : V} {vs : List (Key × V)} {kd d : D} {ds : List (D × D)} : keyOf kd = some k → R K H S v d → RKv K H S vs ds → RKv K H S ((k, v) :: vs) ((kd, d) :: ds)
end
section
variable {K : PySem.W.Frag} {H H' : Hp} {S S' : AS}
/-- S only grows, and its objects stay -/
structure Stay (S S' : AS) (H H' : Hp) : Prop where
  sub : ∀ a, S a → S' a
  at_ : ∀ a, S a → H' a = H a
theorem Stay.refl (S : AS) (H : Hp) : Stay S S H H := ⟨fun _ h => h, fun _ _ => rfl⟩
theorem Stay.trans {S1 S2 S3 : AS} {H1 H2 H3 : Hp} (a : Stay S1 S2 H1 H2) (b : Stay S2 S3 H2 H3) : Stay S1 S3 H1 H3 :=
  ⟨fun x h => b.sub x (a.sub x h), fun x h => (b.at_ x (a.sub x h)).trans (a.at_ x h)⟩
theorem rd_at {a : Addr} {u : HO} (e : H' a = H a) (h : Rd H a u) : Rd H' a u := by
  rcases h with h | ⟨o, h⟩
  · exact .inl (e.trans h)
  · exact .inr ⟨o, e.trans h⟩
theorem sqL_at {a : Addr} {xs : List V} (e : H' a = H a) (h : SqL K H a xs) : SqL K H' a xs := by
  rcases h with h | h
  · exact .inl (rd_at e h)
  · exact .inr h
theorem sqT_at {a : Addr} {xs : List V} (e : H' a = H a) (h : SqT K H a xs) : SqT K H' a xs := by
  rcases h with h | h
  · exact .inl (rd_at e h)
  · exact .inr h
mutual
theorem R.stay (t : Stay S S' H H') : ∀ (d : D) (v : V), R K H S v d → R K H' S' v d
  | .none, _, h => by cases h; exact .non
  | .bool b, _, h => by cases h; exact .bl b
  | .int i, _, h => by cases h; exact .int i
  | .str x, _, h => by cases h; exact .str x
  | .list ds, _, h => by
    cases h with
    | lst hs hm ha => exact .lst ((t.at_ _ hm).trans hs) (t.sub _ hm) (RAll.stay t ds _ ha)
  | .tuple ds, _, h => by
    cases h with
    | tup hs hm ha =>
      rcases hm with hm | hm
      · exact .tup (sqT_at (t.at_ _ hm) hs) (.inl (t.sub _ hm)) (RAll.stay t ds _ ha)
      · exact .tup (hm _) (.inr hm) (RAll.stay t ds _ ha)
  | .dict ds, _, h => by
    cases h with
    | dct hs hm ha => exact .dct ((t.at_ _ hm).trans hs) (t.sub _ hm) (RKv.stay t ds _ ha)
theorem RAll.stay (t : Stay S S' H H') : ∀ (ds : List D) (vs : List V), RAll K H S vs ds → RAll K H' S' vs ds
  | [], _, h => by cases h; exact .nil
  | d :: ds, _, h => by
    cases h with
    | cons h1 h2 => exact .cons (R.stay t d _ h1) (RAll.stay t ds _ h2)
theorem RKv.stay (t : Stay S S' H H') : ∀ (ds : List (D × D)) (vs : List (Key × V)), RKv K H S vs ds → RKv K H' S' vs ds
  | [], _, h => by cases h; exact .nil
  | (kd, d) :: ds, _, h => by
    cases h with
    | cons hk h1 h2 => exact .cons hk (R.stay t d _ h1) (RKv.stay t ds _ h2)
end
mutual
theorem R.dp : ∀ (d : D) (v : V), R K H S v d → d.canLay0 = true → Dp K H v d
  | .none, _, h, _ => by cases h; exact .non
  | .bool b, _, h, _ => by cases h; exact .bl b
  | .int i, _, h, _ => by cases h; exact .int i
  | .str x, _, h, _ => by cases h; exact .str x
  | .list ds, _, h, c => by
    cases h with
    | lst hs hm ha => exact .lst (.inl (.inl hs)) (RAll.dp ds _ ha (by simpa [PyData.canLay0] using c))
  | .tuple ds, _, h, c => by
    cases h with
    | tup hs hm ha => exact .tup hs (RAll.dp ds _ ha (by simpa [PyData.canLay0] using c))
  | .dict ds, _, h, c => by simp [PyData.canLay0] at c
theorem RAll.dp : ∀ (ds : List D) (vs : List V), RAll K H S vs ds → PyData.canLayAll0 ds = true → DpAll K H vs ds
  | [], _, h, _ => by cases h; exact .nil
  | d :: ds, _, h, c => by
    cases h with
    | cons h1 h2 =>
      simp only [PyData.canLayAll0, Bool.and_eq_true] at c
      exact .cons (R.dp d _ h1 c.1) (RAll.dp ds _ h2 c.2)
end
end
end Ev
namespace Ev
open PySem PySem.Spec PyProof.Rows L2
section
variable {K : PySem.W.Frag} {H H' H1 H2 H3 : Hp} {S S' S1 S2 S3 : AS} {ρ ρ' ρ1 ρ2 ρ3 : Rho} {σ σ' σ1 σ2 σ3 : L2.St}
def SlotOk (K : PySem.W.Frag) (S : AS) (H : Hp) : Option V → Slot → Prop
  | _, .un => True
  | some v, .dat d => R K H S v d
  | some (.ref a), .lst _ ds => ∃ vs, H a = some (.lst vs) ∧ ¬ S a ∧ RAll K H S vs ds
  | some (.ref a), .dic _ ds => ∃ vs, H a = some (.dK vs) ∧ ¬ S a ∧ RKv K H S vs ds
  | some (.ref a), .giv ds => ∃ vs, SqL K H a vs ∧ (S a ∨ ∀ H', SqL K H' a vs) ∧ RAll K H S vs ds
  | _, _ => False
/-- the address that stands in slot i -/
def adr (σ : L2.St) (i : Nat) : Option Addr := match σ[i]? with
  | some (some (.ref a)) => some a
  | _ => none
def Own (ρ : Rho) (σ : L2.St) (a : Addr) : Prop := ∃ (i : Nat) (s : Slot) (z : Bool), ρ[i]? = some s ∧ s.own? = some z ∧ adr σ i = some a
def OwnZ (ρ : Rho) (σ : L2.St) (a : Addr) : Prop := ∃ (i : Nat) (s : Slot), ρ[i]? = some s ∧ s.own? = some true ∧ adr σ i = some a
theorem OwnZ.own {a : Addr} (h : OwnZ ρ σ a) : Own ρ σ a := let ⟨i, s, h1, h2, h3⟩ := h; ⟨i, s, true, h1, h2, h3⟩
structure Rel (K : PySem.W.Frag) (S : AS) (ρ : Rho) (σ : L2.St) (H : Hp) : Prop where
  len : ρ.length = σ.length
  slot : ∀ (i : Nat) (s : Slot), ρ[i]? = some s → SlotOk K S H (σ[i]?.join) s
  inj : ∀ (i j : Nat) (s t : Slot) (y z : Bool) (a : Addr), ρ[i]? = some s → ρ[j]? = some t → s.own? = some y → t.own? = some z → adr σ i = some a → adr σ j = some a → i = j
  live : ∀ a, S a → ∃ o, H a = some o
theorem SlotOk.giv_stay {S S' : AS} {H H' : Hp} {ds : List D} {x : Option V} (t : Stay S S' H H') (h : SlotOk K S H x (.giv ds)) : SlotOk K S' H' x (.giv ds) := by
  cases x with
  | none => exact h.elim
  | some v =>
    cases v <;> first | exact False.elim h | skip
    obtain ⟨vs, h1, h2, h3⟩ := h
    rcases h2 with h2 | h2
    · exact ⟨vs, sqL_at (t.at_ _ h2) h1, .inl (t.sub _ h2), RAll.stay t ds vs h3⟩
    · exact ⟨vs, h2 _, .inr h2, RAll.stay t ds vs h3⟩
theorem SlotOk.own_adr {S : AS} {H : Hp} {s : Slot} {z : Bool} {x : Option V} (h : SlotOk K S H x s) (e : s.own? = some z) : ∃ a o, x = some (.ref a) ∧ H a = some o ∧ ¬ S a ∧ Mut (some o) := by
  cases s with
  | un => cases e
  | dat d => cases e
  | giv d => cases e
  | lst y ds =>
    cases x with
    | none => exact h.elim
    | some v =>
      cases v <;> first | exact False.elim h | skip
      obtain ⟨vs, h1, h2, _⟩ := h
      exact ⟨_, _, rfl, h1, h2, trivial⟩
  | dic y ds =>
    cases x with
    | none => exact h.elim
    | some v =>
      cases v <;> first | exact False.elim h | skip
      obtain ⟨vs, h1, h2, _⟩ := h
      exact ⟨_, _, rfl, h1, h2, trivial⟩
theorem join_adr {i : Nat} {a : Addr} (h : σ[i]?.join = some (.ref a)) : adr σ i = some a := by
  unfold adr
  cases e : σ[i]? with
  | none => rw [e] at h; cases h
  | some x =>
    rw [e] at h
    cases x with
    | none => cases h
    | some v => cases h; rfl
theorem adr_join {i : Nat} {a : Addr} (h : adr σ i = some a) : σ[i]?.join = some (.ref a) := by
  unfold adr at h
  split at h
  · rename_i b e
    cases h
    rw [e]; rfl
  · cases h
theorem adr_get {i : Nat} {a : Addr} (h : adr σ i = some a) : σ[i]? = some (some (.ref a)) := by
  unfold adr at h
  split at h
  · rename_i b e
    cases h
    exact e
  · cases h
theorem Rel.own (r : Rel K S ρ σ H) {a : Addr} (h : Own ρ σ a) : ∃ o, H a = some o ∧ ¬ S a ∧ Mut (some o) := by
  obtain ⟨i, s, z, h1, h2, h3⟩ := h
  obtain ⟨b, o, e1, e2, e3, e4⟩ := (r.slot i s h1).own_adr h2
  have := join_adr e1
  rw [h3] at this
  cases this
  exact ⟨o, e2, e3, e4⟩
theorem Rel.nown (r : Rel K S ρ σ H) {a : Addr} (h : S a) : ¬ Own ρ σ a := fun o => let ⟨_, _, n, _⟩ := r.own o; n h
/-- from one state to a later one of the same frame -/
structure Step (S : AS) (ρ : Rho) (σ : L2.St) (H : Hp) (S' : AS) (ρ' : Rho) (σ' : L2.St) (H' : Hp) : Prop where
  sub : ∀ a, S a → S' a
  at_ : ∀ a, S a → H' a = H a
  frame : ∀ a o, H a = some o → ¬ Own ρ σ a → H' a = some o
  there : ∀ a o, H a = some o → ∃ o', H' a = some o'
  new : ∀ a, S' a → S a ∨ H a = none ∨ OwnZ ρ σ a
  own : ∀ a, Own ρ' σ' a → Own ρ σ a ∨ H a = none
  ownZ : ∀ a, OwnZ ρ' σ' a → OwnZ ρ σ a ∨ H a = none
  ino : ∀ (i : Nat) (s : Slot), ρ[i]? = some s → s.own? = some false → ∃ t : Slot, ρ'[i]? = some t ∧ t.own? = some false ∧ adr σ' i = adr σ i
theorem Step.refl : Step S ρ σ H S ρ σ H :=
  ⟨fun _ h => h, fun _ _ => rfl, fun _ _ h _ => h, fun _ o h => ⟨o, h⟩, fun _ h => .inl h, fun _ h => .inl h, fun _ h => .inl h, fun i s h1 h2 => ⟨s, h1, h2, rfl⟩⟩
theorem Step.trans (a : Step S1 ρ1 σ1 H1 S2 ρ2 σ2 H2) (b : Step S2 ρ2 σ2 H2 S3 ρ3 σ3 H3) : Step S1 ρ1 σ1 H1 S3 ρ3 σ3 H3 where
  sub := fun x h => b.sub x (a.sub x h)
  at_ := fun x h => (b.at_ x (a.sub x h)).trans (a.at_ x h)
  frame := fun x o h n => b.frame x o (a.frame x o h n) fun z => by
    rcases a.own x z with q | q
    · exact n q
    · rw [q] at h; cases h
  there := fun x o h => let ⟨o', h'⟩ := a.there x o h; b.there x o' h'
  new := fun x h => by
    have none1 : H2 x = none → H1 x = none := fun q => by
      cases e : H1 x with
      | none => rfl
      | some o => obtain ⟨o', e'⟩ := a.there x o e; rw [q] at e'; cases e'
    rcases b.new x h with q | q | q
    · exact a.new x q
    · exact .inr (.inl (none1 q))
    · rcases a.ownZ x q with z | z
      · exact .inr (.inr z)
      · exact .inr (.inl z)
  own := fun x h => by
    rcases b.own x h with q | q
    · exact a.own x q
    · cases e : H1 x with
      | none => exact .inr rfl
      | some o => obtain ⟨o', e'⟩ := a.there x o e; rw [q] at e'; cases e'
  ownZ := fun x h => by
    rcases b.ownZ x h with q | q
    · exact a.ownZ x q
    · cases e : H1 x with
      | none => exact .inr rfl
      | some o => obtain ⟨o', e'⟩ := a.there x o e; rw [q] at e'; cases e'
  ino := fun i s h1 h2 => by
    obtain ⟨t, e1, e2, e3⟩ := a.ino i s h1 h2
    obtain ⟨u, f1, f2, f3⟩ := b.ino i t e1 e2
    exact ⟨u, f1, f2, f3.trans e3⟩
theorem Step.stay (a : Step S ρ σ H S' ρ' σ' H') : Stay S S' H H' := ⟨a.sub, a.at_⟩
/-- a value's standing -/
def RRet (K : PySem.W.Frag) (S : AS) (ρ : Rho) (σ : L2.St) (H : Hp) (v : V) : Ret → Prop
  | .val d => R K H S v d
  | .fl ds => ∃ a vs, v = .ref a ∧ H a = some (.lst vs) ∧ ¬ S a ∧ RAll K H S vs ds ∧ ¬ Own ρ σ a
  | .fd ds => ∃ a vs, v = .ref a ∧ H a = some (.dK vs) ∧ ¬ S a ∧ RKv K H S vs ds ∧ ¬ Own ρ σ a
/-- a new list, dict was not there at the start, or it was owned -/
def RNew (ρ : Rho) (σ : L2.St) (H : Hp) (v : V) : Ret → Prop
  | .val _ => True
  | _ => ∀ a, v = .ref a → H a = none ∨ OwnZ ρ σ a
/-- H with a new object that nobody writes: it is in S from now on -/
theorem Rel.grow (r : Rel K S ρ σ H) {p : Addr} {o : HO} (hp : H p = none) : Rel K (fun a => S a ∨ a = p) ρ σ (upd H p o) ∧ Step S ρ σ H (fun a => S a ∨ a = p) ρ σ (upd H p o) := by
  have ne : ∀ a o, H a = some o → a ≠ p := fun a o h e => by subst e; rw [hp] at h; cases h
  have st : Stay S (fun a => S a ∨ a = p) H (upd H p o) := ⟨fun _ h => .inl h, fun a h => by
    obtain ⟨u, e⟩ := r.live a h
    rw [upd_ne (ne a u e)]⟩
  refine ⟨⟨r.len, fun i s h => ?_, r.inj, fun a h => ?_⟩, ⟨fun _ h => .inl h, st.at_, fun a u h _ => by rw [upd_ne (ne a u h)]; exact h, fun a u h => ⟨u, by rw [upd_ne (ne a u h)]; exact h⟩,
    fun a h => by rcases h with h | rfl; exact .inl h; exact .inr (.inl hp), fun _ h => .inl h, fun _ h => .inl h, fun i s h1 h2 => ⟨s, h1, h2, rfl⟩⟩⟩
  · have q := r.slot i s h
    cases s with
    | un => exact trivial
    | giv d => exact SlotOk.giv_stay st q
    | dat d =>
      cases e : σ[i]?.join with
      | none => rw [e] at q; exact q.elim
      | some v => rw [e] at q; exact R.stay st d v q
    | lst z ds =>
      obtain ⟨a, u, e1, e2, e3, e4⟩ := q.own_adr (z := z) rfl
      rw [e1] at q ⊢
      obtain ⟨vs, q1, q2, q3⟩ := q
      exact ⟨vs, by rw [upd_ne (ne a _ q1)]; exact q1, fun h => h.elim q2 (ne a _ q1), RAll.stay st ds vs q3⟩
    | dic z ds =>
      obtain ⟨a, u, e1, e2, e3, e4⟩ := q.own_adr (z := z) rfl
      rw [e1] at q ⊢
      obtain ⟨vs, q1, q2, q3⟩ := q
      exact ⟨vs, by rw [upd_ne (ne a _ q1)]; exact q1, fun h => h.elim q2 (ne a _ q1), RKv.stay st ds vs q3⟩
  · rcases h with h | rfl
    · obtain ⟨u, e⟩ := r.live a h
      exact ⟨u, by rw [upd_ne (ne a u e)]; exact e⟩
    · exact ⟨o, upd_same⟩
/-- .. that is known to nobody yet (a new list) -/
theorem Rel.fresh (r : Rel K S ρ σ H) {p : Addr} {o : HO} (hp : H p = none) : Rel K S ρ σ (upd H p o) ∧ Step S ρ σ H S ρ σ (upd H p o) ∧ ¬ S p ∧ ¬ Own ρ σ p := by
  have ne : ∀ a o, H a = some o → a ≠ p := fun a o h e => by subst e; rw [hp] at h; cases h
  have st : Stay S S H (upd H p o) := ⟨fun _ h => h, fun a h => by
    obtain ⟨u, e⟩ := r.live a h
    rw [upd_ne (ne a u e)]⟩
  refine ⟨⟨r.len, fun i s h => ?_, r.inj, fun a h => ?_⟩, ⟨fun _ h => h, st.at_, fun a u h _ => by rw [upd_ne (ne a u h)]; exact h, fun a u h => ⟨u, by rw [upd_ne (ne a u h)]; exact h⟩,
    fun a h => .inl h, fun _ h => .inl h, fun _ h => .inl h, fun i s h1 h2 => ⟨s, h1, h2, rfl⟩⟩, fun h => ?_, fun h => ?_⟩
  · have q := r.slot i s h
    cases s with
    | un => exact trivial
    | giv d => exact SlotOk.giv_stay st q
    | dat d =>
      cases e : σ[i]?.join with
      | none => rw [e] at q; exact q.elim
      | some v => rw [e] at q; exact R.stay st d v q
    | lst z ds =>
      obtain ⟨a, u, e1, e2, e3, e4⟩ := q.own_adr (z := z) rfl
      rw [e1] at q ⊢
      obtain ⟨vs, q1, q2, q3⟩ := q
      exact ⟨vs, by rw [upd_ne (ne a _ q1)]; exact q1, q2, RAll.stay st ds vs q3⟩
    | dic z ds =>
      obtain ⟨a, u, e1, e2, e3, e4⟩ := q.own_adr (z := z) rfl
      rw [e1] at q ⊢
      obtain ⟨vs, q1, q2, q3⟩ := q
      exact ⟨vs, by rw [upd_ne (ne a _ q1)]; exact q1, q2, RKv.stay st ds vs q3⟩
  · obtain ⟨u, e⟩ := r.live a h
    exact ⟨u, by rw [upd_ne (ne a u e)]; exact e⟩
  · obtain ⟨u, e⟩ := r.live p h
    rw [hp] at e; cases e
  · obtain ⟨u, e, _⟩ := r.own h
    rw [hp] at e; cases e
end
end Ev
namespace Ev
open PySem PySem.Spec PyProof.Rows L2
/-- a borrowed operand: a value, or the list or dict of a slot as it stands -/
inductive BV where
  | val (d : D)
  | slot (i : Nat)
def Slot.data? : Slot → Option D
  | .un => none
  | .dat d => some d
  | .lst _ ds => some (.list ds)
  | .dic _ kvs => some (.dict kvs)
  | .giv _ => none
def res (ρ : Rho) : BV → Option D
  | .val d => some d
  | .slot i => match ρ[i]? with
    | some s => s.data?
    | none => none
section
variable {K : PySem.W.Frag} {H H' H1 H2 H3 : Hp} {S S' S1 S2 S3 : AS} {ρ ρ' ρ1 ρ2 ρ3 : Rho} {σ σ' σ1 σ2 σ3 : L2.St}
/-- nothing but new objects -/
structure Ext (S : AS) (H : Hp) (S' : AS) (H' : Hp) : Prop where
  sub : ∀ a, S a → S' a
  keep : ∀ a o, H a = some o → H' a = some o
  new : ∀ a, S' a → S a ∨ (H a = none ∧ ∃ o, H' a = some o)
theorem Ext.refl : Ext S H S H := ⟨fun _ h => h, fun _ _ h => h, fun _ h => .inl h⟩
theorem Ext.trans (a : Ext S1 H1 S2 H2) (b : Ext S2 H2 S3 H3) : Ext S1 H1 S3 H3 :=
  ⟨fun x h => b.sub x (a.sub x h), fun x o h => b.keep x o (a.keep x o h), fun x h => by
    rcases b.new x h with q | ⟨q, o, e⟩
    · rcases a.new x q with z | ⟨z, o, e⟩
      · exact .inl z
      · exact .inr ⟨z, o, b.keep _ _ e⟩
    · refine .inr ⟨?_, o, e⟩
      cases e1 : H1 x with
      | none => rfl
      | some u => rw [a.keep _ _ e1] at q; cases q⟩
theorem Ext.one {p : Addr} {o : HO} (hp : H p = none) : Ext S H (fun a => S a ∨ a = p) (upd H p o) :=
  ⟨fun _ h => .inl h, fun a u h => by rw [upd_ne (fun e => by subst e; rw [hp] at h; cases h)]; exact h,
    fun a h => by rcases h with h | rfl; exact .inl h; exact .inr ⟨hp, o, upd_same⟩⟩
theorem Ext.lay {p : Addr} {o : HO} (hp : H p = none) : Ext S H S (upd H p o) :=
  ⟨fun _ h => h, fun a u h => by rw [upd_ne (fun e => by subst e; rw [hp] at h; cases h)]; exact h, fun a h => .inl h⟩
theorem Ext.stay (e : Ext S H S' H') (l : ∀ a, S a → ∃ o, H a = some o) : Stay S S' H H' :=
  ⟨e.sub, fun a h => by obtain ⟨o, q⟩ := l a h; rw [e.keep a o q, q]⟩
theorem Rel.ext (r : Rel K S ρ σ H) (e : Ext S H S' H') : Rel K S' ρ σ H' ∧ Step S ρ σ H S' ρ σ H' := by
  have st := e.stay r.live
  have new : ∀ a o, H a = some o → S' a → S a := fun a o h q => by
    rcases e.new a q with z | ⟨z, _⟩
    · exact z
    · rw [h] at z; cases z
  refine ⟨⟨r.len, fun i s h => ?_, r.inj, fun a h => ?_⟩, ⟨e.sub, st.at_, fun a u h _ => e.keep a u h, fun a u h => ⟨u, e.keep a u h⟩,
    fun a h => by rcases e.new a h with z | ⟨z, _⟩; exact .inl z; exact .inr (.inl z), fun _ h => .inl h, fun _ h => .inl h, fun i s h1 h2 => ⟨s, h1, h2, rfl⟩⟩⟩
  · have q := r.slot i s h
    cases s with
    | un => exact trivial
    | giv d => exact SlotOk.giv_stay st q
    | dat d =>
      cases e : σ[i]?.join with
      | none => rw [e] at q; exact q.elim
      | some v => rw [e] at q; exact R.stay st d v q
    | lst z ds =>
      obtain ⟨a, u, e1, e2, e3, e4⟩ := q.own_adr (z := z) rfl
      rw [e1] at q ⊢
      obtain ⟨vs, q1, q2, q3⟩ := q
      exact ⟨vs, e.keep _ _ q1, fun h => q2 (new a _ q1 h), RAll.stay st ds vs q3⟩
    | dic z ds =>
      obtain ⟨a, u, e1, e2, e3, e4⟩ := q.own_adr (z := z) rfl
      rw [e1] at q ⊢
      obtain ⟨vs, q1, q2, q3⟩ := q
      exact ⟨vs, e.keep _ _ q1, fun h => q2 (new a _ q1 h), RKv.stay st ds vs q3⟩
  · rcases e.new a h with z | ⟨_, o, z⟩
    · obtain ⟨u, q⟩ := r.live a z
      exact ⟨u, e.keep a u q⟩
    · exact ⟨o, z⟩
/-- readable: the top may be a list or a dict that is still owned -/
inductive RR (K : PySem.W.Frag) (H : Hp) (S : AS) : V → D → Prop
  | of {v : V} {d : D} : R K H S v d → RR K H S v d
  | lst {a : Addr} {vs : List V} {ds : List D} : H a = some (.lst vs) → RAll K H S vs ds → RR K H S (.ref a) (.list ds)
  | dic {a : Addr} {vs : List (Key × V)} {ds : List (D × D)} : H a = some (.dK vs) → RKv K H S vs ds → RR K H S (.ref a) (.dict ds)
theorem RR.dp {v : V} {d : D} (h : RR K H S v d) (c : d.canLay0 = true) : Dp K H v d := by
  cases h with
  | of h => exact h.dp d v c
  | lst h a => exact .lst (.inl (.inl h)) (RAll.dp _ _ a (by simpa [PyData.canLay0] using c))
  | dic h a => simp [PyData.canLay0] at c
theorem RR.list {v : V} {ds : List D} (h : RR K H S v (.list ds)) : ∃ a vs, v = .ref a ∧ H a = some (.lst vs) ∧ RAll K H S vs ds := by
  cases h with
  | of h =>
    cases h with
    | lst hs hm ha => exact ⟨_, _, rfl, hs, ha⟩
  | lst h a => exact ⟨_, _, rfl, h, a⟩
theorem RR.tuple {v : V} {ds : List D} (h : RR K H S v (.tuple ds)) : ∃ a vs, v = .ref a ∧ SqT K H a vs ∧ RAll K H S vs ds := by
  cases h with
  | of h =>
    cases h with
    | tup hs hm ha => exact ⟨_, _, rfl, hs, ha⟩
theorem RR.dict {v : V} {ds : List (D × D)} (h : RR K H S v (.dict ds)) : ∃ a vs, v = .ref a ∧ H a = some (.dK vs) ∧ RKv K H S vs ds := by
  cases h with
  | of h =>
    cases h with
    | dct hs hm ha => exact ⟨_, _, rfl, hs, ha⟩
  | dic h a => exact ⟨_, _, rfl, h, a⟩
theorem RR.int {v : V} {i : Int} (h : RR K H S v (.int i)) : v = .int i := by
  cases h with
  | of h => cases h; rfl
theorem RR.bool {v : V} {i : Bool} (h : RR K H S v (.bool i)) : v = .bl i := by
  cases h with
  | of h => cases h; rfl
theorem RR.str {v : V} {i : Str} (h : RR K H S v (.str i)) : v = .str i := by
  cases h with
  | of h => cases h; rfl
theorem RR.none {v : V} (h : RR K H S v .none) : v = .non := by
  cases h with
  | of h => cases h; rfl
theorem RR.stay (t : Ext S H S' H') (l : ∀ a, S a → ∃ o, H a = some o) {v : V} {d : D} (h : RR K H S v d) : RR K H' S' v d := by
  cases h with
  | of h => exact .of (h.stay (t.stay l))
  | lst h a => exact .lst (t.keep _ _ h) (a.stay (t.stay l))
  | dic h a => exact .dic (t.keep _ _ h) (a.stay (t.stay l))
theorem RAll.length : ∀ {vs : List V} {ds : List D}, RAll K H S vs ds → vs.length = ds.length
  | _, _, .nil => rfl
  | _, _, .cons _ t => by simp [RAll.length t]
theorem RKv.length : ∀ {vs : List (Key × V)} {ds : List (D × D)}, RKv K H S vs ds → vs.length = ds.length
  | _, _, .nil => rfl
  | _, _, .cons _ _ t => by simp [RKv.length t]
theorem RAll.get : ∀ {vs : List V} {ds : List D} {i : Nat} {d : D}, RAll K H S vs ds → ds[i]? = some d → ∃ v, vs[i]? = some v ∧ R K H S v d
  | _, _, _, _, .nil, e => by simp at e
  | _, _, 0, _, .cons r _, e => by simp at e; subst e; exact ⟨_, rfl, r⟩
  | _, _, i + 1, d, .cons _ t, e => by
    obtain ⟨u, h1, h2⟩ := RAll.get (i := i) (d := d) t (by simpa using e)
    exact ⟨u, by simpa using h1, h2⟩
theorem RAll.getV : ∀ {vs : List V} {ds : List D} {i : Nat} {v : V}, RAll K H S vs ds → vs[i]? = some v → ∃ d, ds[i]? = some d ∧ R K H S v d
  | _, _, _, _, .nil, e => by simp at e
  | _, _, 0, _, .cons r _, e => by simp at e; subst e; exact ⟨_, rfl, r⟩
  | _, _, i + 1, d, .cons _ t, e => by
    obtain ⟨u, h1, h2⟩ := RAll.getV (i := i) (v := d) t (by simpa using e)
    exact ⟨u, by simpa using h1, h2⟩
theorem RAll.append : ∀ {xs ys : List V} {us ws : List D}, RAll K H S xs us → RAll K H S ys ws → RAll K H S (xs ++ ys) (us ++ ws)
  | _, _, _, _, .nil, s => s
  | _, _, _, _, .cons r t, s => .cons r (RAll.append t s)
theorem RAll.take : ∀ {xs : List V} {us : List D} (n : Nat), RAll K H S xs us → RAll K H S (xs.take n) (us.take n)
  | _, _, 0, _ => .nil
  | _, _, _ + 1, .nil => .nil
  | _, _, n + 1, .cons r t => .cons r (RAll.take n t)
theorem RAll.drop : ∀ {xs : List V} {us : List D} (n : Nat), RAll K H S xs us → RAll K H S (xs.drop n) (us.drop n)
  | _, _, 0, r => r
  | _, _, _ + 1, .nil => .nil
  | _, _, n + 1, .cons _ t => RAll.drop n t
theorem RAll.set {v : V} {d : D} (r : R K H S v d) : ∀ {xs : List V} {us : List D} (n : Nat), RAll K H S xs us → RAll K H S (xs.set n v) (us.set n d)
  | _, _, _, .nil => .nil
  | _, _, 0, .cons _ t => .cons r t
  | _, _, n + 1, .cons q t => .cons q (RAll.set r n t)
theorem RAll.replicate {v : V} {d : D} (r : R K H S v d) : ∀ n, RAll K H S (List.replicate n v) (List.replicate n d)
  | 0 => .nil
  | n + 1 => .cons r (RAll.replicate r n)
theorem RAll.flat {xs : List V} {us : List D} (r : RAll K H S xs us) : ∀ n, RAll K H S (List.replicate n xs).flatten (List.replicate n us).flatten
  | 0 => .nil
  | n + 1 => by
    rw [List.replicate_succ, List.replicate_succ, List.flatten_cons, List.flatten_cons]
    exact RAll.append r (RAll.flat r n)
theorem RAll.ints : ∀ {vs : List V} (ns : List Int), RAll K H S vs (ns.map PyData.int) → vs = ns.map V.int
  | _, [], h => by cases h; rfl
  | _, n :: ns, h => by
    cases h with
    | cons h1 h2 => cases h1; rw [RAll.ints ns h2]; rfl
theorem RAll.bools : ∀ {vs : List V} (ns : List Bool), RAll K H S vs (ns.map PyData.bool) → vs = ns.map V.bl
  | _, [], h => by cases h; rfl
  | _, n :: ns, h => by
    cases h with
    | cons h1 h2 => cases h1; rw [RAll.bools ns h2]; rfl
/-! ### a borrowed operand stands -/
def RB (K : PySem.W.Frag) (S : AS) (σ : L2.St) (H : Hp) (v : V) : BV → Prop
  | .val d => R K H S v d
  | .slot i => σ[i]? = some (some v)
theorem RB.stay (t : Stay S S' H H') {v : V} {b : BV} (h : RB K S σ H v b) : RB K S' σ H' v b := by
  cases b with
  | val d => exact R.stay t d v h
  | slot i => exact h
theorem RB.read (r : Rel K S ρ σ H) {v : V} {b : BV} {d : D} (h : RB K S σ H v b) (e : res ρ b = some d) : RR K H S v d := by
  cases b with
  | val d' => cases e; exact .of h
  | slot i =>
    have h' : σ[i]? = some (some v) := h
    cases hs : ρ[i]? with
    | none => simp only [res, hs] at e; cases e
    | some s =>
      simp only [res, hs] at e
      have q := r.slot i s hs
      rw [h'] at q
      have q : SlotOk K S H (some v) s := q
      cases s with
      | un => cases e
      | giv ds => cases e
      | dat d' => cases e; exact .of q
      | lst z ds =>
        cases e
        cases v <;> first | exact False.elim q | skip
        obtain ⟨vs, q1, q2, q3⟩ := q
        exact .lst q1 q3
      | dic z ds =>
        cases e
        cases v <;> first | exact False.elim q | skip
        obtain ⟨vs, q1, q2, q3⟩ := q
        exact .dic q1 q3
/-! ### the values' end of an operation -/
/-- v in H' is r: nothing but new objects -/
def PPost (K : PySem.W.Frag) (S : AS) (H : Hp) (v : V) (H' : Hp) : Ret → Prop
  | .val d => ∃ S', Ext S H S' H' ∧ R K H' S' v d
  | .fl ds => ∃ S' a vs, Ext S H S' H' ∧ v = .ref a ∧ H a = none ∧ H' a = some (.lst vs) ∧ ¬ S' a ∧ RAll K H' S' vs ds
  | .fd ds => ∃ S' a vs, Ext S H S' H' ∧ v = .ref a ∧ H a = none ∧ H' a = some (.dK vs) ∧ ¬ S' a ∧ RKv K H' S' vs ds
theorem Rel.pure (r : Rel K S ρ σ H) {v : V} {q : Ret} (h : PPost K S H v H' q) : ∃ S', Step S ρ σ H S' ρ σ H' ∧ Rel K S' ρ σ H' ∧ RRet K S' ρ σ H' v q ∧ RNew ρ σ H v q := by
  cases q with
  | val d =>
    obtain ⟨S', e, hr⟩ := h
    obtain ⟨r', s'⟩ := r.ext e
    exact ⟨S', s', r', hr, trivial⟩
  | fl ds =>
    obtain ⟨S', a, vs, e, rfl, hn, ha, ns, hr⟩ := h
    obtain ⟨r', s'⟩ := r.ext e
    refine ⟨S', s', r', ⟨a, vs, rfl, ha, ns, hr, fun z => ?_⟩, fun b eb => by cases eb; exact .inl hn⟩
    obtain ⟨o, q, _⟩ := r.own z
    rw [hn] at q; cases q
  | fd ds =>
    obtain ⟨S', a, vs, e, rfl, hn, ha, ns, hr⟩ := h
    obtain ⟨r', s'⟩ := r.ext e
    refine ⟨S', s', r', ⟨a, vs, rfl, ha, ns, hr, fun z => ?_⟩, fun b eb => by cases eb; exact .inl hn⟩
    obtain ⟨o, q, _⟩ := r.own z
    rw [hn] at q; cases q
end
/-! ### judgements -/
section
variable (K : PySem.W.Frag) (mg : Str → Option Value) (W : WX)
/-- an exception stands -/
def XRel (S : AS) (H : Hp) (e : Exn) (cls : Value) (dx : Option Addr) : Prop :=
  (∃ C, mg e.cls = some (.ref C) ∧ cls = .ref C) ∧ match e.arg, dx with
    | none, none => True
    | some (f, d), some a => ∃ v, H a = some (.xd [(f, v)]) ∧ R K H S v d
    | _, _ => False
/-- what is to hold of an outcome: P of a normal one -/
def Post {α : Type} (S : AS) (ρ : Rho) (σ : L2.St) (H : Hp) (P : α → AS → Rho → Hp → Prop) : Out α → Prop
  | .ok a ρ' => ∀ S' H', Step S ρ σ H S' ρ' σ H' → Rel K S' ρ' σ H' → P a S' ρ' H'
  | .exn e ρ' => ∀ S' H' cls dx, Step S ρ σ H S' ρ' σ H' → Rel K S' ρ' σ H' → XRel K mg S' H' e cls dx → W cls dx σ H'
  | .no => False
/-- an expression, a borrowed one, a test, arguments -/
def tS (f : M Ret) : TE := fun σ H Q => ∃ S ρ, Rel K S ρ σ H ∧ Post K mg W S ρ σ H (fun r S' ρ' H' => ∀ v, RRet K S' ρ' σ H' v r → RNew ρ σ H v r → Q v H') (f ρ)
def tBo (f : M BV) : TE := fun σ H Q => ∃ S ρ, Rel K S ρ σ H ∧ Post K mg W S ρ σ H (fun b S' ρ' H' => ∀ v, RB K S' σ H' v b → Q v H') (f ρ)
def tTe (f : M Bool) : TT := fun σ H Q => ∃ S ρ, Rel K S ρ σ H ∧ Post K mg W S ρ σ H (fun b _ _ H' => Q b H') (f ρ)
def RBs (S : AS) (σ : L2.St) (H : Hp) : List V → List BV → Prop
  | [], [] => True
  | v :: vs, b :: bs => RB K S σ H v b ∧ RBs S σ H vs bs
  | _, _ => False
def tAr (f : M (List BV)) : TA := fun σ H Q => ∃ S ρ, Rel K S ρ σ H ∧ Post K mg W S ρ σ H (fun bs S' ρ' H' => ∀ vs, RBs K S' σ H' vs bs → Q vs H') (f ρ)
end
section
variable {X : Cx} {e : Expr} {es : List Expr}
theorem pe_imp {t t' : TE} (h : PE X e t) (i : ∀ σ H Q, t' σ H Q → t σ H Q) : PE X e t' := ⟨fun pins s σ H Q I q => h.run pins s σ H Q I (i σ H Q q)⟩
theorem pt_imp {t t' : TT} (h : PT X e t) (i : ∀ σ H Q, t' σ H Q → t σ H Q) : PT X e t' := ⟨fun pins s σ H Q I q => h.run pins s σ H Q I (i σ H Q q)⟩
theorem pa_imp {t t' : TA} (h : PA X es t) (i : ∀ σ H Q, t' σ H Q → t σ H Q) : PA X es t' := ⟨fun pos pins s σ H Q I q => h.run pos pins s σ H Q I (i σ H Q q)⟩
end
section
variable {K : PySem.W.Frag} {mg : Str → Option Value} {W : WX} {S S1 : AS} {ρ ρ1 : Rho} {σ σ1 : L2.St} {H H1 : Hp}
/-- an outcome, then more: the state in between -/
theorem Post.bind {α β : Type} {o : Out α} {f : α → Rho → Out β} {P : β → AS → Rho → Hp → Prop} (h : Post K mg W S ρ σ H P (o.andThen f)) :
    Post K mg W S ρ σ H (fun a S1 ρ1 H1 => Step S ρ σ H S1 ρ1 σ H1 ∧ Rel K S1 ρ1 σ H1 ∧ Post K mg W S1 ρ1 σ H1 (fun b S2 ρ2 H2 => P b S2 ρ2 H2) (f a ρ1)) o := by
  cases o with
  | ok a ρ1 =>
    intro S1 H1 st r
    refine ⟨st, r, ?_⟩
    change Post K mg W S ρ σ H P (f a ρ1) at h
    cases e : f a ρ1 with
    | ok b ρ2 => rw [e] at h; exact fun S2 H2 st2 r2 => h S2 H2 (st.trans st2) r2
    | exn x ρ2 => rw [e] at h; exact fun S2 H2 cls dx st2 r2 xr => h S2 H2 cls dx (st.trans st2) r2 xr
    | no => rw [e] at h; exact h
  | exn x ρ1 => exact h
  | no => exact h
theorem Post.imp {α : Type} {o : Out α} {P P' : α → AS → Rho → Hp → Prop} (h : Post K mg W S ρ σ H P o) (i : ∀ a S' ρ' H', Step S ρ σ H S' ρ' σ H' → Rel K S' ρ' σ H' → P a S' ρ' H' → P' a S' ρ' H') : Post K mg W S ρ σ H P' o := by
  cases o with
  | ok a ρ1 => exact fun S1 H1 st r => i a S1 ρ1 H1 st r (h S1 H1 st r)
  | exn x ρ1 => exact h
  | no => exact h
theorem Post.ok {α : Type} {a : α} {P : α → AS → Rho → Hp → Prop} (r : Rel K S ρ σ H) (h : Post K mg W S ρ σ H P (.ok a ρ)) : P a S ρ H := h S H .refl r
end
end Ev
namespace Ev
open PySem PySem.Spec PyProof.Rows L2
/-! ### the evaluator's words for expressions -/
def opnd1 (op : D → Option Ret) (b : BV) (ρ : Rho) : Out Ret := match res ρ b with
  | some d => match op d with
    | some r => .ok r ρ
    | none => .no
  | none => .no
def opnd2 (op : D → D → Option Ret) (b c : BV) (ρ : Rho) : Out Ret := match res ρ b, res ρ c with
  | some d, some e => match op d e with
    | some r => .ok r ρ
    | none => .no
  | _, _ => .no
def ress (ρ : Rho) : List BV → Option (List D)
  | [] => some []
  | b :: bs => match res ρ b, ress ρ bs with
    | some d, some ds => some (d :: ds)
    | _, _ => none
def opnds (op : List D → Option Ret) (bs : List BV) (ρ : Rho) : Out Ret := match ress ρ bs with
  | some ds => match op ds with
    | some r => .ok r ρ
    | none => .no
  | none => .no
def mCst (d : D) : M Ret := fun ρ => .ok (.val d) ρ
def mName (i : Nat) : M Ret := fun ρ => match ρ[i]? with
  | some (.dat d) => .ok (.val d) ρ
  | some (.lst true ds) => .ok (.val (.list ds)) (ρ.set i (.dat (.list ds)))
  | some (.dic true kvs) => .ok (.val (.dict kvs)) (ρ.set i (.dat (.dict kvs)))
  | _ => .no
def mMove (i : Nat) : M Ret := fun ρ => match ρ[i]? with
  | some (.dat d) => .ok (.val d) ρ
  | some (.lst true ds) => .ok (.fl ds) (ρ.set i .un)
  | some (.dic true kvs) => .ok (.fd kvs) (ρ.set i .un)
  | _ => .no
def mBor (i : Nat) : M BV := fun ρ => match ρ[i]? with
  | some s => match s.data? with
    | some _ => .ok (.slot i) ρ
    | none => .no
  | none => .no
def toB (f : M Ret) : M BV := fun ρ => (f ρ).andThen fun r ρ' => .ok (.val r.toD) ρ'
def mOp1 (op : D → Option Ret) (f : M BV) : M Ret := fun ρ => (f ρ).andThen (opnd1 op)
def mOp2 (op : D → D → Option Ret) (f g : M BV) : M Ret := fun ρ => (f ρ).andThen fun b ρ1 => (g ρ1).andThen fun c ρ2 => opnd2 op b c ρ2
def mNil : M (List BV) := fun ρ => .ok [] ρ
def mCons (f : M BV) (g : M (List BV)) : M (List BV) := fun ρ => (f ρ).andThen fun b ρ1 => (g ρ1).andThen fun bs ρ2 => .ok (b :: bs) ρ2
def mOps (op : List D → Option Ret) (f : M (List BV)) : M Ret := fun ρ => (f ρ).andThen (opnds op)
section
variable {K : PySem.W.Frag} {mg : Str → Option Value} {W : WX} {H H' H1 H2 H3 : Hp} {S S' S1 S2 S3 : AS} {ρ ρ' ρ1 ρ2 ρ3 : Rho} {σ σ' σ1 σ2 σ3 : L2.St}
theorem getset {i j : Nat} {s t : Slot} (h : (ρ.set i s)[j]? = some t) : (j = i ∧ t = s) ∨ (j ≠ i ∧ ρ[j]? = some t) := by
  by_cases e : i = j
  · subst e
    by_cases hl : i < ρ.length
    · rw [List.getElem?_set_self hl] at h; cases h; exact .inl ⟨rfl, rfl⟩
    · rw [List.getElem?_eq_none (by simpa using hl)] at h; cases h
  · rw [List.getElem?_set_ne e] at h
    exact .inr ⟨fun z => e z.symm, h⟩
/-- a slot's own list is known to nobody any more: it is in S, or free -/
theorem Rel.drop (r : Rel K S ρ σ H) {i : Nat} {s t : Slot} (hs : ρ[i]? = some s) (hz : s.own? = some true) {a : Addr} (ha : adr σ i = some a) (ht : t.own? = none)
    (hS : ∀ b, S b → S' b) (hS' : ∀ b, S' b → S b ∨ b = a) (hq : SlotOk K S' H (σ[i]?.join) t) : Rel K S' (ρ.set i t) σ H ∧ Step S ρ σ H S' (ρ.set i t) σ H := by
  have hoa : OwnZ ρ σ a := ⟨i, s, hs, hz, ha⟩
  have keep : ∀ {j : Nat} {u : Slot} {z : Bool} {b : Addr}, (ρ.set i t)[j]? = some u → u.own? = some z → adr σ j = some b → ρ[j]? = some u ∧ j ≠ i := fun {j u z b} h1 h2 h3 => by
    rcases getset h1 with ⟨rfl, rfl⟩ | ⟨h, e⟩
    · rw [ht] at h2; cases h2
    · exact ⟨e, h⟩
  have st : Stay S S' H H := ⟨hS, fun _ _ => rfl⟩
  refine ⟨⟨by rw [List.length_set]; exact r.len, fun j u h => ?_, fun j k u w y z b h1 h2 h3 h4 h5 h6 => ?_, fun b h => ?_⟩, ⟨hS, fun _ _ => rfl, fun _ _ h _ => h, fun _ o h => ⟨o, h⟩, fun b h => ?_, fun b h => ?_, fun b h => ?_, fun j u h1 h2 => ?_⟩⟩
  · rcases getset h with ⟨rfl, rfl⟩ | ⟨hne, e⟩
    · exact hq
    · have q := r.slot j u e
      cases u with
      | un => exact trivial
      | giv d => exact SlotOk.giv_stay st q
      | dat d =>
        cases e' : σ[j]?.join with
        | none => rw [e'] at q; exact q.elim
        | some v => rw [e'] at q; exact R.stay st d v q
      | lst z ds =>
        obtain ⟨b, w, e1, e2, e3, e4⟩ := q.own_adr (z := z) rfl
        have hb := join_adr e1
        rw [e1] at q ⊢
        obtain ⟨vs, q1, q2, q3⟩ := q
        exact ⟨vs, q1, fun h => (hS' _ h).elim q2 fun hba => hne (r.inj j i _ s z true b e hs rfl hz hb (by rw [hba]; exact ha)), RAll.stay st ds vs q3⟩
      | dic z ds =>
        obtain ⟨b, w, e1, e2, e3, e4⟩ := q.own_adr (z := z) rfl
        have hb := join_adr e1
        rw [e1] at q ⊢
        obtain ⟨vs, q1, q2, q3⟩ := q
        exact ⟨vs, q1, fun h => (hS' _ h).elim q2 fun hba => hne (r.inj j i _ s z true b e hs rfl hz hb (by rw [hba]; exact ha)), RKv.stay st ds vs q3⟩
  · exact r.inj j k u w y z b (keep h1 h3 h5).1 (keep h2 h4 h6).1 h3 h4 h5 h6
  · rcases hS' b h with h | rfl
    · exact r.live b h
    · obtain ⟨o, h, _⟩ := r.own hoa.own
      exact ⟨o, h⟩
  · rcases hS' b h with h | rfl
    · exact .inl h
    · exact .inr (.inr hoa)
  · obtain ⟨j, u, z, h1, h2, h3⟩ := h
    exact .inl ⟨j, u, z, (keep h1 h2 h3).1, h2, h3⟩
  · obtain ⟨j, u, h1, h2, h3⟩ := h
    exact .inl ⟨j, u, (keep h1 h2 h3).1, h2, h3⟩
  · refine ⟨u, ?_, h2, rfl⟩
    rw [List.getElem?_set_ne (fun e => by subst e; rw [hs] at h1; cases h1; rw [hz] at h2; cases h2)]
    exact h1
/-- a new list that nobody else holds is given to all -/
theorem Rel.give (r : Rel K S ρ σ H) {a : Addr} {o : HO} (ha : H a = some o) (hn : ¬ Own ρ σ a) : Rel K (fun b => S b ∨ b = a) ρ σ H := by
  have st : Stay S (fun b => S b ∨ b = a) H H := ⟨fun _ h => .inl h, fun _ _ => rfl⟩
  refine ⟨r.len, fun i s h => ?_, r.inj, fun b h => ?_⟩
  · have q := r.slot i s h
    cases s with
    | un => exact trivial
    | giv d => exact SlotOk.giv_stay st q
    | dat d =>
      cases e : σ[i]?.join with
      | none => rw [e] at q; exact q.elim
      | some v => rw [e] at q; exact R.stay st d v q
    | lst z ds =>
      obtain ⟨b, u, e1, e2, e3, e4⟩ := q.own_adr (z := z) rfl
      have hb := join_adr e1
      rw [e1] at q ⊢
      obtain ⟨vs, q1, q2, q3⟩ := q
      exact ⟨vs, q1, fun hh => hh.elim q2 fun e => hn ⟨i, _, z, h, rfl, by rw [← e]; exact hb⟩, RAll.stay st ds vs q3⟩
    | dic z ds =>
      obtain ⟨b, u, e1, e2, e3, e4⟩ := q.own_adr (z := z) rfl
      have hb := join_adr e1
      rw [e1] at q ⊢
      obtain ⟨vs, q1, q2, q3⟩ := q
      exact ⟨vs, q1, fun hh => hh.elim q2 fun e => hn ⟨i, _, z, h, rfl, by rw [← e]; exact hb⟩, RKv.stay st ds vs q3⟩
  · rcases h with h | rfl
    · exact r.live b h
    · exact ⟨o, ha⟩
theorem Step.give (s : Step S ρ σ H S' ρ' σ' H') {a : Addr} (h : S a ∨ H a = none ∨ OwnZ ρ σ a) : Step S ρ σ H (fun b => S' b ∨ b = a) ρ' σ' H' :=
  ⟨fun b h => .inl (s.sub b h), s.at_, s.frame, s.there, fun b hb => by rcases hb with hb | rfl; exact s.new b hb; exact h, s.own, s.ownZ, s.ino⟩
/-- a new one counts as a value -/
theorem RRet.val (st : Step S ρ σ H S' ρ' σ H') (r : Rel K S' ρ' σ H') {v : V} {q : Ret} (h : RRet K S' ρ' σ H' v q) (n : RNew ρ σ H v q) :
    ∃ S2, Step S ρ σ H S2 ρ' σ H' ∧ Rel K S2 ρ' σ H' ∧ R K H' S2 v q.toD ∧ (∀ b, S' b → S2 b) := by
  cases q with
  | val d => exact ⟨S', st, r, h, fun _ h => h⟩
  | fl ds =>
    obtain ⟨a, vs, rfl, ha, ns, hr, no⟩ := h
    refine ⟨fun b => S' b ∨ b = a, st.give (.inr (n a rfl)), r.give ha no, ?_, fun _ h => .inl h⟩
    exact .lst ha (.inr rfl) (RAll.stay ⟨fun _ h => .inl h, fun _ _ => rfl⟩ ds vs hr)
  | fd ds =>
    obtain ⟨a, vs, rfl, ha, ns, hr, no⟩ := h
    refine ⟨fun b => S' b ∨ b = a, st.give (.inr (n a rfl)), r.give ha no, ?_, fun _ h => .inl h⟩
    exact .dct ha (.inr rfl) (RKv.stay ⟨fun _ h => .inl h, fun _ _ => rfl⟩ ds vs hr)
end
section
variable {X : Cx} {mg : Str → Option Value} {W : WX} {e a b : Expr} {es : List Expr} {pos : Pos}
theorem pe_cst_of {t : TE} {v : V} {d : D} (h : PE X e (tC v)) (r : ∀ H S, R X.K H S v d) : PE X e (tS X.K mg W (mCst d)) :=
  pe_imp h fun σ H Q ⟨S, ρ, rel, p⟩ => Post.ok rel p v (r H S) trivial
theorem pe_name {i : Nat} (h : PE X e (tVar i)) : PE X e (tS X.K mg W (mName i)) := pe_imp h fun σ H Q ⟨S, ρ, rel, p⟩ => by
  unfold mName at p
  cases hs : ρ[i]? with
  | none => simp only [hs] at p; exact p.elim
  | some s =>
    simp only [hs] at p
    have q := rel.slot i s hs
    cases s with
    | un => exact p.elim
    | giv d => exact p.elim
    | dat d =>
      cases ex : σ[i]? with
      | none => rw [ex] at q; exact False.elim q
      | some x =>
        rw [ex] at q
        cases x with
        | none => exact False.elim q
        | some v => exact ⟨v, ex, Post.ok rel p v q trivial⟩
    | lst z ds =>
      cases z with
      | false => exact p.elim
      | true =>
        obtain ⟨a, o, e1, e2, e3, e4⟩ := q.own_adr (z := true) rfl
        have ha := join_adr e1
        have q' := q
        rw [e1] at q'
        obtain ⟨vs, q1, q2, q3⟩ := q'
        have hR : R X.K H (fun b => S b ∨ b = a) (.ref a) (.list ds) := .lst q1 (.inr rfl) (RAll.stay ⟨fun _ h => .inl h, fun _ _ => rfl⟩ ds vs q3)
        obtain ⟨r2, s2⟩ := rel.drop (t := .dat (.list ds)) (S' := fun b => S b ∨ b = a) hs rfl ha rfl (fun _ h => .inl h) (fun _ h => h) (by rw [e1]; exact hR)
        exact ⟨.ref a, adr_get ha, p _ H s2 r2 _ hR trivial⟩
    | dic z ds =>
      cases z with
      | false => exact p.elim
      | true =>
        obtain ⟨a, o, e1, e2, e3, e4⟩ := q.own_adr (z := true) rfl
        have ha := join_adr e1
        have q' := q
        rw [e1] at q'
        obtain ⟨vs, q1, q2, q3⟩ := q'
        have hR : R X.K H (fun b => S b ∨ b = a) (.ref a) (.dict ds) := .dct q1 (.inr rfl) (RKv.stay ⟨fun _ h => .inl h, fun _ _ => rfl⟩ ds vs q3)
        obtain ⟨r2, s2⟩ := rel.drop (t := .dat (.dict ds)) (S' := fun b => S b ∨ b = a) hs rfl ha rfl (fun _ h => .inl h) (fun _ h => h) (by rw [e1]; exact hR)
        exact ⟨.ref a, adr_get ha, p _ H s2 r2 _ hR trivial⟩
theorem pe_move {i : Nat} (h : PE X e (tVar i)) : PE X e (tS X.K mg W (mMove i)) := pe_imp h fun σ H Q ⟨S, ρ, rel, p⟩ => by
  unfold mMove at p
  cases hs : ρ[i]? with
  | none => simp only [hs] at p; exact p.elim
  | some s =>
    simp only [hs] at p
    have q := rel.slot i s hs
    cases s with
    | un => exact p.elim
    | giv d => exact p.elim
    | dat d =>
      cases ex : σ[i]? with
      | none => rw [ex] at q; exact False.elim q
      | some x =>
        rw [ex] at q
        cases x with
        | none => exact False.elim q
        | some v => exact ⟨v, ex, Post.ok rel p v q trivial⟩
    | lst z ds =>
      cases z with
      | false => exact p.elim
      | true =>
        obtain ⟨a, o, e1, e2, e3, e4⟩ := q.own_adr (z := true) rfl
        have ha := join_adr e1
        have q' := q
        rw [e1] at q'
        obtain ⟨vs, q1, q2, q3⟩ := q'
        obtain ⟨r2, s2⟩ := rel.drop (t := .un) (S' := S) hs rfl ha rfl (fun _ h => h) (fun _ h => .inl h) trivial
        refine ⟨.ref a, adr_get ha, p _ H s2 r2 _ ⟨a, vs, rfl, q1, q2, q3, fun ho => ?_⟩ fun b eb => ?_⟩
        · obtain ⟨j, u, z, h1, h2, h3⟩ := ho
          rcases getset h1 with ⟨rfl, rfl⟩ | ⟨hne, h1⟩
          · cases h2
          · exact hne (rel.inj j i _ _ _ _ a h1 hs h2 rfl h3 ha)
        · cases eb; exact .inr ⟨i, _, hs, rfl, ha⟩
    | dic z ds =>
      cases z with
      | false => exact p.elim
      | true =>
        obtain ⟨a, o, e1, e2, e3, e4⟩ := q.own_adr (z := true) rfl
        have ha := join_adr e1
        have q' := q
        rw [e1] at q'
        obtain ⟨vs, q1, q2, q3⟩ := q'
        obtain ⟨r2, s2⟩ := rel.drop (t := .un) (S' := S) hs rfl ha rfl (fun _ h => h) (fun _ h => .inl h) trivial
        refine ⟨.ref a, adr_get ha, p _ H s2 r2 _ ⟨a, vs, rfl, q1, q2, q3, fun ho => ?_⟩ fun b eb => ?_⟩
        · obtain ⟨j, u, z, h1, h2, h3⟩ := ho
          rcases getset h1 with ⟨rfl, rfl⟩ | ⟨hne, h1⟩
          · cases h2
          · exact hne (rel.inj j i _ _ _ _ a h1 hs h2 rfl h3 ha)
        · cases eb; exact .inr ⟨i, _, hs, rfl, ha⟩
theorem pe_bor {i : Nat} (h : PE X e (tVar i)) : PE X e (tBo X.K mg W (mBor i)) := pe_imp h fun σ H Q ⟨S, ρ, rel, p⟩ => by
  unfold mBor at p
  cases hs : ρ[i]? with
  | none => simp only [hs] at p; exact p.elim
  | some s =>
    simp only [hs] at p
    have q := rel.slot i s hs
    have go : ∀ (x : Option V), σ[i]?.join = x → x ≠ none → Post X.K mg W S ρ σ H (fun b S' ρ' H' => ∀ v, RB X.K S' σ H' v b → Q v H') (.ok (.slot i) ρ) → tVar i σ H Q := fun x hx hn p => by
      cases ex : σ[i]? with
      | none => rw [ex] at hx; exact absurd hx.symm hn
      | some y =>
        cases y with
        | none => rw [ex] at hx; exact absurd hx.symm hn
        | some v => exact ⟨v, ex, Post.ok rel p v ex⟩
    cases s with
    | un => exact p.elim
    | giv d => exact p.elim
    | dat d => exact go _ rfl (fun e => by rw [e] at q; exact q) p
    | lst z ds => exact go _ rfl (fun e => by rw [e] at q; exact q) p
    | dic z ds => exact go _ rfl (fun e => by rw [e] at q; exact q) p
theorem pe_toB {f : M Ret} (h : PE X e (tS X.K mg W f)) : PE X e (tBo X.K mg W (toB f)) := pe_imp h fun σ H Q ⟨S, ρ, rel, p⟩ => by
  refine ⟨S, ρ, rel, ?_⟩
  unfold toB at p
  cases ef : f ρ with
  | ok r ρ1 =>
    rw [ef] at p
    intro S1 H1 st r1 v hv hn
    obtain ⟨S2, st2, r2, hr, hs⟩ := RRet.val st r1 hv hn
    exact p S2 H1 st2 r2 v hr
  | exn x ρ1 => rw [ef] at p; exact p
  | no => rw [ef] at p; exact p
end
end Ev
namespace Ev
open PySem PySem.Spec PyProof.Rows L2
/-! ### operations by values -/
abbrev Live (S : AS) (H : Hp) : Prop := ∀ a, S a → ∃ o, H a = some o
inductive RRs (K : PySem.W.Frag) (H : Hp) (S : AS) : List V → List D → Prop
  | nil : RRs K H S [] []
  | cons {v : V} {vs : List V} {d : D} {ds : List D} : RR K H S v d → RRs K H S vs ds → RRs K H S (v :: vs) (d :: ds)
def rOp1 (K : PySem.W.Frag) (op : D → Option Ret) : V → Hp → VK → Prop := fun x H Q => ∃ S d r, Live S H ∧ RR K H S x d ∧ op d = some r ∧ ∀ v H', PPost K S H v H' r → Q v H'
def rOp2 (K : PySem.W.Frag) (op : D → D → Option Ret) : R2 := fun x y H Q => ∃ S d e r, Live S H ∧ RR K H S x d ∧ RR K H S y e ∧ op d e = some r ∧ ∀ v H', PPost K S H v H' r → Q v H'
def rOps (K : PySem.W.Frag) (op : List D → Option Ret) : List V → Hp → VK → Prop := fun xs H Q => ∃ S ds r, Live S H ∧ RRs K H S xs ds ∧ op ds = some r ∧ ∀ v H', PPost K S H v H' r → Q v H'
section
variable {K : PySem.W.Frag} {mg : Str → Option Value} {W : WX} {H H' H1 H2 H3 : Hp} {S S' S1 S2 S3 : AS} {ρ ρ' ρ1 ρ2 ρ3 : Rho} {σ σ' σ1 σ2 σ3 : L2.St}
theorem RB.step (t : Step S ρ σ H S' ρ' σ H') {v : V} {b : BV} (h : RB K S σ H v b) : RB K S' σ H' v b := h.stay t.stay
theorem RBs.step (t : Step S ρ σ H S' ρ' σ H') : ∀ {vs : List V} {bs : List BV}, RBs K S σ H vs bs → RBs K S' σ H' vs bs
  | [], [], _ => trivial
  | _ :: _, [], h => h.elim
  | [], _ :: _, h => h.elim
  | v :: vs, b :: bs, h => ⟨h.1.step t, RBs.step t h.2⟩
theorem RBs.read (r : Rel K S ρ σ H) : ∀ {vs : List V} {bs : List BV} {ds : List D}, RBs K S σ H vs bs → ress ρ bs = some ds → RRs K H S vs ds
  | [], [], ds, _, e => by cases e; exact .nil
  | _ :: _, [], _, h, _ => h.elim
  | [], _ :: _, _, h, _ => h.elim
  | v :: vs, b :: bs, ds, h, e => by
    unfold ress at e
    cases h1 : res ρ b with
    | none => simp only [h1] at e; cases e
    | some d =>
      simp only [h1] at e
      cases h2 : ress ρ bs with
      | none => simp only [h2] at e; cases e
      | some ds' =>
        simp only [h2] at e
        cases e
        exact .cons (h.1.read r h1) (RBs.read r h.2 h2)
/-- what a value operation gives goes on -/
theorem Post.pure (rel : Rel K S ρ σ H) {r : Ret} {Q : VK} (p : Post K mg W S ρ σ H (fun r S' ρ' H' => ∀ v, RRet K S' ρ' σ H' v r → RNew ρ σ H v r → Q v H') (.ok r ρ)) {v : V} (h : PPost K S H v H' r) : Q v H' := by
  obtain ⟨S', st, r', hr, hn⟩ := rel.pure h
  exact p S' H' st r' v hr hn
theorem un_fwd {op : D → Option Ret} {f : M BV} {Q : VK} (rel : Rel K S ρ σ H) (p : Post K mg W S ρ σ H (fun r S' ρ' H' => ∀ v, RRet K S' ρ' σ H' v r → RNew ρ σ H v r → Q v H') (mOp1 op f ρ)) :
    tBo K mg W f σ H fun x H1 => rOp1 K op x H1 Q := by
  refine ⟨S, ρ, rel, ?_⟩
  unfold mOp1 at p
  cases ef : f ρ with
  | ok b ρ1 =>
    rw [ef] at p
    intro S1 H1 st1 r1 v hv
    simp only [andThen_ok, opnd1] at p
    cases e1 : res ρ1 b with
    | none => simp only [e1] at p; exact p.elim
    | some d =>
      simp only [e1] at p
      cases e2 : op d with
      | none => simp only [e2] at p; exact p.elim
      | some r =>
        simp only [e2] at p
        refine ⟨S1, d, r, r1.live, hv.read r1 e1, e2, fun v' H' h => ?_⟩
        obtain ⟨S', st', r', hr, hn⟩ := r1.pure h
        refine p S' H' (st1.trans st') r' v' hr ?_
        cases r with
        | val _ => exact trivial
        | fl _ => exact fun a ea => (hn a ea).elim (fun q => .inl (by
            cases e : H a with
            | none => rfl
            | some o => obtain ⟨o', e'⟩ := st1.there a o e; rw [q] at e'; cases e')) fun q => (st1.ownZ a q).symm
        | fd _ => exact fun a ea => (hn a ea).elim (fun q => .inl (by
            cases e : H a with
            | none => rfl
            | some o => obtain ⟨o', e'⟩ := st1.there a o e; rw [q] at e'; cases e')) fun q => (st1.ownZ a q).symm
  | exn x ρ1 => rw [ef] at p; exact p
  | no => rw [ef] at p; exact p
theorem RNew.back (st : Step S ρ σ H S1 ρ1 σ H1) {v : V} {r : Ret} (h : RNew ρ1 σ H1 v r) : RNew ρ σ H v r := by
  have go : (∀ a, v = .ref a → H1 a = none ∨ OwnZ ρ1 σ a) → ∀ a, v = .ref a → H a = none ∨ OwnZ ρ σ a := fun hn a ea => (hn a ea).elim (fun q => .inl (by
    cases e : H a with
    | none => rfl
    | some o => obtain ⟨o', e'⟩ := st.there a o e; rw [q] at e'; cases e')) fun q => (st.ownZ a q).symm
  cases r with
  | val _ => exact trivial
  | fl _ => exact go h
  | fd _ => exact go h
theorem bin_fwd {op : D → D → Option Ret} {f g : M BV} {Q : VK} (rel : Rel K S ρ σ H) (p : Post K mg W S ρ σ H (fun r S' ρ' H' => ∀ v, RRet K S' ρ' σ H' v r → RNew ρ σ H v r → Q v H') (mOp2 op f g ρ)) :
    tBo K mg W f σ H fun x H1 => tBo K mg W g σ H1 fun y H2 => rOp2 K op x y H2 Q := by
  refine ⟨S, ρ, rel, ?_⟩
  unfold mOp2 at p
  cases ef : f ρ with
  | ok b ρ1 =>
    rw [ef] at p
    intro S1 H1 st1 r1 v hv
    simp only [andThen_ok] at p
    refine ⟨S1, ρ1, r1, ?_⟩
    cases eg : g ρ1 with
    | ok c ρ2 =>
      rw [eg] at p
      intro S2 H2 st2 r2 u hu
      simp only [andThen_ok, opnd2] at p
      cases e1 : res ρ2 b with
      | none => simp only [e1] at p; exact p.elim
      | some d =>
        cases e2 : res ρ2 c with
        | none => simp only [e1, e2] at p; exact p.elim
        | some d2 =>
          simp only [e1, e2] at p
          cases e3 : op d d2 with
          | none => simp only [e3] at p; exact p.elim
          | some r =>
            simp only [e3] at p
            refine ⟨S2, d, d2, r, r2.live, (hv.step st2).read r2 e1, hu.read r2 e2, e3, fun v' H' h => ?_⟩
            obtain ⟨S', st', r', hr, hn⟩ := r2.pure h
            exact p S' H' ((st1.trans st2).trans st') r' v' hr (hn.back (st1.trans st2))
    | exn x ρ2 => rw [eg] at p; exact fun S2 H2 cls dx st2 r2 xr => p S2 H2 cls dx (st1.trans st2) r2 xr
    | no => rw [eg] at p; exact p
  | exn x ρ1 => rw [ef] at p; exact p
  | no => rw [ef] at p; exact p
theorem ops_fwd {op : List D → Option Ret} {f : M (List BV)} {Q : VK} (rel : Rel K S ρ σ H) (p : Post K mg W S ρ σ H (fun r S' ρ' H' => ∀ v, RRet K S' ρ' σ H' v r → RNew ρ σ H v r → Q v H') (mOps op f ρ)) :
    tAr K mg W f σ H fun xs H1 => rOps K op xs H1 Q := by
  refine ⟨S, ρ, rel, ?_⟩
  unfold mOps at p
  cases ef : f ρ with
  | ok bs ρ1 =>
    rw [ef] at p
    intro S1 H1 st1 r1 vs hv
    simp only [andThen_ok, opnds] at p
    cases e1 : ress ρ1 bs with
    | none => simp only [e1] at p; exact p.elim
    | some ds =>
      simp only [e1] at p
      cases e2 : op ds with
      | none => simp only [e2] at p; exact p.elim
      | some r =>
        simp only [e2] at p
        refine ⟨S1, ds, r, r1.live, hv.read r1 e1, e2, fun v' H' h => ?_⟩
        obtain ⟨S', st', r', hr, hn⟩ := r1.pure h
        exact p S' H' (st1.trans st') r' v' hr (hn.back st1)
  | exn x ρ1 => rw [ef] at p; exact p
  | no => rw [ef] at p; exact p
end
section
variable {X : Cx} {mg : Str → Option Value} {W : WX} {e a b : Expr} {es : List Expr} {pos : Pos}
theorem pe_bin {o : Operator} {op : D → D → Option Ret} {f g : M BV} (ho : OpR X (binaryOp o) (rOp2 X.K op)) (ha : PE X a (tBo X.K mg W f)) (hb : PE X b (tBo X.K mg W g)) : PE X (.BinOp a o b pos) (tS X.K mg W (mOp2 op f g)) :=
  pe_imp (pe_op ho ha hb) fun _ _ _ ⟨_, _, rel, p⟩ => bin_fwd rel p
theorem pe_cmp2 {o : CmpOp} {op : D → D → Option Ret} {f g : M BV} (ho : OpR X (compareOp o) (rOp2 X.K op)) (ha : PE X a (tBo X.K mg W f)) (hb : PE X b (tBo X.K mg W g)) (hm : behindInMarks o b = false) : PE X (.Compare a [o] [b] pos) (tS X.K mg W (mOp2 op f g)) :=
  pe_imp (pe_cmpR ho ha hb hm) fun _ _ _ ⟨_, _, rel, p⟩ => bin_fwd rel p
theorem pe_un1 {o : UnaryOp} {op : D → Option Ret} {f : M BV} (ho : UnR X (unaryOp o) (rOp1 X.K op)) (ha : PE X a (tBo X.K mg W f)) : PE X (.UnaryOp o a pos) (tS X.K mg W (mOp1 op f)) :=
  pe_imp (pe_un ho ha) fun _ _ _ ⟨_, _, rel, p⟩ => un_fwd rel p
theorem pe_sub2 {op : D → D → Option Ret} {f g : M BV} (ho : IxR X (rOp2 X.K op)) (hp : PlainIx b) (ha : PE X a (tBo X.K mg W f)) (hb : PE X b (tBo X.K mg W g)) : PE X (.Subscript a b pos) (tS X.K mg W (mOp2 op f g)) :=
  pe_imp (pe_ix ho ha hb hp) fun _ _ _ ⟨_, _, rel, p⟩ => bin_fwd rel p
theorem pa_nilE : PA X [] (tAr X.K mg W mNil) := pa_imp pa_nil fun σ H Q ⟨S, ρ, rel, p⟩ => Post.ok rel p [] trivial
theorem pa_consE {f : M BV} {g : M (List BV)} (ha : PE X e (tBo X.K mg W f)) (hr : PA X es (tAr X.K mg W g)) (hs : starEach (e :: es) X.env = (false, eval e X.env) :: starEach es X.env) : PA X (e :: es) (tAr X.K mg W (mCons f g)) :=
  pa_imp (pa_cons ha hr hs) fun σ H Q ⟨S, ρ, rel, p⟩ => by
    refine ⟨S, ρ, rel, ?_⟩
    unfold mCons at p
    cases ef : f ρ with
    | ok b ρ1 =>
      rw [ef] at p
      intro S1 H1 st1 r1 v hv
      simp only [andThen_ok] at p
      refine ⟨S1, ρ1, r1, ?_⟩
      cases eg : g ρ1 with
      | ok c ρ2 =>
        rw [eg] at p
        exact fun S2 H2 st2 r2 vs hvs => p S2 H2 (st1.trans st2) r2 (v :: vs) ⟨hv.step st2, hvs⟩
      | exn x ρ2 => rw [eg] at p; exact fun S2 H2 cls dx st2 r2 xr => p S2 H2 cls dx (st1.trans st2) r2 xr
      | no => rw [eg] at p; exact p
    | exn x ρ1 => rw [ef] at p; exact p
    | no => rw [ef] at p; exact p
theorem pe_blt {id : String} {x : Str} {p : Pos} {op : List D → Option Ret} {f : M (List BV)} (hc : CallR X (.builtin id) (rOps X.K op)) (hg : Gl X x) (hm : X.mg x = none) (hv : bootBuiltins x = some (.builtin id)) (ha : PA X (e :: es) (tAr X.K mg W f)) (hn : x ≠ "__name__") (hdb : (x == ("__debug__" : Str)) = false)
    (he : starEach (e :: es) X.env = (false, eval e X.env) :: starEach es X.env) (hpl : (backTo pos (starEach es X.env)).any (·.1) = false) : PE X (.Call (.Name x p) (e :: es) [] pos) (tS X.K mg W (mOps op f)) :=
  pe_imp (pe_callB hc hg hm hv ha hn hdb he hpl) fun _ _ _ ⟨_, _, rel, p⟩ => ops_fwd rel p
theorem pe_bty {T : String} {x : Str} {p : Pos} {op : List D → Option Ret} {f : M (List BV)} (hc : CallR X (.type T) (rOps X.K op)) (hg : Gl X x) (hm : X.mg x = none) (hv : bootBuiltins x = some (.type T)) (ha : PA X (e :: es) (tAr X.K mg W f)) (hn : x ≠ "__name__") (hdb : (x == ("__debug__" : Str)) = false)
    (he : starEach (e :: es) X.env = (false, eval e X.env) :: starEach es X.env) (hpl : (backTo pos (starEach es X.env)).any (·.1) = false) : PE X (.Call (.Name x p) (e :: es) [] pos) (tS X.K mg W (mOps op f)) :=
  pe_imp (pe_callTy hc hg hm hv ha hn hdb he hpl) fun _ _ _ ⟨_, _, rel, p⟩ => ops_fwd rel p
/-! ### displays -/
def dTup (ds : List D) : Option Ret := if ds.length ≤ 16777216 then some (.val (.tuple ds)) else none
def dLst (ds : List D) : Option Ret := if ds.length ≤ 16777216 then some (.fl ds) else none
end
end Ev
namespace Ev
open PySem PySem.Spec PyProof.Rows L2
/-! ### displays, truth, and, or, not -/
def valsOf : List BV → Option (List D)
  | [] => some []
  | .val d :: bs => match valsOf bs with
    | some ds => some (d :: ds)
    | none => none
  | .slot _ :: _ => none
def mTup (f : M (List BV)) : M Ret := fun ρ => (f ρ).andThen fun bs ρ' => match valsOf bs with
  | some ds => if ds.length ≤ 16777216 then .ok (.val (.tuple ds)) ρ' else .no
  | none => .no
def mLst (f : M (List BV)) : M Ret := fun ρ => (f ρ).andThen fun bs ρ' => match valsOf bs with
  | some ds => if ds.length ≤ 16777216 then .ok (.fl ds) ρ' else .no
  | none => .no
def truth : D → Option Bool
  | .none => some false
  | .bool b => some b
  | .int i => some (i != 0)
  | .str x => if x.length ≤ 16777216 then some ((x.length : Int) != 0) else none
  | .list ds => some (!ds.isEmpty)
  | .tuple ds => some (!ds.isEmpty)
  | .dict ds => some (!ds.isEmpty)
def mTru (f : M BV) : M Bool := fun ρ => (f ρ).andThen fun b ρ' => match res ρ' b with
  | some d => match truth d with
    | some k => .ok k ρ'
    | none => .no
  | none => .no
def mNotT (f : M Bool) : M Bool := fun ρ => (f ρ).andThen fun k ρ' => .ok (!k) ρ'
def mAndT (f g : M Bool) : M Bool := fun ρ => (f ρ).andThen fun k ρ' => if k = true then g ρ' else .ok false ρ'
def mOrT (f g : M Bool) : M Bool := fun ρ => (f ρ).andThen fun k ρ' => if k = true then .ok true ρ' else g ρ'
def mIfE {α : Type} (c : M Bool) (f g : M α) : M α := fun ρ => (c ρ).andThen fun k ρ' => if k = true then f ρ' else g ρ'
def mNotV (f : M BV) : M Ret := fun ρ => (f ρ).andThen fun b ρ' => match res ρ' b with
  | some d => match truth d with
    | some k => .ok (.val (.bool (!k))) ρ'
    | none => .no
  | none => .no
def mAndV (f g : M Ret) : M Ret := fun ρ => (f ρ).andThen fun r ρ' => match truth r.toD with
  | some true => g ρ'
  | some false => .ok r ρ'
  | none => .no
def mOrV (f g : M Ret) : M Ret := fun ρ => (f ρ).andThen fun r ρ' => match truth r.toD with
  | some false => g ρ'
  | some true => .ok r ρ'
  | none => .no
def mChain (op op' : D → D → Option Bool) (f g h : M BV) : M Ret := fun ρ => (f ρ).andThen fun a ρ1 => (g ρ1).andThen fun b ρ2 => match res ρ2 a, res ρ2 b with
  | some d, some e => match op d e with
    | some true => (h ρ2).andThen fun c ρ3 => match res ρ3 b, res ρ3 c with
      | some e', some e2 => match op' e' e2 with
        | some k => .ok (.val (.bool k)) ρ3
        | none => .no
      | _, _ => .no
    | some false => .ok (.val (.bool false)) ρ2
    | none => .no
  | _, _ => .no
section
variable {K : PySem.W.Frag} {mg : Str → Option Value} {W : WX} {H H' H1 H2 H3 : Hp} {S S' S1 S2 S3 : AS} {ρ ρ' ρ1 ρ2 ρ3 : Rho} {σ σ' σ1 σ2 σ3 : L2.St}
theorem line_eq : (sizeLine : Nat) = 16777216 := by rw [sizeLine_eq]
theorem RBs.vals : ∀ {vs : List V} {bs : List BV} {ds : List D}, RBs K S σ H vs bs → valsOf bs = some ds → RAll K H S vs ds
  | [], [], ds, _, e => by cases e; exact .nil
  | _ :: _, [], _, h, _ => h.elim
  | [], _ :: _, _, h, _ => h.elim
  | v :: vs, .slot _ :: bs, ds, h, e => by cases e
  | v :: vs, .val d :: bs, ds, h, e => by
    unfold valsOf at e
    cases h2 : valsOf bs with
    | none => simp only [h2] at e; cases e
    | some ds' =>
      simp only [h2] at e
      cases e
      exact .cons h.1 (RBs.vals h.2 h2)
theorem isEmpty_of_length {α β : Type} {xs : List α} {ys : List β} (h : xs.length = ys.length) : xs.isEmpty = ys.isEmpty := by
  cases xs <;> cases ys <;> simp at h ⊢
theorem truth_ok {v : V} {d : D} {k : Bool} (h : RR K H S v d) (e : truth d = some k) : TruV K v H k := by
  cases d with
  | none => cases h.none; cases e; rfl
  | bool b => cases h.bool; cases e; rfl
  | int i => cases h.int; cases e; rfl
  | str x =>
    cases h.str
    have e : (if x.length ≤ 16777216 then some ((x.length : Int) != 0) else none) = some k := e
    split at e
    · rename_i hl
      cases e
      exact ⟨by rw [line_eq]; exact hl, rfl⟩
    · cases e
  | list ds =>
    obtain ⟨a, vs, rfl, hs, ha⟩ := h.list
    cases e
    exact .inl ⟨vs, .inl (.inl hs), by rw [isEmpty_of_length ha.length]⟩
  | tuple ds =>
    obtain ⟨a, vs, rfl, hs, ha⟩ := h.tuple
    cases e
    exact .inr (.inl ⟨vs, hs, by rw [isEmpty_of_length ha.length]⟩)
  | dict ds =>
    obtain ⟨a, vs, rfl, hs, ha⟩ := h.dict
    cases e
    exact .inr (.inr ⟨vs, hs, by rw [isEmpty_of_length ha.length]⟩)
theorem RRet.read {v : V} {r : Ret} (h : RRet K S ρ σ H v r) : RR K H S v r.toD := by
  cases r with
  | val d => exact .of h
  | fl ds => obtain ⟨a, vs, rfl, ha, ns, hr, no⟩ := h; exact .lst ha hr
  | fd ds => obtain ⟨a, vs, rfl, ha, ns, hr, no⟩ := h; exact .dic ha hr
/-- from an outcome's post, the state behind it -/
theorem Post.at {α : Type} {P : α → AS → Rho → Hp → Prop} {o : Out α} (p : Post K mg W S ρ σ H P o) : Post K mg W S ρ σ H (fun a S' ρ' H' => Step S ρ σ H S' ρ' σ H' ∧ Rel K S' ρ' σ H' ∧ P a S' ρ' H' ∧ o = .ok a ρ') o := by
  cases o with
  | ok a ρ1 => exact fun S1 H1 st r => ⟨st, r, p S1 H1 st r, rfl⟩
  | exn x ρ1 => exact p
  | no => exact p
/-- the later part of an outcome from an earlier state -/
theorem Post.from {α : Type} {P : α → AS → Rho → Hp → Prop} {o : Out α} (p : Post K mg W S ρ σ H P o) (st : Step S ρ σ H S1 ρ1 σ H1) : Post K mg W S1 ρ1 σ H1 P o := by
  cases o with
  | ok a ρ2 => exact fun S2 H2 st2 r2 => p S2 H2 (st.trans st2) r2
  | exn x ρ2 => exact fun S2 H2 cls dx st2 r2 xr => p S2 H2 cls dx (st.trans st2) r2 xr
  | no => exact p
/-- the two halves of andThen -/
theorem Post.and {α β : Type} {o : Out α} {f : α → Rho → Out β} {P : β → AS → Rho → Hp → Prop} {P' : α → AS → Rho → Hp → Prop} (p : Post K mg W S ρ σ H P (o.andThen f))
    (h : ∀ a S1 ρ1 H1, Step S ρ σ H S1 ρ1 σ H1 → Rel K S1 ρ1 σ H1 → Post K mg W S ρ σ H P (f a ρ1) → P' a S1 ρ1 H1) : Post K mg W S ρ σ H P' o := by
  cases o with
  | ok a ρ1 => exact fun S1 H1 st r => h a S1 ρ1 H1 st r p
  | exn x ρ1 => exact p
  | no => exact p
end
section
variable {X : Cx} {mg : Str → Option Value} {W : WX} {e a b c : Expr} {es : List Expr} {pos : Pos}
theorem pe_tupE {f : M (List BV)} {x1} (h : PA X es (tAr X.K mg W f)) : PE X (.Tuple es x1 pos) (tS X.K mg W (mTup f)) := pe_imp (pe_tup h) fun σ H Q ⟨S, ρ, rel, p⟩ => by
  refine ⟨S, ρ, rel, Post.and p fun bs S1 ρ1 H1 st1 r1 p vs hvs => ?_⟩
  cases e : valsOf bs with
  | none => simp only [e] at p; exact p.elim
  | some ds =>
    simp only [e] at p
    have ra := hvs.vals e
    by_cases hl : ds.length ≤ 16777216
    · rw [if_pos hl] at p
      refine ⟨by rw [ra.length, line_eq]; exact hl, fun q hq => ?_⟩
      obtain ⟨r2, s2⟩ := r1.grow (o := .tup vs) hq
      exact p _ _ (st1.trans s2) r2 _ (.tup (.inl (.inl upd_same)) (.inl (.inr rfl)) (ra.stay s2.stay)) trivial
    · rw [if_neg hl] at p; exact p.elim
theorem pe_lstE {f : M (List BV)} (h : PA X es (tAr X.K mg W f)) : PE X (.List es pos) (tS X.K mg W (mLst f)) := pe_imp (pe_lst h) fun σ H Q ⟨S, ρ, rel, p⟩ => by
  refine ⟨S, ρ, rel, Post.and p fun bs S1 ρ1 H1 st1 r1 p vs hvs => ?_⟩
  cases e : valsOf bs with
  | none => simp only [e] at p; exact p.elim
  | some ds =>
    simp only [e] at p
    have ra := hvs.vals e
    by_cases hl : ds.length ≤ 16777216
    · rw [if_pos hl] at p
      refine ⟨by rw [ra.length, line_eq]; exact hl, fun q hq => ?_⟩
      obtain ⟨r2, s2, nS, nO⟩ := r1.fresh (o := .lst vs) hq
      refine p _ _ (st1.trans s2) r2 _ ⟨q, vs, rfl, upd_same, nS, ra.stay s2.stay, nO⟩ fun b eb => ?_
      cases eb
      refine .inl ?_
      cases e : H q with
      | none => rfl
      | some o => obtain ⟨o', e'⟩ := st1.there q o e; rw [hq] at e'; cases e'
    · rw [if_neg hl] at p; exact p.elim
theorem pt_tru {f : M BV} (h : PE X e (tBo X.K mg W f)) (he : ∀ whole, isTrue e X.env whole = (do let v ← whole; standAt e.pos; holding [v] (truthy v))) : PT X e (tTe X.K mg W (mTru f)) :=
  pt_imp (pt_truth h he) fun σ H Q ⟨S, ρ, rel, p⟩ => by
    refine ⟨S, ρ, rel, Post.and p fun b S1 ρ1 H1 st1 r1 p v hv => ?_⟩
    cases e1 : res ρ1 b with
    | none => simp only [e1] at p; exact p.elim
    | some d =>
      simp only [e1] at p
      cases e2 : truth d with
      | none => simp only [e2] at p; exact p.elim
      | some k =>
        simp only [e2] at p
        exact ⟨k, truth_ok (hv.read r1 e1) e2, p S1 H1 st1 r1⟩
theorem pt_notE {f : M Bool} (h : PT X e (tTe X.K mg W f)) : PT X (.UnaryOp .Not e pos) (tTe X.K mg W (mNotT f)) :=
  pt_imp (pt_not h) fun σ H Q ⟨S, ρ, rel, p⟩ => ⟨S, ρ, rel, Post.and p fun b S1 ρ1 H1 st1 r1 p => p S1 H1 st1 r1⟩
theorem pw_imp {t t' : TT} (h : PW X e t) (i : ∀ σ H Q, t' σ H Q → t σ H Q) : PW X e t' := ⟨fun wh pins s σ H Q I q => h.run wh pins s σ H Q I (i σ H Q q)⟩
theorem pw_andE {f g : M Bool} {rest : List Expr} (ha : PT X a (tTe X.K mg W f)) (hb : PW X (.BoolOp .And (b :: rest) pos) (tTe X.K mg W g)) : PW X (.BoolOp .And (a :: b :: rest) pos) (tTe X.K mg W (mAndT f g)) :=
  pw_imp (pw_and ha hb) fun σ H Q ⟨S, ρ, rel, p⟩ => ⟨S, ρ, rel, Post.and p fun k S1 ρ1 H1 st1 r1 p => by
    cases k with
    | true => exact ⟨S1, ρ1, r1, Post.from p st1⟩
    | false => exact p S1 H1 st1 r1⟩
theorem pw_orE {f g : M Bool} {rest : List Expr} (ha : PT X a (tTe X.K mg W f)) (hb : PW X (.BoolOp .Or (b :: rest) pos) (tTe X.K mg W g)) : PW X (.BoolOp .Or (a :: b :: rest) pos) (tTe X.K mg W (mOrT f g)) :=
  pw_imp (pw_or ha hb) fun σ H Q ⟨S, ρ, rel, p⟩ => ⟨S, ρ, rel, Post.and p fun k S1 ρ1 H1 st1 r1 p => by
    cases k with
    | true => exact p S1 H1 st1 r1
    | false => exact ⟨S1, ρ1, r1, Post.from p st1⟩⟩
theorem RNew.from (st : Step S ρ σ H S1 ρ1 σ H1) {v : V} {r : Ret} (h : RNew ρ1 σ H1 v r) : RNew ρ σ H v r := h.back st
theorem tS_from {K : PySem.W.Frag} {f : M Ret} {S S1 : AS} {ρ ρ1 : Rho} {σ : L2.St} {H H1 : Hp} {Q : VK} (st : Step S ρ σ H S1 ρ1 σ H1) (r1 : Rel K S1 ρ1 σ H1)
    (p : Post K mg W S ρ σ H (fun r S' ρ' H' => ∀ v, RRet K S' ρ' σ H' v r → RNew ρ σ H v r → Q v H') (f ρ1)) : tS K mg W f σ H1 Q :=
  ⟨S1, ρ1, r1, (Post.from p st).imp fun r S2 ρ2 H2 st2 r2 q v hv hn => q v hv (hn.back st)⟩
theorem pe_ifE {t : M Bool} {f g : M Ret} (hc : PT X c (tTe X.K mg W t)) (ha : PE X a (tS X.K mg W f)) (hb : PE X b (tS X.K mg W g)) : PE X (.IfExp c a b pos) (tS X.K mg W (mIfE t f g)) :=
  pe_imp (pe_ifExp hc ha hb) fun σ H Q ⟨S, ρ, rel, p⟩ => ⟨S, ρ, rel, Post.and p fun k S1 ρ1 H1 st1 r1 p => by
    cases k with
    | true => exact tS_from st1 r1 p
    | false => exact tS_from st1 r1 p⟩
theorem pe_notE {f : M BV} (h : PE X e (tBo X.K mg W f)) : PE X (.UnaryOp .Not e pos) (tS X.K mg W (mNotV f)) :=
  pe_imp (pe_notT h) fun σ H Q ⟨S, ρ, rel, p⟩ => by
    refine ⟨S, ρ, rel, Post.and p fun b S1 ρ1 H1 st1 r1 p v hv => ?_⟩
    cases e1 : res ρ1 b with
    | none => simp only [e1] at p; exact p.elim
    | some d =>
      simp only [e1] at p
      cases e2 : truth d with
      | none => simp only [e2] at p; exact p.elim
      | some k =>
        simp only [e2] at p
        exact ⟨k, truth_ok (hv.read r1 e1) e2, p S1 H1 st1 r1 _ (.bl _) trivial⟩
theorem pe_andE {f g : M Ret} {rest : List Expr} (ha : PE X a (tS X.K mg W f)) (hb : PE X (.BoolOp .And (b :: rest) pos) (tS X.K mg W g)) : PE X (.BoolOp .And (a :: b :: rest) pos) (tS X.K mg W (mAndV f g)) :=
  pe_imp (pe_andT ha hb) fun σ H Q ⟨S, ρ, rel, p⟩ => by
    refine ⟨S, ρ, rel, Post.and p fun r S1 ρ1 H1 st1 r1 p v hv hn => ?_⟩
    cases e2 : truth r.toD with
    | none => simp only [e2] at p; exact p.elim
    | some k =>
      refine ⟨k, truth_ok hv.read e2, ?_⟩
      cases k with
      | true => simp only [e2] at p; exact tS_from st1 r1 p
      | false => simp only [e2] at p; exact p S1 H1 st1 r1 v hv hn
theorem pe_orE {f g : M Ret} {rest : List Expr} (ha : PE X a (tS X.K mg W f)) (hb : PE X (.BoolOp .Or (b :: rest) pos) (tS X.K mg W g)) : PE X (.BoolOp .Or (a :: b :: rest) pos) (tS X.K mg W (mOrV f g)) :=
  pe_imp (pe_orT ha hb) fun σ H Q ⟨S, ρ, rel, p⟩ => by
    refine ⟨S, ρ, rel, Post.and p fun r S1 ρ1 H1 st1 r1 p v hv hn => ?_⟩
    cases e2 : truth r.toD with
    | none => simp only [e2] at p; exact p.elim
    | some k =>
      refine ⟨k, truth_ok hv.read e2, ?_⟩
      cases k with
      | false => simp only [e2] at p; exact tS_from st1 r1 p
      | true => simp only [e2] at p; exact p S1 H1 st1 r1 v hv hn
/-- a comparison of two, to a bool -/
def rCmp (K : PySem.W.Frag) (op : D → D → Option Bool) : R2 := fun x y H Q => ∃ S d e k, Live S H ∧ RR K H S x d ∧ RR K H S y e ∧ op d e = some k ∧ Q (.bl k) H
def cmpRet (op : D → D → Option Bool) (d e : D) : Option Ret := match op d e with
  | some k => some (.val (.bool k))
  | none => none
theorem rCmp.op2 {f : Value → Value → Sem Value} {op : D → D → Option Bool} (h : OpR X f (rCmp X.K op)) : OpR X f (rOp2 X.K (cmpRet op)) := by
  intro pins s σ H x y v u Q I rx ry hh
  obtain ⟨S, d, e, r, lv, h1, h2, h3, q⟩ := hh
  unfold cmpRet at h3
  cases e1 : op d e with
  | none => simp only [e1] at h3; cases h3
  | some k =>
    simp only [e1] at h3
    cases h3
    exact h pins s σ H x y v u Q I rx ry ⟨S, d, e, k, lv, h1, h2, e1, q _ H ⟨S, .refl, .bl k⟩⟩
theorem chain_fwd {K : PySem.W.Frag} {op op' : D → D → Option Bool} {f g h : M BV} {S : AS} {ρ : Rho} {σ : L2.St} {H : Hp} {Q : VK} (rel : Rel K S ρ σ H)
    (p : Post K mg W S ρ σ H (fun r S' ρ' H' => ∀ v, RRet K S' ρ' σ H' v r → RNew ρ σ H v r → Q v H') (mChain op op' f g h ρ)) : tChain (rCmp K op) (rCmp K op') (tBo K mg W f) (tBo K mg W g) (tBo K mg W h) σ H Q := by
  refine ⟨S, ρ, rel, Post.and p fun ba S1 ρ1 H1 st1 r1 p v hv => ?_⟩
  refine ⟨S1, ρ1, r1, Post.and (Post.from p st1) fun bb S2 ρ2 H2 st2 r2 p u hu => ?_⟩
  cases e1 : res ρ2 ba with
  | none => simp only [e1] at p; exact p.elim
  | some d =>
    cases e2 : res ρ2 bb with
    | none => simp only [e1, e2] at p; exact p.elim
    | some d2 =>
      simp only [e1, e2] at p
      cases e3 : op d d2 with
      | none => simp only [e3] at p; exact p.elim
      | some k =>
        simp only [e3] at p
        refine ⟨S2, d, d2, k, r2.live, (hv.step st2).read r2 e1, hu.read r2 e2, e3, k, rfl, ?_⟩
        cases k with
        | false => exact p S2 H2 st2 r2 _ (.bl _) trivial
        | true =>
          refine ⟨S2, ρ2, r2, Post.and (Post.from p st2) fun bc S3 ρ3 H3 st3 r3 p w hw => ?_⟩
          cases e4 : res ρ3 bb with
          | none => simp only [e4] at p; exact p.elim
          | some d3 =>
            cases e5 : res ρ3 bc with
            | none => simp only [e4, e5] at p; exact p.elim
            | some d4 =>
              simp only [e4, e5] at p
              cases e6 : op' d3 d4 with
              | none => simp only [e6] at p; exact p.elim
              | some k =>
                simp only [e6] at p
                exact ⟨S3, d3, d4, k, r3.live, (hu.step st3).read r3 e4, hw.read r3 e5, e6, p S3 H3 st3 r3 _ (.bl _) trivial⟩
theorem pe_chainE {o o' : CmpOp} {op op' : D → D → Option Bool} {f g h : M BV} (ha : PE X a (tBo X.K mg W f)) (hb : PE X b (tBo X.K mg W g)) (hc : PE X c (tBo X.K mg W h))
    (hx : ∀ (ta tb tc : TE), PE X a ta → PE X b tb → PE X c tc → PE X (.Compare a [o, o'] [b, c] pos) (tChain (rCmp X.K op) (rCmp X.K op') ta tb tc)) : PE X (.Compare a [o, o'] [b, c] pos) (tS X.K mg W (mChain op op' f g h)) :=
  pe_imp (hx _ _ _ ha hb hc) fun _ _ _ ⟨_, _, rel, p⟩ => chain_fwd rel p
end
end Ev
namespace Ev
open PySem PySem.Spec PyProof.Rows L2
/-! ### what the operators give -/
def mulOk (i j : Int) : Bool := decide (j.natAbs < 2 ^ 63) || decide (i.natAbs < 2 ^ 63) || decide (i.natAbs.log2 + j.natAbs.log2 < 1000000)
def opAdd : D → D → Option Ret
  | .int i, .int j => some (.val (.int (i + j)))
  | .tuple xs, .tuple ys => if xs.length + ys.length ≤ 16777216 then some (.val (.tuple (xs ++ ys))) else none
  | .list xs, .list ys => if xs.length + ys.length ≤ 16777216 then some (.fl (xs ++ ys)) else none
  | .str x, .str y => if x.length + y.length ≤ 16777216 then some (.val (.str (x ++ y))) else none
  | _, _ => none
def opSub : D → D → Option Ret
  | .int i, .int j => some (.val (.int (i - j)))
  | _, _ => none
def opMul : D → D → Option Ret
  | .int i, .int j => if mulOk i j = true then some (.val (.int (i * j))) else none
  | .list xs, .int k => if -(2 ^ 63) ≤ k ∧ k < 2 ^ 63 ∧ xs.length * k.toNat ≤ 16777216 then some (.fl (List.replicate k.toNat xs).flatten) else none
  | _, _ => none
def opDiv : D → D → Option Ret
  | .int i, .int j => if 0 < j ∧ j.natAbs.log2 < 9000 then some (.val (.int (i / j))) else none
  | _, _ => none
def opMod : D → D → Option Ret
  | .int i, .int j => if 0 < j then some (.val (.int (i % j))) else none
  | _, _ => none
def opPow : D → D → Option Ret
  | .int i, .int j => if 0 ≤ j ∧ ((i.natAbs.log2 : Int) + 1) * j ≤ 2 ^ 27 then some (.val (.int (i ^ j.toNat))) else none
  | _, _ => none
def opNeg : D → Option Ret
  | .int i => some (.val (.int (-i)))
  | _ => none
def depthLe (d e : D) : Bool := decide (min d.depth e.depth ≤ 60)
def cEq (d e : D) : Option Bool := if d.plain = true ∧ e.plain = true ∧ depthLe d e = true then some (PyData.eqv d e) else none
def cNe (d e : D) : Option Bool := if d.plain = true ∧ e.plain = true ∧ depthLe d e = true then some (!PyData.eqv d e) else none
def cmpOk (d e : D) : Bool := PySem.W.alike d e && depthLe d e && (match d with | .none => false | _ => true) && d.plain && e.plain
def cLt (d e : D) : Option Bool := match d, e with
  | .int i, .int j => some (decide (i < j))
  | _, _ => if cmpOk d e = true then some (PySem.W.dataLt d e) else none
def cGt (d e : D) : Option Bool := match d, e with
  | .int i, .int j => some (decide (j < i))
  | _, _ => if cmpOk d e = true then some (PySem.W.dataLt e d) else none
def cLe (d e : D) : Option Bool := match d, e with
  | .int i, .int j => some (decide (i ≤ j))
  | _, _ => if cmpOk d e = true then some (!PySem.W.dataLt e d) else none
def cGe (d e : D) : Option Bool := match d, e with
  | .int i, .int j => some (decide (j ≤ i))
  | _, _ => if cmpOk d e = true then some (!PySem.W.dataLt d e) else none
def inOk (x : D) (ds : List D) : Bool := x.plain && PyData.plainAll ds && decide (min (PyData.depthAll ds) x.depth ≤ 60)
def hasKey (kvs : List (D × D)) (k : Key) : Bool := kvs.any fun p => decide (keyOf p.1 = some k)
def cIn (x c : D) : Option Bool := match c with
  | .list ds => if inOk x ds = true then some (ds.any fun y => PyData.eqv y x) else none
  | .tuple ds => if inOk x ds = true then some (ds.any fun y => PyData.eqv y x) else none
  | .dict kvs => match keyOf x with
    | some k => some (hasKey kvs k)
    | none => none
  | _ => none
def cNotIn (x c : D) : Option Bool := match cIn x c with
  | some k => some (!k)
  | none => none
def cIsNone (x c : D) : Option Bool := match c, x with
  | .none, .none => some true
  | .none, _ => some false
  | _, _ => none
def cNotNone (x c : D) : Option Bool := match cIsNone x c with
  | some k => some (!k)
  | none => none
section
variable {K : PySem.W.Frag} {H H' : Hp} {S S' : AS}
section
variable {X : Cx} {pins : List (Addr × Obj)} {σ : L2.St} {s : Shared}
mutual
theorem R.reads (I : Inv X pins σ H s) : ∀ (d : D) (v : V) (u : Value), R X.K H S v d → RelV v u → d.plain = true → ∃ as, Reads s.heap u d as
  | .none, _, _, h, r, _ => by cases h; cases r; exact ⟨_, Reads.none⟩
  | .bool b, _, _, h, r, _ => by cases h; cases r; exact ⟨_, Reads.bool b⟩
  | .int i, _, _, h, r, _ => by cases h; obtain ⟨t, rfl⟩ := r; exact ⟨_, Reads.int i t⟩
  | .str x, _, _, h, r, _ => by cases h; obtain ⟨t, rfl⟩ := r; exact ⟨_, Reads.str x t⟩
  | .list ds, _, _, h, r, p => by
    cases h with
    | lst hs hm ha =>
      cases r
      obtain ⟨its, rv, ⟨o, n, ho, hc, _, hd⟩, _⟩ := I.list (.inl (.inl hs))
      obtain ⟨as, hr⟩ := RAll.reads I ds _ its ha rv (by simpa [PyData.plain] using p)
      exact ⟨_, Reads.list ho hc hd hr⟩
  | .tuple ds, _, _, h, r, p => by
    cases h with
    | tup hs hm ha =>
      cases r
      obtain ⟨its, rv, ⟨o, ho, hc, n, hd⟩, _⟩ := I.tuple hs
      obtain ⟨as, hr⟩ := RAll.reads I ds _ its ha rv (by simpa [PyData.plain] using p)
      exact ⟨_, Reads.tuple ho hc hd hr⟩
  | .dict _, _, _, h, _, p => by simp [PyData.plain] at p
theorem RAll.reads (I : Inv X pins σ H s) : ∀ (ds : List D) (vs : List V) (us : List Value), RAll X.K H S vs ds → Vals vs us → PyData.plainAll ds = true → ∃ as, ReadsAll s.heap us ds as
  | [], _, _, h, r, _ => by cases h; cases r; exact ⟨_, ReadsAll.nil⟩
  | d :: ds, _, _, h, r, p => by
    cases h with
    | cons h1 h2 =>
      cases r with
      | cons r1 r2 =>
        simp only [PyData.plainAll, Bool.and_eq_true] at p
        obtain ⟨as, q1⟩ := R.reads I d _ _ h1 r1 p.1
        obtain ⟨bs, q2⟩ := RAll.reads I ds _ _ h2 r2 p.2
        exact ⟨_, ReadsAll.cons q1 q2⟩
end
theorem RR.reads (I : Inv X pins σ H s) {d : D} {v : V} {u : Value} (h : RR X.K H S v d) (r : RelV v u) (p : d.plain = true) : ∃ as, Reads s.heap u d as := by
  cases h with
  | of h => exact h.reads I d v u r p
  | lst h a =>
    cases r
    obtain ⟨its, rv, ⟨o, n, ho, hc, _, hd⟩, _⟩ := I.list (.inl (.inl h))
    obtain ⟨as, hr⟩ := a.reads I _ _ its rv (by simpa [PyData.plain] using p)
    exact ⟨_, Reads.list ho hc hd hr⟩
  | dic h a => simp [PyData.plain] at p
end
theorem not_live (l : Live S H) {p : Addr} (hp : H p = none) : ¬ S p := fun h => by
  obtain ⟨o, e⟩ := l p h
  rw [hp] at e
  cases e
theorem PPost.flat {v : V} {d : D} (h : R K H S v d) : PPost K S H v H (.val d) := ⟨S, .refl, h⟩
theorem PPost.tup {p : Addr} {vs : List V} {ds : List D} (hp : H p = none) (l : Live S H) (h : RAll K H S vs ds) : PPost K S H (.ref p) (upd H p (.tup vs)) (.val (.tuple ds)) :=
  ⟨_, Ext.one hp, .tup (.inl (.inl upd_same)) (.inl (.inr rfl)) (h.stay ((Ext.one hp).stay l))⟩
theorem PPost.lst {p : Addr} {vs : List V} {ds : List D} (hp : H p = none) (l : Live S H) (h : RAll K H S vs ds) : PPost K S H (.ref p) (upd H p (.lst vs)) (.fl ds) :=
  ⟨S, p, vs, Ext.lay hp, rfl, hp, upd_same, not_live l hp, h.stay ((Ext.lay hp).stay l)⟩
end
section
variable {X : Cx}
theorem or_sub : OpR X (binaryOp .Sub) (rOp2 X.K opSub) := by
  intro pins s σ H x y v u Q I rx ry ⟨S, d, e, r, lv, h1, h2, h3, q⟩
  unfold opSub at h3
  split at h3
  · cases h1.int; cases h2.int; cases h3
    exact op_sub pins s σ H _ _ v u Q I rx ry ⟨_, _, rfl, rfl, q _ H (.flat (.int _))⟩
  · cases h3
theorem or_mod : OpR X (binaryOp .Mod) (rOp2 X.K opMod) := by
  intro pins s σ H x y v u Q I rx ry ⟨S, d, e, r, lv, h1, h2, h3, q⟩
  unfold opMod at h3
  split at h3
  · split at h3
    · rename_i hj
      cases h1.int; cases h2.int; cases h3
      exact op_mod pins s σ H _ _ v u Q I rx ry ⟨_, _, rfl, rfl, hj, q _ H (.flat (.int _))⟩
    · cases h3
  · cases h3
theorem or_div : OpR X (binaryOp .FloorDiv) (rOp2 X.K opDiv) := by
  intro pins s σ H x y v u Q I rx ry ⟨S, d, e, r, lv, h1, h2, h3, q⟩
  unfold opDiv at h3
  split at h3
  · split at h3
    · rename_i hj
      cases h1.int; cases h2.int; cases h3
      exact op_fdivW pins s σ H _ _ v u Q I rx ry ⟨_, _, rfl, rfl, hj, q _ H (.flat (.int _))⟩
    · cases h3
  · cases h3
theorem bits_le (i : Int) : Builtin.Int.intBits i ≤ i.natAbs.log2 + 1 := by
  unfold Builtin.Int.intBits
  split <;> omega
theorem or_pow : OpR X (binaryOp .Pow) (rOp2 X.K opPow) := by
  intro pins s σ H x y v u Q I rx ry ⟨S, d, e, r, lv, h1, h2, h3, q⟩
  unfold opPow at h3
  split at h3
  · rename_i i j
    split at h3
    · rename_i hj
      cases h1.int; cases h2.int; cases h3
      obtain ⟨t, rfl⟩ := rx
      obtain ⟨t', rfl⟩ := ry
      refine pow_int hj.1 (Int.le_trans (Int.mul_le_mul_of_nonneg_right ?_ hj.1) hj.2) ⟨.int _, H, I.tok _, ⟨_, rfl⟩, q _ H (.flat (.int _))⟩
      have := bits_le i
      omega
    · cases h3
  · cases h3
theorem log2_63 {n : Nat} (h : n < 2 ^ 63) : n.log2 < 63 := by
  by_cases h0 : n = 0
  · subst h0; decide
  · exact (Nat.log2_lt h0).mpr h
theorem mulOk_ok {i j : Int} (h : mulOk i j = true) : IntMulOk i j := by
  unfold mulOk at h
  simp only [Bool.or_eq_true, decide_eq_true_eq] at h
  rcases h with (h | h) | h
  · have h1 := log2_63 h
    have h2 := bits_le j
    exact .of_right (by omega)
  · have h1 := log2_63 h
    have h2 := bits_le i
    exact .of_left (by omega)
  · exact CMulW.ok h
theorem or_mul : OpR X (binaryOp .Mult) (rOp2 X.K opMul) := by
  intro pins s σ H x y v u Q I rx ry ⟨S, d, e, r, lv, h1, h2, h3, q⟩
  unfold opMul at h3
  split at h3
  · split at h3
    · rename_i hj
      cases h1.int; cases h2.int; cases h3
      obtain ⟨t, rfl⟩ := rx
      obtain ⟨t', rfl⟩ := ry
      exact mul_int ⟨.int _, H, I.tok _, ⟨_, rfl⟩, q _ H (.flat (.int _))⟩ (mulOk_ok hj)
    · cases h3
  · split at h3
    · rename_i hj
      cases h2.int; cases h3
      obtain ⟨a, vs, rfl, hs, ha⟩ := h1.list
      exact op_rep pins s σ H _ _ v u Q I rx ry ⟨_, _, _, rfl, rfl, hs, hj.1, hj.2.1, by rw [ha.length, line_eq]; exact hj.2.2, fun p hp => q _ _ (.lst hp lv (ha.flat _))⟩
    · cases h3
  · cases h3
theorem or_add : OpR X (binaryOp .Add) (rOp2 X.K opAdd) := by
  intro pins s σ H x y v u Q I rx ry ⟨S, d, e, r, lv, h1, h2, h3, q⟩
  unfold opAdd at h3
  split at h3
  · cases h1.int; cases h2.int; cases h3
    exact op_add pins s σ H _ _ v u Q I rx ry ⟨_, _, rfl, rfl, q _ H (.flat (.int _))⟩
  · rename_i xs ys
    split at h3
    · rename_i hl
      cases h3
      cases h1 with
      | of h1 =>
        cases h2 with
        | of h2 =>
          cases h1 with
          | tup hs hm ha =>
            cases h2 with
            | tup hs2 hm2 ha2 =>
              refine op_catA pins s σ H _ _ v u Q I rx ry ⟨_, _, _, _, rfl, rfl, hs, hs2, by rw [ha.length, ha2.length, line_eq]; exact hl, fun e => ?_, fun _ e => ?_, fun _ _ p hp => q _ _ (.tup hp lv (ha.append ha2))⟩
              · subst e
                cases ha
                exact q _ H (.flat (.tup hs2 hm2 ha2))
              · subst e
                cases ha2
                rw [List.append_nil] at q
                exact q _ H (.flat (.tup hs hm ha))
    · cases h3
  · split at h3
    · rename_i hl
      cases h3
      obtain ⟨a, vs, rfl, hs, ha⟩ := h1.list
      obtain ⟨b, ws, rfl, hs2, ha2⟩ := h2.list
      exact op_cat pins s σ H _ _ v u Q I rx ry ⟨_, _, _, _, rfl, rfl, hs, hs2, by rw [ha.length, ha2.length, line_eq]; exact hl, fun p hp => q _ _ (.lst hp lv (ha.append ha2))⟩
    · cases h3
  · split at h3
    · rename_i hl
      cases h3
      cases h1.str; cases h2.str
      exact op_add_str pins s σ H _ _ v u Q I rx ry ⟨_, _, rfl, rfl, by rw [line_eq]; exact hl, q _ H (.flat (.str _))⟩
    · cases h3
  · cases h3
theorem or_neg : UnR X (unaryOp .USub) (rOp1 X.K opNeg) := by
  intro pins s σ H x v Q I rx ⟨S, d, r, lv, h1, h3, q⟩
  unfold opNeg at h3
  split at h3
  · cases h1.int; cases h3
    exact un_neg pins s σ H _ v Q I rx ⟨_, rfl, q _ H (.flat (.int _))⟩
  · cases h3
theorem min_room {A : Around} {d e : D} (hu : A.units + 64 < cLine) (h : depthLe d e = true) : A.units + min d.depth e.depth < cLine := by
  have := of_decide_eq_true h
  omega
theorem oc_eq (hu : X.A.units + 64 < cLine) : OpR X (compareOp .Eq) (rCmp X.K cEq) := by
  intro pins s σ H x y v u Q I rx ry ⟨S, d, e, k, lv, h1, h2, h3, q⟩
  unfold cEq at h3
  split at h3
  · rename_i hp
    cases h3
    obtain ⟨as, ra⟩ := h1.reads I rx hp.1
    obtain ⟨bs, rb⟩ := h2.reads I ry hp.2.1
    exact PySem.SeqAt.eq_plain ra rb hp.1 hp.2.1 (min_room hu hp.2.2) ⟨.bl _, H, I, rfl, q⟩
  · cases h3
theorem oc_ne (hu : X.A.units + 64 < cLine) : OpR X (compareOp .NotEq) (rCmp X.K cNe) := by
  intro pins s σ H x y v u Q I rx ry ⟨S, d, e, k, lv, h1, h2, h3, q⟩
  unfold cNe at h3
  split at h3
  · rename_i hp
    cases h3
    obtain ⟨as, ra⟩ := h1.reads I rx hp.1
    obtain ⟨bs, rb⟩ := h2.reads I ry hp.2.1
    exact PySem.SeqAt.ne_plain ra rb hp.1 hp.2.1 (min_room hu hp.2.2) ⟨.bl _, H, I, rfl, q⟩
  · cases h3
theorem cmpOk_ok {d e : D} (h : cmpOk d e = true) : PySem.W.alike d e = true ∧ depthLe d e = true ∧ d ≠ .none ∧ d.plain = true ∧ e.plain = true := by
  unfold cmpOk at h
  simp only [Bool.and_eq_true] at h
  obtain ⟨⟨⟨⟨h1, h2⟩, h3⟩, h4⟩, h5⟩ := h
  exact ⟨h1, h2, fun e => by subst e; exact Bool.false_ne_true h3, h4, h5⟩
theorem oc_lt (hu : X.A.units + 64 < cLine) : OpR X (compareOp .Lt) (rCmp X.K cLt) := by
  intro pins s σ H x y v u Q I rx ry ⟨S, d, e, k, lv, h1, h2, h3, q⟩
  unfold cLt at h3
  split at h3
  · cases h1.int; cases h2.int; cases h3
    exact op_lt pins s σ H _ _ v u Q I rx ry ⟨_, _, rfl, rfl, q⟩
  · split at h3
    · rename_i hp
      cases h3
      obtain ⟨p1, p2, p3, p4, p5⟩ := cmpOk_ok hp
      obtain ⟨as, ra⟩ := h1.reads I rx p4
      obtain ⟨bs, rb⟩ := h2.reads I ry p5
      exact PySem.W.lt_data ra rb p1 p3 (min_room hu p2) ⟨.bl _, H, I, rfl, q⟩
    · cases h3
theorem oc_gt (hu : X.A.units + 64 < cLine) : OpR X (compareOp .Gt) (rCmp X.K cGt) := by
  intro pins s σ H x y v u Q I rx ry ⟨S, d, e, k, lv, h1, h2, h3, q⟩
  unfold cGt at h3
  split at h3
  · cases h1.int; cases h2.int; cases h3
    exact op_gt pins s σ H _ _ v u Q I rx ry ⟨_, _, rfl, rfl, q⟩
  · split at h3
    · rename_i hp
      cases h3
      obtain ⟨p1, p2, p3, p4, p5⟩ := cmpOk_ok hp
      obtain ⟨as, ra⟩ := h1.reads I rx p4
      obtain ⟨bs, rb⟩ := h2.reads I ry p5
      exact PySem.W.gt_data ra rb p1 p3 (min_room hu p2) ⟨.bl _, H, I, rfl, q⟩
    · cases h3
theorem oc_le (hu : X.A.units + 64 < cLine) : OpR X (compareOp .LtE) (rCmp X.K cLe) := by
  intro pins s σ H x y v u Q I rx ry ⟨S, d, e, k, lv, h1, h2, h3, q⟩
  unfold cLe at h3
  split at h3
  · cases h1.int; cases h2.int; cases h3
    exact op_le pins s σ H _ _ v u Q I rx ry ⟨_, _, rfl, rfl, q⟩
  · split at h3
    · rename_i hp
      cases h3
      obtain ⟨p1, p2, p3, p4, p5⟩ := cmpOk_ok hp
      obtain ⟨as, ra⟩ := h1.reads I rx p4
      obtain ⟨bs, rb⟩ := h2.reads I ry p5
      exact PySem.W.le_data ra rb p1 p3 (min_room hu p2) ⟨.bl _, H, I, rfl, q⟩
    · cases h3
theorem oc_ge (hu : X.A.units + 64 < cLine) : OpR X (compareOp .GtE) (rCmp X.K cGe) := by
  intro pins s σ H x y v u Q I rx ry ⟨S, d, e, k, lv, h1, h2, h3, q⟩
  unfold cGe at h3
  split at h3
  · cases h1.int; cases h2.int; cases h3
    exact op_ge pins s σ H _ _ v u Q I rx ry ⟨_, _, rfl, rfl, q⟩
  · split at h3
    · rename_i hp
      cases h3
      obtain ⟨p1, p2, p3, p4, p5⟩ := cmpOk_ok hp
      obtain ⟨as, ra⟩ := h1.reads I rx p4
      obtain ⟨bs, rb⟩ := h2.reads I ry p5
      exact PySem.W.ge_data ra rb p1 p3 (min_room hu p2) ⟨.bl _, H, I, rfl, q⟩
    · cases h3
theorem cIsNone_ok {K : PySem.W.Frag} {S : AS} {H : Hp} {x c : D} {v u : V} {k : Bool} (h1 : RR K H S v x) (h2 : RR K H S u c) (h3 : cIsNone x c = some k) : u = .non ∧ k = decide (v = .non) := by
  have hc : c = .none := by
    cases c with
    | none => rfl
    | _ => cases x <;> cases h3
  subst hc
  refine ⟨h2.none, ?_⟩
  cases x with
  | none => cases h3; cases h1.none; rfl
  | bool b => cases h3; cases h1.bool; rfl
  | int b => cases h3; cases h1.int; rfl
  | str b => cases h3; cases h1.str; rfl
  | list b => cases h3; obtain ⟨a, vs, rfl, _⟩ := h1.list; rfl
  | tuple b => cases h3; obtain ⟨a, vs, rfl, _⟩ := h1.tuple; rfl
  | dict b => cases h3; obtain ⟨a, vs, rfl, _⟩ := h1.dict; rfl
theorem oc_is : OpR X (compareOp .Is) (rCmp X.K cIsNone) := by
  intro pins s σ H x y v u Q I rx ry ⟨S, d, e, k, lv, h1, h2, h3, q⟩
  obtain ⟨rfl, rfl⟩ := cIsNone_ok h1 h2 h3
  exact op_isN pins s σ H _ _ v u Q I rx ry ⟨rfl, q⟩
theorem oc_isnot : OpR X (compareOp .IsNot) (rCmp X.K cNotNone) := by
  intro pins s σ H x y v u Q I rx ry ⟨S, d, e, k, lv, h1, h2, h3, q⟩
  unfold cNotNone at h3
  cases e3 : cIsNone d e with
  | none => rw [e3] at h3; cases h3
  | some k' =>
    rw [e3] at h3
    cases h3
    obtain ⟨rfl, rfl⟩ := cIsNone_ok h1 h2 e3
    exact op_notN pins s σ H _ _ v u Q I rx ry ⟨rfl, q⟩
theorem in_room {A : Around} {x : D} {ds : List D} (hu : A.units + 64 < cLine) (h : inOk x ds = true) : x.plain = true ∧ PyData.plainAll ds = true ∧ A.units + 1 + min (PyData.depthAll ds) x.depth < cLine := by
  unfold inOk at h
  simp only [Bool.and_eq_true, decide_eq_true_eq] at h
  exact ⟨h.1.1, h.1.2, by omega⟩
theorem keyOf_V {K : PySem.W.Frag} {S : AS} {H : Hp} {x : D} {v : V} {k : Key} (h : RR K H S v x) (e : keyOf x = some k) : v = kV k := by
  cases x <;> cases e
  · exact h.int
  · exact h.str
theorem hasKey_valV {K : PySem.W.Frag} {S : AS} {H : Hp} {k : Key} : ∀ {vs : List (Key × V)} {ds : List (D × D)}, RKv K H S vs ds → hasKey ds k = (valV vs k).isSome
  | _, _, .nil => rfl
  | _, _, .cons (k := k') hk _ t => by
    have ih := hasKey_valV (k := k) t
    unfold hasKey at ih ⊢
    rw [List.any_cons, ih]
    by_cases e : k' = k
    · rw [valV_pos e, hk, e]; simp
    · rw [valV_neg e, hk]
      have : ¬ (some k' = some k) := fun q => e (Option.some.inj q)
      simp [this]
theorem oc_in (hu : X.A.units + 64 < cLine) : OpR X (compareOp .In) (rCmp X.K cIn) := by
  intro pins s σ H x y v u Q I rx ry ⟨S, d, e, k, lv, h1, h2, h3, q⟩
  unfold cIn at h3
  split at h3
  · rename_i ds
    split at h3
    · rename_i hp
      cases h3
      obtain ⟨p1, p2, p3⟩ := in_room hu hp
      obtain ⟨as, ra⟩ := h1.reads I rx p1
      obtain ⟨bs, rb⟩ := h2.reads I ry (show PyData.plain (.list ds) = true by simpa [PyData.plain] using p2)
      exact PySem.SeqAt.in_list_data rb ra p2 p1 p3 ⟨.bl _, H, I, rfl, q⟩
    · cases h3
  · rename_i ds
    split at h3
    · rename_i hp
      cases h3
      obtain ⟨p1, p2, p3⟩ := in_room hu hp
      obtain ⟨as, ra⟩ := h1.reads I rx p1
      obtain ⟨bs, rb⟩ := h2.reads I ry (show PyData.plain (.tuple ds) = true by simpa [PyData.plain] using p2)
      exact PySem.SeqAt.in_tuple_data rb ra p2 p1 p3 ⟨.bl _, H, I, rfl, q⟩
    · cases h3
  · rename_i kvs
    cases ek : keyOf d with
    | none => rw [ek] at h3; cases h3
    | some key =>
      rw [ek] at h3
      cases h3
      cases keyOf_V h1 ek
      obtain ⟨a, vs, rfl, hs, ha⟩ := h2.dict
      cases ry
      refine d_in (by omega) I (DGet.k hs) rx fun s3 I3 => ⟨.bl _, H, I3, rfl, ?_⟩
      rw [← hasKey_valV ha]
      exact q
  · cases h3
theorem oc_notin (hu : X.A.units + 64 < cLine) : OpR X (compareOp .NotIn) (rCmp X.K cNotIn) := by
  intro pins s σ H x y v u Q I rx ry ⟨S, d, e, k, lv, h1, h2, h3, q⟩
  unfold cNotIn at h3
  cases e3 : cIn d e with
  | none => rw [e3] at h3; cases h3
  | some kk =>
    rw [e3] at h3
    cases h3
    unfold cIn at e3
    split at e3
    · rename_i ds
      split at e3
      · rename_i hp
        cases e3
        obtain ⟨p1, p2, p3⟩ := in_room hu hp
        obtain ⟨as, ra⟩ := h1.reads I rx p1
        obtain ⟨bs, rb⟩ := h2.reads I ry (show PyData.plain (.list ds) = true by simpa [PyData.plain] using p2)
        exact PySem.SeqAt.notIn_list_data rb ra p2 p1 p3 ⟨.bl _, H, I, rfl, q⟩
      · cases e3
    · rename_i ds
      split at e3
      · rename_i hp
        cases e3
        obtain ⟨p1, p2, p3⟩ := in_room hu hp
        obtain ⟨as, ra⟩ := h1.reads I rx p1
        obtain ⟨bs, rb⟩ := h2.reads I ry (show PyData.plain (.tuple ds) = true by simpa [PyData.plain] using p2)
        exact PySem.SeqAt.notIn_tuple_data rb ra p2 p1 p3 ⟨.bl _, H, I, rfl, q⟩
      · cases e3
    · rename_i kvs
      cases ek : keyOf d with
      | none => rw [ek] at e3; cases e3
      | some key =>
        rw [ek] at e3
        cases e3
        cases keyOf_V h1 ek
        obtain ⟨a, vs, rfl, hs, ha⟩ := h2.dict
        cases ry
        refine d_notIn (by omega) I (DGet.k hs) rx fun s3 I3 => ⟨.bl _, H, I3, rfl, ?_⟩
        rw [← hasKey_valV ha]
        exact q
    · cases e3
end
end Ev
namespace Ev
open PySem PySem.Spec PyProof.Rows L2
/-! ### subscripts, slices -/
def valD (kvs : List (D × D)) (k : Key) : Option D := (kvs.find? fun p => decide (keyOf p.1 = some k)).map (·.2)
def retOf : Option D → Option Ret
  | some d => some (.val d)
  | none => none
def opIx : D → D → Option Ret
  | .list ds, .int i => retOf (atI ds i)
  | .tuple ds, .int i => retOf (atI ds i)
  | .str x, .int i => if x.length ≤ 16777216 then (match atI x.cps.toList i with
    | some c => some (.val (.str ⟨#[c]⟩))
    | none => none) else none
  | .dict kvs, d => match keyOf d with
    | some k => retOf (valD kvs k)
    | none => none
  | _, _ => none
def cutD (xs : List D) (lo hi : Option Int) : List D := (xs.drop (HT.sIx xs.length 0 lo)).take (HT.sIx xs.length xs.length hi - HT.sIx xs.length 0 lo)
def opSl (x : D) (lo hi : Option Int) : Option Ret := match x with
  | .list ds => some (.fl (cutD ds lo hi))
  | .tuple ds => some (.val (.tuple (cutD ds lo hi)))
  | _ => none
/-- an end of a slice -/
def mPart : Option (M BV) → M (Option Int)
  | none => fun ρ => .ok none ρ
  | some f => fun ρ => (f ρ).andThen fun b ρ' => match res ρ' b with
    | some (.int i) => .ok (some i) ρ'
    | _ => .no
def mSl (f : M BV) (lo hi : Option (M BV)) : M Ret := fun ρ => (f ρ).andThen fun b ρ1 => (mPart lo ρ1).andThen fun l ρ2 => (mPart hi ρ2).andThen fun u ρ3 => match res ρ3 b with
  | some d => match opSl d l u with
    | some r => .ok r ρ3
    | none => .no
  | none => .no
section
variable {K : PySem.W.Frag} {H H' : Hp} {S S' : AS}
theorem RAll.atI {vs : List V} {ds : List D} (h : RAll K H S vs ds) {i : Int} {d : D} (e : L2.atI ds i = some d) : ∃ v, L2.atI vs i = some v ∧ R K H S v d := by
  unfold L2.atI at e ⊢
  rw [h.length]
  cases hi : ixN ds.length i with
  | none => rw [hi] at e; cases e
  | some j =>
    rw [hi] at e
    obtain ⟨v, h1, h2⟩ := h.get (i := j) (d := d) e
    exact ⟨v, h1, h2⟩
theorem RAll.cut {vs : List V} {ds : List D} (h : RAll K H S vs ds) (lo hi : Option Int) : RAll K H S (cutV vs lo hi) (cutD ds lo hi) := by
  unfold cutV cutD
  rw [h.length]
  exact (h.drop _).take _
theorem RKv.val {k : Key} : ∀ {vs : List (Key × V)} {ds : List (D × D)} {d : D}, RKv K H S vs ds → valD ds k = some d → ∃ v, valV vs k = some v ∧ R K H S v d
  | _, _, _, .nil, e => by cases e
  | _, _, d, .cons (k := k') hk hr t, e => by
    unfold valD at e
    by_cases ek : k' = k
    · rw [List.find?_cons, hk, ek] at e
      simp only [decide_true] at e
      cases e
      exact ⟨_, valV_pos ek, hr⟩
    · rw [List.find?_cons, hk] at e
      have : decide (some k' = some k) = false := decide_eq_false fun q => ek (Option.some.inj q)
      rw [this] at e
      obtain ⟨v, h1, h2⟩ := RKv.val (d := d) t e
      exact ⟨v, by rw [valV_neg ek]; exact h1, h2⟩
end
section
variable {X : Cx}
theorem or_ix (hu : X.A.units + 64 < cLine) : IxR X (rOp2 X.K opIx) := by
  intro value slice pins s σ H x y v u Q I rx ry ⟨S, d, e, r, lv, h1, h2, h3, q⟩ hs
  unfold opIx at h3
  split at h3
  · rename_i ds i
    cases h2.int
    obtain ⟨a, vs, rfl, hs', ha⟩ := h1.list
    cases e3 : atI ds i with
    | none => rw [e3] at h3; cases h3
    | some z =>
      rw [e3] at h3
      cases h3
      obtain ⟨z', e4, hr⟩ := ha.atI e3
      exact ix_list value slice pins s σ H _ _ v u Q I rx ry ⟨a, vs, i, z', rfl, rfl, .inl (.inl hs'), e4, q _ H (.flat hr)⟩ hs
  · rename_i ds i
    cases h2.int
    obtain ⟨a, vs, rfl, hs', ha⟩ := h1.tuple
    cases e3 : atI ds i with
    | none => rw [e3] at h3; cases h3
    | some z =>
      rw [e3] at h3
      cases h3
      obtain ⟨z', e4, hr⟩ := ha.atI e3
      exact ix_tup value slice pins s σ H _ _ v u Q I rx ry ⟨a, vs, i, z', rfl, rfl, hs', e4, q _ H (.flat hr)⟩ hs
  · rename_i z i
    split at h3
    · rename_i hl
      cases h2.int
      cases h1.str
      cases e3 : atI z.cps.toList i with
      | none => rw [e3] at h3; cases h3
      | some c =>
        rw [e3] at h3
        cases h3
        exact ix_str value slice pins s σ H _ _ v u Q I rx ry ⟨z, i, c, rfl, rfl, by rw [line_eq]; exact hl, e3, q _ H (.flat (.str _))⟩ hs
    · cases h3
  · rename_i kvs
    cases ek : keyOf e with
    | none => rw [ek] at h3; cases h3
    | some k =>
      rw [ek] at h3
      cases e3 : valD kvs k with
      | none => simp only [e3] at h3; cases h3
      | some z =>
        simp only [e3] at h3
        cases h3
        obtain ⟨a, vs, rfl, hs', ha⟩ := h1.dict
        cases keyOf_V h2 ek
        obtain ⟨z', e4, hr⟩ := RKv.val ha e3
        cases rx
        have g : DGet H a (kV k) (some z') := .inl ⟨vs, k, .inl hs', rfl, e4.symm⟩
        unfold subscriptTail
        refine wpAny_bind ?_
        rw [getitemInPython_of_ne (dict_typeIs I g).not_modules]
        refine wpAny_bind (wpAny_specialOf (dict_typeIs I g) PySem.F.slot_dict_getitem.lookup ?_)
        have fin : wpAny (model X.prog X.w) X.A (subscripted slice false (.ref a) u) (fun r s₃ => wpAny (model X.prog X.w) X.A (letTemporaryGo value (.ref a) r >>= fun _ => pure r) (EP X pins σ Q) X.xe s₃) X.xe s := by
          rw [hs]
          exact wpAny_operating (d_getItem (by omega) I g ry fun w' s3 I3 rw' => wpAny_bind (wpAny_letTemporaryGo (wpAny_pure ⟨z', H, I3, rw', q _ H (.flat hr)⟩)))
        first
          | exact wpAny_pure (wpAny_bind fin)
          | exact wpAny_bind (wpAny_pure (wpAny_bind fin))
          | exact wpAny_bind fin
  · cases h3
def rSl (K : PySem.W.Frag) : V → Option Int → Option Int → Hp → VK → Prop := fun x lo hi H Q => ∃ S d r, Live S H ∧ RR K H S x d ∧ opSl d lo hi = some r ∧ ∀ v H', PPost K S H v H' r → Q v H'
theorem sl_all : SlR X (rSl X.K) := by
  intro pins s σ H x v vl vu lo hi sl Q I rx hs pl pu ⟨S, d, r, lv, h1, h3, q⟩
  unfold opSl at h3
  split at h3
  · rename_i ds
    cases h3
    obtain ⟨a, vs, rfl, hs', ha⟩ := h1.list
    exact sl_list pins s σ H _ v vl vu lo hi sl Q I rx hs pl pu ⟨a, vs, rfl, .inl (.inl hs'), fun p hp => q _ _ (.lst hp lv (ha.cut lo hi))⟩
  · rename_i ds
    cases h3
    cases h1 with
    | of h1 =>
      cases h1 with
      | tup hs' hm ha =>
        refine sl_tupA pins s σ H _ v vl vu lo hi sl Q I rx hs pl pu ⟨_, _, rfl, hs', fun ⟨e1, e2⟩ => q _ H ?_, fun _ p hp => q _ _ (.tup hp lv (ha.cut lo hi))⟩
        rw [ha.length] at e1 e2
        have : cutD ds lo hi = ds := by
          unfold cutD
          rw [e1, e2, List.drop_zero, Nat.sub_zero, List.take_length]
        rw [this]
        exact .flat (.tup hs' hm ha)
  · cases h3
variable {mg : Str → Option Value} {W : WX} {e : Expr} {lo hi : Option Expr} {pos p2 : Pos}
def tPt (K : PySem.W.Frag) (mg : Str → Option Value) (W : WX) (f : M (Option Int)) : TO := fun σ H Q => ∃ S ρ, Rel K S ρ σ H ∧ Post K mg W S ρ σ H (fun o _ _ H' => Q o H') (f ρ)
theorem po_imp {o : Option Expr} {t t' : TO} (h : PO X o t) (i : ∀ σ H Q, t' σ H Q → t σ H Q) : PO X o t' := ⟨fun pins s σ H Q I q => h.run pins s σ H Q I (i σ H Q q)⟩
theorem po_noneE : PO X none (tPt X.K mg W (mPart none)) := po_imp po_none fun σ H Q ⟨S, ρ, rel, p⟩ => Post.ok rel p
theorem po_someE {f : M BV} (h : PE X e (tBo X.K mg W f)) : PO X (some e) (tPt X.K mg W (mPart (some f))) := po_imp (po_some h) fun σ H Q ⟨S, ρ, rel, p⟩ => by
  refine ⟨S, ρ, rel, Post.and p fun b S1 ρ1 H1 st1 r1 p v hv => ?_⟩
  cases e1 : res ρ1 b with
  | none => simp only [e1] at p; exact p.elim
  | some d =>
    simp only [e1] at p
    cases d with
    | int i => exact ⟨i, (hv.read r1 e1).int, p S1 H1 st1 r1⟩
    | _ => exact p.elim
theorem pe_slE {f : M BV} {l h : Option (M BV)} (he : PE X e (tBo X.K mg W f)) (hl : PO X lo (tPt X.K mg W (mPart l))) (hh : PO X hi (tPt X.K mg W (mPart h))) : PE X (.Subscript e (.Slice lo hi none p2) pos) (tS X.K mg W (mSl f l h)) :=
  pe_imp (pe_slice sl_all he hl hh) fun σ H Q ⟨S, ρ, rel, p⟩ => by
    refine ⟨S, ρ, rel, Post.and p fun b S1 ρ1 H1 st1 r1 p v hv => ?_⟩
    refine ⟨S1, ρ1, r1, Post.and (Post.from p st1) fun o S2 ρ2 H2 st2 r2 p => ?_⟩
    refine ⟨S2, ρ2, r2, Post.and (Post.from p st2) fun o2 S3 ρ3 H3 st3 r3 p => ?_⟩
    cases e1 : res ρ3 b with
    | none => simp only [e1] at p; exact p.elim
    | some d =>
      simp only [e1] at p
      cases e2 : opSl d o o2 with
      | none => simp only [e2] at p; exact p.elim
      | some r =>
        simp only [e2] at p
        refine ⟨S3, d, r, r3.live, ((hv.step st2).step st3).read r3 e1, e2, fun v' H' hp => ?_⟩
        obtain ⟨S', st', r', hr, hn⟩ := r3.pure hp
        exact p S' H' (st3.trans st') r' v' hr (((hn.back st3).back st2).back st1)
end
end Ev
namespace Ev
open PySem PySem.Spec PyProof.Rows L2
/-! ### built-in functions -/
def bLen : List D → Option Ret
  | [.str x] => if x.length ≤ 16777216 then some (.val (.int x.length)) else none
  | [.list ds] => some (.val (.int ds.length))
  | [.tuple ds] => some (.val (.int ds.length))
  | [.dict ds] => some (.val (.int ds.length))
  | _ => none
def bTuple : List D → Option Ret
  | [.list ds] => some (.val (.tuple ds))
  | [.tuple ds] => some (.val (.tuple ds))
  | _ => none
def bList : List D → Option Ret
  | [.list ds] => some (.fl ds)
  | [.tuple ds] => some (.fl ds)
  | [.dict kvs] => some (.fl (kvs.map (·.1)))
  | _ => none
def bAbs : List D → Option Ret
  | [.int i] => some (.val (.int (if i < 0 then -i else i)))
  | _ => none
def bInt : List D → Option Ret
  | [.int i] => some (.val (.int i))
  | [.bool k] => some (.val (.int (if k then 1 else 0)))
  | _ => none
def intsOf : List D → Option (List Int)
  | [] => some []
  | .int i :: ds => match intsOf ds with
    | some is => some (i :: is)
    | none => none
  | _ :: _ => none
def boolsOf : List D → Option (List Bool)
  | [] => some []
  | .bool i :: ds => match boolsOf ds with
    | some is => some (i :: is)
    | none => none
  | _ :: _ => none
def bSum : List D → Option Ret
  | [.list ds] => match intsOf ds with
    | some is => some (.val (.int is.sum))
    | none => none
  | _ => none
def bAny : List D → Option Ret
  | [.list ds] => match boolsOf ds with
    | some bs => some (.val (.bool (bs.any id)))
    | none => none
  | _ => none
def bAll : List D → Option Ret
  | [.list ds] => match boolsOf ds with
    | some bs => some (.val (.bool (bs.all id)))
    | none => none
  | _ => none
/-- a look at whether all are of one sort: whole numbers, truth values, texts, or tuples whose items are -/
def isInt0 : D → Bool
  | .int _ => true
  | _ => false
def isBool0 : D → Bool
  | .bool _ => true
  | _ => false
def isStr0 : D → Bool
  | .str _ => true
  | _ => false
def isTup0 : D → Bool
  | .tuple _ => true
  | _ => false
def items0 : D → List D
  | .tuple xs => xs
  | _ => []
def oneSort : Nat → List D → Bool
  | 0, _ => false
  | n + 1, ds => ds.all isInt0 || ds.all isStr0 || ds.all isBool0 || (ds.all isTup0 && oneSort n (ds.flatMap items0))
def alikeOk (ds : List D) : Bool := (ds.all fun d => d.plain && decide (d.depth ≤ 50)) && (oneSort 6 ds || ds.all fun d => ds.all fun e => PySem.W.alike d e)
theorem alikeAll_of : ∀ {xs ys : List D}, (∀ d ∈ xs, ∀ e ∈ ys, PySem.W.alike d e = true) → PySem.W.alikeAll xs ys = true
  | [], ys, _ => by cases ys <;> simp [PySem.W.alikeAll]
  | _ :: _, [], _ => by simp [PySem.W.alikeAll]
  | x :: xs, y :: ys, h => by
    have h1 := h x (List.mem_cons_self ..) y (List.mem_cons_self ..)
    have h2 := alikeAll_of fun d hd e he => h d (List.mem_cons_of_mem _ hd) e (List.mem_cons_of_mem _ he)
    simp [PySem.W.alikeAll, h1, h2]
theorem oneSort_ok : ∀ {n : Nat} {ds : List D}, oneSort n ds = true → ∀ d ∈ ds, ∀ e ∈ ds, PySem.W.alike d e = true
  | 0, _, h => by cases h
  | n + 1, ds, h => by
    unfold oneSort at h
    simp only [Bool.or_eq_true, Bool.and_eq_true, List.all_eq_true] at h
    intro d hd e he
    rcases h with ((h | h) | h) | ⟨h, h2⟩
    · have a := h d hd
      have b := h e he
      cases d <;> cases e <;> first | (cases a; done) | (cases b; done) | simp [PySem.W.alike]
    · have a := h d hd
      have b := h e he
      cases d <;> cases e <;> first | (cases a; done) | (cases b; done) | simp [PySem.W.alike]
    · have a := h d hd
      have b := h e he
      cases d <;> cases e <;> first | (cases a; done) | (cases b; done) | simp [PySem.W.alike]
    · have a := h d hd
      have b := h e he
      have ih := oneSort_ok h2
      cases d <;> try (cases a; done)
      cases e <;> try (cases b; done)
      rename_i xs ys
      have : PySem.W.alikeAll xs ys = true := alikeAll_of fun u hu v hv => ih u (List.mem_flatMap.mpr ⟨_, hd, hu⟩) v (List.mem_flatMap.mpr ⟨_, he, hv⟩)
      simpa [PySem.W.alike] using this
def notNone : D → Bool
  | .none => false
  | _ => true
def tupNe : D → Bool
  | .tuple (_ :: _) => true
  | _ => false
def notTup : D → Bool
  | .none => false
  | .tuple _ => false
  | _ => true
def sortOk (ds : List D) : Bool := alikeOk ds && (ds.all tupNe || ds.all notTup) && decide (ds.length ≤ 16777216)
/-- sorting by putting each one in its place, from the right -/
def insD (le : D → D → Bool) (x : D) : List D → List D
  | [] => [x]
  | y :: ys => if le x y = true then x :: y :: ys else y :: insD le x ys
def isoD (le : D → D → Bool) : List D → List D
  | [] => []
  | x :: xs => insD le x (isoD le xs)
def sortD (ds : List D) : List D := isoD (PySem.W.dataLe false id) ds
theorem insD_mem {le : D → D → Bool} {x z : D} : ∀ {ys : List D}, z ∈ insD le x ys → z = x ∨ z ∈ ys
  | [], h => by simpa [insD] using h
  | y :: ys, h => by
    unfold insD at h
    split at h
    · simpa using h
    · rcases List.mem_cons.mp h with rfl | h
      · exact .inr (List.mem_cons_self ..)
      · rcases insD_mem h with h | h
        · exact .inl h
        · exact .inr (List.mem_cons_of_mem _ h)
theorem insD_sorted {le : D → D → Bool} (t : PySem.W.TotalLe le) {x : D} : ∀ {ys : List D}, ys.Pairwise (fun a b => le a b = true) → (insD le x ys).Pairwise (fun a b => le a b = true)
  | [], _ => by simp [insD]
  | y :: ys, h => by
    unfold insD
    obtain ⟨h1, h2⟩ := List.pairwise_cons.mp h
    split
    · rename_i hxy
      refine List.pairwise_cons.mpr ⟨fun z hz => ?_, h⟩
      rcases List.mem_cons.mp hz with rfl | hz
      · exact hxy
      · exact t.trans _ _ _ hxy (h1 z hz)
    · rename_i hxy
      refine List.pairwise_cons.mpr ⟨fun z hz => ?_, insD_sorted t h2⟩
      rcases insD_mem hz with rfl | hz
      · have := t.total y z
        exact this.resolve_right hxy
      · exact h1 z hz
theorem insD_filter {le : D → D → Bool} {x c : D} (t : PySem.W.TotalLe le) : ∀ {ys : List D}, ys.Pairwise (fun a b => le a b = true) → (insD le x ys).filter (PySem.W.sameRank le c) = (x :: ys).filter (PySem.W.sameRank le c)
  | [], _ => rfl
  | y :: ys, h => by
    obtain ⟨h1, h2⟩ := List.pairwise_cons.mp h
    unfold insD
    split
    · rfl
    · rename_i hxy
      have ih := insD_filter (x := x) (c := c) t h2
      rw [List.filter_cons, ih]
      by_cases hx : PySem.W.sameRank le c x = true
      · by_cases hy : PySem.W.sameRank le c y = true
        · exfalso
          apply hxy
          unfold PySem.W.sameRank at hx hy
          simp only [Bool.and_eq_true] at hx hy
          first
            | exact t.trans _ _ _ hx.1 hy.2
            | exact t.trans _ _ _ hx.2 hy.1
        · rw [List.filter_cons_of_pos hx, List.filter_cons_of_pos hx, List.filter_cons_of_neg hy, if_neg hy]
      · rw [List.filter_cons_of_neg hx, List.filter_cons_of_neg hx, List.filter_cons]
theorem isoD_sorted {le : D → D → Bool} (t : PySem.W.TotalLe le) : ∀ ds : List D, (isoD le ds).Pairwise (fun a b => le a b = true)
  | [] => .nil
  | x :: xs => insD_sorted t (isoD_sorted t xs)
theorem isoD_filter {le : D → D → Bool} {c : D} (t : PySem.W.TotalLe le) : ∀ ds : List D, (isoD le ds).filter (PySem.W.sameRank le c) = ds.filter (PySem.W.sameRank le c)
  | [] => rfl
  | x :: xs => by
    show (insD le x (isoD le xs)).filter _ = _
    rw [insD_filter t (isoD_sorted t xs), List.filter_cons, List.filter_cons, isoD_filter t xs]
theorem sortD_eq (ds : List D) : ds.mergeSort (PySem.W.dataLe false id) = sortD ds :=
  (PySem.W.sort_unique (PySem.W.sortLe_total _ _ _) (isoD_sorted (PySem.W.sortLe_total _ _ _) ds) fun c => isoD_filter (PySem.W.sortLe_total _ _ _) ds).symm
def bSorted : List D → Option Ret
  | [.list ds] => if sortOk ds = true then some (.fl (sortD ds)) else none
  | _ => none
def minOk (ds : List D) : Bool := alikeOk ds && ds.all notNone && decide (PyData.depthAll ds ≤ 50)
def bMax : List D → Option Ret
  | [.int i, .int j] => some (.val (.int (if j > i then j else i)))
  | [.list (d :: ds)] => if minOk (d :: ds) = true then some (.val (PySem.W.maxD d ds)) else none
  | [.tuple (d :: ds)] => if minOk (d :: ds) = true then some (.val (PySem.W.maxD d ds)) else none
  | _ => none
def bMin : List D → Option Ret
  | [.int i, .int j] => some (.val (.int (if j < i then j else i)))
  | [.list (d :: ds)] => if minOk (d :: ds) = true then some (.val (PySem.W.minD d ds)) else none
  | [.tuple (d :: ds)] => if minOk (d :: ds) = true then some (.val (PySem.W.minD d ds)) else none
  | _ => none
def bRepr : List D → Option Ret
  | [d] => if d.plain = true ∧ d.showable = true ∧ d.depth ≤ 50 ∧ d.shown.length ≤ 16777216 then some (.val (.str d.shown)) else none
  | _ => none
section
variable {X : Cx}
theorem RRs.one {K : PySem.W.Frag} {H : Hp} {S : AS} {vs : List V} {d : D} (h : RRs K H S vs [d]) : ∃ v, vs = [v] ∧ RR K H S v d := by
  cases h with
  | cons h1 h2 => cases h2; exact ⟨_, rfl, h1⟩
theorem RRs.two {K : PySem.W.Frag} {H : Hp} {S : AS} {vs : List V} {d e : D} (h : RRs K H S vs [d, e]) : ∃ v u, vs = [v, u] ∧ RR K H S v d ∧ RR K H S u e := by
  cases h with
  | cons h1 h2 => obtain ⟨u, rfl, h3⟩ := h2.one; exact ⟨_, _, rfl, h1, h3⟩
theorem cb_len (hc : X.calm = true) : CallR X (.builtin "len") (rOps X.K bLen) := by
  intro pins s σ H xs us Q I rx ⟨S, ds, r, lv, hR, h3, q⟩
  unfold bLen at h3
  split at h3
  · split at h3
    · rename_i hl
      cases h3
      obtain ⟨v, rfl, h1⟩ := hR.one
      cases h1.str
      exact call_len pins s σ H _ us Q I rx ⟨_, _, rfl, ⟨by rw [line_eq]; exact hl, rfl⟩, q _ H (.flat (.int _))⟩
    · cases h3
  · cases h3
    obtain ⟨v, rfl, h1⟩ := hR.one
    obtain ⟨a, vs, rfl, hs, ha⟩ := h1.list
    exact call_len pins s σ H _ us Q I rx ⟨_, _, rfl, .inl ⟨vs, .inl (.inl hs), rfl⟩, by rw [ha.length]; exact q _ H (.flat (.int _))⟩
  · cases h3
    obtain ⟨v, rfl, h1⟩ := hR.one
    obtain ⟨a, vs, rfl, hs, ha⟩ := h1.tuple
    exact call_len pins s σ H _ us Q I rx ⟨_, _, rfl, .inr ⟨vs, hs, rfl⟩, by rw [ha.length]; exact q _ H (.flat (.int _))⟩
  · cases h3
    obtain ⟨v, rfl, h1⟩ := hR.one
    obtain ⟨a, vs, rfl, hs, ha⟩ := h1.dict
    rw [Vals.ref1 rx]
    exact d_len I (.inl hs) fun t s' I' => ⟨.int vs.length, H, I', ⟨t, rfl⟩, by rw [ha.length]; exact q _ H (.flat (.int _))⟩
  · cases h3
theorem cb_tuple : CallR X (.type "tuple") (rOps X.K bTuple) := by
  intro pins s σ H xs us Q I rx ⟨S, ds, r, lv, hR, h3, q⟩
  unfold bTuple at h3
  split at h3
  · cases h3
    obtain ⟨v, rfl, h1⟩ := hR.one
    obtain ⟨a, vs, rfl, hs, ha⟩ := h1.list
    exact call_tuple_of pins s σ H _ us Q I rx ⟨_, _, rfl, .inl ⟨.inl (.inl hs), fun p hp => q _ _ (.tup hp lv ha)⟩⟩
  · cases h3
    obtain ⟨v, rfl, h1⟩ := hR.one
    cases h1 with
    | of h1 =>
      cases h1 with
      | tup hs hm ha => exact call_tuple_of pins s σ H _ us Q I rx ⟨_, _, rfl, .inr ⟨hs, q _ H (.flat (.tup hs hm ha))⟩⟩
  · cases h3
theorem keysR {K : PySem.W.Frag} {H : Hp} {S : AS} : ∀ {vs : List (Key × V)} {ds : List (D × D)}, RKv K H S vs ds → RAll K H S (vs.map fun kv => kV kv.1) (ds.map (·.1))
  | _, _, .nil => .nil
  | _, _, .cons (kd := kd) hk _ t => .cons (by
      cases kd <;> cases hk
      · exact .int _
      · exact .str _) (keysR t)
theorem cb_list (hc : X.calm = true) : CallR X (.type "list") (rOps X.K bList) := by
  intro pins s σ H xs us Q I rx ⟨S, ds, r, lv, hR, h3, q⟩
  unfold bList at h3
  split at h3
  · cases h3
    obtain ⟨v, rfl, h1⟩ := hR.one
    obtain ⟨a, vs, rfl, hs, ha⟩ := h1.list
    exact call_list_of pins s σ H _ us Q I rx ⟨_, _, rfl, .inl (.inl (.inl hs)), fun p hp => q _ _ (.lst hp lv ha)⟩
  · cases h3
    obtain ⟨v, rfl, h1⟩ := hR.one
    obtain ⟨a, vs, rfl, hs, ha⟩ := h1.tuple
    exact call_list_of pins s σ H _ us Q I rx ⟨_, _, rfl, .inr hs, fun p hp => q _ _ (.lst hp lv ha)⟩
  · cases h3
    obtain ⟨v, rfl, h1⟩ := hR.one
    obtain ⟨a, vs, rfl, hs, ha⟩ := h1.dict
    exact call_list_dK hc pins s σ H _ us Q I rx ⟨_, _, rfl, hs, fun p hp => q _ _ (.lst hp lv (keysR ha))⟩
  · cases h3
theorem cb_abs : CallR X (.builtin "abs") (rOps X.K bAbs) := by
  intro pins s σ H xs us Q I rx ⟨S, ds, r, lv, hR, h3, q⟩
  unfold bAbs at h3
  split at h3
  · cases h3
    obtain ⟨v, rfl, h1⟩ := hR.one
    cases h1.int
    exact call_abs pins s σ H _ us Q I rx ⟨_, rfl, q _ H (.flat (.int _))⟩
  · cases h3
theorem cb_int : CallR X (.type "int") (rOps X.K bInt) := by
  intro pins s σ H xs us Q I rx ⟨S, ds, r, lv, hR, h3, q⟩
  unfold bInt at h3
  split at h3
  · cases h3
    obtain ⟨v, rfl, h1⟩ := hR.one
    cases h1.int
    exact call_int1 pins s σ H _ us Q I rx (.inl ⟨_, rfl, q _ H (.flat (.int _))⟩)
  · cases h3
    obtain ⟨v, rfl, h1⟩ := hR.one
    cases h1.bool
    exact call_int1 pins s σ H _ us Q I rx (.inr ⟨_, rfl, q _ H (.flat (.int _))⟩)
  · cases h3
theorem intsOf_eq : ∀ {ds : List D} {is : List Int}, intsOf ds = some is → ds = is.map PyData.int
  | [], is, e => by cases e; rfl
  | d :: ds, is, e => by
    cases d <;> try cases e
    unfold intsOf at e
    cases h : intsOf ds with
    | none => rw [h] at e; cases e
    | some is' => rw [h] at e; cases e; rw [intsOf_eq h]; rfl
theorem boolsOf_eq : ∀ {ds : List D} {is : List Bool}, boolsOf ds = some is → ds = is.map PyData.bool
  | [], is, e => by cases e; rfl
  | d :: ds, is, e => by
    cases d <;> try cases e
    unfold boolsOf at e
    cases h : boolsOf ds with
    | none => rw [h] at e; cases e
    | some is' => rw [h] at e; cases e; rw [boolsOf_eq h]; rfl
theorem cb_sum (hc : X.calm = true) : CallR X (.builtin "sum") (rOps X.K bSum) := by
  intro pins s σ H xs us Q I rx ⟨S, ds, r, lv, hR, h3, q⟩
  unfold bSum at h3
  split at h3
  · rename_i ds
    cases e : intsOf ds with
    | none => rw [e] at h3; cases h3
    | some is =>
      rw [e] at h3
      cases h3
      obtain ⟨v, rfl, h1⟩ := hR.one
      obtain ⟨a, vs, rfl, hs, ha⟩ := h1.list
      rw [intsOf_eq e] at ha
      rw [ha.ints] at hs
      exact cr_sum hc pins s σ H _ us Q I rx ⟨_, _, rfl, .inl (.inl hs), q _ H (.flat (.int _))⟩
  · cases h3
theorem cb_any (hc : X.calm = true) : CallR X (.builtin "any") (rOps X.K bAny) := by
  intro pins s σ H xs us Q I rx ⟨S, ds, r, lv, hR, h3, q⟩
  unfold bAny at h3
  split at h3
  · rename_i ds
    cases e : boolsOf ds with
    | none => rw [e] at h3; cases h3
    | some is =>
      rw [e] at h3
      cases h3
      obtain ⟨v, rfl, h1⟩ := hR.one
      obtain ⟨a, vs, rfl, hs, ha⟩ := h1.list
      rw [boolsOf_eq e] at ha
      rw [ha.bools] at hs
      exact cr_any hc pins s σ H _ us Q I rx ⟨_, _, rfl, .inl (.inl hs), q _ H (.flat (.bl _))⟩
  · cases h3
theorem cb_all (hc : X.calm = true) : CallR X (.builtin "all") (rOps X.K bAll) := by
  intro pins s σ H xs us Q I rx ⟨S, ds, r, lv, hR, h3, q⟩
  unfold bAll at h3
  split at h3
  · rename_i ds
    cases e : boolsOf ds with
    | none => rw [e] at h3; cases h3
    | some is =>
      rw [e] at h3
      cases h3
      obtain ⟨v, rfl, h1⟩ := hR.one
      obtain ⟨a, vs, rfl, hs, ha⟩ := h1.list
      rw [boolsOf_eq e] at ha
      rw [ha.bools] at hs
      exact cr_all hc pins s σ H _ us Q I rx ⟨_, _, rfl, .inl (.inl hs), q _ H (.flat (.bl _))⟩
  · cases h3
mutual
theorem noDict_of_plain : ∀ d : D, d.plain = true → d.hasDict = false
  | .none, _ => rfl
  | .bool _, _ => rfl
  | .int _, _ => rfl
  | .str _, _ => rfl
  | .list xs, h => by
    simp only [PyData.hasDict]
    exact noDictAll_of_plain xs (by simpa [PyData.plain] using h)
  | .tuple xs, h => by
    simp only [PyData.hasDict]
    exact noDictAll_of_plain xs (by simpa [PyData.plain] using h)
  | .dict _, h => by simp [PyData.plain] at h
theorem noDictAll_of_plain : ∀ xs : List D, PyData.plainAll xs = true → PyData.hasDictAll xs = false
  | [], _ => rfl
  | x :: xs, h => by
    simp only [PyData.plainAll, Bool.and_eq_true] at h
    simp only [PyData.hasDictAll, noDict_of_plain x h.1, noDictAll_of_plain xs h.2, Bool.or_self]
end
theorem cb_repr (hg : X.A.guards = some []) (hu : X.A.units + 64 < cLine) : CallR X (.builtin "repr") (rOps X.K bRepr) := by
  intro pins s σ H xs us Q I rx ⟨S, ds, r, lv, hR, h3, q⟩
  unfold bRepr at h3
  split at h3
  · rename_i d
    split at h3
    · rename_i hp
      cases h3
      obtain ⟨v, rfl, h1⟩ := hR.one
      obtain ⟨u, rfl, ru⟩ := vals1 rx
      obtain ⟨as, rd⟩ := h1.reads I ru hp.1
      have hu2 : X.A.units + (d.depth + 1) < cLine := by have := hp.2.2.1; omega
      have hz : d.shown.length ≤ sizeLine := by rw [line_eq]; exact hp.2.2.2
      have hsm : d.hasDict = true → sysModules ∉ as := PyData.noDict_hsm (noDict_of_plain d hp.1)
      cases d with
      | none => cases h1.none; cases ru; exact PySem.P.repr_of_none ⟨.str _, H, I.tok _, ⟨_, rfl⟩, q _ H (.flat (.str _))⟩
      | bool b => cases h1.bool; cases ru; exact PySem.P.repr_of_bool ⟨.str _, H, I.tok _, ⟨_, rfl⟩, q _ H (.flat (.str _))⟩
      | int i =>
        cases h1.int
        obtain ⟨t, rfl⟩ := ru
        exact PySem.P.repr_of_int (by simpa [PyData.showable] using hp.2.1) ⟨.str _, H, I.tok _, ⟨_, rfl⟩, q _ H (.flat (.str _))⟩
      | str z =>
        cases h1.str
        obtain ⟨t, rfl⟩ := ru
        exact PySem.P.repr_of_str ⟨.str _, H, I.tok _, ⟨_, rfl⟩, q _ H (.flat (.str _))⟩ hz
      | list ds =>
        obtain ⟨a, vs, rfl, _, _⟩ := h1.list
        cases ru
        exact repr_of_reads' rd hp.2.1 hsm hg hu2 (fun _ _ e => e) (fun h' t tk hk => ⟨.str _, H, I.kept (t' := tk) hk, ⟨t, rfl⟩, q _ H (.flat (.str _))⟩) hz
      | tuple ds =>
        obtain ⟨a, vs, rfl, _, _⟩ := h1.tuple
        cases ru
        exact repr_of_reads' rd hp.2.1 hsm hg hu2 (fun _ _ e => e) (fun h' t tk hk => ⟨.str _, H, I.kept (t' := tk) hk, ⟨t, rfl⟩, q _ H (.flat (.str _))⟩) hz
      | dict ds => simp [PyData.plain] at hp
    · cases h3
  · cases h3
/-- the sorted values -/
theorem each_of {K : PySem.W.Frag} {H : Hp} {S : AS} : ∀ {vs : List V} {us : List Value} {ds : List D}, RAll K H S vs ds → Vals vs us → PySem.W.EachIs (fun u d => ∃ v, RelV v u ∧ R K H S v d) us ds
  | _, _, _, .nil, .nil => .nil
  | _, _, _, .cons h t, .cons r q => .cons ⟨_, r, h⟩ (each_of t q)
theorem of_each {K : PySem.W.Frag} {H : Hp} {S : AS} : ∀ {us : List Value} {ds : List D}, PySem.W.EachIs (fun u d => ∃ v, RelV v u ∧ R K H S v d) us ds → ∃ vs, RAll K H S vs ds ∧ Vals vs us
  | _, _, .nil => ⟨[], .nil, .nil⟩
  | _, _, .cons ⟨v, r, h⟩ t => let ⟨vs, h2, r2⟩ := of_each t; ⟨v :: vs, .cons h h2, .cons r r2⟩
theorem alikeOk_ok {ds : List D} (h : alikeOk ds = true) : PySem.W.AllAlike ds ∧ (∀ d ∈ ds, d.plain = true ∧ d.depth ≤ 50) := by
  unfold alikeOk at h
  simp only [List.all_eq_true, Bool.and_eq_true, Bool.or_eq_true, decide_eq_true_eq] at h
  refine ⟨fun d hd e he => ?_, h.1⟩
  rcases h.2 with h | h
  · exact oneSort_ok h d hd e he
  · exact h d hd e he
theorem plainAll_of : ∀ {ds : List D}, (∀ d ∈ ds, d.plain = true) → PyData.plainAll ds = true
  | [], _ => by simp [PyData.plainAll]
  | d :: ds, h => by
    simp only [PyData.plainAll, Bool.and_eq_true]
    exact ⟨h d (List.mem_cons_self ..), plainAll_of fun e he => h e (List.mem_cons_of_mem _ he)⟩
theorem cb_sorted (hu : X.A.units + 64 < cLine) : CallR X (.builtin "sorted") (rOps X.K bSorted) := by
  intro pins s σ H xs us Q I rx ⟨S, ds, r, lv, hR, h3, q⟩
  unfold bSorted at h3
  split at h3
  · rename_i ds
    split at h3
    · rename_i hp
      cases h3
      obtain ⟨v, rfl, h1⟩ := hR.one
      obtain ⟨a, vs, rfl, hs, ha⟩ := h1.list
      obtain ⟨its, rv, hl, hz⟩ := I.list (.inl (.inl hs))
      rw [Vals.ref1 rx]
      unfold sortOk at hp
      simp only [Bool.and_eq_true, Bool.or_eq_true, decide_eq_true_eq] at hp
      obtain ⟨⟨ho, hk⟩, hlen⟩ := hp
      obtain ⟨hal, hpl⟩ := alikeOk_ok ho
      have e := each_of ha rv
      have er : PySem.W.EachIs (fun v b => ∃ as, Reads s.heap v (id b) as) its ds := by
        refine (PySem.W.each_mem e).mono fun u d hh => ?_
        obtain ⟨⟨v, r, h⟩, hm⟩ := hh
        exact h.reads I d v u r (hpl d hm).1
      have hsk : PySem.W.Sortable (ds.map id) := by
        rw [List.map_id]
        rcases hk with hk | hk
        · refine .inl fun d hd => ?_
          have := List.all_eq_true.mp hk d hd
          cases d <;> try cases this
          rename_i xs
          cases xs with
          | nil => cases this
          | cons x r => exact ⟨x, r, rfl⟩
        · refine .inr fun d hd => ?_
          have := List.all_eq_true.mp hk d hd
          cases d <;> first | (cases this; done) | exact ⟨fun z => (nomatch z), fun _ z => (nomatch z)⟩
      refine PySem.W.sorted_data (enc := id) hl.isList e er (by rw [List.map_id]; exact hal) hsk (by rw [line_eq]; exact hlen) (fun b hb => by have := (hpl b hb).2; show X.A.units + 2 + b.depth < cLine; omega) fun out hlo hout => ?_
      rw [sortD_eq] at hout
      obtain ⟨ys, ra, ry⟩ := of_each hout
      obtain ⟨ep, he'⟩ := PyProof.Rows.sortedAll_at s.heap its out.toArray
      have hp : H (s.heap.objs.size + 1) = none := I.hok.fresh (Nat.le_succ _)
      exact ⟨.ref _, upd H (s.heap.objs.size + 1) (.lst ys), I.laid (t' := s.toks) (fun _ _ => PyProof.Rows.sortedAll_old) (Nat.le_succ _) ⟨by rw [ry.length, hlo, line_eq]; exact hlen, out, ep, ry, he'⟩, rfl, q _ _ (.lst hp lv ra)⟩
    · cases h3
  · cases h3
theorem minOk_ok {ds : List D} (h : minOk ds = true) : PySem.W.AlikeAll ds ∧ PyData.depthAll ds ≤ 50 ∧ (∀ d ∈ ds, d.plain = true) := by
  unfold minOk at h
  simp only [Bool.and_eq_true, decide_eq_true_eq] at h
  obtain ⟨hal, hpl⟩ := alikeOk_ok h.1.1
  refine ⟨⟨hal, fun d hd e => ?_⟩, h.2, fun d hd => (hpl d hd).1⟩
  have := List.all_eq_true.mp h.1.2 d hd
  subst e
  cases this
theorem reads_inj {h : Heap} {v : Value} : ∀ {d e : D} {as bs : List Addr}, d.plain = true → e.plain = true → Reads h v d as → Reads h v e bs → d = e := fun {d e as bs} p1 p2 r1 r2 => by
  rw [← PySem.SeqAt.readOf_plain p1 r1, PySem.SeqAt.readOf_plain p2 r2]
theorem maxD_mem : ∀ (ds : List D) (d : D), PySem.W.maxD d ds ∈ d :: ds
  | [], d => List.mem_cons_self ..
  | e :: ds, d => by
    have ih := maxD_mem ds (if PySem.W.dataLt d e = true then e else d)
    show PySem.W.maxD (if PySem.W.dataLt d e = true then e else d) ds ∈ d :: e :: ds
    rcases List.mem_cons.mp ih with h | h
    · rw [h]; split
      · exact List.mem_cons_of_mem _ (List.mem_cons_self ..)
      · exact List.mem_cons_self ..
    · exact List.mem_cons_of_mem _ (List.mem_cons_of_mem _ h)
theorem minD_mem : ∀ (ds : List D) (d : D), PySem.W.minD d ds ∈ d :: ds
  | [], d => List.mem_cons_self ..
  | e :: ds, d => by
    have ih := minD_mem ds (if PySem.W.dataLt e d = true then e else d)
    show PySem.W.minD (if PySem.W.dataLt e d = true then e else d) ds ∈ d :: e :: ds
    rcases List.mem_cons.mp ih with h | h
    · rw [h]; split
      · exact List.mem_cons_of_mem _ (List.mem_cons_self ..)
      · exact List.mem_cons_self ..
    · exact List.mem_cons_of_mem _ (List.mem_cons_of_mem _ h)
/-- an item of the list that reads as d stands for d -/
theorem item_of {pins : List (Addr × Obj)} {σ : L2.St} {H : Hp} {s : Shared} {h' : Heap} {S : AS} {K : PySem.W.Frag} (I : Inv X pins σ H s) (hk : ∀ b o, s.heap.get? b = some o → h'.get? b = some o) {vs : List V} {its : List Value} {ds : List D} (ha : RAll X.K H S vs ds) (rv : Vals vs its) (hp : ∀ d ∈ ds, d.plain = true)
    {i : Nat} {u : Value} {d : D} {bs : List Addr} (hu : its[i]? = some u) (hr : Reads h' u d bs) (hd : d.plain = true) : ∃ v, RelV v u ∧ R X.K H S v d := by
  have hi : i < its.length := (List.getElem?_eq_some_iff.mp hu).1
  have hv : i < vs.length := by rw [rv.length]; exact hi
  obtain ⟨u', h1, h2⟩ := rv.get (i := i) (x := vs[i]) (List.getElem?_eq_getElem hv)
  rw [hu] at h1
  cases h1
  obtain ⟨e, h3, h4⟩ := ha.getV (i := i) (v := vs[i]) (List.getElem?_eq_getElem hv)
  have pe := hp e (List.mem_of_getElem? h3)
  obtain ⟨as, re⟩ := h4.reads I e _ u h2 pe
  have : e = d := reads_inj pe hd (PyProof.Rows.Reads.keeps hk re) hr
  subst this
  exact ⟨_, h2, h4⟩
theorem cb_max (hc : X.calm = true) (hu : X.A.units + 64 < cLine) : CallR X (.builtin "max") (rOps X.K bMax) := by
  intro pins s σ H xs us Q I rx ⟨S, ds, r, lv, hR, h3, q⟩
  unfold bMax at h3
  split at h3
  · cases h3
    obtain ⟨v, u, rfl, h1, h2⟩ := hR.two
    cases h1.int; cases h2.int
    exact call_max2 hc pins s σ H _ us Q I rx ⟨_, _, rfl, q _ H (.flat (.int _))⟩
  · rename_i d ds
    split at h3
    · rename_i hp
      cases h3
      obtain ⟨v, rfl, h1⟩ := hR.one
      obtain ⟨a, vs, rfl, hs, ha⟩ := h1.list
      obtain ⟨its, rv, hl, hz⟩ := I.list (.inl (.inl hs))
      obtain ⟨hal, hdp, hpl⟩ := minOk_ok hp
      obtain ⟨as, hr⟩ := ha.reads I _ _ its rv (plainAll_of hpl)
      rw [Vals.ref1 rx]
      refine PySem.W.max_list_data (I.ok.hd hc) hl.isList hr hal (by omega) fun i u h' tk bs hi hrd hk => ?_
      obtain ⟨v', rv', rr⟩ := item_of (K := X.K) I hk ha rv hpl (by simpa using hi) hrd (hpl _ (maxD_mem ds d))
      exact ⟨v', H, I.kept (t' := tk) hk, rv', q _ H (.flat rr)⟩
    · cases h3
  · rename_i d ds
    split at h3
    · rename_i hp
      cases h3
      obtain ⟨v, rfl, h1⟩ := hR.one
      obtain ⟨a, vs, rfl, hs, ha⟩ := h1.tuple
      obtain ⟨its, rv, hl, hz⟩ := I.tuple hs
      obtain ⟨hal, hdp, hpl⟩ := minOk_ok hp
      obtain ⟨as, hr⟩ := ha.reads I _ _ its rv (plainAll_of hpl)
      rw [Vals.ref1 rx]
      refine PySem.W.max_tuple_data (I.ok.hd hc) hl hr hal (by omega) fun i u h' tk bs hi hrd hk => ?_
      obtain ⟨v', rv', rr⟩ := item_of (K := X.K) I hk ha rv hpl (by simpa using hi) hrd (hpl _ (maxD_mem ds d))
      exact ⟨v', H, I.kept (t' := tk) hk, rv', q _ H (.flat rr)⟩
    · cases h3
  · cases h3
theorem cb_min (hc : X.calm = true) (hu : X.A.units + 64 < cLine) : CallR X (.builtin "min") (rOps X.K bMin) := by
  intro pins s σ H xs us Q I rx ⟨S, ds, r, lv, hR, h3, q⟩
  unfold bMin at h3
  split at h3
  · cases h3
    obtain ⟨v, u, rfl, h1, h2⟩ := hR.two
    cases h1.int; cases h2.int
    exact call_min2 hc pins s σ H _ us Q I rx ⟨_, _, rfl, q _ H (.flat (.int _))⟩
  · rename_i d ds
    split at h3
    · rename_i hp
      cases h3
      obtain ⟨v, rfl, h1⟩ := hR.one
      obtain ⟨a, vs, rfl, hs, ha⟩ := h1.list
      obtain ⟨its, rv, hl, hz⟩ := I.list (.inl (.inl hs))
      obtain ⟨hal, hdp, hpl⟩ := minOk_ok hp
      obtain ⟨as, hr⟩ := ha.reads I _ _ its rv (plainAll_of hpl)
      rw [Vals.ref1 rx]
      refine PySem.W.min_list_data (I.ok.hd hc) hl.isList hr hal (by omega) fun i u h' tk bs hi hrd hk => ?_
      obtain ⟨v', rv', rr⟩ := item_of (K := X.K) I hk ha rv hpl (by simpa using hi) hrd (hpl _ (minD_mem ds d))
      exact ⟨v', H, I.kept (t' := tk) hk, rv', q _ H (.flat rr)⟩
    · cases h3
  · rename_i d ds
    split at h3
    · rename_i hp
      cases h3
      obtain ⟨v, rfl, h1⟩ := hR.one
      obtain ⟨a, vs, rfl, hs, ha⟩ := h1.tuple
      obtain ⟨its, rv, hl, hz⟩ := I.tuple hs
      obtain ⟨hal, hdp, hpl⟩ := minOk_ok hp
      obtain ⟨as, hr⟩ := ha.reads I _ _ its rv (plainAll_of hpl)
      rw [Vals.ref1 rx]
      refine PySem.W.min_tuple_data (I.ok.hd hc) hl hr hal (by omega) fun i u h' tk bs hi hrd hk => ?_
      obtain ⟨v', rv', rr⟩ := item_of (K := X.K) I hk ha rv hpl (by simpa using hi) hrd (hpl _ (minD_mem ds d))
      exact ⟨v', H, I.kept (t' := tk) hk, rv', q _ H (.flat rr)⟩
    · cases h3
  · cases h3
end
end Ev
namespace Ev
open PySem PySem.Spec PyProof.Rows L2
/-! ### targets -/
inductive Tgt where
  | nm (i : Nat)
  | tp (ts : List Tgt)
def Slot.free? : Option Slot → Bool
  | some s => match s.own? with
    | some false => false
    | _ => true
  | none => false
mutual
/-- a value is given to a target -/
def asgT : Tgt → D → Rho → Option Rho
  | .nm i, d, ρ => if Slot.free? ρ[i]? = true then some (ρ.set i (.dat d)) else none
  | .tp ts, d, ρ => match d with
    | .tuple ds => asgTs ts ds ρ
    | _ => none
def asgTs : List Tgt → List D → Rho → Option Rho
  | [], [], ρ => some ρ
  | t :: ts, d :: ds, ρ => match asgT t d ρ with
    | some ρ' => asgTs ts ds ρ'
    | none => none
  | _, _, _ => none
end
mutual
def Tgt.slots : Tgt → List Nat
  | .nm i => [i]
  | .tp ts => slotsAll ts
def slotsAll : List Tgt → List Nat
  | [] => []
  | t :: ts => t.slots ++ slotsAll ts
end
section
variable {K : PySem.W.Frag} {mg : Str → Option Value} {W : WX} {H H' H1 H2 H3 : Hp} {S S' S1 S2 S3 : AS} {ρ ρ' ρ1 ρ2 ρ3 : Rho} {σ σ' σ1 σ2 σ3 : L2.St}
theorem adr_set_ne {i j : Nat} {x : Option V} (h : j ≠ i) : adr (σ.set i x) j = adr σ j := by
  unfold adr
  rw [List.getElem?_set_ne (fun e => h e.symm)]
theorem free_of {i : Nat} (h : Slot.free? ρ[i]? = true) : ∃ s, ρ[i]? = some s ∧ s.own? ≠ some false := by
  cases e : ρ[i]? with
  | none => rw [e] at h; cases h
  | some s =>
    rw [e] at h
    refine ⟨s, rfl, fun z => ?_⟩
    unfold Slot.free? at h
    simp only [z] at h
    cases h
/-- slot i gets a new content -/
theorem Rel.put (r : Rel K S ρ σ H) {i : Nat} {s t : Slot} {v : V} (hs : ρ[i]? = some s) (hz : s.own? ≠ some false) (hq : SlotOk K S H (some v) t) (ht : t.own? = none ∨ (t.own? = some true ∧ ∀ a, v = .ref a → ¬ Own ρ σ a)) :
    Rel K S (ρ.set i t) (σ.set i (some v)) H := by
  have hl : i < ρ.length := (List.getElem?_eq_some_iff.mp hs).1
  have hl2 : i < σ.length := by rw [← r.len]; exact hl
  refine ⟨by rw [List.length_set, List.length_set]; exact r.len, fun j u h => ?_, fun j k u w y z b h1 h2 h3 h4 h5 h6 => ?_, r.live⟩
  · rcases getset h with ⟨rfl, rfl⟩ | ⟨hne, e⟩
    · rw [List.getElem?_set_self hl2]
      exact hq
    · rw [List.getElem?_set_ne (fun e => hne e.symm)]
      exact r.slot j u e
  · have new : ∀ {j : Nat} {u : Slot} {y : Bool} {b : Addr}, (ρ.set i t)[j]? = some u → u.own? = some y → adr (σ.set i (some v)) j = some b → (j = i ∧ v = .ref b ∧ ¬ Own ρ σ b) ∨ (j ≠ i ∧ ρ[j]? = some u ∧ adr σ j = some b) := fun {j u y b} e1 e2 e3 => by
      rcases getset e1 with ⟨rfl, rfl⟩ | ⟨hne, e⟩
      · have hv : v = .ref b := by
          have := adr_get e3
          rw [List.getElem?_set_self hl2] at this
          exact Option.some.inj (Option.some.inj this)
        refine .inl ⟨rfl, hv, ?_⟩
        rcases ht with ht | ht
        · rw [ht] at e2; cases e2
        · exact ht.2 b hv
      · exact .inr ⟨hne, e, by rw [adr_set_ne hne] at e3; exact e3⟩
    rcases new h1 h3 h5 with ⟨e1, e2, e3⟩ | ⟨e1, e2, e3⟩
    · rcases new h2 h4 h6 with ⟨f1, f2, f3⟩ | ⟨f1, f2, f3⟩
      · rw [e1, f1]
      · exact absurd ⟨k, w, z, f2, h4, f3⟩ e3
    · rcases new h2 h4 h6 with ⟨f1, f2, f3⟩ | ⟨f1, f2, f3⟩
      · exact absurd ⟨j, u, y, e2, h3, e3⟩ f3
      · exact r.inj j k u w y z b e2 f2 h3 h4 e3 f3
theorem Step.put (r : Rel K S ρ σ H) {i : Nat} {s t : Slot} {v : V} (hs : ρ[i]? = some s) (hz : s.own? ≠ some false) (ht : t.own? = none) : Step S ρ σ H S (ρ.set i t) (σ.set i (some v)) H := by
  have keep : ∀ {j : Nat} {u : Slot} {y : Bool} {b : Addr}, (ρ.set i t)[j]? = some u → u.own? = some y → adr (σ.set i (some v)) j = some b → ρ[j]? = some u ∧ adr σ j = some b := fun {j u y b} e1 e2 e3 => by
    rcases getset e1 with ⟨rfl, rfl⟩ | ⟨hne, e⟩
    · rw [ht] at e2; cases e2
    · exact ⟨e, by rw [adr_set_ne hne] at e3; exact e3⟩
  refine ⟨fun _ h => h, fun _ _ => rfl, fun _ _ h _ => h, fun _ o h => ⟨o, h⟩, fun _ h => .inl h, fun b ⟨j, u, z, h1, h2, h3⟩ => ?_, fun b ⟨j, u, h1, h2, h3⟩ => ?_, fun j u h1 h2 => ?_⟩
  · obtain ⟨e1, e2⟩ := keep h1 h2 h3
    exact .inl ⟨j, u, z, e1, h2, e2⟩
  · obtain ⟨e1, e2⟩ := keep h1 h2 h3
    exact .inl ⟨j, u, e1, h2, e2⟩
  · have hne : j ≠ i := fun e => by subst e; rw [hs] at h1; cases h1; exact hz h2
    exact ⟨u, by rw [List.getElem?_set_ne (fun e => hne e.symm)]; exact h1, h2, adr_set_ne hne⟩
/-- the reading of a target that gets a value -/
def tGt (K : PySem.W.Frag) (t : Tgt) : TG := fun v σ H Q => ∃ S ρ d ρ', Rel K S ρ σ H ∧ R K H S v d ∧ asgT t d ρ = some ρ' ∧
  ∀ σ', Rel K S ρ' σ' H → Step S ρ σ H S ρ' σ' H → σ'.length = σ.length → (∀ i, i ∉ t.slots → σ'[i]? = σ[i]?) → Q σ' H
def tGts (K : PySem.W.Frag) (ts : List Tgt) : TGs := fun vs σ H Q => ∃ S ρ ds ρ', Rel K S ρ σ H ∧ RAll K H S vs ds ∧ asgTs ts ds ρ = some ρ' ∧
  ∀ σ', Rel K S ρ' σ' H → Step S ρ σ H S ρ' σ' H → σ'.length = σ.length → (∀ i, i ∉ slotsAll ts → σ'[i]? = σ[i]?) → Q σ' H
end
section
variable {X : Cx} {e : Expr} {es : List Expr} {pos : Pos}
theorem pg_imp {t t' : TG} (h : PG X e t) (i : ∀ v σ H Q, t' v σ H Q → t v σ H Q) : PG X e t' := ⟨fun pins s σ H v u Q I r q => h.run pins s σ H v u Q I r (i v σ H Q q)⟩
theorem pgs_imp {t t' : TGs} (h : PGs X es t) (i : ∀ v σ H Q, t' v σ H Q → t v σ H Q) : PGs X es t' := ⟨fun pins s σ H v u Q I r q => h.run pins s σ H v u Q I r (i v σ H Q q)⟩
theorem pg_nm {i : Nat} (h : PG X e (gName i)) : PG X e (tGt X.K (.nm i)) := pg_imp h fun v σ H Q ⟨S, ρ, d, ρ', rel, hr, ha, q⟩ => by
  unfold asgT at ha
  split at ha
  · rename_i hf
    cases ha
    obtain ⟨s, hs, hz⟩ := free_of hf
    refine q _ (rel.put hs hz hr (.inl rfl)) (Step.put rel hs hz rfl) (List.length_set ..) fun j hj => ?_
    rw [List.getElem?_set_ne]
    intro e
    subst e
    exact hj (by simp [Tgt.slots])
  · cases ha
theorem pgs_nilE : PGs X [] (tGts X.K []) := pgs_imp pgs_nil fun vs σ H Q ⟨S, ρ, ds, ρ', rel, hr, ha, q⟩ => by
  cases hr with
  | nil => cases ha; exact ⟨rfl, q σ rel .refl rfl fun _ _ => rfl⟩
  | cons _ _ => cases ha
theorem pgs_consE {t : Tgt} {ts : List Tgt} (h1 : PG X e (tGt X.K t)) (h2 : PGs X es (tGts X.K ts)) (hs : (assignEach (e :: es) X.env).map (·.2) = assign e X.env :: (assignEach es X.env).map (·.2)) : PGs X (e :: es) (tGts X.K (t :: ts)) :=
  pgs_imp (pgs_cons h1 h2 hs) fun vs σ H Q ⟨S, ρ, ds, ρ', rel, hr, ha, q⟩ => by
    cases hr with
    | nil => cases ha
    | @cons v vs d ds r1 r2 =>
      unfold asgTs at ha
      cases e1 : asgT t d ρ with
      | none => simp only [e1] at ha; cases ha
      | some ρ1 =>
        simp only [e1] at ha
        refine ⟨v, vs, rfl, S, ρ, d, ρ1, rel, r1, e1, fun σ1 rel1 st1 hl1 hk1 => ?_⟩
        refine ⟨S, ρ1, ds, ρ', rel1, r2, ha, fun σ2 rel2 st2 hl2 hk2 => ?_⟩
        refine q σ2 rel2 (st1.trans st2) (hl2.trans hl1) fun i hi => ?_
        simp only [slotsAll, List.mem_append, not_or] at hi
        rw [hk2 i hi.2, hk1 i hi.1]
theorem asgTs_len : ∀ {ts : List Tgt} {ds : List D} {ρ ρ' : Rho}, asgTs ts ds ρ = some ρ' → ts.length = ds.length
  | [], [], _, _, _ => rfl
  | t :: ts, d :: ds, ρ, ρ', h => by
    unfold asgTs at h
    cases e1 : asgT t d ρ with
    | none => simp only [e1] at h; cases h
    | some ρ1 => simp only [e1] at h; simp [asgTs_len h]
  | [], _ :: _, _, _, h => by cases h
  | _ :: _, [], _, _, h => by cases h
theorem pg_tp {ts : List Tgt} {k : Nat} (hc : X.calm = true) (h : PGs X es (tGts X.K ts)) (hl : es.length = ts.length) (hn : (assignEach es X.env).length = es.length) (hst : (assignEach es X.env).findIdx? (·.1) = none) : PG X (.Tuple es k pos) (tGt X.K (.tp ts)) :=
  pg_imp (pg_tup (n := es.length) hc h hn hst) fun v σ H Q ⟨S, ρ, d, ρ', rel, hr, ha, q⟩ => by
    unfold asgT at ha
    cases d <;> try cases ha
    rename_i ds
    cases hr with
    | tup hs hm hall =>
      refine ⟨_, _, rfl, hs, ?_, S, ρ, ds, ρ', rel, hall, ha, fun σ' r' st hl hk => q σ' r' st hl fun i hi => hk i (by simpa [Tgt.slots] using hi)⟩
      rw [hall.length, hl, asgTs_len ha]
end
/-! ### what a loop walks -/
section
variable {K : PySem.W.Frag}
structure ItOk (K : PySem.W.Frag) (S0 : AS) (H0 : Hp) (ds : List D) (J : It) : Prop where
  go : ∀ S H i, Stay S0 S H0 H → Live S H → i < ds.length → J.go i H
  stop : ∀ S H i, Stay S0 S H0 H → Live S H → ds.length ≤ i → J.stop i H
  yld : ∀ S H i x H', Stay S0 S H0 H → Live S H → i < ds.length → J.yld i H x H' → ∃ S' d, ds[i]? = some d ∧ Ext S H S' H' ∧ R K H' S' x d
def tIt (K : PySem.W.Frag) (mg : Str → Option Value) (W : WX) (f : M (List D)) : TI := fun σ H Q => ∃ S ρ, Rel K S ρ σ H ∧ Post K mg W S ρ σ H (fun ds S' _ H' => ∀ J, ItOk K S' H' ds J → Q J H') (f ρ)
/-- the items of a list, a tuple -/
def itemsOf : D → Option (List D)
  | .list ds => some ds
  | .tuple ds => some ds
  | _ => none
def mItV (f : M Ret) : M (List D) := fun ρ => (f ρ).andThen fun r ρ' => match itemsOf r.toD with
  | some ds => .ok ds ρ'
  | none => .no
def rangeD (lo : Int) (n : Nat) : List D := (List.range n).map fun i => .int (lo + (i : Nat))
def mItR1 (f : M BV) : M (List D) := fun ρ => (f ρ).andThen fun b ρ' => match res ρ' b with
  | some (.int j) => if -(2 ^ 62) ≤ j ∧ j < 2 ^ 62 then .ok (rangeD 0 j.toNat) ρ' else .no
  | _ => .no
def mItR2 (f g : M BV) : M (List D) := fun ρ => (f ρ).andThen fun b ρ1 => (g ρ1).andThen fun c ρ2 => match res ρ2 b, res ρ2 c with
  | some (.int i), some (.int j) => if -(2 ^ 62) ≤ i ∧ i < 2 ^ 62 ∧ -(2 ^ 62) ≤ j ∧ j < 2 ^ 62 then .ok (rangeD i (j - i).toNat) ρ2 else .no
  | _, _ => .no
theorem itOk_list {S : AS} {H : Hp} {a : Addr} {vs : List V} {ds : List D} (h : H a = some (.lst vs)) (hs : S a) (ha : RAll K H S vs ds) : ItOk K S H ds (Itl K a) where
  go := fun S' H' i st l hi => by
    have := ha.length
    exact ⟨vs, vs[i]'(by omega), .inl (.inl ((st.at_ a hs).trans h)), List.getElem?_eq_getElem (by omega)⟩
  stop := fun S' H' i st l hi => ⟨vs, .inl (.inl ((st.at_ a hs).trans h)), by have := ha.length; omega⟩
  yld := fun S' H' i x H2 st l hi ⟨e, hx⟩ => by
    subst e
    have hv := hx vs (.inl (.inl ((st.at_ a hs).trans h)))
    obtain ⟨d, hd, hr⟩ := ha.getV hv
    exact ⟨S', d, hd, .refl, hr.stay st⟩
theorem itOk_tup {S : AS} {H : Hp} {a : Addr} {vs : List V} {ds : List D} (h : SqT K H a vs) (hs : S a ∨ ∀ H', SqT K H' a vs) (ha : RAll K H S vs ds) : ItOk K S H ds (Itt K a) := by
  have sq : ∀ S' H', Stay S S' H H' → SqT K H' a vs := fun S' H' st => by
    rcases hs with hs | hs
    · exact sqT_at (st.at_ a hs) h
    · exact hs _
  refine ⟨fun S' H' i st l hi => ?_, fun S' H' i st l hi => ?_, fun S' H' i x H2 st l hi ⟨e, hx⟩ => ?_⟩
  · have := ha.length
    exact ⟨vs, vs[i]'(by omega), sq S' H' st, List.getElem?_eq_getElem (by omega)⟩
  · exact ⟨vs, sq S' H' st, by have := ha.length; omega⟩
  · subst e
    have hv := hx vs (sq S' H2 st)
    obtain ⟨d, hd, hr⟩ := ha.getV hv
    exact ⟨S', d, hd, .refl, hr.stay st⟩
theorem itOk_range {S : AS} {H : Hp} {lo : Int} {n : Nat} : ItOk K S H (rangeD lo n) (Itr lo n) where
  go := fun S' H' i st l hi => by
    have : (rangeD lo n).length = n := by simp [rangeD]
    show i < n
    omega
  stop := fun S' H' i st l hi => by
    have : (rangeD lo n).length = n := by simp [rangeD]
    show n ≤ i
    omega
  yld := fun S' H' i x H2 st l hi ⟨e, hx⟩ => by
    subst e hx
    have : (rangeD lo n).length = n := by simp [rangeD]
    exact ⟨S', .int (lo + (i : Nat)), by unfold rangeD; rw [List.getElem?_map, List.getElem?_range (by omega)]; rfl, .refl, .int _⟩
end
section
variable {X : Cx} {mg : Str → Option Value} {W : WX} {e a b tg : Expr} {pos : Pos}
theorem pi_imp {t t' : TI} (h : PI X tg e t) (i : ∀ σ H Q, t' σ H Q → t σ H Q) : PI X tg e t' := ⟨fun pins s σ H R I q => h.run pins s σ H R I (i σ H R q)⟩
theorem pi_or {t t' : TI} (h : PI X tg e t) (h' : PI X tg e t') : PI X tg e (fun σ H Q => t σ H Q ∨ t' σ H Q) := ⟨fun pins s σ H R I q => q.elim (h.run pins s σ H R I) (h'.run pins s σ H R I)⟩
theorem pi_val {f : M Ret} (h : PE X e (tS X.K mg W f)) : PI X tg e (tIt X.K mg W (mItV f)) := pi_imp (pi_or (pi_list h) (pi_tup h)) fun σ H Q ⟨S, ρ, rel, p⟩ => by
  unfold mItV at p
  cases ef : f ρ with
  | no => rw [ef] at p; exact p.elim
  | exn x ρ1 => rw [ef] at p; exact .inl ⟨S, ρ, rel, by rw [ef]; exact p⟩
  | ok r ρ1 =>
    rw [ef] at p
    simp only [andThen_ok] at p
    cases r with
    | val d =>
      cases d <;> try (exact p.elim)
      · rename_i ds
        refine .inl ⟨S, ρ, rel, ?_⟩
        rw [ef]
        intro S1 H1 st r1 v hv hn
        cases hv with
        | lst h hs ha => exact ⟨_, rfl, ⟨_, .inl (.inl h)⟩, p S1 H1 st r1 _ (itOk_list h hs ha)⟩
      · rename_i ds
        refine .inr ⟨S, ρ, rel, ?_⟩
        rw [ef]
        intro S1 H1 st r1 v hv hn
        cases hv with
        | tup h hs ha => exact ⟨_, rfl, ⟨_, h⟩, p S1 H1 st r1 _ (itOk_tup h hs ha)⟩
    | fl ds =>
      refine .inl ⟨S, ρ, rel, ?_⟩
      rw [ef]
      intro S1 H1 st r1 v hv hn
      obtain ⟨S2, st2, r2, hr, hs⟩ := RRet.val st r1 hv hn
      cases hr with
      | lst h hs ha => exact ⟨_, rfl, ⟨_, .inl (.inl h)⟩, p S2 H1 st2 r2 _ (itOk_list h hs ha)⟩
    | fd kvs => exact p.elim
theorem pi_r1 {f : M BV} {p pos : Pos} (hg : Gl X "range") (hm : X.mg "range" = none) (ha : PE X a (tBo X.K mg W f)) (hs : starEach [a] X.env = [(false, eval a X.env)]) : PI X tg (.Call (.Name "range" p) [a] [] pos) (tIt X.K mg W (mItR1 f)) :=
  pi_imp (pi_range1 hg hm (pa_cons ha pa_nil hs) hs) fun σ H Q ⟨S, ρ, rel, p⟩ => by
    refine ⟨S, ρ, rel, Post.and p fun bv S1 ρ1 H1 st1 r1 p v hv => ?_⟩
    cases e1 : res ρ1 bv with
    | none => simp only [e1] at p; exact p.elim
    | some d =>
      simp only [e1] at p
      cases d <;> try (exact p.elim)
      rename_i j
      simp only at p
      split at p
      · rename_i hj
        exact ⟨j, by rw [(hv.read r1 e1).int], hj.1, hj.2, p S1 H1 st1 r1 _ itOk_range⟩
      · exact p.elim
theorem pi_r2 {f g : M BV} {p pos : Pos} (hg : Gl X "range") (hm : X.mg "range" = none) (ha : PE X a (tBo X.K mg W f)) (hb : PE X b (tBo X.K mg W g)) (hs : starEach [a, b] X.env = [(false, eval a X.env), (false, eval b X.env)]) (hs2 : starEach [b] X.env = [(false, eval b X.env)]) : PI X tg (.Call (.Name "range" p) [a, b] [] pos) (tIt X.K mg W (mItR2 f g)) :=
  pi_imp (pi_range2 hg hm (pa_cons ha (pa_cons hb pa_nil hs2) (by rw [hs, hs2])) hs hs2) fun σ H Q ⟨S, ρ, rel, p⟩ => by
    refine ⟨S, ρ, rel, Post.and p fun bv S1 ρ1 H1 st1 r1 p v hv => ?_⟩
    refine ⟨S1, ρ1, r1, Post.and (Post.from p st1) fun cv S2 ρ2 H2 st2 r2 p u hu => ?_⟩
    cases e1 : res ρ2 bv with
    | none => simp only [e1] at p; exact p.elim
    | some d =>
      cases e2 : res ρ2 cv with
      | none => simp only [e1, e2] at p; cases d <;> exact p.elim
      | some d2 =>
        simp only [e1, e2] at p
        cases d <;> try (exact p.elim)
        cases d2 <;> try (exact p.elim)
        rename_i i j
        simp only at p
        split at p
        · rename_i hj
          exact ⟨i, j, by rw [((hv.step st2).read r2 e1).int, (hu.read r2 e2).int], hj, p S2 H2 st2 r2 _ itOk_range⟩
        · exact p.elim
end
end Ev
namespace Ev
open PySem PySem.Spec PyProof.Rows L2
/-! ### a comprehension's block -/
def wipeR (ρ : Rho) : List Nat → Rho
  | [] => ρ
  | i :: is => (wipeR ρ is).set i .un
def keepDat : Option Slot → Slot
  | some (.dat d) => .dat d
  | _ => .un
def restR (ρ1 : Rho) : List Nat → Rho → Rho
  | [], ρ => ρ
  | i :: is, ρ => (restR ρ1 is ρ).set i (keepDat ρ1[i]?)
def freeAll (ρ : Rho) (own : List Nat) : Bool := own.all fun i => Slot.free? ρ[i]?
def lcLoop (own : List Nat) (tg : Tgt) (tt : M Bool) (te : M Ret) : List D → List D → Rho → Out (List D)
  | [], acc, ρ => .ok acc ρ
  | d :: ds, acc, ρ => match asgT tg d ρ with
    | none => .no
    | some ρ1 => (tt ρ1).andThen fun b ρ2 => if b = true then
        (te ρ2).andThen fun r ρ3 => if acc.length < 16777216 ∧ freeAll ρ3 own = true then lcLoop own tg tt te ds (acc ++ [r.toD]) (wipeR ρ3 own) else .no
      else if freeAll ρ2 own = true then lcLoop own tg tt te ds acc (wipeR ρ2 own) else .no
def lcFin (own : List Nat) (ρ1 : Rho) : Out (List D) → Out Ret
  | .ok acc ρ => .ok (.fl acc) (restR ρ1 own ρ)
  | _ => .no
def mLc (own : List Nat) (it : M (List D)) (tg : Tgt) (tt : M Bool) (te : M Ret) : M Ret := fun ρ => (it ρ).andThen fun ds ρ1 =>
  if freeAll ρ1 own = true then lcFin own ρ1 (lcLoop own tg tt te ds [] (wipeR ρ1 own)) else .no
section
variable {K : PySem.W.Frag} {mg : Str → Option Value} {W : WX} {H H' H1 H2 H3 : Hp} {S S' S1 S2 S3 : AS} {ρ ρ' ρ1 ρ2 ρ3 : Rho} {σ σ' σ1 σ2 σ3 : L2.St}
theorem wipeR_len (ρ : Rho) : ∀ own : List Nat, (wipeR ρ own).length = ρ.length
  | [] => rfl
  | i :: is => by unfold wipeR; rw [List.length_set, wipeR_len ρ is]
theorem wipeR_get {i : Nat} : ∀ {own : List Nat}, (wipeR ρ own)[i]? = if i ∈ own ∧ i < ρ.length then some .un else ρ[i]?
  | [] => by simp [wipeR]
  | j :: is => by
    unfold wipeR
    by_cases e : j = i
    · subst e
      by_cases h : j < ρ.length
      · rw [List.getElem?_set_self (by rw [wipeR_len]; exact h), if_pos ⟨List.mem_cons_self .., h⟩]
      · rw [List.getElem?_eq_none (by rw [List.length_set, wipeR_len]; omega), if_neg (fun z => h z.2), List.getElem?_eq_none (by omega)]
    · rw [List.getElem?_set_ne e, wipeR_get (own := is)]
      have : (i ∈ j :: is) ↔ i ∈ is := ⟨fun h => (List.mem_cons.mp h).resolve_left fun z => e z.symm, fun h => List.mem_cons_of_mem _ h⟩
      simp only [this]
theorem wipe_get {i : Nat} : ∀ {own : List Nat}, (L2.wipe σ own)[i]? = if i ∈ own ∧ i < σ.length then some none else σ[i]?
  | [] => by simp [L2.wipe]
  | j :: is => by
    unfold L2.wipe
    by_cases e : j = i
    · subst e
      by_cases h : j < σ.length
      · rw [List.getElem?_set_self (by rw [L2.wipe_length]; exact h), if_pos ⟨List.mem_cons_self .., h⟩]
      · rw [List.getElem?_eq_none (by rw [List.length_set, L2.wipe_length]; omega), if_neg (fun z => h z.2), List.getElem?_eq_none (by omega)]
    · rw [List.getElem?_set_ne e, wipe_get (own := is)]
      have : (i ∈ j :: is) ↔ i ∈ is := ⟨fun h => (List.mem_cons.mp h).resolve_left fun z => e z.symm, fun h => List.mem_cons_of_mem _ h⟩
      simp only [this]
theorem wipe_same {own : List Nat} (hl : σ'.length = σ.length) (h : ∀ i, i ∉ own → σ'[i]? = (L2.wipe σ own)[i]?) : L2.wipe σ' own = L2.wipe σ own := by
  apply List.ext_getElem?
  intro i
  rw [wipe_get, wipe_get]
  by_cases hi : i ∈ own
  · by_cases hlt : i < σ.length
    · rw [if_pos ⟨hi, by omega⟩, if_pos ⟨hi, hlt⟩]
    · rw [if_neg (fun z => hlt (by omega)), if_neg (fun z => hlt z.2), List.getElem?_eq_none (by omega), List.getElem?_eq_none (by omega)]
  · rw [if_neg (fun z => hi z.1), if_neg (fun z => hi z.1)]
    have := h i hi
    rw [wipe_get, if_neg (fun z => hi z.1)] at this
    exact this
theorem freeAll_of {own : List Nat} (h : freeAll ρ own = true) {i : Nat} (hi : i ∈ own) : ∃ s, ρ[i]? = some s ∧ s.own? ≠ some false := free_of (List.all_eq_true.mp h i hi)
theorem adr_wipe {own : List Nat} {i : Nat} (hi : i ∉ own) : adr (L2.wipe σ own) i = adr σ i := by
  unfold adr
  rw [wipe_get, if_neg (fun z => hi z.1)]
/-- a block begins (or a turn): its own names are forgotten -/
theorem Rel.wipe (r : Rel K S ρ σ H) {own : List Nat} (hf : ∀ i ∈ own, ∀ s, ρ[i]? = some s → s.own? ≠ some false) : Rel K S (wipeR ρ own) (L2.wipe σ own) H ∧ Step S ρ σ H S (wipeR ρ own) (L2.wipe σ own) H := by
  have keep : ∀ {i : Nat} {s : Slot} {z : Bool}, (wipeR ρ own)[i]? = some s → s.own? = some z → i ∉ own ∧ ρ[i]? = some s := fun {i s z} h1 h2 => by
    rw [wipeR_get] at h1
    split at h1
    · cases h1; cases h2
    · rename_i hn
      refine ⟨fun hi => hn ⟨hi, (List.getElem?_eq_some_iff.mp h1).1⟩, h1⟩
  refine ⟨⟨by rw [wipeR_len, L2.wipe_length]; exact r.len, fun i s h => ?_, fun i j s t y z a h1 h2 h3 h4 h5 h6 => ?_, r.live⟩, ⟨fun _ h => h, fun _ _ => rfl, fun _ _ h _ => h, fun _ o h => ⟨o, h⟩, fun _ h => .inl h, fun a ⟨i, s, z, h1, h2, h3⟩ => ?_, fun a ⟨i, s, h1, h2, h3⟩ => ?_, fun i s h1 h2 => ?_⟩⟩
  · rw [wipeR_get] at h
    split at h
    · cases h; exact trivial
    · rename_i hn
      have hl := (List.getElem?_eq_some_iff.mp h).1
      rw [wipe_get, if_neg (fun z => hn ⟨z.1, hl⟩)]
      exact r.slot i s h
  · obtain ⟨k1, e1⟩ := keep h1 h3
    obtain ⟨k2, e2⟩ := keep h2 h4
    rw [adr_wipe k1] at h5
    rw [adr_wipe k2] at h6
    exact r.inj i j s t y z a e1 e2 h3 h4 h5 h6
  · obtain ⟨k1, e1⟩ := keep h1 h2
    rw [adr_wipe k1] at h3
    exact .inl ⟨i, s, z, e1, h2, h3⟩
  · obtain ⟨k1, e1⟩ := keep h1 h2
    rw [adr_wipe k1] at h3
    exact .inl ⟨i, s, e1, h2, h3⟩
  · have hn : i ∉ own := fun hi => hf i hi s h1 h2
    exact ⟨s, by rw [wipeR_get, if_neg (fun z => hn z.1)]; exact h1, h2, adr_wipe hn⟩
theorem restR_len (ρ1 ρ : Rho) : ∀ own : List Nat, (restR ρ1 own ρ).length = ρ.length
  | [] => rfl
  | i :: is => by unfold restR; rw [List.length_set, restR_len ρ1 ρ is]
theorem restR_get {i : Nat} : ∀ {own : List Nat}, (restR ρ1 own ρ)[i]? = if i ∈ own ∧ i < ρ.length then some (keepDat ρ1[i]?) else ρ[i]?
  | [] => by simp [restR]
  | j :: is => by
    unfold restR
    by_cases e : j = i
    · subst e
      by_cases h : j < ρ.length
      · rw [List.getElem?_set_self (by rw [restR_len]; exact h), if_pos ⟨List.mem_cons_self .., h⟩]
      · rw [List.getElem?_eq_none (by rw [List.length_set, restR_len]; omega), if_neg (fun z => h z.2), List.getElem?_eq_none (by omega)]
    · rw [List.getElem?_set_ne e, restR_get (own := is)]
      have : (i ∈ j :: is) ↔ i ∈ is := ⟨fun h => (List.mem_cons.mp h).resolve_left fun z => e z.symm, fun h => List.mem_cons_of_mem _ h⟩
      simp only [this]
theorem keepDat_own (o : Option Slot) : (keepDat o).own? = none := by
  cases o with
  | none => rfl
  | some s => cases s <;> rfl
/-- the block is left: the names around stand as before -/
theorem Rel.rest (r1 : Rel K S1 ρ1 σ H1) {own : List Nat} (hf : freeAll ρ1 own = true) (r : Rel K S ρ (L2.wipe σ own) H) (st : Step S1 ρ1 σ H1 S ρ (L2.wipe σ own) H) :
    Rel K S (restR ρ1 own ρ) σ H ∧ Step S1 ρ1 σ H1 S (restR ρ1 own ρ) σ H := by
  have keep : ∀ {i : Nat} {s : Slot} {z : Bool}, (restR ρ1 own ρ)[i]? = some s → s.own? = some z → i ∉ own ∧ ρ[i]? = some s := fun {i s z} h1 h2 => by
    rw [restR_get] at h1
    split at h1
    · cases h1; rw [keepDat_own] at h2; cases h2
    · rename_i hn
      exact ⟨fun hi => hn ⟨hi, (List.getElem?_eq_some_iff.mp h1).1⟩, h1⟩
  have hl : ρ.length = σ.length := by rw [r.len, L2.wipe_length]
  refine ⟨⟨by rw [restR_len]; exact hl, fun i s h => ?_, fun i j s t y z a h1 h2 h3 h4 h5 h6 => ?_, r.live⟩, ⟨st.sub, st.at_, st.frame, st.there, st.new, fun a ⟨i, s, z, h1, h2, h3⟩ => ?_, fun a ⟨i, s, h1, h2, h3⟩ => ?_, fun i s h1 h2 => ?_⟩⟩
  · rw [restR_get] at h
    split at h
    · rename_i hi
      cases h
      obtain ⟨s1, e1, _⟩ := freeAll_of hf hi.1
      rw [e1]
      have q := r1.slot i s1 e1
      cases s1 with
      | dat d =>
        show SlotOk K S H σ[i]?.join (.dat d)
        cases ex : σ[i]?.join with
        | none => rw [ex] at q; exact q.elim
        | some v => rw [ex] at q; exact R.stay st.stay d v q
      | _ => exact trivial
    · rename_i hn
      have hlt := (List.getElem?_eq_some_iff.mp h).1
      have q := r.slot i s h
      rw [wipe_get, if_neg (fun z => hn ⟨z.1, hlt⟩)] at q
      exact q
  · obtain ⟨k1, e1⟩ := keep h1 h3
    obtain ⟨k2, e2⟩ := keep h2 h4
    exact r.inj i j s t y z a e1 e2 h3 h4 (by rw [adr_wipe k1]; exact h5) (by rw [adr_wipe k2]; exact h6)
  · obtain ⟨k1, e1⟩ := keep h1 h2
    exact st.own a ⟨i, s, z, e1, h2, by rw [adr_wipe k1]; exact h3⟩
  · obtain ⟨k1, e1⟩ := keep h1 h2
    exact st.ownZ a ⟨i, s, e1, h2, by rw [adr_wipe k1]; exact h3⟩
  · obtain ⟨t, e1, e2, e3⟩ := st.ino i s h1 h2
    have hn : i ∉ own := fun hi => by
      obtain ⟨s', e', n'⟩ := freeAll_of hf hi
      rw [h1] at e'
      cases e'
      exact n' h2
    have e4 : (restR ρ1 own ρ)[i]? = some t := by rw [restR_get, if_neg (fun z => hn z.1), e1]
    exact ⟨t, e4, e2, rfl⟩
/-- an object that stands aside stays through a step -/
structure Aside (S : AS) (ρ : Rho) (σ : L2.St) (H : Hp) (p : Addr) (o : HO) : Prop where
  at_ : H p = some o
  nS : ¬ S p
  nO : ¬ Own ρ σ p
theorem Aside.step {p : Addr} {o : HO} (a : Aside S ρ σ H p o) (st : Step S ρ σ H S' ρ' σ' H') : Aside S' ρ' σ' H' p o where
  at_ := st.frame p o a.at_ a.nO
  nS := fun h => by
    rcases st.new p h with z | z | z
    · exact a.nS z
    · rw [a.at_] at z; cases z
    · exact a.nO z.own
  nO := fun h => by
    rcases st.own p h with z | z
    · exact a.nO z
    · rw [a.at_] at z; cases z
theorem Aside.set {p : Addr} {o o' : HO} (a : Aside S ρ σ H p o) (r : Rel K S ρ σ H) : Aside S ρ σ (upd H p o') p o' ∧ Rel K S ρ σ (upd H p o') ∧ Stay S S H (upd H p o') := by
  have ne : ∀ b, S b → b ≠ p := fun b h e => by subst e; exact a.nS h
  have st : Stay S S H (upd H p o') := ⟨fun _ h => h, fun b h => upd_ne (ne b h)⟩
  refine ⟨⟨upd_same, a.nS, a.nO⟩, ⟨r.len, fun i s h => ?_, r.inj, fun b h => ?_⟩, st⟩
  · have q := r.slot i s h
    cases s with
    | un => exact trivial
    | giv d => exact SlotOk.giv_stay st q
    | dat d =>
      cases e : σ[i]?.join with
      | none => rw [e] at q; exact q.elim
      | some v => rw [e] at q; exact R.stay st d v q
    | lst z ds =>
      obtain ⟨b, u, e1, e2, e3, e4⟩ := q.own_adr (z := z) rfl
      have hb : b ≠ p := fun e => a.nO ⟨i, _, z, h, rfl, by rw [← e]; exact join_adr e1⟩
      rw [e1] at q ⊢
      obtain ⟨vs, q1, q2, q3⟩ := q
      exact ⟨vs, by rw [upd_ne hb]; exact q1, q2, RAll.stay st ds vs q3⟩
    | dic z ds =>
      obtain ⟨b, u, e1, e2, e3, e4⟩ := q.own_adr (z := z) rfl
      have hb : b ≠ p := fun e => a.nO ⟨i, _, z, h, rfl, by rw [← e]; exact join_adr e1⟩
      rw [e1] at q ⊢
      obtain ⟨vs, q1, q2, q3⟩ := q
      exact ⟨vs, by rw [upd_ne hb]; exact q1, q2, RKv.stay st ds vs q3⟩
  · obtain ⟨u, e⟩ := r.live b h
    exact ⟨u, by rw [upd_ne (ne b h)]; exact e⟩
/-- .. seen from a start at which it was not there -/
theorem Step.side {p : Addr} {o : HO} (st : Step S1 ρ1 σ1 H1 S ρ σ H) (l : Live S1 H1) (hp : H1 p = none) : Step S1 ρ1 σ1 H1 S ρ σ (upd H p o) := by
  have ne : ∀ b u, H1 b = some u → b ≠ p := fun b u h e => by subst e; rw [hp] at h; cases h
  refine ⟨st.sub, fun b h => ?_, fun b u h n => ?_, fun b u h => ?_, st.new, st.own, st.ownZ, st.ino⟩
  · obtain ⟨u, e⟩ := l b h
    rw [upd_ne (ne b u e)]
    exact st.at_ b h
  · rw [upd_ne (ne b u h)]; exact st.frame b u h n
  · rw [upd_ne (ne b u h)]; exact st.there b u h
end
section
variable {X : Cx} {mg : Str → Option Value} {W : WX}
/-- a comprehension: its reading from the readings of its parts -/
theorem lc_fwd {K : PySem.W.Frag} {own : List Nat} {it : M (List D)} {tg : Tgt} {tt : M Bool} {te : M Ret} {σ : L2.St} {H : Hp} {Q : VK} {S : AS} {ρ : Rho} (hsub : ∀ i ∈ tg.slots, i ∈ own) (rel : Rel K S ρ σ H)
    (p : Post K mg W S ρ σ H (fun r S' ρ' H' => ∀ v, RRet K S' ρ' σ H' v r → RNew ρ σ H v r → Q v H') (mLc own it tg tt te ρ)) :
    tLc (tIt K mg W it) (tGt K tg) (tTe K mg (fun _ _ _ _ => False) tt) (tS K mg (fun _ _ _ _ => False) te) own σ H Q := by
  refine ⟨S, ρ, rel, Post.and p fun ds S1 ρ1 H1 st1 r1 p J hJ D hD => ?_⟩
  by_cases hf : freeAll ρ1 own = true
  case neg => rw [if_neg hf] at p; exact p.elim
  rw [if_pos hf] at p
  have p1 := Post.from p st1
  clear p
  have hD0 : H D = none := by
    cases e : H D with
    | none => rfl
    | some o => obtain ⟨o', e'⟩ := st1.there D o e; rw [hD] at e'; cases e'
  -- the loop's invariant
  refine ⟨fun i m H2 => m = ds.length - i ∧ i ≤ ds.length ∧ ∃ S2 ρ2 acc vs, Rel K S2 ρ2 (L2.wipe σ own) H2 ∧ Step S1 ρ1 σ H1 S2 ρ2 (L2.wipe σ own) H2 ∧ Aside S2 ρ2 (L2.wipe σ own) H2 D (.lst vs) ∧ RAll K H2 S2 vs acc ∧
      Post K mg W S1 ρ1 σ H1 (fun r S' ρ' H' => ∀ v, RRet K S' ρ' σ H' v r → RNew ρ σ H v r → Q v H') (lcFin own ρ1 (lcLoop own tg tt te (ds.drop i) acc ρ2)), ⟨ds.length, by omega, Nat.zero_le _, ?_⟩, ?_⟩
  · obtain ⟨r2, st2⟩ := r1.wipe (own := own) fun i hi s hs => by
      obtain ⟨s', e', n'⟩ := freeAll_of hf hi
      rw [hs] at e'
      cases e'
      exact n'
    obtain ⟨r3, st3, nS, nO⟩ := r2.fresh (o := .lst []) hD
    exact ⟨S1, wipeR ρ1 own, [], [], r3, st2.trans st3, ⟨upd_same, nS, nO⟩, .nil, by rw [List.drop_zero]; exact p1⟩
  · rintro i m H2 ⟨rfl, hi, S2, ρ2, acc, vs, r2, st2, as2, ra, p2⟩
    by_cases hlt : i < ds.length
    · refine .inr ⟨hJ.go S2 H2 i st2.stay r2.live hlt, fun H' => ∃ S' ρ' acc vs, Rel K S' ρ' (L2.wipe σ own) H' ∧ Step S1 ρ1 σ H1 S' ρ' (L2.wipe σ own) H' ∧ Aside S' ρ' (L2.wipe σ own) H' D (.lst vs) ∧ RAll K H' S' vs acc ∧
        Post K mg W S1 ρ1 σ H1 (fun r S' ρ' H' => ∀ v, RRet K S' ρ' σ H' v r → RNew ρ σ H v r → Q v H') (lcFin own ρ1 (lcLoop own tg tt te (ds.drop (i + 1)) acc ρ')), fun H' h => ⟨ds.length - (i + 1), by omega, rfl, hlt, h⟩, fun x H3 hy => ?_⟩
      obtain ⟨S3, d, hd, ex, hr⟩ := hJ.yld S2 H2 i x H3 st2.stay r2.live hlt hy
      obtain ⟨r3, st3⟩ := r2.ext ex
      have as3 := as2.step st3
      rw [List.drop_eq_getElem_cons hlt] at p2
      have hd' : ds[i] = d := by rw [List.getElem?_eq_getElem hlt] at hd; exact Option.some.inj hd
      rw [hd'] at p2
      simp only [lcLoop] at p2
      cases e1 : asgT tg d ρ2 with
      | none => simp only [e1] at p2; exact p2.elim
      | some ρ4 =>
        simp only [e1] at p2
        refine ⟨S3, ρ2, d, ρ4, r3, hr, e1, fun σ4 r4 st4 hl4 hk4 => ?_⟩
        have hw : L2.wipe σ4 own = L2.wipe σ own := wipe_same (by rw [hl4, L2.wipe_length]) fun j hj => hk4 j fun z => hj (hsub j z)
        refine ⟨hw, ?_⟩
        have st24 := (st2.trans st3).trans st4
        have as4 := as3.step st4
        have ra4 := (RAll.stay st3.stay _ _ ra).stay st4.stay
        -- a turn's end: the own names are forgotten again
        have turn : ∀ {S5 : AS} {ρ5 : Rho} {H5 : Hp}, Rel K S5 ρ5 σ4 H5 → Step S1 ρ1 σ H1 S5 ρ5 σ4 H5 → ∀ {o : HO}, Aside S5 ρ5 σ4 H5 D o → freeAll ρ5 own = true →
            Rel K S5 (wipeR ρ5 own) (L2.wipe σ own) H5 ∧ Step S1 ρ1 σ H1 S5 (wipeR ρ5 own) (L2.wipe σ own) H5 ∧ Aside S5 (wipeR ρ5 own) (L2.wipe σ own) H5 D o := fun {S5 ρ5 H5} r5 st5 {o} as5 hfr => by
          obtain ⟨r6, st6⟩ := r5.wipe (own := own) fun i hi s hs => by
            obtain ⟨s', e', n'⟩ := freeAll_of hfr hi
            rw [hs] at e'
            cases e'
            exact n'
          rw [hw] at r6 st6
          exact ⟨r6, st5.trans st6, as5.step st6⟩
        refine ⟨S3, ρ4, r4, ?_⟩
        cases et : tt ρ4 with
        | no => rw [et] at p2; exact p2.elim
        | exn x ρ5 => rw [et] at p2; exact p2.elim
        | ok b ρ5 =>
          rw [et] at p2
          simp only [andThen_ok] at p2
          intro S5 H5 st5 r5
          have as5 := as4.step st5
          have ra5 := RAll.stay st5.stay _ _ ra4
          cases b with
          | false =>
            simp only [Bool.false_eq_true, if_false] at p2
            show if false = true then _ else _
            rw [if_neg Bool.false_ne_true]
            by_cases hfr : freeAll ρ5 own = true
            case neg => rw [if_neg hfr] at p2; exact p2.elim
            rw [if_pos hfr] at p2
            obtain ⟨r6, st6, as6⟩ := turn r5 (st24.trans st5) as5 hfr
            exact ⟨S5, _, acc, vs, r6, st6, as6, ra5, p2⟩
          | true =>
            simp only [if_true] at p2
            show if true = true then _ else _
            rw [if_pos rfl]
            refine ⟨S5, ρ5, r5, ?_⟩
            cases ee : te ρ5 with
            | no => rw [ee] at p2; exact p2.elim
            | exn x ρ6 => rw [ee] at p2; exact p2.elim
            | ok r ρ6 =>
              rw [ee] at p2
              simp only [andThen_ok] at p2
              intro S6 H6 st6 r6 v hv hn
              by_cases hfr : acc.length < 16777216 ∧ freeAll ρ6 own = true
              case neg => rw [if_neg hfr] at p2; exact p2.elim
              rw [if_pos hfr] at p2
              obtain ⟨S7, st7, r7, hr7, _⟩ := RRet.val st6 r6 hv hn
              have as7 := as5.step st7
              have ra7 := RAll.stay st7.stay _ _ ra5
              obtain ⟨r8, st8, as8⟩ := turn r7 ((st24.trans st5).trans st7) as7 hfr.2
              obtain ⟨as9, r9, sty⟩ := as8.set (o' := .lst (vs ++ [v])) r8
              refine ⟨vs, as7.at_, by rw [ra7.length, line_eq]; exact hfr.1, S7, _, acc ++ [r.toD], vs ++ [v], r9, st8.side r1.live hD, as9, RAll.stay sty _ _ (ra7.append (.cons hr7 .nil)), p2⟩
    · have hle : ds.length ≤ i := by omega
      refine .inl ⟨hJ.stop S2 H2 i st2.stay r2.live hle, ?_⟩
      rw [List.drop_eq_nil_of_le hle] at p2
      obtain ⟨r3, st3⟩ := r1.rest hf r2 st2
      refine p2 S2 H2 st3 r3 (.ref D) ⟨D, vs, rfl, as2.at_, as2.nS, ra, fun ho => ?_⟩ fun b eb => by cases eb; exact .inl hD0
      obtain ⟨j, s, z, h1, h2, h3⟩ := ho
      rw [restR_get] at h1
      split at h1
      · cases h1; rw [keepDat_own] at h2; cases h2
      · rename_i hn
        have hlt2 := (List.getElem?_eq_some_iff.mp h1).1
        exact as2.nO ⟨j, s, z, h1, h2, by rw [adr_wipe (fun hj => hn ⟨hj, hlt2⟩)]; exact h3⟩
end
end Ev
namespace Ev
open PySem PySem.Spec PyProof.Rows L2
/-! ### statements -/
inductive OutS where
  | nx (ρ : Rho)
  | rt (r : Ret) (ρ : Rho)
  | bk (ρ : Rho)
  | ct (ρ : Rho)
  | exn (e : Exn) (ρ : Rho)
  | no
abbrev MS := Rho → OutS
def Out.thenS {α : Type} (o : Out α) (f : α → Rho → OutS) : OutS := match o with
  | .ok a ρ => f a ρ
  | .exn e ρ => .exn e ρ
  | .no => .no
@[simp] theorem thenS_ok {α : Type} (a : α) (ρ : Rho) (f : α → Rho → OutS) : (Out.ok a ρ).thenS f = f a ρ := rfl
@[simp] theorem thenS_exn {α : Type} (e : Exn) (ρ : Rho) (f : α → Rho → OutS) : (Out.exn e ρ : Out α).thenS f = .exn e ρ := rfl
@[simp] theorem thenS_no {α : Type} (f : α → Rho → OutS) : (Out.no : Out α).thenS f = .no := rfl
def Ret.slot : Ret → Slot
  | .val d => .dat d
  | .fl ds => .lst true ds
  | .fd kvs => .dic true kvs
def sNext : MS := fun ρ => .nx ρ
def sBreak : MS := fun ρ => .bk ρ
def sCont : MS := fun ρ => .ct ρ
def sSeq (f g : MS) : MS := fun ρ => match f ρ with
  | .nx ρ' => g ρ'
  | o => o
def sExpr (f : M Ret) : MS := fun ρ => (f ρ).thenS fun _ ρ' => .nx ρ'
def sRet (f : M Ret) : MS := fun ρ => (f ρ).thenS fun r ρ' => .rt r ρ'
def sRetN : MS := fun ρ => .rt (.val .none) ρ
def sIf (t : M Bool) (f g : MS) : MS := fun ρ => (t ρ).thenS fun k ρ' => if k = true then f ρ' else g ρ'
def sAsgN (i : Nat) (f : M Ret) : MS := fun ρ => (f ρ).thenS fun r ρ' => if Slot.free? ρ'[i]? = true then .nx (ρ'.set i r.slot) else .no
def sAsgT (t : Tgt) (f : M Ret) : MS := fun ρ => (f ρ).thenS fun r ρ' => match asgT t r.toD ρ' with
  | some ρ2 => .nx ρ2
  | none => .no
def forLoop (tg : Tgt) (body : MS) : List D → Rho → OutS
  | [], ρ => .nx ρ
  | d :: ds, ρ => match asgT tg d ρ with
    | none => .no
    | some ρ1 => match body ρ1 with
      | .nx ρ2 => forLoop tg body ds ρ2
      | .ct ρ2 => forLoop tg body ds ρ2
      | .bk ρ2 => .nx ρ2
      | .rt r ρ2 => .rt r ρ2
      | .exn e ρ2 => .exn e ρ2
      | .no => .no
def sFor (it : M (List D)) (tg : Tgt) (body : MS) : MS := fun ρ => (it ρ).thenS fun ds ρ1 => forLoop tg body ds ρ1
def whLoop (t : M Bool) (body : MS) : Nat → Rho → OutS
  | 0, _ => .no
  | n + 1, ρ => (t ρ).thenS fun k ρ1 => if k = true then (match body ρ1 with
      | .nx ρ2 => whLoop t body n ρ2
      | .ct ρ2 => whLoop t body n ρ2
      | .bk ρ2 => .nx ρ2
      | .rt r ρ2 => .rt r ρ2
      | .exn e ρ2 => .exn e ρ2
      | .no => .no)
    else .nx ρ1
def sWhile (n : Nat) (t : M Bool) (body : MS) : MS := whLoop t body n
section
variable (K : PySem.W.Frag) (mg : Str → Option Value) (W : WX)
def PostS (S : AS) (ρ : Rho) (σ : L2.St) (H : Hp) (D : Ends) : OutS → Prop
  | .nx ρ' => ∀ S' σ' H', Step S ρ σ H S' ρ' σ' H' → Rel K S' ρ' σ' H' → D.nx σ' H'
  | .bk ρ' => ∀ S' σ' H', Step S ρ σ H S' ρ' σ' H' → Rel K S' ρ' σ' H' → D.bk σ' H'
  | .ct ρ' => ∀ S' σ' H', Step S ρ σ H S' ρ' σ' H' → Rel K S' ρ' σ' H' → D.ct σ' H'
  | .rt r ρ' => ∀ S' σ' H' v, Step S ρ σ H S' ρ' σ' H' → Rel K S' ρ' σ' H' → RRet K S' ρ' σ' H' v r → RNew ρ σ H v r → D.rt v H'
  | .exn e ρ' => ∀ S' σ' H' cls dx, Step S ρ σ H S' ρ' σ' H' → Rel K S' ρ' σ' H' → XRel K mg S' H' e cls dx → W cls dx σ' H'
  | .no => False
def tSt (f : MS) : TS := fun D σ H => ∃ S ρ, Rel K S ρ σ H ∧ PostS K mg W S ρ σ H D (f ρ)
end
section
variable {K : PySem.W.Frag} {mg : Str → Option Value} {W : WX} {H H' H1 H2 H3 : Hp} {S S' S1 S2 S3 : AS} {ρ ρ' ρ1 ρ2 ρ3 : Rho} {σ σ' σ1 σ2 σ3 : L2.St}
theorem RNew.back' (st : Step S ρ σ H S1 ρ1 σ1 H1) {v : V} {r : Ret} (h : RNew ρ1 σ1 H1 v r) : RNew ρ σ H v r := by
  have go : (∀ a, v = .ref a → H1 a = none ∨ OwnZ ρ1 σ1 a) → ∀ a, v = .ref a → H a = none ∨ OwnZ ρ σ a := fun hn a ea => (hn a ea).elim (fun q => .inl (by
    cases e : H a with
    | none => rfl
    | some o => obtain ⟨o', e'⟩ := st.there a o e; rw [q] at e'; cases e')) fun q => (st.ownZ a q).symm
  cases r with
  | val _ => exact trivial
  | fl _ => exact go h
  | fd _ => exact go h
theorem PostS.from {D : Ends} {o : OutS} (p : PostS K mg W S ρ σ H D o) (st : Step S ρ σ H S1 ρ1 σ1 H1) : PostS K mg W S1 ρ1 σ1 H1 D o := by
  cases o with
  | nx ρ2 => exact fun S2 σ2 H2 st2 r2 => p S2 σ2 H2 (st.trans st2) r2
  | bk ρ2 => exact fun S2 σ2 H2 st2 r2 => p S2 σ2 H2 (st.trans st2) r2
  | ct ρ2 => exact fun S2 σ2 H2 st2 r2 => p S2 σ2 H2 (st.trans st2) r2
  | rt r ρ2 => exact fun S2 σ2 H2 v st2 r2 hv hn => p S2 σ2 H2 v (st.trans st2) r2 hv (hn.back' st)
  | exn x ρ2 => exact fun S2 σ2 H2 cls dx st2 r2 xr => p S2 σ2 H2 cls dx (st.trans st2) r2 xr
  | no => exact p
/-- an expression, then more -/
theorem PostS.and {α : Type} {D : Ends} {o : Out α} {f : α → Rho → OutS} {P' : α → AS → Rho → Hp → Prop} (p : PostS K mg W S ρ σ H D (o.thenS f))
    (h : ∀ a S1 ρ1 H1, Step S ρ σ H S1 ρ1 σ H1 → Rel K S1 ρ1 σ H1 → PostS K mg W S ρ σ H D (f a ρ1) → P' a S1 ρ1 H1) : Post K mg W S ρ σ H P' o := by
  cases o with
  | ok a ρ1 => exact fun S1 H1 st r => h a S1 ρ1 H1 st r p
  | exn x ρ1 => exact fun S1 H1 cls dx st r xr => p S1 σ H1 cls dx st r xr
  | no => exact p
/-- a block's post with another end -/
theorem PostS.ends {D D' : Ends} {o : OutS} (p : PostS K mg W S ρ σ H D o) (h1 : ∀ σ H, D.nx σ H → D'.nx σ H) (h2 : ∀ v H, D.rt v H → D'.rt v H) (h3 : ∀ σ H, D.bk σ H → D'.bk σ H) (h4 : ∀ σ H, D.ct σ H → D'.ct σ H) : PostS K mg W S ρ σ H D' o := by
  cases o with
  | nx ρ2 => exact fun S2 σ2 H2 st2 r2 => h1 _ _ (p S2 σ2 H2 st2 r2)
  | bk ρ2 => exact fun S2 σ2 H2 st2 r2 => h3 _ _ (p S2 σ2 H2 st2 r2)
  | ct ρ2 => exact fun S2 σ2 H2 st2 r2 => h4 _ _ (p S2 σ2 H2 st2 r2)
  | rt r ρ2 => exact fun S2 σ2 H2 v st2 r2 hv hn => h2 _ _ (p S2 σ2 H2 v st2 r2 hv hn)
  | exn x ρ2 => exact p
  | no => exact p
/-- a result, new or not, is stored -/
theorem store_ret (rel : Rel K S ρ σ H) (st : Step S ρ σ H S' ρ' σ' H') (r' : Rel K S' ρ' σ' H') {v : V} {r : Ret} (hv : RRet K S' ρ' σ' H' v r) (hn : RNew ρ σ H v r) {i : Nat} (hf : Slot.free? ρ'[i]? = true) :
    Rel K S' (ρ'.set i r.slot) (σ'.set i (some v)) H' ∧ Step S ρ σ H S' (ρ'.set i r.slot) (σ'.set i (some v)) H' := by
  obtain ⟨s, hs, hz⟩ := free_of hf
  cases r with
  | val d => exact ⟨r'.put hs hz hv (.inl rfl), st.trans (Step.put r' hs hz rfl)⟩
  | fl ds =>
    obtain ⟨a, vs, rfl, ha, nS, hr, nO⟩ := hv
    refine ⟨r'.put (t := .lst true ds) hs hz ⟨vs, ha, nS, hr⟩ (.inr ⟨rfl, fun b e => by cases e; exact nO⟩), ?_⟩
    have keep : ∀ {j : Nat} {u : Slot} {y : Bool} {b : Addr}, (ρ'.set i (.lst true ds))[j]? = some u → u.own? = some y → adr (σ'.set i (some (.ref a))) j = some b → (j = i ∧ b = a) ∨ (ρ'[j]? = some u ∧ adr σ' j = some b) := fun {j u y b} e1 e2 e3 => by
      rcases getset e1 with ⟨rfl, rfl⟩ | ⟨hne, e⟩
      · have hl2 : j < σ'.length := by rw [← r'.len]; exact (List.getElem?_eq_some_iff.mp hs).1
        have := adr_get e3
        rw [List.getElem?_set_self hl2] at this
        cases this
        exact .inl ⟨rfl, rfl⟩
      · exact .inr ⟨e, by rw [adr_set_ne hne] at e3; exact e3⟩
    have na := hn a rfl
    refine ⟨st.sub, st.at_, st.frame, st.there, st.new, fun b ⟨j, u, z, h1, h2, h3⟩ => ?_, fun b ⟨j, u, h1, h2, h3⟩ => ?_, fun j u h1 h2 => ?_⟩
    · rcases keep h1 h2 h3 with ⟨_, rfl⟩ | ⟨e1, e2⟩
      · exact na.elim .inr fun q => .inl q.own
      · exact st.own b ⟨j, u, z, e1, h2, e2⟩
    · rcases keep h1 h2 h3 with ⟨_, rfl⟩ | ⟨e1, e2⟩
      · exact na.symm
      · exact st.ownZ b ⟨j, u, e1, h2, e2⟩
    · obtain ⟨t, e1, e2, e3⟩ := st.ino j u h1 h2
      have hne : j ≠ i := fun e => by subst e; rw [hs] at e1; cases e1; exact hz e2
      exact ⟨t, (List.getElem?_set_ne (fun e => hne e.symm)).trans e1, e2, (adr_set_ne hne).trans e3⟩
  | fd ds =>
    obtain ⟨a, vs, rfl, ha, nS, hr, nO⟩ := hv
    refine ⟨r'.put (t := .dic true ds) hs hz ⟨vs, ha, nS, hr⟩ (.inr ⟨rfl, fun b e => by cases e; exact nO⟩), ?_⟩
    have keep : ∀ {j : Nat} {u : Slot} {y : Bool} {b : Addr}, (ρ'.set i (.dic true ds))[j]? = some u → u.own? = some y → adr (σ'.set i (some (.ref a))) j = some b → (j = i ∧ b = a) ∨ (ρ'[j]? = some u ∧ adr σ' j = some b) := fun {j u y b} e1 e2 e3 => by
      rcases getset e1 with ⟨rfl, rfl⟩ | ⟨hne, e⟩
      · have hl2 : j < σ'.length := by rw [← r'.len]; exact (List.getElem?_eq_some_iff.mp hs).1
        have := adr_get e3
        rw [List.getElem?_set_self hl2] at this
        cases this
        exact .inl ⟨rfl, rfl⟩
      · exact .inr ⟨e, by rw [adr_set_ne hne] at e3; exact e3⟩
    have na := hn a rfl
    refine ⟨st.sub, st.at_, st.frame, st.there, st.new, fun b ⟨j, u, z, h1, h2, h3⟩ => ?_, fun b ⟨j, u, h1, h2, h3⟩ => ?_, fun j u h1 h2 => ?_⟩
    · rcases keep h1 h2 h3 with ⟨_, rfl⟩ | ⟨e1, e2⟩
      · exact na.elim .inr fun q => .inl q.own
      · exact st.own b ⟨j, u, z, e1, h2, e2⟩
    · rcases keep h1 h2 h3 with ⟨_, rfl⟩ | ⟨e1, e2⟩
      · exact na.symm
      · exact st.ownZ b ⟨j, u, e1, h2, e2⟩
    · obtain ⟨t, e1, e2, e3⟩ := st.ino j u h1 h2
      have hne : j ≠ i := fun e => by subst e; rw [hs] at e1; cases e1; exact hz e2
      exact ⟨t, (List.getElem?_set_ne (fun e => hne e.symm)).trans e1, e2, (adr_set_ne hne).trans e3⟩
end
section
variable {X : Cx} {mg : Str → Option Value} {W : WX} {st : Stmt} {sts : List Stmt} {e c tg iter : Expr} {pos : Pos}
theorem ps_imp {t t' : TS} (h : PS X st t) (i : ∀ D σ H, t' D σ H → t D σ H) : PS X st t' := ⟨fun pins s σ H D I q => h.run pins s σ H D I (i D σ H q)⟩
theorem pss_imp {t t' : TS} (h : PSs X sts t) (i : ∀ D σ H, t' D σ H → t D σ H) : PSs X sts t' := ⟨fun pins s σ H D I q => h.run pins s σ H D I (i D σ H q)⟩
theorem ps_nextE (h : PS X st tNext) : PS X st (tSt X.K mg W sNext) := ps_imp h fun D σ H ⟨S, ρ, rel, p⟩ => p S σ H .refl rel
theorem pss_nilE : PSs X [] (tSt X.K mg W sNext) := pss_imp pss_nil fun D σ H ⟨S, ρ, rel, p⟩ => p S σ H .refl rel
theorem ps_breakE : PS X (.Break pos) (tSt X.K mg W sBreak) := ps_imp ps_break fun D σ H ⟨S, ρ, rel, p⟩ => p S σ H .refl rel
theorem ps_contE : PS X (.Continue pos) (tSt X.K mg W sCont) := ps_imp ps_continue fun D σ H ⟨S, ρ, rel, p⟩ => p S σ H .refl rel
theorem pss_consE {f g : MS} (h1 : PS X st (tSt X.K mg W f)) (h2 : PSs X sts (tSt X.K mg W g)) : PSs X (st :: sts) (tSt X.K mg W (sSeq f g)) := pss_imp (pss_cons h1 h2) fun D σ H ⟨S, ρ, rel, p⟩ => by
  refine ⟨S, ρ, rel, ?_⟩
  unfold sSeq at p
  cases e : f ρ with
  | nx ρ1 =>
    rw [e] at p
    exact fun S1 σ1 H1 st1 r1 => ⟨S1, ρ1, r1, PostS.from p st1⟩
  | bk ρ1 => rw [e] at p; exact p
  | ct ρ1 => rw [e] at p; exact p
  | rt r ρ1 => rw [e] at p; exact p
  | exn x ρ1 => rw [e] at p; exact p
  | no => rw [e] at p; exact p
theorem ps_exprE {f : M Ret} (h : PE X e (tS X.K mg W f)) (hs : swapsWith e none pos.line X.env = pure false) : PS X (.Expr e pos) (tSt X.K mg W (sExpr f)) := ps_imp (ps_expr h hs) fun D σ H ⟨S, ρ, rel, p⟩ =>
  ⟨S, ρ, rel, PostS.and p fun r S1 ρ1 H1 st1 r1 p v hv hn => p S1 σ H1 st1 r1⟩
theorem ps_retE {f : M Ret} (h : PE X e (tS X.K mg W f)) : PS X (.Return (some e) pos) (tSt X.K mg W (sRet f)) := ps_imp (ps_ret h) fun D σ H ⟨S, ρ, rel, p⟩ =>
  ⟨S, ρ, rel, PostS.and p fun r S1 ρ1 H1 st1 r1 p v hv hn => p S1 σ H1 v st1 r1 hv hn⟩
theorem ps_retNE : PS X (.Return none pos) (tSt X.K mg W sRetN) := ps_imp ps_retN fun D σ H ⟨S, ρ, rel, p⟩ => p S σ H .non .refl rel .non trivial
theorem ps_ifE {t : M Bool} {f g : MS} {a b : List Stmt} (hc : PT X c (tTe X.K mg W t)) (ha : PSs X a (tSt X.K mg W f)) (hb : PSs X b (tSt X.K mg W g)) : PS X (.If c a b pos) (tSt X.K mg W (sIf t f g)) := ps_imp (ps_if hc ha hb) fun D σ H ⟨S, ρ, rel, p⟩ =>
  ⟨S, ρ, rel, PostS.and p fun k S1 ρ1 H1 st1 r1 p => by
    cases k with
    | true => exact ⟨S1, ρ1, r1, PostS.from p st1⟩
    | false => exact ⟨S1, ρ1, r1, PostS.from p st1⟩⟩
/-- name = e, by its plain reading -/
theorem ps_asgNE {f : M Ret} {i : Nat} (h : ∀ te, PE X e te → PS X st (tAsg te (gName i))) (he : PE X e (tS X.K mg W f)) : PS X st (tSt X.K mg W (sAsgN i f)) := ps_imp (h _ he) fun D σ H ⟨S, ρ, rel, p⟩ =>
  ⟨S, ρ, rel, PostS.and p fun r S1 ρ1 H1 st1 r1 p v hv hn => by
    by_cases hf : Slot.free? ρ1[i]? = true
    · rw [if_pos hf] at p
      obtain ⟨r2, st2⟩ := store_ret rel st1 r1 hv hn hf
      exact p S1 _ H1 st2 r2
    · rw [if_neg hf] at p
      exact p.elim⟩
theorem ps_asgTE {f : M Ret} {t : Tgt} (h : ∀ te g, PE X e te → PG X tg g → PS X st (tAsg te g)) (he : PE X e (tS X.K mg W f)) (hg : PG X tg (tGt X.K t)) : PS X st (tSt X.K mg W (sAsgT t f)) := ps_imp (h _ _ he hg) fun D σ H ⟨S, ρ, rel, p⟩ => by
  refine ⟨S, ρ, rel, ?_⟩
  unfold sAsgT at p
  cases ef : f ρ with
  | no => rw [ef] at p; exact p
  | exn x ρ1 => rw [ef] at p; exact fun S1 H1 cls dx st r xr => p S1 σ H1 cls dx st r xr
  | ok r ρ1 =>
    rw [ef] at p
    simp only [thenS_ok] at p
    intro S1 H1 st1 r1 v hv hn
    obtain ⟨S2, st2, r2, hr, hs⟩ := RRet.val st1 r1 hv hn
    cases e1 : asgT t r.toD ρ1 with
    | none => simp only [e1] at p; exact p.elim
    | some ρ2 =>
      simp only [e1] at p
      exact ⟨S2, ρ1, r.toD, ρ2, r2, hr, e1, fun σ' r3 st3 _ _ => p S2 σ' H1 (st2.trans st3) r3⟩
theorem ps_forE {it : M (List D)} {t : Tgt} {f : MS} {body : List Stmt} (hp : PassesOwn (model X.prog X.w) X.A X.env X.xe) (hc : X.calm = true) (hi : PI X tg iter (tIt X.K mg W it)) (hg : PG X tg (tGt X.K t)) (hb : PSs X body (tSt X.K mg W f))
    (hx : ∀ (wi : TI) (g : TG) (tb : TS), PI X tg iter wi → PG X tg g → PSs X body tb → PS X (.For tg iter body [] pos) (tFor wi g tb)) : PS X (.For tg iter body [] pos) (tSt X.K mg W (sFor it t f)) :=
  ps_imp (hx _ _ _ hi hg hb) fun D σ H ⟨S, ρ, rel, p⟩ => by
    refine ⟨S, ρ, rel, PostS.and p fun ds S1 ρ1 H1 st1 r1 p J hJ => ?_⟩
    have p1 := PostS.from p st1
    refine ⟨fun i m σ2 H2 => m = ds.length - i ∧ i ≤ ds.length ∧ ∃ S2 ρ2, Rel X.K S2 ρ2 σ2 H2 ∧ Step S1 ρ1 σ H1 S2 ρ2 σ2 H2 ∧ PostS X.K mg W S1 ρ1 σ H1 D (forLoop t f (ds.drop i) ρ2), ⟨ds.length, by omega, Nat.zero_le _, S1, ρ1, r1, .refl, by rw [List.drop_zero]; exact p1⟩, ?_⟩
    rintro i m σ2 H2 ⟨rfl, hi, S2, ρ2, r2, st2, p2⟩
    by_cases hlt : i < ds.length
    · refine .inr ⟨hJ.go S2 H2 i st2.stay r2.live hlt, fun σ' H' => ∃ S' ρ', Rel X.K S' ρ' σ' H' ∧ Step S1 ρ1 σ H1 S' ρ' σ' H' ∧ PostS X.K mg W S1 ρ1 σ H1 D (forLoop t f (ds.drop (i + 1)) ρ'), fun σ' H' h => ⟨ds.length - (i + 1), by omega, rfl, hlt, h⟩, fun x H3 hy => ?_⟩
      obtain ⟨S3, d, hd, ex, hr⟩ := hJ.yld S2 H2 i x H3 st2.stay r2.live hlt hy
      obtain ⟨r3, st3⟩ := r2.ext ex
      rw [List.drop_eq_getElem_cons hlt] at p2
      have hd' : ds[i] = d := by rw [List.getElem?_eq_getElem hlt] at hd; exact Option.some.inj hd
      rw [hd'] at p2
      unfold forLoop at p2
      cases e1 : asgT t d ρ2 with
      | none => simp only [e1] at p2; exact p2.elim
      | some ρ4 =>
        simp only [e1] at p2
        refine ⟨S3, ρ2, d, ρ4, r3, hr, e1, fun σ4 r4 st4 _ _ => ⟨S3, ρ4, r4, ?_⟩⟩
        have st24 := (st2.trans st3).trans st4
        cases eb : f ρ4 with
        | nx ρ5 => simp only [eb] at p2; exact fun S5 σ5 H5 st5 r5 => ⟨S5, ρ5, r5, st24.trans st5, p2⟩
        | ct ρ5 => simp only [eb] at p2; exact fun S5 σ5 H5 st5 r5 => ⟨S5, ρ5, r5, st24.trans st5, p2⟩
        | bk ρ5 => simp only [eb] at p2; exact fun S5 σ5 H5 st5 r5 => p2 S5 σ5 H5 (st24.trans st5) r5
        | rt r ρ5 => simp only [eb] at p2; exact fun S5 σ5 H5 v st5 r5 hv hn => p2 S5 σ5 H5 v (st24.trans st5) r5 hv (hn.back' st24)
        | exn x ρ5 => simp only [eb] at p2; exact fun S5 σ5 H5 cls dx st5 r5 xr => p2 S5 σ5 H5 cls dx (st24.trans st5) r5 xr
        | no => simp only [eb] at p2; exact p2.elim
    · have hle : ds.length ≤ i := by omega
      rw [List.drop_eq_nil_of_le hle] at p2
      exact .inl ⟨hJ.stop S2 H2 i st2.stay r2.live hle, p2 S2 σ2 H2 st2 r2⟩
theorem ps_whileE {n : Nat} {t : M Bool} {f : MS} {body : List Stmt} (hp : PassesOwn (model X.prog X.w) X.A X.env X.xe) (hc : PT X c (tTe X.K mg W t)) (hb : PSs X body (tSt X.K mg W f)) : PS X (.While c body [] pos) (tSt X.K mg W (sWhile n t f)) :=
  ps_imp (ps_while hp hc hb) fun D σ H ⟨S, ρ, rel, p⟩ => by
    refine ⟨fun m σ2 H2 => ∃ S2 ρ2, Rel X.K S2 ρ2 σ2 H2 ∧ PostS X.K mg W S2 ρ2 σ2 H2 D (whLoop t f m ρ2), ⟨n, S, ρ, rel, p⟩, ?_⟩
    rintro m σ2 H2 ⟨S2, ρ2, r2, p2⟩
    cases m with
    | zero => exact p2.elim
    | succ m =>
      unfold whLoop at p2
      refine ⟨S2, ρ2, r2, PostS.and p2 fun k S3 ρ3 H3 st3 r3 p3 => ?_⟩
      have p3 := PostS.from p3 st3
      cases k with
      | false =>
        simp only [Bool.false_eq_true, if_false] at p3
        exact p3 S3 σ2 H3 .refl r3
      | true =>
        refine ⟨fun σ' H' => ∃ S' ρ', Rel X.K S' ρ' σ' H' ∧ PostS X.K mg W S' ρ' σ' H' D (whLoop t f m ρ'), fun σ' H' h => ⟨m, Nat.lt_succ_self m, h⟩, S3, ρ3, r3, ?_⟩
        simp only [if_true] at p3
        cases eb : f ρ3 with
        | nx ρ5 => simp only [eb] at p3; exact fun S5 σ5 H5 st5 r5 => ⟨S5, ρ5, r5, PostS.from p3 st5⟩
        | ct ρ5 => simp only [eb] at p3; exact fun S5 σ5 H5 st5 r5 => ⟨S5, ρ5, r5, PostS.from p3 st5⟩
        | bk ρ5 => simp only [eb] at p3; exact fun S5 σ5 H5 st5 r5 => p3 S5 σ5 H5 st5 r5
        | rt r ρ5 => simp only [eb] at p3; exact p3
        | exn x ρ5 => simp only [eb] at p3; exact p3
        | no => simp only [eb] at p3; exact p3.elim
end
end Ev
namespace Ev
open PySem PySem.Spec PyProof.Rows L2
/-! ### methods that change an own list -/
def mMt (k : Nat) (op : List D → List BV → List D → Option (D × List D)) (args : M (List BV)) : M Ret := fun ρ => match ρ[k]? with
  | some (.lst _ _) => (args ρ).andThen fun bs ρ1 => match ρ1[k]? with
    | some (.lst z ds) => match ress ρ1 bs with
      | some es => match op ds bs es with
        | some (d, ds') => .ok (.val d) (ρ1.set k (.lst z ds'))
        | none => .no
      | none => .no
    | _ => .no
  | _ => .no
def lApp : List D → List BV → List D → Option (D × List D)
  | ds, [.val d], _ => if ds.length < 16777216 then some (.none, ds ++ [d]) else none
  | _, _, _ => none
def lExt : List D → List BV → List D → Option (D × List D)
  | ds, [_], [.list es] => if ds.length + es.length ≤ 16777216 then some (.none, ds ++ es) else none
  | _, _, _ => none
def lPop : List D → List BV → List D → Option (D × List D)
  | ds, [], _ => match ds[ds.length - 1]? with
    | some d => some (d, ds.dropLast)
    | none => none
  | _, _, _ => none
def lPopAt : List D → List BV → List D → Option (D × List D)
  | ds, [_], [.int i] => if -(2 ^ 63) ≤ i ∧ i < 2 ^ 63 then match seqIndex? i ds.length with
      | some k => match ds[k]? with
        | some d => some (d, ds.eraseIdx k)
        | none => none
      | none => none
    else none
  | _, _, _ => none
def lIns : List D → List BV → List D → Option (D × List D)
  | ds, [_, .val d], .int i :: _ => if ds.length < 16777216 ∧ 0 ≤ i ∧ i < 2 ^ 63 then some (.none, ds.take i.toNat ++ [d] ++ ds.drop i.toNat) else none
  | _, _, _ => none
section
variable {K : PySem.W.Frag} {mg : Str → Option Value} {W : WX} {H H' H1 H2 H3 : Hp} {S S' S1 S2 S3 : AS} {ρ ρ' ρ1 ρ2 ρ3 : Rho} {σ σ' σ1 σ2 σ3 : L2.St}
/-- an own list is rewritten -/
theorem Rel.lset (r : Rel K S ρ σ H) {k : Nat} {z : Bool} {ds ds' : List D} {a : Addr} {vs' : List V} (hs : ρ[k]? = some (.lst z ds)) (ha : adr σ k = some a) (hv : RAll K H S vs' ds') :
    Rel K S (ρ.set k (.lst z ds')) σ (upd H a (.lst vs')) ∧ Step S ρ σ H S (ρ.set k (.lst z ds')) σ (upd H a (.lst vs')) := by
  have q0 := r.slot k _ hs
  rw [adr_join ha] at q0
  obtain ⟨vs, q1, nS, _⟩ := q0
  have ne : ∀ b, S b → b ≠ a := fun b h e => by subst e; exact nS h
  have st : Stay S S H (upd H a (.lst vs')) := ⟨fun _ h => h, fun b h => upd_ne (ne b h)⟩
  have hO : Own ρ σ a := ⟨k, _, z, hs, rfl, ha⟩
  have back : ∀ {j : Nat} {u : Slot} {y : Bool} {b : Addr}, (ρ.set k (.lst z ds'))[j]? = some u → u.own? = some y → adr σ j = some b → ∃ u', ρ[j]? = some u' ∧ u'.own? = some y := fun {j u y b} e1 e2 e3 => by
    rcases getset e1 with ⟨rfl, rfl⟩ | ⟨hne, e⟩
    · exact ⟨_, hs, e2⟩
    · exact ⟨u, e, e2⟩
  refine ⟨⟨by rw [List.length_set]; exact r.len, fun j u h => ?_, fun i j s t y w b h1 h2 h3 h4 h5 h6 => ?_, fun b h => ?_⟩, ⟨fun _ h => h, st.at_, fun b o h n => ?_, fun b o h => ?_, fun _ h => .inl h, fun b ⟨j, u, y, h1, h2, h3⟩ => ?_, fun b ⟨j, u, h1, h2, h3⟩ => ?_, fun j u h1 h2 => ?_⟩⟩
  · rcases getset h with ⟨rfl, rfl⟩ | ⟨hne, e⟩
    · rw [adr_join ha]
      exact ⟨vs', upd_same, nS, RAll.stay st _ _ hv⟩
    · have q := r.slot j u e
      cases u with
      | un => exact trivial
      | giv d => exact SlotOk.giv_stay st q
      | dat d =>
        cases e' : σ[j]?.join with
        | none => rw [e'] at q; exact q.elim
        | some v => rw [e'] at q; exact R.stay st d v q
      | lst y es =>
        obtain ⟨b, w, e1, e2, e3, e4⟩ := q.own_adr (z := y) rfl
        have hb : b ≠ a := fun e' => hne (r.inj j k _ _ _ _ a e hs rfl rfl (by rw [← e']; exact join_adr e1) ha)
        rw [e1] at q ⊢
        obtain ⟨us, q1, q2, q3⟩ := q
        exact ⟨us, by rw [upd_ne hb]; exact q1, q2, RAll.stay st _ _ q3⟩
      | dic y es =>
        obtain ⟨b, w, e1, e2, e3, e4⟩ := q.own_adr (z := y) rfl
        have hb : b ≠ a := fun e' => hne (r.inj j k _ _ _ _ a e hs rfl rfl (by rw [← e']; exact join_adr e1) ha)
        rw [e1] at q ⊢
        obtain ⟨us, q1, q2, q3⟩ := q
        exact ⟨us, by rw [upd_ne hb]; exact q1, q2, RKv.stay st _ _ q3⟩
  · obtain ⟨s', e1, e2⟩ := back h1 h3 h5
    obtain ⟨t', e3, e4⟩ := back h2 h4 h6
    exact r.inj i j s' t' y w b e1 e3 e2 e4 h5 h6
  · obtain ⟨u, e⟩ := r.live b h
    exact ⟨u, by rw [upd_ne (ne b h)]; exact e⟩
  · rw [upd_ne (fun e => n (by rw [e]; exact hO))]; exact h
  · by_cases e : b = a
    · exact ⟨_, by rw [e]; exact upd_same⟩
    · exact ⟨o, by rw [upd_ne e]; exact h⟩
  · obtain ⟨u', e1, e2⟩ := back h1 h2 h3
    exact .inl ⟨j, u', y, e1, e2, h3⟩
  · obtain ⟨u', e1, e2⟩ := back h1 h2 h3
    exact .inl ⟨j, u', e1, e2, h3⟩
  · by_cases e : j = k
    · subst e
      rw [hs] at h1
      cases h1
      exact ⟨_, List.getElem?_set_self (List.getElem?_eq_some_iff.mp hs).1, h2, rfl⟩
    · exact ⟨u, by rw [List.getElem?_set_ne (fun z => e z.symm)]; exact h1, h2, rfl⟩
/-- an own dict is rewritten -/
theorem Rel.dset (r : Rel K S ρ σ H) {k : Nat} {z : Bool} {ds ds' : List (D × D)} {a : Addr} {vs' : List (Key × V)} (hs : ρ[k]? = some (.dic z ds)) (ha : adr σ k = some a) (hv : RKv K H S vs' ds') :
    Rel K S (ρ.set k (.dic z ds')) σ (upd H a (.dK vs')) ∧ Step S ρ σ H S (ρ.set k (.dic z ds')) σ (upd H a (.dK vs')) := by
  have q0 := r.slot k _ hs
  rw [adr_join ha] at q0
  obtain ⟨vs, q1, nS, _⟩ := q0
  have ne : ∀ b, S b → b ≠ a := fun b h e => by subst e; exact nS h
  have st : Stay S S H (upd H a (.dK vs')) := ⟨fun _ h => h, fun b h => upd_ne (ne b h)⟩
  have hO : Own ρ σ a := ⟨k, _, z, hs, rfl, ha⟩
  have back : ∀ {j : Nat} {u : Slot} {y : Bool} {b : Addr}, (ρ.set k (.dic z ds'))[j]? = some u → u.own? = some y → adr σ j = some b → ∃ u', ρ[j]? = some u' ∧ u'.own? = some y := fun {j u y b} e1 e2 e3 => by
    rcases getset e1 with ⟨rfl, rfl⟩ | ⟨hne, e⟩
    · exact ⟨_, hs, e2⟩
    · exact ⟨u, e, e2⟩
  refine ⟨⟨by rw [List.length_set]; exact r.len, fun j u h => ?_, fun i j s t y w b h1 h2 h3 h4 h5 h6 => ?_, fun b h => ?_⟩, ⟨fun _ h => h, st.at_, fun b o h n => ?_, fun b o h => ?_, fun _ h => .inl h, fun b ⟨j, u, y, h1, h2, h3⟩ => ?_, fun b ⟨j, u, h1, h2, h3⟩ => ?_, fun j u h1 h2 => ?_⟩⟩
  · rcases getset h with ⟨rfl, rfl⟩ | ⟨hne, e⟩
    · rw [adr_join ha]
      exact ⟨vs', upd_same, nS, RKv.stay st _ _ hv⟩
    · have q := r.slot j u e
      cases u with
      | un => exact trivial
      | giv d => exact SlotOk.giv_stay st q
      | dat d =>
        cases e' : σ[j]?.join with
        | none => rw [e'] at q; exact q.elim
        | some v => rw [e'] at q; exact R.stay st d v q
      | lst y es =>
        obtain ⟨b, w, e1, e2, e3, e4⟩ := q.own_adr (z := y) rfl
        have hb : b ≠ a := fun e' => hne (r.inj j k _ _ _ _ a e hs rfl rfl (by rw [← e']; exact join_adr e1) ha)
        rw [e1] at q ⊢
        obtain ⟨us, q1, q2, q3⟩ := q
        exact ⟨us, by rw [upd_ne hb]; exact q1, q2, RAll.stay st _ _ q3⟩
      | dic y es =>
        obtain ⟨b, w, e1, e2, e3, e4⟩ := q.own_adr (z := y) rfl
        have hb : b ≠ a := fun e' => hne (r.inj j k _ _ _ _ a e hs rfl rfl (by rw [← e']; exact join_adr e1) ha)
        rw [e1] at q ⊢
        obtain ⟨us, q1, q2, q3⟩ := q
        exact ⟨us, by rw [upd_ne hb]; exact q1, q2, RKv.stay st _ _ q3⟩
  · obtain ⟨s', e1, e2⟩ := back h1 h3 h5
    obtain ⟨t', e3, e4⟩ := back h2 h4 h6
    exact r.inj i j s' t' y w b e1 e3 e2 e4 h5 h6
  · obtain ⟨u, e⟩ := r.live b h
    exact ⟨u, by rw [upd_ne (ne b h)]; exact e⟩
  · rw [upd_ne (fun e => n (by rw [e]; exact hO))]; exact h
  · by_cases e : b = a
    · exact ⟨_, by rw [e]; exact upd_same⟩
    · exact ⟨o, by rw [upd_ne e]; exact h⟩
  · obtain ⟨u', e1, e2⟩ := back h1 h2 h3
    exact .inl ⟨j, u', y, e1, e2, h3⟩
  · obtain ⟨u', e1, e2⟩ := back h1 h2 h3
    exact .inl ⟨j, u', e1, e2, h3⟩
  · by_cases e : j = k
    · subst e
      rw [hs] at h1
      cases h1
      exact ⟨_, List.getElem?_set_self (List.getElem?_eq_some_iff.mp hs).1, h2, rfl⟩
    · exact ⟨u, by rw [List.getElem?_set_ne (fun z => e z.symm)]; exact h1, h2, rfl⟩
/-- a changing method's rule stands for an operation by data -/
def MutR (K : PySem.W.Frag) (r : V → List V → Hp → VK → Prop) (op : List D → List BV → List D → Option (D × List D)) : Prop :=
  ∀ {S : AS} {σ : L2.St} {H : Hp} {a : Addr} {vs : List V} {ds : List D} {xs : List V} {bs : List BV} {es : List D} {d : D} {ds' : List D} {Q : VK}, H a = some (.lst vs) → RAll K H S vs ds → RBs K S σ H xs bs → RRs K H S xs es →
    op ds bs es = some (d, ds') → (∀ v vs', R K H S v d → RAll K H S vs' ds' → Q v (upd H a (.lst vs'))) → r (.ref a) xs H Q
theorem mu_app : MutR K rAppend lApp := by
  intro S σ H a vs ds xs bs es d ds' Q ha hv hb he e q
  unfold lApp at e
  split at e
  · rename_i d1
    split at e
    · rename_i hl
      cases e
      match xs, hb with
      | [x], hb => exact ⟨a, vs, x, rfl, rfl, ha, by rw [hv.length, line_eq]; exact hl, q _ _ .non (hv.append (.cons hb.1 .nil))⟩
    · cases e
  · cases e
theorem mu_ext : MutR K rExtend lExt := by
  intro S σ H a vs ds xs bs es d ds' Q ha hv hb he e q
  unfold lExt at e
  split at e
  · rename_i b es
    split at e
    · rename_i hl
      cases e
      obtain ⟨x, rfl, hx⟩ := he.one
      obtain ⟨p, us, rfl, hp, hu⟩ := hx.list
      exact ⟨a, p, vs, us, rfl, rfl, ha, hp, by rw [hv.length, hu.length, line_eq]; exact hl, q _ _ .non (hv.append hu)⟩
    · cases e
  · cases e
theorem RAll.dropLast {vs : List V} {ds : List D} (h : RAll K H S vs ds) : RAll K H S vs.dropLast ds.dropLast := by
  rw [List.dropLast_eq_take, List.dropLast_eq_take, h.length]
  exact h.take _
theorem RAll.eraseIdx : ∀ {vs : List V} {ds : List D} (k : Nat), RAll K H S vs ds → RAll K H S (vs.eraseIdx k) (ds.eraseIdx k)
  | _, _, _, .nil => .nil
  | _, _, 0, .cons _ t => t
  | _, _, k + 1, .cons r t => .cons r (RAll.eraseIdx k t)
theorem mu_pop : MutR K rPop lPop := by
  intro S σ H a vs ds xs bs es d ds' Q ha hv hb he e q
  unfold lPop at e
  split at e
  · cases e1 : ds[ds.length - 1]? with
    | none => simp only [e1] at e; cases e
    | some d1 =>
      simp only [e1] at e
      cases e
      obtain ⟨y, hy, hr⟩ := hv.get e1
      match xs, hb with
      | [], _ => exact ⟨a, vs, y, rfl, rfl, ha, by rw [hv.length]; exact hy, q _ _ hr hv.dropLast⟩
  · cases e
theorem mu_popAt : MutR K rPopAt lPopAt := by
  intro S σ H a vs ds xs bs es d ds' Q ha hv hb he e q
  unfold lPopAt at e
  split at e
  · rename_i b i
    split at e
    · rename_i hi
      split at e
      · rename_i k hk
        split at e
        · rename_i d1 hd
          cases e
          obtain ⟨x, rfl, hx⟩ := he.one
          cases hx.int
          obtain ⟨y, hy, hr⟩ := hv.get hd
          exact ⟨a, vs, i, k, y, rfl, rfl, ha, hi.1, hi.2, by rw [hv.length]; exact hk, hy, q _ _ hr (hv.eraseIdx k)⟩
        · cases e
      · cases e
    · cases e
  · cases e
theorem mu_ins : MutR K (fun x vs H Q => ∃ (l : Addr) (xs : List V) (i : Int) (y : V), x = .ref l ∧ vs = [.int i, y] ∧ H l = some (.lst xs) ∧ xs.length < sizeLine ∧ 0 ≤ i ∧ i < 2 ^ 63 ∧ Q .non (upd H l (.lst (xs.take i.toNat ++ [y] ++ xs.drop i.toNat)))) lIns := by
  intro S σ H a vs ds xs bs es d ds' Q ha hv hb he e q
  unfold lIns at e
  split at e
  · rename_i b d1 i rest
    split at e
    · rename_i hi
      cases e
      match xs, hb, he with
      | [x, y], hb, he =>
        cases he with
        | cons hx hy =>
          cases hx.int
          exact ⟨a, vs, i, y, rfl, rfl, ha, by rw [hv.length, line_eq]; exact hi.1, hi.2.1, hi.2.2, q _ _ .non (((hv.take _).append (.cons hb.2.1 .nil)).append (hv.drop _))⟩
    · cases e
  · cases e
end
section
variable {X : Cx} {mg : Str → Option Value} {W : WX} {o e : Expr} {es : List Expr} {name : Str} {apos cpos : Pos} {id : String} {r : V → List V → Hp → VK → Prop} {op : List D → List BV → List D → Option (D × List D)}
theorem mMt_start {K : PySem.W.Frag} {S : AS} {ρ : Rho} {σ : L2.St} {H : Hp} {k : Nat} {args : M (List BV)} {P : Ret → AS → Rho → Hp → Prop} (rel : Rel K S ρ σ H) (p : Post K mg W S ρ σ H P (mMt k op args ρ)) :
    ∃ a z ds vs, ρ[k]? = some (.lst z ds) ∧ adr σ k = some a ∧ H a = some (.lst vs) := by
  unfold mMt at p
  split at p
  · rename_i z ds hs
    have q := rel.slot k _ hs
    obtain ⟨a, o, e1, e2, e3, e4⟩ := q.own_adr (z := z) rfl
    rw [e1] at q
    obtain ⟨vs, q1, _⟩ := q
    exact ⟨a, z, ds, vs, hs, join_adr e1, q1⟩
  · exact p.elim
theorem mMt_fwd {K : PySem.W.Frag} {S : AS} {ρ : Rho} {σ : L2.St} {H : Hp} {k : Nat} {args : M (List BV)} {Q : VK} (hm : MutR K r op) (rel : Rel K S ρ σ H) {a : Addr} (ha : adr σ k = some a)
    (p : Post K mg W S ρ σ H (fun r S' ρ' H' => ∀ v, RRet K S' ρ' σ H' v r → RNew ρ σ H v r → Q v H') (mMt k op args ρ)) : tAr K mg W args σ H fun xs H2 => r (.ref a) xs H2 Q := by
  unfold mMt at p
  split at p
  · refine ⟨S, ρ, rel, Post.and p fun bs S1 ρ1 H1 st1 r1 p xs hxs => ?_⟩
    split at p
    · rename_i z ds hs
      cases e1 : ress ρ1 bs with
      | none => simp only [e1] at p; exact p.elim
      | some es =>
        simp only [e1] at p
        cases e2 : op ds bs es with
        | none => simp only [e2] at p; exact p.elim
        | some dd =>
          obtain ⟨d, ds'⟩ := dd
          simp only [e2] at p
          have q := r1.slot k _ hs
          rw [adr_join ha] at q
          obtain ⟨vs, q1, q2, q3⟩ := q
          refine hm q1 q3 hxs (hxs.read r1 e1) e2 fun v vs' hv hvs => ?_
          obtain ⟨r2, st2⟩ := r1.lset hs ha hvs
          exact p S1 _ (st1.trans st2) r2 v (hv.stay st2.stay) trivial
    · exact p.elim
  · exact p.elim
theorem pe_mt {k : Nat} {args : M (List BV)} (hm : MtR X id r) (hop : MutR X.K r op) (slot : PySem.Slot "list" name id) (hty : typeOf (.builtin id) = pure (.type "method_descriptor")) (ho : PE X o (tVar k)) (ha : PA X (e :: es) (tAr X.K mg W args))
    (hbase : attributeBase o name X.env (eval o X.env) = eval o X.env)
    (hfew : ((backTo cpos (starEach (e :: es) X.env)).all (fun x => !x.1) && (backToKw cpos (keywordEach [] X.env)).all (fun x => x.1.isSome)
      && decide ((e :: es).length + ([] : List Keyword).length + (if ([] : List Keyword).isEmpty then 0 else 1) < 30)) = true)
    (hline : (apos.endLine == cpos.line) = true) (hs : starEach (e :: es) X.env = (false, eval e X.env) :: starEach es X.env) (hplain : (backTo cpos (starEach es X.env)).any (·.1) = false) :
    PE X (.Call (.Attribute o name apos) (e :: es) [] cpos) (tS X.K mg W (mMt k op args)) :=
  pe_imp (pe_bm PySem.F.plainAttrs_list slot hty hm ho ha hbase hfew hline hs hplain) fun σ H Q ⟨S, ρ, rel, p⟩ => by
    obtain ⟨a, z, ds, vs, h1, h2, h3⟩ := mMt_start rel p
    exact ⟨.ref a, adr_get h2, .inl ⟨rfl, vs, .inl (.inl h3)⟩, mMt_fwd hop rel h2 p⟩
theorem pe_mt0 {k : Nat} (hm : MtR X id r) (hop : MutR X.K r op) (slot : PySem.Slot "list" name id) (hty : typeOf (.builtin id) = pure (.type "method_descriptor")) (ho : PE X o (tVar k))
    (hbase : attributeBase o name X.env (eval o X.env) = eval o X.env) (hline : (apos.endLine == cpos.line) = true) :
    PE X (.Call (.Attribute o name apos) [] [] cpos) (tS X.K mg W (mMt k op mNil)) :=
  pe_imp (pe_bm0 PySem.F.plainAttrs_list slot hty hm ho hbase hline) fun σ H Q ⟨S, ρ, rel, p⟩ => by
    obtain ⟨a, z, ds, vs, h1, h2, h3⟩ := mMt_start rel p
    refine ⟨.ref a, adr_get h2, .inl ⟨rfl, vs, .inl (.inl h3)⟩, ?_⟩
    obtain ⟨S', ρ', rel', p'⟩ := mMt_fwd hop rel h2 p
    exact Post.ok rel' p' [] trivial
end
end Ev
namespace Ev
open PySem PySem.Spec PyProof.Rows L2
/-! ### calls of defs -/
inductive FOut where
  | ret (r : Ret) (outs : List Slot)
  | no
/-- what a def makes of its arguments: its result, and what stands in the lists that it may change -/
abbrev FSem := List Slot → FOut
def argIn : Slot → Bool
  | .dat _ => true
  | .giv _ => true
  | .lst z _ => !z
  | .dic z _ => !z
  | .un => false
def outsOf : List Slot → List Slot → List Slot
  | [], _ => []
  | a :: as, s :: ss => (if a.own? = some false then s else .un) :: outsOf as ss
  | _ :: as, [] => .un :: outsOf as []
def fnSem (n : Nat) (m : Nat) (body : MS) : FSem := fun args => if args.length = m ∧ args.all argIn = true then match body (args ++ List.replicate (n - m) .un) with
  | .nx ρ => .ret (.val .none) (outsOf args ρ)
  | .rt r ρ => .ret r (outsOf args ρ)
  | _ => .no
  else .no
def argS : Option Slot → Option Slot
  | some (.dat d) => some (.dat d)
  | some (.lst _ ds) => some (.lst false ds)
  | some (.dic _ ds) => some (.dic false ds)
  | some (.giv ds) => some (.giv ds)
  | _ => none
def argSl (ρ : Rho) : BV → Option Slot
  | .val d => some (.dat d)
  | .slot i => argS ρ[i]?
def argSls (ρ : Rho) : List BV → Option (List Slot)
  | [] => some []
  | b :: bs => match argSl ρ b, argSls ρ bs with
    | some s, some ss => some (s :: ss)
    | _, _ => none
def isSl (i : Nat) : BV → Bool
  | .slot j => j == i
  | .val _ => false
def noTw : List BV → Bool
  | [] => true
  | .val _ :: bs => noTw bs
  | .slot i :: bs => !(bs.any (isSl i)) && noTw bs
def lookSl : List BV → List Slot → Nat → Option Slot
  | .slot j :: bs, o :: os, i => if j = i then some o else lookSl bs os i
  | .val _ :: bs, _ :: os, i => lookSl bs os i
  | _, _, _ => none
def reown (z : Bool) : Slot → Slot
  | .lst _ ds => .lst z ds
  | .dic _ ds => .dic z ds
  | s => s
def newS (bs : List BV) (outs : List Slot) (i : Nat) (s : Slot) : Slot := match s.own? with
  | some z => match lookSl bs outs i with
    | some o => reown z o
    | none => s
  | none => s
def putGo (bs : List BV) (outs : List Slot) : Nat → List Slot → List Slot
  | _, [] => []
  | i, s :: ss => newS bs outs i s :: putGo bs outs (i + 1) ss
def mCall (F : FSem) (args : M (List BV)) : M Ret := fun ρ => (args ρ).andThen fun bs ρ1 => match argSls ρ1 bs with
  | some as => if noTw bs = true then match F as with
      | .ret r outs => .ok r (putGo bs outs 0 ρ1)
      | .no => .no
    else .no
  | none => .no
section
variable {K : PySem.W.Frag} {H H' H1 H2 H3 : Hp} {S S' S1 S2 S3 : AS} {ρ ρ' ρ1 ρ2 ρ3 : Rho} {σ σ' σ1 σ2 σ3 : L2.St}
structure FEnd (K : PySem.W.Frag) (S : AS) (args : List Slot) (vs : List V) (H : Hp) (r : Ret) (outs : List Slot) (S' : AS) (v : V) (H' : Hp) : Prop where
  sub : ∀ a, S a → S' a
  at_ : ∀ a, S a → H' a = H a
  frame : ∀ a o, H a = some o → ¬ Own args (vs.map some) a → H' a = some o
  there : ∀ a o, H a = some o → ∃ o', H' a = some o'
  new : ∀ a, S' a → S a ∨ H a = none
  rel : Rel K S' outs (vs.map some) H'
  ino : ∀ (i : Nat) (s : Slot), args[i]? = some s → s.own? = some false → ∃ t : Slot, outs[i]? = some t ∧ t.own? = some false
  ret : RRet K S' outs (vs.map some) H' v r
  fresh : match r with
    | .val _ => True
    | _ => ∀ a, v = .ref a → H a = none
theorem outsOf_get : ∀ (as ss : List Slot) (i : Nat), (outsOf as ss)[i]? = match as[i]? with
    | some a => some (if a.own? = some false then (match ss[i]? with | some s => s | none => .un) else .un)
    | none => none
  | [], _, _ => by simp [outsOf]
  | a :: as, s :: ss, 0 => by simp [outsOf]
  | a :: as, [], 0 => by simp [outsOf]
  | a :: as, s :: ss, i + 1 => by
    have := outsOf_get as ss i
    simp only [outsOf, List.getElem?_cons_succ]
    exact this
  | a :: as, [], i + 1 => by
    have := outsOf_get as [] i
    simp only [outsOf, List.getElem?_cons_succ, List.getElem?_nil] at this ⊢
    exact this
theorem putGo_get (bs : List BV) (outs : List Slot) : ∀ (ρ : List Slot) (k i : Nat), (putGo bs outs k ρ)[i]? = ρ[i]?.map (newS bs outs (k + i))
  | [], _, _ => by simp [putGo]
  | s :: ss, k, 0 => by simp [putGo]
  | s :: ss, k, i + 1 => by
    have := putGo_get bs outs ss (k + 1) i
    simp only [putGo, List.getElem?_cons_succ]
    rw [this, Nat.add_assoc, Nat.add_comm 1 i]
theorem putGo_len (bs : List BV) (outs : List Slot) : ∀ (ρ : List Slot) (k : Nat), (putGo bs outs k ρ).length = ρ.length
  | [], _ => rfl
  | s :: ss, k => by simp [putGo, putGo_len bs outs ss (k + 1)]
theorem argIn_own {s : Slot} (h : argIn s = true) {z : Bool} (e : s.own? = some z) : z = false := by
  cases s <;> simp [argIn, Slot.own?] at h e
  · rw [← e]; exact h
  · rw [← e]; exact h
/-- a def's entry -/
theorem Rel.entry {args : List Slot} {vs : List V} {n : Nat} (r : Rel K S args (vs.map some) H) : Rel K S (args ++ List.replicate n .un) (vs.map some ++ List.replicate n none) H ∧
    (∀ a, Own (args ++ List.replicate n .un) (vs.map some ++ List.replicate n none) a ↔ Own args (vs.map some) a) := by
  have hl := r.len
  have back : ∀ {i : Nat} {s : Slot} {z : Bool}, (args ++ List.replicate n .un)[i]? = some s → s.own? = some z → args[i]? = some s ∧ i < args.length := fun {i s z} h1 h2 => by
    by_cases hi : i < args.length
    · rw [List.getElem?_append_left hi] at h1; exact ⟨h1, hi⟩
    · rw [List.getElem?_append_right (by omega), List.getElem?_replicate] at h1
      split at h1
      · cases h1; cases h2
      · cases h1
  have adrE : ∀ {i : Nat}, i < args.length → adr (vs.map some ++ List.replicate n none) i = adr (vs.map some) i := fun {i} hi => by
    unfold adr
    rw [List.getElem?_append_left (by rw [← hl]; exact hi)]
  refine ⟨⟨by simp [hl], fun i s h => ?_, fun i j s t y z a h1 h2 h3 h4 h5 h6 => ?_, r.live⟩, fun a => ⟨fun ⟨i, s, z, h1, h2, h3⟩ => ?_, fun ⟨i, s, z, h1, h2, h3⟩ => ?_⟩⟩
  · by_cases hi : i < args.length
    · rw [List.getElem?_append_left hi] at h
      rw [List.getElem?_append_left (by rw [← hl]; exact hi)]
      exact r.slot i s h
    · rw [List.getElem?_append_right (by omega), List.getElem?_replicate] at h
      split at h
      · cases h; exact trivial
      · cases h
  · obtain ⟨e1, l1⟩ := back h1 h3
    obtain ⟨e2, l2⟩ := back h2 h4
    rw [adrE l1] at h5
    rw [adrE l2] at h6
    exact r.inj i j s t y z a e1 e2 h3 h4 h5 h6
  · obtain ⟨e1, l1⟩ := back h1 h2
    exact ⟨i, s, z, e1, h2, by rw [adrE l1] at h3; exact h3⟩
  · have hi := (List.getElem?_eq_some_iff.mp h1).1
    exact ⟨i, s, z, by rw [List.getElem?_append_left hi]; exact h1, h2, by rw [adrE hi]; exact h3⟩
/-- .. and its end -/
theorem FEnd.of {args : List Slot} {vs : List V} {n : Nat} {v : V} {q : Ret} (r : Rel K S args (vs.map some) H) (hin : args.all argIn = true) (st : Step S (args ++ List.replicate n .un) (vs.map some ++ List.replicate n none) H S' ρ' σ' H') (r' : Rel K S' ρ' σ' H')
    (hv : RRet K S' ρ' σ' H' v q) (hn : RNew (args ++ List.replicate n .un) (vs.map some ++ List.replicate n none) H v q) : FEnd K S args vs H q (outsOf args ρ') S' v H' := by
  obtain ⟨r0, hO⟩ := r.entry (n := n)
  have noZ : ∀ a, ¬ OwnZ (args ++ List.replicate n .un) (vs.map some ++ List.replicate n none) a := fun a ⟨i, s, h1, h2, h3⟩ => by
    by_cases hi : i < args.length
    · rw [List.getElem?_append_left hi] at h1
      have := argIn_own (List.all_eq_true.mp hin s (List.mem_of_getElem? h1)) h2
      cases this
    · rw [List.getElem?_append_right (by omega), List.getElem?_replicate] at h1
      split at h1
      · cases h1; cases h2
      · cases h1
  have ino : ∀ (i : Nat) (s : Slot), args[i]? = some s → s.own? = some false → ∃ t : Slot, ρ'[i]? = some t ∧ t.own? = some false ∧ adr σ' i = adr (vs.map some) i ∧ (outsOf args ρ')[i]? = some t := fun i s h1 h2 => by
    have hi := (List.getElem?_eq_some_iff.mp h1).1
    obtain ⟨t, e1, e2, e3⟩ := st.ino i s (by rw [List.getElem?_append_left hi]; exact h1) h2
    refine ⟨t, e1, e2, ?_, ?_⟩
    · rw [e3]
      unfold adr
      rw [List.getElem?_append_left (by rw [← r.len]; exact hi)]
    · rw [outsOf_get, h1, e1]
      simp only [h2, if_true]
  -- what an own slot of outs is
  have out : ∀ {i : Nat} {t : Slot} {z : Bool}, (outsOf args ρ')[i]? = some t → t.own? = some z → ρ'[i]? = some t ∧ adr σ' i = adr (vs.map some) i := fun {i t z} h1 h2 => by
    have h1' := h1
    rw [outsOf_get] at h1
    cases ea : args[i]? with
    | none => simp only [ea] at h1; cases h1
    | some a =>
      simp only [ea] at h1
      by_cases hz : a.own? = some false
      · obtain ⟨u, e1, e2, e3, e4⟩ := ino i a ea hz
        rw [e4] at h1'
        cases h1'
        exact ⟨e1, e3⟩
      · rw [if_neg hz] at h1
        cases h1
        cases h2
  have ownB : ∀ {a : Addr}, Own (outsOf args ρ') (vs.map some) a → Own ρ' σ' a := fun {a} ⟨i, t, z, h1, h2, h3⟩ => by
    obtain ⟨e1, e2⟩ := out h1 h2
    exact ⟨i, t, z, e1, h2, by rw [e2]; exact h3⟩
  refine ⟨st.sub, st.at_, fun a o h n => st.frame a o h fun z => n ((hO a).mp z), st.there, fun a h => ?_, ⟨?_, fun i t h => ?_, fun i j s t y z a h1 h2 h3 h4 h5 h6 => ?_, r'.live⟩, fun i s h1 h2 => ?_, ?_, ?_⟩
  · rcases st.new a h with z | z | z
    · exact .inl z
    · exact .inr z
    · exact absurd z (noZ a)
  · have : ∀ (as ss : List Slot), (outsOf as ss).length = as.length := fun as => by
      induction as with
      | nil => intro ss; rfl
      | cons a as ih => intro ss; cases ss <;> simp [outsOf, ih]
    rw [this]; exact r.len
  · cases eo : t.own? with
    | none =>
      rw [outsOf_get] at h
      cases ea : args[i]? with
      | none => simp only [ea] at h; cases h
      | some a =>
        simp only [ea] at h
        by_cases hz : a.own? = some false
        · obtain ⟨u, e1, e2, e3, e4⟩ := ino i a ea hz
          rw [outsOf_get, ea] at e4
          simp only at e4
          rw [e4] at h
          cases h
          rw [e2] at eo; cases eo
        · rw [if_neg hz] at h
          cases h
          exact trivial
    | some z =>
      obtain ⟨e1, e2⟩ := out h eo
      have q := r'.slot i t e1
      obtain ⟨a, o, f1, f2, f3, f4⟩ := q.own_adr eo
      have := join_adr f1
      rw [e2] at this
      rw [adr_join this]
      rw [f1] at q
      exact q
  · obtain ⟨e1, e2⟩ := out h1 h3
    obtain ⟨e3, e4⟩ := out h2 h4
    exact r'.inj i j s t y z a e1 e3 h3 h4 (by rw [e2]; exact h5) (by rw [e4]; exact h6)
  · obtain ⟨t, e1, e2, e3, e4⟩ := ino i s h1 h2
    exact ⟨t, e4, e2⟩
  · cases q with
    | val d => exact hv
    | fl ds => obtain ⟨a, xs, e1, e2, e3, e4, e5⟩ := hv; exact ⟨a, xs, e1, e2, e3, e4, fun z => e5 (ownB z)⟩
    | fd ds => obtain ⟨a, xs, e1, e2, e3, e4, e5⟩ := hv; exact ⟨a, xs, e1, e2, e3, e4, fun z => e5 (ownB z)⟩
  · cases q with
    | val d => exact trivial
    | fl ds => exact fun a ea => (hn a ea).resolve_right (noZ a)
    | fd ds => exact fun a ea => (hn a ea).resolve_right (noZ a)
/-! ### the caller's side -/
theorem argSls_get : ∀ {bs : List BV} {as : List Slot} {i : Nat} {s : Slot}, argSls ρ bs = some as → as[i]? = some s → ∃ b, bs[i]? = some b ∧ argSl ρ b = some s
  | [], as, i, s, h, e => by cases h; simp at e
  | b :: bs, as, i, s, h, e => by
    unfold argSls at h
    cases e1 : argSl ρ b with
    | none => simp only [e1] at h; cases h
    | some t =>
      cases e2 : argSls ρ bs with
      | none => simp only [e1, e2] at h; cases h
      | some ts =>
        simp only [e1, e2] at h
        cases h
        cases i with
        | zero => simp at e; subst e; exact ⟨b, rfl, e1⟩
        | succ i =>
          obtain ⟨b', f1, f2⟩ := argSls_get (i := i) e2 (by simpa using e)
          exact ⟨b', by simpa using f1, f2⟩
theorem argSls_len : ∀ {bs : List BV} {as : List Slot}, argSls ρ bs = some as → as.length = bs.length
  | [], as, h => by cases h; rfl
  | b :: bs, as, h => by
    unfold argSls at h
    cases e1 : argSl ρ b with
    | none => simp only [e1] at h; cases h
    | some t =>
      cases e2 : argSls ρ bs with
      | none => simp only [e1, e2] at h; cases h
      | some ts =>
        simp only [e1, e2] at h
        cases h
        simp [argSls_len e2]
theorem RBs.get : ∀ {vs : List V} {bs : List BV} {i : Nat} {b : BV}, RBs K S σ H vs bs → bs[i]? = some b → ∃ v, vs[i]? = some v ∧ RB K S σ H v b
  | [], [], _, _, _, e => by simp at e
  | _ :: _, [], _, _, h, _ => h.elim
  | [], _ :: _, _, _, h, _ => h.elim
  | v :: vs, b :: bs, 0, _, h, e => by simp at e; subst e; exact ⟨v, rfl, h.1⟩
  | v :: vs, b :: bs, i + 1, _, h, e => by
    obtain ⟨u, h1, h2⟩ := RBs.get (i := i) h.2 (by simpa using e)
    exact ⟨u, by simpa using h1, h2⟩
theorem RBs.len : ∀ {vs : List V} {bs : List BV}, RBs K S σ H vs bs → vs.length = bs.length
  | [], [], _ => rfl
  | _ :: _, [], h => h.elim
  | [], _ :: _, h => h.elim
  | v :: vs, b :: bs, h => by simp [RBs.len h.2]
theorem argSl_own {b : BV} {s : Slot} {z : Bool} (h : argSl ρ b = some s) (e : s.own? = some z) : ∃ i t y, b = .slot i ∧ ρ[i]? = some t ∧ t.own? = some y := by
  cases b with
  | val d => cases h; cases e
  | slot i =>
    change argS ρ[i]? = _ at h
    cases hs : ρ[i]? with
    | none => rw [hs] at h; cases h
    | some t =>
      rw [hs] at h
      cases t with
      | un => cases h
      | dat d => cases h; cases e
      | giv d => cases h; cases e
      | lst y ds => exact ⟨i, _, y, rfl, hs, rfl⟩
      | dic y ds => exact ⟨i, _, y, rfl, hs, rfl⟩
theorem argSl_in {b : BV} {s : Slot} (h : argSl ρ b = some s) : argIn s = true := by
  cases b with
  | val d => cases h; rfl
  | slot i =>
    change argS ρ[i]? = _ at h
    cases hs : ρ[i]? with
    | none => rw [hs] at h; cases h
    | some t => rw [hs] at h; cases t <;> cases h <;> rfl
theorem noTw_ne : ∀ {bs : List BV} {i j p : Nat}, noTw bs = true → bs[i]? = some (BV.slot p) → bs[j]? = some (BV.slot p) → i = j
  | [], i, j, p, _, h, _ => by simp at h
  | b :: bs, i, j, p, hn, hi, hj => by
    have hn2 : noTw bs = true := by
      cases b with
      | val d => exact hn
      | slot q => unfold noTw at hn; simp only [Bool.and_eq_true] at hn; exact hn.2
    have hd : ∀ {k : Nat}, bs[k]? = some (BV.slot p) → b = BV.slot p → False := fun {k} hk hb => by
      subst hb
      unfold noTw at hn
      simp only [Bool.and_eq_true] at hn
      have h1 := hn.1
      have h2 : bs.any (isSl p) = true := List.any_eq_true.mpr ⟨_, List.mem_of_getElem? hk, by simp [isSl]⟩
      rw [h2] at h1
      cases h1
    cases i with
    | zero =>
      simp at hi
      cases j with
      | zero => rfl
      | succ j => exact (hd (by simpa using hj) hi).elim
    | succ i =>
      cases j with
      | zero => simp at hj; exact (hd (by simpa using hi) hj).elim
      | succ j => exact congrArg (· + 1) (noTw_ne (p := p) hn2 (by simpa using hi) (by simpa using hj))
/-- the arguments stand -/
theorem Rel.args (r : Rel K S ρ σ H) {bs : List BV} {as : List Slot} {xs : List V} (hb : RBs K S σ H xs bs) (ha : argSls ρ bs = some as) (hn : noTw bs = true) : Rel K S as (xs.map some) H := by
  have own : ∀ {i : Nat} {s : Slot} {z : Bool} {a : Addr}, as[i]? = some s → s.own? = some z → adr (xs.map some) i = some a → ∃ p t y, bs[i]? = some (.slot p) ∧ ρ[p]? = some t ∧ t.own? = some y ∧ adr σ p = some a := fun {i s z a} h1 h2 h3 => by
    obtain ⟨b, e1, e2⟩ := argSls_get ha h1
    obtain ⟨p, t, y, rfl, e3, e4⟩ := argSl_own e2 h2
    obtain ⟨v, e5, e6⟩ := hb.get e1
    refine ⟨p, t, y, e1, e3, e4, ?_⟩
    have e6 : σ[p]? = some (some v) := e6
    have e7 := adr_get h3
    rw [List.getElem?_map, e5] at e7
    have e8 : v = .ref a := by simpa using e7
    unfold adr
    rw [e6, e8]
  refine ⟨by rw [argSls_len ha, List.length_map, hb.len], fun i s h => ?_, fun i j s t y z a h1 h2 h3 h4 h5 h6 => ?_, r.live⟩
  · obtain ⟨b, e1, e2⟩ := argSls_get ha h
    obtain ⟨v, e5, e6⟩ := hb.get e1
    rw [List.getElem?_map, e5]
    show SlotOk K S H (some v) s
    cases b with
    | val d => cases e2; exact e6
    | slot p =>
      have e6 : σ[p]? = some (some v) := e6
      change argS ρ[p]? = _ at e2
      cases hs : ρ[p]? with
      | none => rw [hs] at e2; cases e2
      | some t =>
        rw [hs] at e2
        have q := r.slot p _ hs
        rw [e6] at q
        have q : SlotOk K S H (some v) t := q
        cases t with
        | un => cases e2
        | dat d => cases e2; exact q
        | giv d => cases e2; exact q
        | lst y ds => cases e2; cases v <;> exact q
        | dic y ds => cases e2; cases v <;> exact q
  · obtain ⟨p, t1, y1, a1, a2, a3, a4⟩ := own h1 h3 h5
    obtain ⟨q, t2, y2, b1, b2, b3, b4⟩ := own h2 h4 h6
    have := r.inj p q t1 t2 y1 y2 a a2 b2 a3 b3 a4 b4
    subst this
    exact noTw_ne hn a1 b1
theorem lookSl_get : ∀ {bs : List BV} {outs : List Slot} {i : Nat} {o : Slot}, lookSl bs outs i = some o → ∃ j : Nat, bs[j]? = some (BV.slot i) ∧ outs[j]? = some o
  | [], _, _, _, h => by simp [lookSl] at h
  | .val d :: bs, [], _, _, h => by simp [lookSl] at h
  | .slot p :: bs, [], _, _, h => by simp [lookSl] at h
  | .val d :: bs, o :: os, i, _, h => by
    obtain ⟨j, h1, h2⟩ := lookSl_get (bs := bs) (outs := os) (by simpa [lookSl] using h)
    exact ⟨j + 1, by simpa using h1, by simpa using h2⟩
  | .slot p :: bs, o :: os, i, _, h => by
    unfold lookSl at h
    split at h
    · rename_i e; subst e; cases h; exact ⟨0, rfl, rfl⟩
    · obtain ⟨j, h1, h2⟩ := lookSl_get (bs := bs) (outs := os) h
      exact ⟨j + 1, by simpa using h1, by simpa using h2⟩
theorem lookSl_none : ∀ {bs : List BV} {outs : List Slot} {i j : Nat}, outs.length = bs.length → lookSl bs outs i = none → bs[j]? ≠ some (BV.slot i)
  | [], _, _, j, _, _ => by simp
  | .val d :: bs, [], _, _, hl, _ => by simp at hl
  | .slot p :: bs, [], _, _, hl, _ => by simp at hl
  | .val d :: bs, o :: os, i, j, hl, h => by
    cases j with
    | zero => simp
    | succ j => simpa using lookSl_none (j := j) (by simpa using hl) (show lookSl bs os i = none by simpa [lookSl] using h)
  | .slot p :: bs, o :: os, i, j, hl, h => by
    unfold lookSl at h
    split at h
    · cases h
    · rename_i hne
      cases j with
      | zero => simpa using hne
      | succ j => simpa using lookSl_none (j := j) (by simpa using hl) h
theorem reown_own {z y : Bool} {o : Slot} (h : o.own? = some y) : (reown z o).own? = some z := by
  cases o <;> simp [Slot.own?] at h <;> rfl
theorem reown_ok {z y : Bool} {o : Slot} {x : Option V} (h : o.own? = some y) (q : SlotOk K S H x o) : SlotOk K S H x (reown z o) := by
  cases o <;> simp [Slot.own?] at h
  · cases x with
    | none => exact q
    | some v => cases v <;> exact q
  · cases x with
    | none => exact q
    | some v => cases v <;> exact q
/-- behind a call -/
theorem Rel.back (r : Rel K S ρ σ H) {bs : List BV} {as outs : List Slot} {xs : List V} {v : V} {q : Ret} (hb : RBs K S σ H xs bs) (ha : argSls ρ bs = some as) (hn : noTw bs = true) (e : FEnd K S as xs H q outs S' v H') :
    Rel K S' (putGo bs outs 0 ρ) σ H' ∧ Step S ρ σ H S' (putGo bs outs 0 ρ) σ H' ∧ RRet K S' (putGo bs outs 0 ρ) σ H' v q ∧ RNew ρ σ H v q := by
  have ra := r.args hb ha hn
  have lo : outs.length = bs.length := by rw [e.rel.len, List.length_map, hb.len]
  have sty : Stay S S' H H' := ⟨e.sub, e.at_⟩
  -- an own slot that is handed over
  have given : ∀ {i j : Nat} {s : Slot} {z : Bool} {a : Addr}, ρ[i]? = some s → s.own? = some z → adr σ i = some a → bs[j]? = some (BV.slot i) → adr (xs.map some) j = some a ∧ ∃ t, outs[j]? = some t ∧ t.own? = some false := fun {i j s z a} h1 h2 h3 h4 => by
    obtain ⟨v', e1, e2⟩ := hb.get h4
    have e2 : σ[i]? = some (some v') := e2
    have e3 := adr_get h3
    rw [e2] at e3
    have e4 : v' = .ref a := by simpa using e3
    refine ⟨by unfold adr; rw [List.getElem?_map, e1, e4]; rfl, ?_⟩
    have hlj : j < as.length := by rw [argSls_len ha]; exact (List.getElem?_eq_some_iff.mp h4).1
    obtain ⟨b, f1, f2⟩ := argSls_get ha (List.getElem?_eq_getElem hlj)
    rw [h4] at f1
    cases f1
    refine e.ino j _ (List.getElem?_eq_getElem hlj) ?_
    change argS ρ[i]? = _ at f2
    rw [h1] at f2
    cases s <;> simp [Slot.own?] at h2 <;> (rw [← Option.some.inj f2]; rfl)
  -- an own slot that is not
  have apart : ∀ {i : Nat} {s : Slot} {z : Bool} {a : Addr}, ρ[i]? = some s → s.own? = some z → adr σ i = some a → (∀ j : Nat, bs[j]? ≠ some (BV.slot i)) → ¬ Own as (xs.map some) a := fun {i s z a} h1 h2 h3 h4 ⟨j, t, y, g1, g2, g3⟩ => by
    obtain ⟨b, f1, f2⟩ := argSls_get ha g1
    obtain ⟨p, u, y2, rfl, f3, f4⟩ := argSl_own f2 g2
    obtain ⟨v', e1, e2⟩ := hb.get f1
    have e2 : σ[p]? = some (some v') := e2
    have e3 := adr_get g3
    rw [List.getElem?_map, e1] at e3
    have e4 : v' = .ref a := by simpa using e3
    have e5 : adr σ p = some a := by unfold adr; rw [e2, e4]
    have := r.inj i p s u z y2 a h1 f3 h2 f4 h3 e5
    subst this
    exact h4 j f1
  have ownO : ∀ {a : Addr}, Own as (xs.map some) a → Own ρ σ a := fun {a} ⟨j, t, y, g1, g2, g3⟩ => by
    obtain ⟨b, f1, f2⟩ := argSls_get ha g1
    obtain ⟨p, u, y2, rfl, f3, f4⟩ := argSl_own f2 g2
    obtain ⟨v', e1, e2⟩ := hb.get f1
    have e2 : σ[p]? = some (some v') := e2
    have e3 := adr_get g3
    rw [List.getElem?_map, e1] at e3
    have e4 : v' = .ref a := by simpa using e3
    exact ⟨p, u, y2, f3, f4, by unfold adr; rw [e2, e4]⟩
  -- the new slots
  have get : ∀ {i : Nat} {t : Slot}, (putGo bs outs 0 ρ)[i]? = some t → ∃ s, ρ[i]? = some s ∧ t = newS bs outs i s := fun {i t} h => by
    rw [putGo_get, Nat.zero_add] at h
    cases es : ρ[i]? with
    | none => rw [es] at h; cases h
    | some s => rw [es] at h; cases h; exact ⟨s, rfl, rfl⟩
  have newO : ∀ {i : Nat} {s : Slot} {y : Bool}, ρ[i]? = some s → (newS bs outs i s).own? = some y → s.own? = some y := fun {i s y} h1 h2 => by
    unfold newS at h2
    cases es : s.own? with
    | none => simp only [es] at h2; cases h2
    | some z =>
      simp only [es] at h2
      cases el : lookSl bs outs i with
      | none => simp only [el] at h2; rw [es] at h2; exact h2
      | some o =>
        simp only [el] at h2
        obtain ⟨j, g1, g2⟩ := lookSl_get el
        obtain ⟨b, o2, e1, e2, e3, e4⟩ := (r.slot i s h1).own_adr es
        obtain ⟨_, t, f1, f2⟩ := given h1 es (join_adr e1) g1
        rw [g2] at f1
        cases f1
        rw [reown_own f2] at h2
        exact h2
  have slot : ∀ (i : Nat) (s : Slot), ρ[i]? = some s → SlotOk K S' H' σ[i]?.join (newS bs outs i s) := fun i s h1 => by
    unfold newS
    have q := r.slot i s h1
    cases es : s.own? with
    | none =>
      simp only
      cases s with
      | un => exact trivial
      | giv d => exact SlotOk.giv_stay sty q
      | dat d =>
        cases e' : σ[i]?.join with
        | none => rw [e'] at q; exact q.elim
        | some v => rw [e'] at q; exact R.stay sty d v q
      | lst z ds => cases es
      | dic z ds => cases es
    | some z =>
      simp only
      obtain ⟨a, o2, e1, e2, e3, e4⟩ := q.own_adr es
      cases el : lookSl bs outs i with
      | some o =>
        simp only
        obtain ⟨j, g1, g2⟩ := lookSl_get el
        obtain ⟨f0, t, f1, f2⟩ := given h1 es (join_adr e1) g1
        rw [g2] at f1
        cases f1
        have q' := e.rel.slot j o g2
        rw [adr_join f0] at q'
        rw [e1]
        exact reown_ok f2 q'
      | none =>
        simp only
        have nO := apart h1 es (join_adr e1) fun j => lookSl_none lo el
        have hH := e.frame a o2 e2 nO
        have nS' : ¬ S' a := fun z => by
          rcases e.new a z with z | z
          · exact e3 z
          · rw [e2] at z; cases z
        rw [e1] at q ⊢
        cases s with
        | lst z ds =>
          obtain ⟨vs, q1, q2, q3⟩ := q
          rw [q1] at e2
          cases e2
          exact ⟨vs, hH, nS', RAll.stay sty _ _ q3⟩
        | dic z ds =>
          obtain ⟨vs, q1, q2, q3⟩ := q
          rw [q1] at e2
          cases e2
          exact ⟨vs, hH, nS', RKv.stay sty _ _ q3⟩
        | _ => cases es
  have ownB : ∀ {a : Addr}, Own (putGo bs outs 0 ρ) σ a → Own ρ σ a := fun {a} ⟨i, t, z, h1, h2, h3⟩ => by
    obtain ⟨s, g1, rfl⟩ := get h1
    exact ⟨i, s, z, g1, newO g1 h2, h3⟩
  have nOwn : ∀ {a : Addr}, (∀ b, H a = none → b = a → True) → H a = none → ¬ Own (putGo bs outs 0 ρ) σ a := fun {a} _ hn z => by
    obtain ⟨o, h, _⟩ := r.own (ownB z)
    rw [hn] at h; cases h
  refine ⟨⟨by rw [putGo_len]; exact r.len, fun i t h => ?_, fun i j s t y z a h1 h2 h3 h4 h5 h6 => ?_, e.rel.live⟩, ⟨e.sub, e.at_, fun a o h n => e.frame a o h fun z => n (ownO z), e.there, fun a h => ?_, fun a h => .inl (ownB h), fun a ⟨i, t, h1, h2, h3⟩ => ?_, fun i s h1 h2 => ?_⟩, ?_, ?_⟩
  · obtain ⟨s, g1, rfl⟩ := get h
    exact slot i s g1
  · obtain ⟨s', g1, rfl⟩ := get h1
    obtain ⟨t', g2, rfl⟩ := get h2
    exact r.inj i j s' t' y z a g1 g2 (newO g1 h3) (newO g2 h4) h5 h6
  · rcases e.new a h with z | z
    · exact .inl z
    · exact .inr (.inl z)
  · obtain ⟨s, g1, rfl⟩ := get h1
    exact .inl ⟨i, s, g1, newO g1 h2, h3⟩
  · refine ⟨newS bs outs i s, by rw [putGo_get, Nat.zero_add, h1]; rfl, ?_, rfl⟩
    unfold newS
    simp only [h2]
    cases el : lookSl bs outs i with
    | none => exact h2
    | some o =>
      simp only
      obtain ⟨j, g1, g2⟩ := lookSl_get el
      obtain ⟨b, o2, e1, e2, e3, e4⟩ := (r.slot i s h1).own_adr h2
      obtain ⟨_, t, f1, f2⟩ := given h1 h2 (join_adr e1) g1
      rw [g2] at f1
      cases f1
      exact reown_own f2
  · have hf := e.fresh
    have hr := e.ret
    cases q with
    | val d => exact hr
    | fl ds => obtain ⟨a, ys, rfl, f2, f3, f4, f5⟩ := hr; exact ⟨a, ys, rfl, f2, f3, f4, nOwn (fun _ _ _ => trivial) (hf a rfl)⟩
    | fd ds => obtain ⟨a, ys, rfl, f2, f3, f4, f5⟩ := hr; exact ⟨a, ys, rfl, f2, f3, f4, nOwn (fun _ _ _ => trivial) (hf a rfl)⟩
  · have hf := e.fresh
    cases q with
    | val d => exact trivial
    | fl ds => exact fun a ea => .inl (hf a ea)
    | fd ds => exact fun a ea => .inl (hf a ea)
end
end Ev
namespace Ev
open PySem PySem.Spec PyProof.Rows L2
/-! ### a def's promise -/
/-- the promise: from the arguments as they stand, to what the def makes of them -/
def SpF (K : PySem.W.Frag) (F : FSem) (vs : List V) (H : Hp) (Q : VK) : Prop :=
  ∃ S args, Rel K S args (vs.map some) H ∧ args.all argIn = true ∧ match F args with
    | .ret r outs => ∀ S' v H', FEnd K S args vs H r outs S' v H' → Q v H'
    | .no => False
structure FnG (P : Program) (w : World) (K : PySem.W.Frag) (mg : Str → Option Value) (base : Heap) (k : Nat) (f : Addr) (fd : FuncData) (ps : List Str) (F : FSem) : Prop where
  len : ∀ args r outs, F args = .ret r outs → args.length = ps.length
  run : ∀ (B : Around) (out : List Env) (s : Shared) (H : Hp) (given : Args) (us : List Value) (vs : List V) (Q : VK), Room k B → B.guards = some [] → Env0 P w K mg base B out s H → BindsTo s fd given (ps.zip us) → Vals vs us →
    SpF K F vs H Q → codeAny (model P w) B (.call (.ref f) given) (CR L2.CX0 out P w H s Q L2.E0) s
theorem FnG.mono {P : Program} {w : World} {K : PySem.W.Frag} {mg : Str → Option Value} {base : Heap} {j k : Nat} {f : Addr} {fd : FuncData} {ps : List Str} {F : FSem} (G : FnG P w K mg base j f fd ps F) (h : j ≤ k) : FnG P w K mg base k f fd ps F :=
  ⟨G.len, fun B out s H given us vs Q hr => G.run B out s H given us vs Q (hr.mono h)⟩
theorem SpF.len {K : PySem.W.Frag} {F : FSem} {ps : List Str} {vs : List V} {H : Hp} {Q : VK} (hl : ∀ args r outs, F args = .ret r outs → args.length = ps.length) (h : SpF K F vs H Q) : vs.length = ps.length := by
  obtain ⟨S, args, r, _, q⟩ := h
  cases e : F args with
  | no => rw [e] at q; exact q.elim
  | ret x outs =>
    have := r.len
    rw [List.length_map] at this
    rw [← this]
    exact hl args x outs e
theorem SpF.imp {K : PySem.W.Frag} {F : FSem} {vs : List V} {H : Hp} {Q Q' : VK} (h : SpF K F vs H Q) (i : ∀ v H', Q v H' → Q' v H') : SpF K F vs H Q' := by
  obtain ⟨S, args, r, hin, q⟩ := h
  refine ⟨S, args, r, hin, ?_⟩
  cases e : F args with
  | no => rw [e] at q; exact q
  | ret x outs => rw [e] at q; exact fun S' v H' z => i _ _ (q S' v H' z)
theorem fnSem_len {n m : Nat} {body : MS} {args : List Slot} {r : Ret} {outs : List Slot} (h : fnSem n m body args = .ret r outs) : args.length = m := by
  unfold fnSem at h
  split at h
  · rename_i hc; exact hc.1
  · cases h
/-- the body's end is the promise's end -/
theorem body_end {K : PySem.W.Frag} {mg : Str → Option Value} {N ps : List Str} {body : MS} {vs : List V} {H : Hp} {Q : VK} (hN : ps.length ≤ N.length) (h : SpF K (fnSem N.length ps.length body) vs H Q) :
    tSt K mg (fun _ _ _ _ => False) body { nx := fun _ H' => Q .non H', rt := Q } (L2.start N vs) H := by
  obtain ⟨S, args, r, hin, q⟩ := h
  have hl : args.length = vs.length := by rw [r.len, List.length_map]
  unfold fnSem at q
  by_cases hc : args.length = ps.length ∧ args.all argIn = true
  case neg => rw [if_neg hc] at q; exact q.elim
  rw [if_pos hc] at q
  obtain ⟨r0, hO⟩ := r.entry (n := N.length - ps.length)
  have es : L2.start N vs = vs.map some ++ List.replicate (N.length - ps.length) none := by unfold L2.start; rw [← hl, hc.1]
  rw [es]
  refine ⟨S, _, r0, ?_⟩
  cases eb : body (args ++ List.replicate (N.length - ps.length) .un) with
  | nx ρ =>
    rw [eb] at q
    exact fun S' σ' H' st r' => q S' .non H' (FEnd.of r hin st r' (q := .val .none) .non trivial)
  | rt x ρ =>
    rw [eb] at q
    exact fun S' σ' H' v st r' hv hn => q S' v H' (FEnd.of r hin st r' hv hn)
  | bk ρ => rw [eb] at q; exact q.elim
  | ct ρ => rw [eb] at q; exact q.elim
  | exn x ρ => rw [eb] at q; exact q.elim
  | no => rw [eb] at q; exact q.elim
/-- the context of a body in which nothing is raised -/
abbrev bodyX (P : Program) (w : World) (K : PySem.W.Frag) (mg : Str → Option Value) (base : Heap) (N : List Str) (qual : Str) (scope : Scope) (f : Addr) (cd : Value) (B : Around) (out : List Env) (s : Shared) (H : Hp) : Cx :=
  (cxOf L2.CX0 P w K mg base N qual scope f cd B out s H L2.E0).nox
/-- a def keeps its promise, by its body's reading -/
theorem fnG_of {P : Program} {w : World} {K : PySem.W.Frag} {mg : Str → Option Value} {base : Heap} {k : Nat} {f : Addr} {x qual : Str} {st : Stmt} {fd : FuncData} {N ps : List Str} {body : MS} (F : L2.Fun K x qual st f fd) (Sc : FnScope N ps (defScope st))
    (hb : ∀ (cd : Value) (B : Around) (out : List Env) (s : Shared) (H : Hp), Room k (B.deeper (envOfC qual (defScope st) s.heap.objs.size f cd)) → B.guards = some [] →
      PSs (bodyX P w K mg base N qual (defScope st) f cd B out s H) (defBody st) (tSt K mg (fun _ _ _ _ => False) body)) :
    FnG P w K mg base (k + 1) f fd ps (fnSem N.length ps.length body) := by
  refine ⟨fun args r outs h => fnSem_len h, fun B out s H given us vs Q room gd e0 bnd rv h => ?_⟩
  obtain ⟨oc, od, kV, doc, pm, an, cdv, ct, osl, rfl, lk, hcd⟩ := F.ex
  have hl : vs.length = ps.length := h.len fun args r outs h => fnSem_len h
  have inK : K.In s.heap := e0.mod.kin.keeps fun b o z => (e0.bs b o z).1
  have free : s.heap.NoLimit := e0.mod.nolimit.keeps fun b o z => (e0.bs b o z).1
  have kinds : ∀ y ∈ ps.zip us, (defScope st).names.lookup y.1 = some .local ∨ ((defScope st).names.lookup y.1 = some .cell ∧ ((cellsFrom (s.heap.objs.size + 1) (defScope st).names []).lookup y.1).isSome = true) := fun y hy => by
    rcases Sc.par y.1 (List.of_mem_zip (a := y.1) (b := y.2) hy).1 with z | z
    · exact .inl z
    · exact .inr ⟨z, PySem.W.cellsFrom_some _ _ _ (.inl z)⟩
  have hN : ps.length ≤ N.length := by
    have := congrArg List.length Sc.pre
    rw [List.length_take] at this
    omega
  refine codeAny_call_function room.depth (inK _ _ lk) rfl Sc.co Sc.gen rfl (PySem.W.codeRec_of inK hcd) (bnd _ _ _ _ ?_)
  refine wpAny_newFunctionEnv_cells Sc.kind kinds fun env ee s1 ic => ?_
  subst ee
  refine ⟨free.keeps ic.toInCall.keep, codeAny_func ?_⟩
  have I := inv_start (CX := L2.CX0) (N := N) (qual := qual) (f := f) (cd := cdv) (E := L2.E0) Sc room.hd e0 hl rv ic
  have rd := ((hb cdv B out s H (room.deeper _) gd).nox).run [] s1 (L2.start N vs) H _ I (body_end hN h)
  refine wpAny_mono rd (fun fl s' hs => ?_) fun e s' hs => hs
  cases fl with
  | ret u =>
    obtain ⟨v, σ', H', J, r', q⟩ := hs
    exact ⟨v, H', J.os, J.bare, J.base, J.hok, r', q⟩
  | next =>
    obtain ⟨σ', H', J, q⟩ := hs
    exact ⟨V.non, H', J.os, J.bare, J.base, J.hok, rfl, q⟩
  | brk => obtain ⟨_, _, _, q⟩ := hs; exact q.elim
  | cont => obtain ⟨_, _, _, q⟩ := hs; exact q.elim
/-! ### its calls -/
def pick {α : Type} (perm : List Nat) (xs : List α) : List α := perm.filterMap fun i => xs[i]?
/-- how a call with n positional arguments and the keywords ks binds: perm gives for each parameter the argument's place -/
def KB (K : PySem.W.Frag) (fd : FuncData) (ps : List Str) (n : Nat) (ks : List Str) (perm : List Nat) : Prop :=
  ∀ (s : Shared) (us ws : List Value), K.In s.heap → us.length = n → ws.length = ks.length → BindsTo s fd ⟨us, ks.zip ws⟩ (ps.zip (pick perm (us ++ ws)))
theorem pick_vals {perm : List Nat} {xs : List V} {us : List Value} (h : Vals xs us) : Vals (pick perm xs) (pick perm us) := by
  unfold pick
  induction perm with
  | nil => exact .nil
  | cons i is ih =>
    cases e : xs[i]? with
    | none =>
      have e2 : us[i]? = none := by
        rw [List.getElem?_eq_none_iff] at e ⊢
        rw [← h.length]; exact e
      rw [List.filterMap_cons_none e, List.filterMap_cons_none e2]
      exact ih
    | some v =>
      obtain ⟨u, e2, r⟩ := h.get e
      rw [List.filterMap_cons_some e, List.filterMap_cons_some e2]
      exact .cons r ih
theorem pick_rbs {K : PySem.W.Frag} {S : AS} {σ : L2.St} {H : Hp} {perm : List Nat} {xs : List V} {bs : List BV} (h : RBs K S σ H xs bs) : RBs K S σ H (pick perm xs) (pick perm bs) := by
  unfold pick
  induction perm with
  | nil => exact trivial
  | cons i is ih =>
    cases e : bs[i]? with
    | none =>
      have e2 : xs[i]? = none := by
        rw [List.getElem?_eq_none_iff] at e ⊢
        rw [h.len]; exact e
      rw [List.filterMap_cons_none e, List.filterMap_cons_none e2]
      exact ih
    | some b =>
      obtain ⟨v, e2, r⟩ := h.get e
      rw [List.filterMap_cons_some e, List.filterMap_cons_some e2]
      exact ⟨r, ih⟩
def callB (F : FSem) (perm : List Nat) (bs : List BV) (ρ1 : Rho) : Out Ret := match argSls ρ1 (pick perm bs) with
  | some as => if noTw (pick perm bs) = true then match F as with
      | .ret r outs => .ok r (putGo (pick perm bs) outs 0 ρ1)
      | .no => .no
    else .no
  | none => .no
def mCallK (F : FSem) (perm : List Nat) (n m : Nat) (f g : M (List BV)) : M Ret := fun ρ => (f ρ).andThen fun bs ρ1 => (g ρ1).andThen fun cs ρ2 => if bs.length = n ∧ cs.length = m then callB F perm (bs ++ cs) ρ2 else .no
section
variable {X : Cx} {mg : Str → Option Value} {W : WX} {k : Nat} {f : Addr} {fd : FuncData} {ps : List Str} {F : FSem} {x : Str} {p pos : Pos} {e : Expr} {es : List Expr} {kws : List Keyword} {perm : List Nat} {ks : List Str} {n : Nat}
theorem RBs.app {K : PySem.W.Frag} {S : AS} {σ : L2.St} {H : Hp} : ∀ {xs : List V} {bs : List BV} {ys : List V} {cs : List BV}, RBs K S σ H xs bs → RBs K S σ H ys cs → RBs K S σ H (xs ++ ys) (bs ++ cs)
  | [], [], _, _, _, h => h
  | _ :: _, [], _, _, h, _ => h.elim
  | [], _ :: _, _, _, h, _ => h.elim
  | x :: xs, b :: bs, _, _, h, h2 => ⟨h.1, RBs.app h.2 h2⟩
theorem callK_fwd {K : PySem.W.Frag} {S : AS} {ρ : Rho} {σ : L2.St} {H : Hp} {Q : VK} {fa ga : M (List BV)} {m : Nat} (rel : Rel K S ρ σ H)
    (p : Post K mg W S ρ σ H (fun r S' ρ' H' => ∀ v, RRet K S' ρ' σ H' v r → RNew ρ σ H v r → Q v H') (mCallK F perm n m fa ga ρ)) :
    tAr K mg W fa σ H fun xs H1 => tAr K mg W ga σ H1 fun zs H2 => xs.length = n ∧ zs.length = m ∧ SpF K F (pick perm (xs ++ zs)) H2 Q := by
  refine ⟨S, ρ, rel, ?_⟩
  unfold mCallK at p
  refine Post.and p fun bs S1 ρ1 H1 st1 r1 p xs hxs => ?_
  refine ⟨S1, ρ1, r1, Post.and (Post.from p st1) fun cs S2 ρ2 H2 st2 r2 p zs hzs => ?_⟩
  by_cases hl : bs.length = n ∧ cs.length = m
  case neg => rw [if_neg hl] at p; exact p.elim
  rw [if_pos hl] at p
  refine ⟨by rw [hxs.len]; exact hl.1, by rw [hzs.len]; exact hl.2, ?_⟩
  unfold callB at p
  cases e1 : argSls ρ2 (pick perm (bs ++ cs)) with
  | none => simp only [e1] at p; exact p.elim
  | some as =>
    simp only [e1] at p
    by_cases hn : noTw (pick perm (bs ++ cs)) = true
    case neg => rw [if_neg hn] at p; exact p.elim
    rw [if_pos hn] at p
    have hb := pick_rbs (perm := perm) ((hxs.step st2).app hzs)
    refine ⟨S2, as, r2.args hb e1 hn, ?_, ?_⟩
    · refine List.all_eq_true.mpr fun s hs => ?_
      obtain ⟨i, hi, rfl⟩ := List.mem_iff_getElem.mp hs
      obtain ⟨b, f1, f2⟩ := argSls_get e1 (List.getElem?_eq_getElem hi)
      exact argSl_in f2
    · cases eF : F as with
      | no => simp only [eF] at p; exact p
      | ret r outs =>
        simp only [eF] at p
        intro S' v H' fe
        obtain ⟨r3, st3, hr, hnw⟩ := r2.back hb e1 hn fe
        exact p S' H' (st2.trans st3) r3 v hr ((hnw.back st2).back st1)
/-- the callee runs -/
theorem run_G {pins : List (Addr × Obj)} {σ : L2.St} {H : Hp} {s : Shared} {Q : VK} {us ws : List Value} {xs zs : List V} (G : FnG X.prog X.w X.K X.mg X.base k f fd ps F) (hr : Room k X.A) (hg : X.A.guards = some []) (hb : KB X.K fd ps n ks perm) (I : Inv X pins σ H s)
    (r : Vals xs us) (rz : Vals zs ws) (h1 : us.length = n) (h2 : ws.length = ks.length) (h : SpF X.K F (pick perm (xs ++ zs)) H Q) : wpAny (model X.prog X.w) X.A (call (.ref f) us (ks.zip ws)) (EP X pins σ Q) X.xe s := by
  have rr : Vals (pick perm (xs ++ zs)) (pick perm (us ++ ws)) := pick_vals (r.append rz)
  refine wpAny_call (codeAny_mono (G.run X.A X.stack s H ⟨us, ks.zip ws⟩ _ _ Q hr hg I.env0 (hb s us ws I.kIn h1 h2) rr h) fun res s' hq => ?_)
  cases res with
  | error er => exact False.elim hq
  | ok fl =>
    cases fl with
    | ret u => exact I.after hq
    | next => exact False.elim hq
    | brk => exact False.elim hq
    | cont => exact False.elim hq
theorem pk_imp {t t' : TA} (h : PK X kws t) (i : ∀ σ H Q, t' σ H Q → t σ H Q) : PK X kws t' := ⟨fun ps' pins s σ H Q I q => h.run ps' pins s σ H Q I (i σ H Q q)⟩
theorem pk_nilE : PK X [] (tAr X.K mg W mNil) := pk_imp pk_nil fun σ H Q ⟨S, ρ, rel, p⟩ => Post.ok rel p [] trivial
theorem pk_consE {a : M BV} {g : M (List BV)} {nm : Option Str} {kp : Pos} (ha : PE X e (tBo X.K mg W a)) (hr : PK X kws (tAr X.K mg W g)) : PK X (⟨nm, e, kp⟩ :: kws) (tAr X.K mg W (mCons a g)) :=
  pk_imp (pk_cons ha hr) fun σ H Q ⟨S, ρ, rel, p⟩ => by
    refine ⟨S, ρ, rel, ?_⟩
    unfold mCons at p
    refine Post.and p fun b S1 ρ1 H1 st1 r1 p v hv => ⟨S1, ρ1, r1, Post.and (Post.from p st1) fun cs S2 ρ2 H2 st2 r2 p vs hvs => p S2 H2 st2 r2 (v :: vs) ⟨hv.step st2, hvs⟩⟩
/-- a call of a def, in its four forms -/
structure Callee (X : Cx) (x : Str) (F : FSem) (n : Nat) (ks : List Str) (perm : List Nat) : Prop where
  ex : ∃ k f fd ps, FnG X.prog X.w X.K X.mg X.base k f fd ps F ∧ Room k X.A ∧ X.mg x = some (.ref f) ∧ PySem.W.keepIn X.K (.ref f) = true ∧ KB X.K fd ps n ks perm
  gd : X.A.guards = some []
theorem pe_callG {fa ga : M (List BV)} (C : Callee X x F n ks perm) (hnil : es = [] → fa = mNil) (hg : Gl X x) (hd : (x == ("__debug__" : Str)) = false) (ha : PA X es (tAr X.K mg W fa)) (hk : PK X kws (tAr X.K mg W ga))
    (hall : (backToKw pos (keywordEach kws X.env)).all (·.1.isSome) = true) (hks : (backToKw pos (keywordEach kws X.env)).filterMap (·.1) = ks)
    (hst : ∀ e' es', es = e' :: es' → starEach es X.env = (false, eval e' X.env) :: starEach es' X.env)
    (hpl : ((backTo pos (starEach es X.env)).any (·.1) || (backToKw pos (keywordEach kws X.env)).any (·.1.isNone)) = false) :
    PE X (.Call (.Name x p) es kws pos) (tS X.K mg W (mCallK F perm n ks.length fa ga)) := by
  obtain ⟨k, f, fd, ps, G, hr, hm, hkp, hb⟩ := C.ex
  refine ⟨fun pins s σ H Q I ⟨S, ρ, rel, q⟩ => ?_⟩
  have h := callK_fwd rel q
  refine wpAny_Call_Name_kw (ld_glob I hg hm ?_ hd)
  have fin : ∀ {xs zs : List V} {us ws : List Value} {s2 : Shared} {H2 : Hp}, Inv X pins σ H2 s2 → Vals xs us → Vals zs ws → xs.length = n → zs.length = ks.length → SpF X.K F (pick perm (xs ++ zs)) H2 Q → wpAny (model X.prog X.w) X.A (call (.ref f) us (ks.zip ws)) (EP X pins σ Q) X.xe s2 :=
    fun {xs zs us ws s2 H2} I2 r rz h1 h2 hq => run_G G hr C.gd hb I2 r rz (by rw [← r.length]; exact h1) (by rw [← rz.length]; exact h2) hq
  cases es with
  | nil =>
    refine PySem.W.callWith_KW0 (h₀ := X.base) I.ok.mod.kin hkp hall ?_ hpl
    have q1 : tAr X.K mg W ga σ H fun zs H2 => ([] : List V).length = n ∧ zs.length = ks.length ∧ SpF X.K F (pick perm ([] ++ zs)) H2 Q := by
      rw [hnil rfl] at h
      obtain ⟨S2, ρ2, rel2, p2⟩ := h
      exact Post.ok rel2 p2 [] trivial
    refine thn (hk.run pos pins s σ H _ I q1) fun ws s2 ⟨zs, H2, I2, rz, h1, h2, q2⟩ => ⟨I2.kIn, ?_⟩
    rw [hks]
    exact fin (us := []) I2 .nil rz h1 h2 q2
  | cons e' es' =>
    refine PySem.W.callWith_KW (h₀ := X.base) I.ok.mod.kin hkp hall (thn (ha.run pos pins s σ H _ I h) fun us s1 ⟨vs, H1, I1, r, q1⟩ => ?_) hpl (hst e' es' rfl)
    refine thn (hk.run pos pins s1 σ H1 _ I1 q1) fun ws s2 ⟨zs, H2, I2, rz, h1, h2, q2⟩ => ⟨I2.kIn, ?_⟩
    rw [hks]
    exact fin I2 r rz h1 h2 q2
end
end Ev
namespace Ev
open PySem PySem.Spec PyProof.Rows L2 PySem.W PySem.Calls
/-! ### sorting tuples the first of which is empty -/
section
variable {prog : Program} {w : World} {A : Around} {E : Value → Shared → Prop} {s : Shared}
/-- one tuple against another, by its own word for less -/
theorem less_tup {xs ys : List D} {a b : Value} {as bs : List Addr} {Q : Bool → Shared → Prop} (ra : Reads s.heap a (.tuple xs) as) (rb : Reads s.heap b (.tuple ys) bs) (hal : alikeAll xs ys = true)
    (room : A.units + min (PyData.tuple xs).depth (PyData.tuple ys).depth < cLine) (hq : Q (dataLt (.tuple xs) (.tuple ys)) s) : wpAny (model prog w) A (oneLt' true a b) Q E s := by
  cases ra with
  | @tuple p o vs n _ u1 g1 g2 g3 g4 =>
    cases rb with
    | @tuple q o' ws m _ u2 k1 k2 k3 k4 =>
      have z1 : vs.size = xs.length := by simpa using SeqAt.ReadsAll.length _ _ _ g4
      have z2 : ws.size = ys.length := by simpa using SeqAt.ReadsAll.length _ _ _ k4
      rw [dataLt_tuple, ← firstLt_toks xs ys hal, ← z1, ← z2] at hq
      rw [oneLt'_eq]
      simp only [if_true]
      have go : wpAny (model prog w) A (call (.builtin "tuple.__lt__") [.ref p, .ref q]) (fun v s' => v = .bool (SeqAt.firstLt (SeqAt.pairEq xs ys) (fun j => dataLt (xs.getD j .none) (ys.getD j .none)) (decide (vs.size < ws.size)) (List.range (min vs.size ws.size))) ∧ s' = s) E s := by
        obtain ⟨⟨c1, d1, t1, l1⟩, h1, h2, n1, h3⟩ : s.heap.IsTuple p vs := ⟨_, g1, g2, _, g3⟩
        obtain ⟨⟨c2, d2, t2, l2⟩, j1, j2, n2, j3⟩ : s.heap.IsTuple q ws := ⟨_, k1, k2, _, k3⟩
        simp only at h2 h3 j2 j3
        subst h2 h3 j2 j3
        refine call_meets F.slot_tuple_lt ⟨_, h1, rfl⟩ F.entry_tuple_lt (F.args_tuple_lt_2 _ _) (SeqAt.tuple_ltAt p q vs ws n1 n2 d1 d2 l1 l2 (SeqAt.pairEq xs ys) fun j => dataLt (xs.getD j .none) (ys.getD j .none)) ⟨h1, j1, fun j f1 f2 => ?_, fun j f1 f2 f3 => ?_, rfl, rfl⟩
        · have := eqAt_alikeAll xs ys A.in1 s vs.toList ws.toList _ _ g4 k4 hal (SeqAt.room_in room) j (by simpa using f1) (by simpa using f2)
          simpa using this
        · have := rcLt_alikeAll xs ys A.in1 s vs.toList ws.toList _ _ g4 k4 hal (SeqAt.room_in room) j (by simpa using f1) (by simpa using f2) f3
          simpa using this
      refine wpAny_bind (wpAny_cRoomFor (SeqAt.room_here room) ?_)
      refine wpAny_bind (wpAny_callSpecialIfBound?_slot (T := "tuple") ⟨_, g1, g2⟩ F.slot_tuple_lt (wpAny_mono go (fun v s' hv => ?_) fun _ _ x => x))
      obtain ⟨rfl, rfl⟩ := hv
      exact wpAny_truthy_bool hq
end
section
variable {M : Model} {A : Around} {E : Value → Shared → Prop} {s : Shared}
/-- what a first look at tuples finds -/
def firstsAt (h : Heap) : List Value → List (Option Value) → Prop
  | [], [] => True
  | v :: vs, f :: fs => (∃ a o xs n, v = .ref a ∧ h.get? a = some o ∧ o.cls = .type "tuple" ∧ o.data = .seq xs n ∧ xs[0]? = f) ∧ firstsAt h vs fs
  | _, _ => False
theorem firsts_go : ∀ (vs : List Value) (fs : List (Option Value)) {Q : List (Option Value) → Shared → Prop}, firstsAt s.heap vs fs → Q fs s → wpAny M A (vs.mapM firstOfTuple') Q E s
  | [], [], _, _, h => by rw [List.mapM_nil]; exact wpAny_pure h
  | [], _ :: _, _, t, _ => t.elim
  | _ :: _, [], _, t, _ => t.elim
  | v :: vs, f :: fs, Q, t, h => by
    obtain ⟨⟨p, o, xs, n, rfl, g1, g2, g3, g4⟩, t2⟩ := t
    rw [List.mapM_cons]
    have lk : Looks M s.heap (typeOf (.ref p)) o.cls := (Looks.ld g1).andThen .now
    refine wpAny_bind ?_
    rw [kas_first_eq]
    refine wpAny_bind (Looks.here lk ?_)
    rw [g2, if_neg (by decide)]
    refine wpAny_bind (listItems_at g1 g3 (wpAny_pure ?_))
    rw [g4]
    exact wpAny_bind (firsts_go vs fs (Q := fun bs s' => wpAny M A (pure (f :: bs)) Q E s') t2 (wpAny_pure h))
theorem kind_first0 {vs : List Value} {fs : List (Option Value)} {Q : SortKind → Shared → Prop} (t : firstsAt s.heap vs (none :: fs)) (h : Q oneType' s) : wpAny M A (keyKind' vs.toArray) Q E s := by
  rw [kat_kind_eq, List.mapM_toArray, map_eq_pure_bind]
  refine wpAny_bind (wpAny_bind (firsts_go vs _ t (wpAny_pure ?_)))
  have e1 : ((none :: fs).toArray.all fun x => x.isSome) = false := by simp
  rw [e1, if_neg Bool.false_ne_true]
  have e2 : (((none :: fs).toArray[0]?.bind id).isSome) = false := by simp
  rw [e2, if_neg Bool.false_ne_true]
  have ty : ∀ (ws : List Value) (gs : List (Option Value)), firstsAt s.heap ws gs → ∀ v ∈ ws, Looks M s.heap (typeOf v) (.type "tuple") := fun ws => by
    induction ws with
    | nil => intro gs _ v hv; exact absurd hv (by simp)
    | cons w ws ih =>
      intro gs t v hv
      cases gs with
      | nil => exact t.elim
      | cons g gs =>
        obtain ⟨⟨p, o, xs, n, rfl, g1, g2, g3, g4⟩, t2⟩ := t
        rcases List.mem_cons.mp hv with rfl | hv
        · have lk : Looks M s.heap (typeOf (.ref p)) o.cls := (Looks.ld g1).andThen .now
          rw [g2] at lk
          exact lk
        · exact ih gs t2 v hv
  have tv := ty vs _ t
  cases vs with
  | nil => exact t.elim
  | cons v₀ vs =>
    rw [oneTypeOnly'_eq, List.mapM_toArray, map_eq_pure_bind]
    refine wpAny_bind (wpAny_bind (wpAny_bind (kas_mapM (r := Value.type "tuple") _ (fun v hv Q' hq => (tv v hv).here hq) (wpAny_pure ?_))))
    have al : ((List.map (fun _ => Value.type "tuple") (v₀ :: vs)).toArray.all fun x => x == Value.type "tuple") = true := by
      simp only [List.all_toArray, List.all_map, List.all_eq_true]
      intro _ _
      exact beq_self_eq_true _
    have a0 : (List.map (fun _ => Value.type "tuple") (v₀ :: vs)).toArray[0]? = some (Value.type "tuple") := by simp
    rw [a0]
    simp only [al, if_true]
    exact wpAny_pure (wpAny_pure h)
end
def tup0 : List D → Bool
  | .tuple [] :: ds => ds.all fun d => match d with
    | .tuple _ => true
    | _ => false
  | _ => false
theorem firsts_of {h : Heap} : ∀ {vs : List Value} {ds : List D}, EachIs (fun v d => ∃ as, Reads h v d as) vs ds → (∀ d ∈ ds, ∃ xs, d = .tuple xs) → ∃ fs, firstsAt h vs fs ∧ (∀ ds', ds = .tuple [] :: ds' → ∃ fs', fs = none :: fs')
  | _, _, .nil, _ => ⟨[], trivial, fun _ e => nomatch e⟩
  | _, _, .cons (b := d) ⟨as, r⟩ t, ht => by
    obtain ⟨fs, h1, _⟩ := firsts_of t fun e he => ht e (List.mem_cons_of_mem _ he)
    obtain ⟨xs, rfl⟩ := ht d (List.mem_cons_self ..)
    cases r with
    | @tuple p o vs n _ _ g1 g2 g3 g4 =>
      refine ⟨vs[0]? :: fs, ⟨⟨p, o, vs, n, rfl, g1, g2, g3, rfl⟩, h1⟩, fun ds' e => ?_⟩
      cases e
      have z : vs.size = 0 := by simpa using SeqAt.ReadsAll.length _ _ _ g4
      exact ⟨fs, by rw [show vs[0]? = none by simp [z]]⟩
theorem sorts_tup0 {prog : Program} {w : World} {A : Around} {s : Shared} {vs : List Value} {ds : List D} (e : EachIs (fun v d => ∃ as, Reads s.heap v d as) vs ds) (hal : AllAlike ds) (h0 : tup0 ds = true) (hu : ∀ d, d ∈ ds → A.units + d.depth < cLine) : SortsAt prog w A s (dataKind s.heap ds) vs := by
  have tup : ∀ d ∈ ds, ∃ xs, d = .tuple xs := by
    unfold tup0 at h0
    split at h0
    · intro d hd
      rcases List.mem_cons.mp hd with rfl | hd
      · exact ⟨[], rfl⟩
      · have := List.all_eq_true.mp h0 d hd
        cases d <;> first | (cases this; done) | exact ⟨_, rfl⟩
    · cases h0
  obtain ⟨fs, f1, f2⟩ := firsts_of e tup
  obtain ⟨fs', rfl⟩ : ∃ fs', fs = none :: fs' := by
    unfold tup0 at h0
    split at h0
    · exact f2 _ rfl
    · cases h0
  refine ⟨fun v hv => ?_, oneType', fun E x y a b Q ha hb hq => ?_, fun h2 E Q hq => kind_first0 f1 hq⟩
  · obtain ⟨d, hd, as, r⟩ := e.left v hv
    exact ⟨_, dataKind_some hal hd r⟩
  · obtain ⟨d, as, hd, ra, rfl⟩ := dataKind_inv ha
    obtain ⟨d', as', hd', rb, rfl⟩ := dataKind_inv hb
    obtain ⟨xs, rfl⟩ := tup d hd
    obtain ⟨ys, rfl⟩ := tup d' hd'
    have hxy := hal _ hd _ hd'
    rw [keyLt'_oneType]
    exact less_tup ra rb (by simpa [alike] using hxy) (Nat.lt_of_le_of_lt (Nat.add_le_add_left (Nat.min_le_left _ _) _) (hu _ hd)) hq
theorem sorted_tup0 {prog : Program} {w : World} {A : Around} {E : Value → Shared → Prop} {s : Shared} {vs : List Value} {bs : List D} {R : Value → D → Prop} {l : Addr} {Q : Value → Shared → Prop} (hl : s.heap.IsList l vs.toArray) (e : EachIs R vs bs) (er : EachIs (fun v b => ∃ as, Reads s.heap v b as) vs bs) (hal : AllAlike bs) (h0 : tup0 bs = true) (hL : bs.length ≤ sizeLine)
    (hu : ∀ b, b ∈ bs → A.units + 2 + b.depth < cLine) (h : ∀ out, out.length = bs.length → EachIs R out (bs.mergeSort (dataLe false id)) → Q (.ref (s.heap.objs.size + 1)) { s with heap := PyProof.Rows.sortedAll s.heap vs (List.toArray out) }) :
    wpAny (model prog w) A (call (.builtin "sorted") [.ref l]) Q E s := by
  have er2 : EachIs (fun v b => ∃ as, Reads (sortingHeap (copyHeap s.heap vs) (s.heap.objs.size + 1) vs) v b as) vs bs := er.mono fun _ _ ⟨as, r⟩ => ⟨as, PyProof.Rows.Reads.keeps (fun _ _ => sorting_copy_old) r⟩
  have S0 : SortsAt prog w A.in1.in1 { s with heap := sortingHeap (copyHeap s.heap vs) (s.heap.objs.size + 1) vs } (dataKind (sortingHeap (copyHeap s.heap vs) (s.heap.objs.size + 1) vs) bs) vs :=
    sorts_tup0 (s := { s with heap := sortingHeap (copyHeap s.heap vs) (s.heap.objs.size + 1) vs }) er2 hal h0 fun d hd => hu d hd
  refine sorted_vals hl S0 (by rw [e.length]; exact hL) (h _ (by rw [sortVals_length false rfl]; exact e.length) ?_)
  have := sortVals_data (h' := sortingHeap (copyHeap s.heap vs) (s.heap.objs.size + 1) vs) (enc := id) (bs := bs) false e er2 (by rw [List.map_id]; exact hal)
  rw [List.map_id] at this
  exact this
def sortOk0 (ds : List D) : Bool := alikeOk ds && tup0 ds && decide (ds.length ≤ 16777216)
def bSort : List D → Option Ret
  | [.list ds] => if sortOk ds = true then some (.fl (sortD ds)) else if sortOk0 ds = true then some (.fl (sortD ds)) else none
  | _ => none
section
variable {X : Cx}
theorem cb_sort0 (hu : X.A.units + 64 < cLine) : CallR X (.builtin "sorted") fun xs H Q => ∃ S ds, Live S H ∧ RRs X.K H S xs [.list ds] ∧ sortOk0 ds = true ∧ ∀ v H', PPost X.K S H v H' (.fl (sortD ds)) → Q v H' := by
  intro pins s σ H xs us Q I rx ⟨S, ds, lv, hR, hp, q⟩
  obtain ⟨v, rfl, h1⟩ := hR.one
  obtain ⟨a, vs, rfl, hs, ha⟩ := h1.list
  obtain ⟨its, rv, hl, hz⟩ := I.list (.inl (.inl hs))
  rw [Vals.ref1 rx]
  unfold sortOk0 at hp
  simp only [Bool.and_eq_true, decide_eq_true_eq] at hp
  obtain ⟨⟨ho, hk⟩, hlen⟩ := hp
  obtain ⟨hal, hpl⟩ := alikeOk_ok ho
  have e := each_of ha rv
  have er : PySem.W.EachIs (fun v b => ∃ as, Reads s.heap v b as) its ds := by
    refine (PySem.W.each_mem e).mono fun u d hh => ?_
    obtain ⟨⟨v, r, h⟩, hm⟩ := hh
    exact h.reads I d v u r (hpl d hm).1
  refine sorted_tup0 hl.isList e er hal hk (by rw [line_eq]; exact hlen) (fun b hb => by have := (hpl b hb).2; show X.A.units + 2 + b.depth < cLine; omega) fun out hlo hout => ?_
  rw [sortD_eq] at hout
  obtain ⟨ys, ra, ry⟩ := of_each hout
  obtain ⟨ep, he'⟩ := PyProof.Rows.sortedAll_at s.heap its out.toArray
  have hp : H (s.heap.objs.size + 1) = none := I.hok.fresh (Nat.le_succ _)
  exact ⟨.ref _, upd H (s.heap.objs.size + 1) (.lst ys), I.laid (t' := s.toks) (fun _ _ => PyProof.Rows.sortedAll_old) (Nat.le_succ _) ⟨by rw [ry.length, hlo, line_eq]; exact hlen, out, ep, ry, he'⟩, rfl, q _ _ (.lst hp lv ra)⟩
theorem cb_sort (hu : X.A.units + 64 < cLine) : CallR X (.builtin "sorted") (rOps X.K bSort) := by
  intro pins s σ H xs us Q I rx ⟨S, ds, r, lv, hR, h3, q⟩
  unfold bSort at h3
  split at h3
  · rename_i ds
    split at h3
    · rename_i hp
      refine cb_sorted hu pins s σ H xs us Q I rx ⟨S, _, r, lv, hR, ?_, q⟩
      unfold bSorted
      simp only [if_pos hp]
      exact h3
    · split at h3
      · rename_i hp
        cases h3
        exact cb_sort0 hu pins s σ H xs us Q I rx ⟨S, ds, lv, hR, hp, q⟩
      · cases h3
  · cases h3
end
end Ev
namespace Ev
open PySem PySem.Spec PyProof.Rows L2
/-! ### comprehensions as expressions, as assignments -/
def mYes : M Bool := fun ρ => .ok true ρ
abbrev W0 : WX := fun _ _ _ _ => False
section
variable {X : Cx} {mg : Str → Option Value} {W : WX} {st : Stmt} {e elt tg iter : Expr} {ifs : List Expr} {scope : Scope} {own : List (Str × Nat)} {pos : Pos} {it : M (List D)} {t : Tgt} {tt : M Bool} {te : M Ret}
theorem pts_yes : PTs X [] (tTe X.K mg W mYes) := ⟨fun pins s σ H Q I ⟨S, ρ, rel, p⟩ => pts_nil.run pins s σ H Q I (Post.ok rel p)⟩
theorem asgN_imp {ta : TE} {i : Nat} {f : M Ret} (h : PS X st (tAsg ta (gName i))) (im : ∀ σ H Q, tS X.K mg W f σ H Q → ta σ H Q) : PS X st (tSt X.K mg W (sAsgN i f)) := ps_imp h fun D σ H ⟨S, ρ, rel, p⟩ =>
  im σ H _ ⟨S, ρ, rel, PostS.and p fun r S1 ρ1 H1 st1 r1 p v hv hn => by
    by_cases hf : Slot.free? ρ1[i]? = true
    · rw [if_pos hf] at p
      obtain ⟨r2, st2⟩ := store_ret rel st1 r1 hv hn hf
      exact p S1 _ H1 st2 r2
    · rw [if_neg hf] at p
      exact p.elim⟩
structure LcParts (X : Cx) (mg : Str → Option Value) (W : WX) (elt tg iter : Expr) (ifs : List Expr) (scope : Scope) (own : List (Str × Nat)) (it : M (List D)) (t : Tgt) (tt : M Bool) (te : M Ret) : Prop where
  calm : X.calm = true
  nd : X.N.Nodup
  src : PI X tg iter (tIt X.K mg W it)
  ok : BlkOk X.N X.env.scope scope own
  sub : ∀ i ∈ t.slots, i ∈ own.map (·.2)
  tgt : ∀ (s : Shared) (H : Hp) (C : Addr) (cl : List (Str × Addr)) (fp : List Addr), PG (X.blk s H scope (compEnvC scope cl C X.env) fp) tg (tGt X.K t)
  test : ∀ (s : Shared) (H : Hp) (C : Addr) (cl : List (Str × Addr)) (fp : List Addr), PTs (X.blk s H scope (compEnvC scope cl C X.env) fp) ifs (tTe X.K mg W0 tt)
  val : ∀ (s : Shared) (H : Hp) (C : Addr) (cl : List (Str × Addr)) (fp : List Addr), PE (X.blk s H scope (compEnvC scope cl C X.env) fp) elt (tS X.K mg W0 te)
  fold : ∀ x, foldedSetIterable iter X.env x = pure x
theorem pe_lcE (p : LcParts X mg W elt tg iter ifs scope own it t tt te) : PE X (.ListComp elt [⟨tg, iter, ifs, 0⟩] scope pos) (tS X.K mg W (mLc (own.map (·.2)) it t tt te)) :=
  pe_imp (pe_lc p.calm p.nd p.src p.ok p.tgt p.test p.val p.fold) fun _ _ _ ⟨_, _, rel, q⟩ => lc_fwd p.sub rel q
theorem ps_lcE {i : Nat} {y : Str} {py spos : Pos} (p : LcParts X mg W elt tg iter ifs scope own it t tt te) (hy : X.N[i]? = some y) (hyl : X.env.scope.names.lookup y = some .local)
    (hsw : swapsWith (.ListComp elt [⟨tg, iter, ifs, 0⟩] scope pos) (some (.Name y py)) spos.line X.env = pure true) : PS X (.Assign [.Name y py] (.ListComp elt [⟨tg, iter, ifs, 0⟩] scope pos) spos) (tSt X.K mg W (sAsgN i (mLc (own.map (·.2)) it t tt te))) :=
  asgN_imp (ps_setLc p.calm p.nd hy hyl hsw p.src p.ok p.tgt p.test p.val p.fold) fun _ _ _ ⟨_, _, rel, q⟩ => lc_fwd p.sub rel q
end
/-! ### the script -/
def mLenG (k : Nat) : M Ret := fun ρ => match ρ[k]? with
  | some (.giv ds) => .ok (.val (.int ds.length)) ρ
  | _ => .no
def mIxG (k : Nat) (f : M BV) : M Ret := fun ρ => match ρ[k]? with
  | some (.giv ds) => (f ρ).andThen fun b ρ1 => match res ρ1 b with
    | some (.int i) => match L2.atI ds i with
      | some d => .ok (.val d) ρ1
      | none => .no
    | _ => .no
  | _ => .no
def mSlG (k : Nat) (lo hi : Option (M BV)) : M Ret := fun ρ => match ρ[k]? with
  | some (.giv ds) => (mPart lo ρ).andThen fun l ρ1 => (mPart hi ρ1).andThen fun u ρ2 => .ok (.fl (cutD ds l u)) ρ2
  | _ => .no
section
variable {X : Cx} {mg : Str → Option Value} {W : WX} {e a b : Expr} {lo hi : Option Expr} {pos p2 : Pos}
theorem Rel.giv {K : PySem.W.Frag} {S : AS} {ρ : Rho} {σ : L2.St} {H : Hp} (rel : Rel K S ρ σ H) {k : Nat} {ds : List D} (h : ρ[k]? = some (.giv ds)) : ∃ a vs, σ[k]? = some (some (.ref a)) ∧ SqL K H a vs ∧ (S a ∨ ∀ H', SqL K H' a vs) ∧ RAll K H S vs ds := by
  have q := rel.slot k _ h
  cases e : σ[k]? with
  | none => rw [e] at q; exact q.elim
  | some x =>
    rw [e] at q
    cases x with
    | none => exact q.elim
    | some v =>
      have q : SlotOk K S H (some v) (.giv ds) := q
      cases v <;> first | exact False.elim q | skip
      obtain ⟨vs, h1, h2, h3⟩ := q
      exact ⟨_, vs, rfl, h1, h2, h3⟩
theorem givKeep {K : PySem.W.Frag} {S S1 : AS} {ρ ρ1 : Rho} {σ : L2.St} {H H1 : Hp} {a : Addr} {vs : List V} {ds : List D} (st : Step S ρ σ H S1 ρ1 σ H1) (h : SqL K H a vs) (hs : S a ∨ ∀ H', SqL K H' a vs) (hr : RAll K H S vs ds) : SqL K H1 a vs ∧ RAll K H1 S1 vs ds := by
  refine ⟨?_, hr.stay st.stay⟩
  rcases hs with hs | hs
  · exact sqL_at (st.at_ a hs) h
  · exact hs H1
theorem pe_lenG {k : Nat} {np p : Pos} (hx : PE X e (tVar k)) (hg : Gl X "len") (hm : X.mg "len" = none) (he : starEach [e] X.env = [(false, eval e X.env)]) : PE X (.Call (.Name "len" np) [e] [] p) (tS X.K mg W (mLenG k)) :=
  pe_imp (pe_callB call_len hg hm PySem.boot_len (pa_cons hx pa_nil he) (by decide) (by decide) he) fun σ H Q ⟨S, ρ, rel, p⟩ => by
    unfold mLenG at p
    split at p
    · rename_i ds hs
      obtain ⟨a, vs, e1, e2, e3, e4⟩ := rel.giv hs
      exact ⟨.ref a, e1, _, _, rfl, .inl ⟨vs, e2, rfl⟩, by rw [e4.length]; exact Post.ok rel p _ (.int _) trivial⟩
    · exact p.elim
theorem pe_ixG {k : Nat} {f : M BV} (hx : PE X a (tVar k)) (hb : PE X b (tBo X.K mg W f)) (hp : PlainIx b) : PE X (.Subscript a b pos) (tS X.K mg W (mIxG k f)) :=
  pe_imp (pe_ix ix_list hx hb hp) fun σ H Q ⟨S, ρ, rel, p⟩ => by
    unfold mIxG at p
    split at p
    · rename_i ds hs
      obtain ⟨a, vs, e1, e2, e3, e4⟩ := rel.giv hs
      refine ⟨.ref a, e1, S, ρ, rel, Post.and p fun bv S1 ρ1 H1 st1 r1 p v hv => ?_⟩
      cases e5 : res ρ1 bv with
      | none => simp only [e5] at p; exact p.elim
      | some d =>
        simp only [e5] at p
        cases d <;> try (exact p.elim)
        rename_i i
        simp only at p
        cases e6 : L2.atI ds i with
        | none => simp only [e6] at p; exact p.elim
        | some d =>
          simp only [e6] at p
          obtain ⟨k1, k2⟩ := givKeep st1 e2 e3 e4
          obtain ⟨u, hu, hr⟩ := k2.atI e6
          exact ⟨a, vs, i, u, rfl, (hv.read r1 e5).int, k1, hu, p S1 H1 st1 r1 _ hr trivial⟩
    · exact p.elim
theorem pe_slG {k : Nat} {l h : Option (M BV)} (hx : PE X e (tVar k)) (hl : PO X lo (tPt X.K mg W (mPart l))) (hh : PO X hi (tPt X.K mg W (mPart h))) : PE X (.Subscript e (.Slice lo hi none p2) pos) (tS X.K mg W (mSlG k l h)) :=
  pe_imp (pe_slice sl_list hx hl hh) fun σ H Q ⟨S, ρ, rel, p⟩ => by
    unfold mSlG at p
    split at p
    · rename_i ds hs
      obtain ⟨a, vs, e1, e2, e3, e4⟩ := rel.giv hs
      refine ⟨.ref a, e1, S, ρ, rel, Post.and p fun o S1 ρ1 H1 st1 r1 p => ?_⟩
      refine ⟨S1, ρ1, r1, Post.and (Post.from p st1) fun o2 S2 ρ2 H2 st2 r2 p => ?_⟩
      obtain ⟨k1, k2⟩ := givKeep (st1.trans st2) e2 e3 e4
      refine ⟨a, vs, rfl, k1, fun q hq => ?_⟩
      obtain ⟨S', st', r', hr, hn⟩ := r2.pure (q := .fl (cutD ds o o2)) (.lst hq r2.live (k2.cut o o2))
      exact p S' _ (st2.trans st') r' _ hr ((hn.back st2).back st1)
    · exact p.elim
end
/-! ### o[i] = v for an own list -/
def sSetIx (k : Nat) (fi : M BV) (fv : M Ret) : MS := fun ρ => (fv ρ).thenS fun r ρ1 => match ρ1[k]? with
  | some (.lst _ _) => (fi ρ1).thenS fun b ρ2 => match ρ2[k]?, res ρ2 b with
    | some (.lst z ds), some (.int i) => match L2.ixN ds.length i with
      | some j => .nx (ρ2.set k (.lst z (ds.set j r.toD)))
      | none => .no
    | _, _ => .no
  | _ => .no
def augI : Operator → Option (Int → Int → Int)
  | .Add => some fun i j => i + j
  | .Sub => some fun i j => i - j
  | _ => none
def sAug (k : Nat) (op : Int → Int → Int) (f : M BV) : MS := fun ρ => match ρ[k]? with
  | some (.dat (.int i)) => (f ρ).thenS fun b ρ1 => match res ρ1 b with
    | some (.int j) => if Slot.free? ρ1[k]? = true then .nx (ρ1.set k (.dat (.int (op i j)))) else .no
    | _ => .no
  | _ => .no
def Ret.isNew : Ret → Bool
  | .val _ => false
  | _ => true
def sPar (i j : Nat) (f g : M Ret) : MS := fun ρ => (f ρ).thenS fun r ρ1 => (g ρ1).thenS fun q ρ2 => if Slot.free? ρ2[i]? = true ∧ Slot.free? (ρ2.set i r.slot)[j]? = true then .nx ((ρ2.set i r.slot).set j q.slot) else .no
section
variable {X : Cx} {mg : Str → Option Value} {W : WX} {st : Stmt} {e a b tg : Expr} {pos : Pos}
theorem PostS.thenI {K : PySem.W.Frag} {S S1 : AS} {ρ ρ1 : Rho} {σ σ1 : L2.St} {H H1 : Hp} {D : Ends} {α : Type} {o : Out α} {f : α → Rho → OutS} {P' : α → AS → Rho → Hp → Prop} (p : PostS K mg W S ρ σ H D (o.thenS f)) (st : Step S ρ σ H S1 ρ1 σ1 H1)
    (h : ∀ a S2 ρ2 H2, Step S1 ρ1 σ1 H1 S2 ρ2 σ1 H2 → Rel K S2 ρ2 σ1 H2 → PostS K mg W S1 ρ1 σ1 H1 D (f a ρ2) → P' a S2 ρ2 H2) : Post K mg W S1 ρ1 σ1 H1 P' o := PostS.and (PostS.from p st) h
theorem PostS.thenJ {K : PySem.W.Frag} {S S1 : AS} {ρ ρ1 : Rho} {σ σ1 : L2.St} {H H1 : Hp} {D : Ends} {α : Type} {o : Out α} {f : α → Rho → OutS} {P' : α → AS → Rho → Hp → Prop} (p : PostS K mg W S ρ σ H D (o.thenS f)) (st : Step S ρ σ H S1 ρ1 σ1 H1)
    (h : ∀ a S2 ρ2 H2, Step S1 ρ1 σ1 H1 S2 ρ2 σ1 H2 → Rel K S2 ρ2 σ1 H2 → PostS K mg W S ρ σ H D (f a ρ2) → P' a S2 ρ2 H2) : Post K mg W S1 ρ1 σ1 H1 P' o := by
  cases o with
  | ok a ρ2 => exact fun S2 H2 st2 r2 => h a S2 ρ2 H2 st2 r2 p
  | exn x ρ2 => exact fun S2 H2 cls dx st2 r2 xr => p S2 σ1 H2 cls dx (st.trans st2) r2 xr
  | no => exact p
theorem ps_setIxE {k : Nat} {fi : M BV} {fv : M Ret} {ob ix : Expr} {sp : Pos} (h : ∀ te g, PE X e te → PG X (.Subscript ob ix sp) g → PS X st (tAsg te g)) (ho : PE X ob (tVar k)) (hi : PE X ix (tBo X.K mg W fi)) (he : PE X e (tS X.K mg W fv))
    (ha : ∀ v, assign (.Subscript ob ix sp) X.env v = (do
      let ov ← holding [v] (eval ob X.env)
      let iv ← holding [v, ov] (eval ix X.env)
      standAt sp
      holding [v, ov, iv] (setItem ov iv v)
      release [v, ov, iv] [])) : PS X st (tSt X.K mg W (sSetIx k fi fv)) :=
  ps_imp (h _ _ he (pg_sub ho hi set_list ha)) fun D σ H ⟨S, ρ, rel, p⟩ => by
    refine ⟨S, ρ, rel, ?_⟩
    unfold sSetIx at p
    refine PostS.and p fun r S0 ρ0 H0 st0 r0 p v hv hn => ?_
    obtain ⟨S1, st1, r1, hr, _⟩ := RRet.val st0 r0 hv hn
    split at p
    · rename_i z0 ds0 hs0
      obtain ⟨aa, o, f1, f2, f3, f4⟩ := (r1.slot k _ hs0).own_adr (z := z0) rfl
      have hadr := join_adr f1
      refine ⟨.ref aa, adr_get hadr, S1, ρ0, r1, PostS.thenI p st1 fun bv S2 ρ2 H2 st2 r2 p u hu => ?_⟩
      split at p
      · rename_i z ds i hs hi
        cases e3 : L2.ixN ds.length i with
        | none => simp only [e3] at p; exact p.elim
        | some j =>
          simp only [e3] at p
          have q := r2.slot k _ hs
          rw [adr_join hadr] at q
          obtain ⟨vs, q1, q2, q3⟩ := q
          refine ⟨aa, vs, i, j, rfl, (hu.read r2 hi).int, q1, by rw [q3.length]; exact e3, ?_⟩
          obtain ⟨r3, st3⟩ := r2.lset hs hadr (q3.set (hr.stay st2.stay) j)
          exact p S2 σ _ (st2.trans st3) r3
      · exact p.elim
    · exact p.elim
theorem ps_augE {k : Nat} {op : Operator} {fo : Int → Int → Int} {f : M BV} {x : Str} {xp : Pos} (hop : augI op = some fo) (hN : X.N.Nodup) (hi : X.N[k]? = some x) (hx : Loc X.env.scope x) (hf : X.fn x = true ∨ X.env.scope.names.lookup x = some .local) (he : PE X e (tBo X.K mg W f)) :
    PS X (.AugAssign (.Name x xp) op e pos) (tSt X.K mg W (sAug k fo f)) := by
  have base : ∀ {ti : TIp}, PIp X op ti → (∀ i j H Q, Q (.int (fo i j)) H → ti (.int i) (.int j) H Q) → PS X (.AugAssign (.Name x xp) op e pos) (tSt X.K mg W (sAug k fo f)) := fun {ti} hp hti =>
    ps_imp (ps_aug hN hi hx he hp hf) fun D σ H ⟨S, ρ, rel, p⟩ => by
      unfold sAug at p
      split at p
      · rename_i i hs
        have q := rel.slot k _ hs
        cases e1 : σ[k]? with
        | none => rw [e1] at q; exact q.elim
        | some y =>
          rw [e1] at q
          cases y with
          | none => exact q.elim
          | some v =>
            have q : R X.K H S v (.int i) := q
            cases q
            refine ⟨.int i, e1, S, ρ, rel, PostS.and p fun bv S1 ρ1 H1 st1 r1 p u hu => ?_⟩
            split at p
            · rename_i j hj
              have hu' := (hu.read r1 hj).int
              subst hu'
              by_cases hfr : Slot.free? ρ1[k]? = true
              case neg => rw [if_neg hfr] at p; exact p.elim
              rw [if_pos hfr] at p
              refine hti i j H1 _ ?_
              obtain ⟨r2, st2⟩ := store_ret rel st1 r1 (v := .int (fo i j)) (r := .val (.int (fo i j))) (.int _) trivial hfr
              exact p S1 _ H1 st2 r2
            · exact p.elim
      · exact p.elim
  cases op <;> try (cases hop; done)
  · cases hop
    exact base ip_add fun i j H Q q => ⟨i, j, rfl, rfl, q⟩
  · cases hop
    exact base ip_sub fun i j H Q q => ⟨i, j, rfl, rfl, q⟩
theorem ps_parE {i j : Nat} {f g : M Ret} (h : ∀ ta, PA X [a, b] ta → PS X st (tPar i j ta)) (ha : PE X a (tS X.K mg W f)) (hb : PE X b (tS X.K mg W g)) (hs : starEach [a, b] X.env = (false, eval a X.env) :: starEach [b] X.env) (hs2 : starEach [b] X.env = (false, eval b X.env) :: starEach [] X.env) :
    PS X st (tSt X.K mg W (sPar i j f g)) := ps_imp (h _ (pa_cons ha (pa_cons hb pa_nil hs2) hs)) fun D σ H ⟨S, ρ, rel, p⟩ => by
  refine ⟨S, ρ, rel, ?_⟩
  unfold sPar at p
  refine PostS.and p fun r S1 ρ1 H1 st1 r1 p v hv hn => ?_
  refine ⟨S1, ρ1, r1, PostS.thenJ p st1 fun q S2 ρ2 H2 st2 r2 p u hu hnu => ?_⟩
  by_cases hf : Slot.free? ρ2[i]? = true ∧ Slot.free? (ρ2.set i r.slot)[j]? = true
  case neg => rw [if_neg hf] at p; exact p.elim
  rw [if_pos hf] at p
  refine ⟨v, u, rfl, ?_⟩
  -- the first value behind the second one
  have hv2 : RRet X.K S2 ρ2 σ H2 v r := by
    cases r with
    | val d => exact R.stay st2.stay d v hv
    | fl ds =>
      obtain ⟨c, vs, rfl, h1, h2, h3, h4⟩ := hv
      have as : Aside S1 ρ1 σ H1 c (.lst vs) := ⟨h1, h2, h4⟩
      have as2 := as.step st2
      exact ⟨c, vs, rfl, as2.at_, as2.nS, h3.stay st2.stay, as2.nO⟩
    | fd ds =>
      obtain ⟨c, vs, rfl, h1, h2, h3, h4⟩ := hv
      have as : Aside S1 ρ1 σ H1 c (.dK vs) := ⟨h1, h2, h4⟩
      have as2 := as.step st2
      exact ⟨c, vs, rfl, as2.at_, as2.nS, h3.stay st2.stay, as2.nO⟩
  obtain ⟨r3, st3⟩ := store_ret rel (st1.trans st2) r2 hv2 hn hf.1
  -- the second one is not the first
  have apart : ∀ c o, v = .ref c → H1 c = some o → ¬ Own ρ1 σ c → u = .ref c → q.isNew = false := fun c o ev h1 h4 eu => by
    cases q with
    | val d => rfl
    | fl ds =>
      rcases hnu c eu with z | z
      · rw [h1] at z; cases z
      · exact (h4 z.own).elim
    | fd ds =>
      rcases hnu c eu with z | z
      · rw [h1] at z; cases z
      · exact (h4 z.own).elim
  have own3 : ∀ c, Own (ρ2.set i r.slot) (σ.set i (some v)) c → Own ρ2 σ c ∨ (v = .ref c ∧ r.isNew = true) := fun c ⟨l, s, z, g1, g2, g3⟩ => by
    rcases getset g1 with ⟨rfl, rfl⟩ | ⟨hne, g1⟩
    · have hl : l < σ.length := by
        have := (List.getElem?_eq_some_iff.mp g1).1
        rw [List.length_set, r2.len] at this
        exact this
      have := adr_get g3
      rw [List.getElem?_set_self hl] at this
      cases this
      refine .inr ⟨rfl, ?_⟩
      cases r with
      | val d => cases g2
      | fl d => rfl
      | fd d => rfl
    · rw [adr_set_ne hne] at g3
      exact .inl ⟨l, s, z, g1, g2, g3⟩
  have hu3 : RRet X.K S2 (ρ2.set i r.slot) (σ.set i (some v)) H2 u q := by
    have key : ∀ c, u = .ref c → q.isNew = true → ¬ Own ρ2 σ c → ¬ Own (ρ2.set i r.slot) (σ.set i (some v)) c := fun c eu hq h4 ho => by
      rcases own3 c ho with z | ⟨ev, hr⟩
      · exact h4 z
      · cases r with
        | val d => cases hr
        | fl ds =>
          obtain ⟨c', vs, ec, h1, h2, h3, h4⟩ := hv
          rw [ev] at ec
          cases ec
          have := apart c _ ev h1 h4 eu
          rw [this] at hq; cases hq
        | fd ds =>
          obtain ⟨c', vs, ec, h1, h2, h3, h4⟩ := hv
          rw [ev] at ec
          cases ec
          have := apart c _ ev h1 h4 eu
          rw [this] at hq; cases hq
    cases q with
    | val d => exact hu
    | fl ds => obtain ⟨c, vs, rfl, h1, h2, h3, h4⟩ := hu; exact ⟨c, vs, rfl, h1, h2, h3, key c rfl rfl h4⟩
    | fd ds => obtain ⟨c, vs, rfl, h1, h2, h3, h4⟩ := hu; exact ⟨c, vs, rfl, h1, h2, h3, key c rfl rfl h4⟩
  obtain ⟨s4, hs4, hz4⟩ := free_of hf.2
  have nw : RNew ρ σ H u q := hnu.back st1
  -- the second store, at a state that has other slots
  have fin := store_ret rel st3 r3 hu3 nw hf.2
  exact p S2 _ H2 fin.2 fin.1
end
end Ev
namespace Ev
open PySem PySem.Spec PyProof.Rows L2
/-! ### what the code means, read off the code -/
/-- a call's meaning: the def, where its parameters stand, which of them it may change -/
structure CallSem where
  F : FSem
  perm : List Nat
  io : List Bool
structure Ctx where
  N : List Str
  sc : Scope
  blk : Bool
  bsc : Scope
  bl : List Str
  fns : Str → Nat → List Str → Option CallSem
  giv : List Str
  keep : List Str
  wh : Nat
def mNo {α : Type} : M α := fun _ => .no
def sNo : MS := fun _ => .no
/-- the slot of a name that is seen -/
def vix (c : Ctx) (x : Str) : Option Nat := match c.N.findIdx? (fun y => decide (y = x)) with
  | some i => if decide (c.N[i]? = some x) && (decide (c.sc.names.lookup x = some .local) || decide (c.sc.names.lookup x = some .cell) || decide (c.sc.names.lookup x = some .free)) && !(x == ("__debug__" : Str)) && !(x == ("__classdict__" : Str)) then some i else none
  | none => none
/-- the slot of a name that is stored -/
def lix (c : Ctx) (x : Str) : Option Nat := match c.N.findIdx? (fun y => decide (y = x)) with
  | some i => if decide (c.N[i]? = some x) && (decide (c.sc.names.lookup x = some .local) || (decide (c.sc.names.lookup x = some .cell) && (!c.blk || (c.bsc.names.lookup x == some .cell)))) then some i else none
  | none => none
def glb (c : Ctx) (x : Str) : Bool := decide (c.sc.names.lookup x = some .globalImplicit)
def bltn (c : Ctx) (x : Str) : Bool := glb c x && c.bl.contains x && !(x == ("__debug__" : Str)) && !(x == ("__name__" : Str))
def notStar : Expr → Bool
  | .Starred .. => false
  | _ => true
def notSlice : Expr → Bool
  | .Slice .. => false
  | _ => true
def notSet : Expr → Bool
  | .Set .. => false
  | _ => true
def notComp : Expr → Bool
  | .ListComp .. => false
  | .SetComp .. => false
  | .DictComp .. => false
  | _ => true
def binD : Operator → Option (D → D → Option Ret)
  | .Add => some opAdd
  | .Sub => some opSub
  | .Mult => some opMul
  | .FloorDiv => some opDiv
  | .Mod => some opMod
  | .Pow => some opPow
  | _ => none
def cmpD : CmpOp → Option (D → D → Option Bool)
  | .Eq => some cEq
  | .NotEq => some cNe
  | .Lt => some cLt
  | .Gt => some cGt
  | .LtE => some cLe
  | .GtE => some cGe
  | .In => some cIn
  | .NotIn => some cNotIn
  | .Is => some cIsNone
  | .IsNot => some cNotNone
/-- the built-in functions, types that are called with values -/
def bltF (x : Str) : Option (List D → Option Ret) :=
  if x = "len" then some bLen else if x = "abs" then some bAbs else if x = "sum" then some bSum else if x = "any" then some bAny else if x = "all" then some bAll
  else if x = "sorted" then some bSort else if x = "max" then some bMax else if x = "min" then some bMin else if x = "repr" then some bRepr else none
def bltT (x : Str) : Option (List D → Option Ret) :=
  if x = "tuple" then some bTuple else if x = "list" then some bList else if x = "int" then some bInt else none
structure Rc where
  E : Ctx → Expr → M Ret
  T : Ctx → Expr → M Bool
def mTst (f : M Ret) : M Bool := fun ρ => (f ρ).andThen fun r ρ' => match r with
  | .val (.bool k) => .ok k ρ'
  | _ => .no
def mArg (i : Nat) : M BV := fun ρ => match argS ρ[i]? with
  | some _ => .ok (.slot i) ρ
  | none => .no
section
variable (r : Rc) (c : Ctx)
def bE (e : Expr) : M BV := match e with
  | .Name x _ => match vix c x with
    | some i => mBor i
    | none => toB (r.E c e)
  | _ => toB (r.E c e)
/-- arguments by value -/
def aV : List Expr → M (List BV)
  | [] => mNil
  | e :: es => if notStar e = true then mCons (toB (r.E c e)) (aV es) else mNo
/-- arguments that are looked at -/
def aB : List Expr → M (List BV)
  | [] => mNil
  | e :: es => if notStar e = true then mCons (bE r c e) (aB es) else mNo
def argE (io : Bool) (e : Expr) : M BV := match io, e with
  | true, .Name x _ => match vix c x with
    | some i => mArg i
    | none => toB (r.E c e)
  | _, _ => toB (r.E c e)
def aF : List Bool → List Expr → M (List BV)
  | _, [] => mNil
  | io :: ios, e :: es => if notStar e = true then mCons (argE r c io e) (aF ios es) else mNo
  | [], e :: es => if notStar e = true then mCons (argE r c false e) (aF [] es) else mNo
def aK : List Bool → List Keyword → M (List BV)
  | _, [] => mNil
  | io :: ios, ⟨_, e, _⟩ :: es => mCons (argE r c io e) (aK ios es)
  | [], ⟨_, e, _⟩ :: es => mCons (argE r c false e) (aK [] es)
def kwNames : List Keyword → Option (List Str)
  | [] => some []
  | ⟨some x, _, _⟩ :: ks => match kwNames ks with
    | some xs => some (x :: xs)
    | none => none
  | _ => none
mutual
def tgE : Expr → Option Tgt
  | .Name x _ => match lix c x with
    | some i => some (.nm i)
    | none => none
  | .Tuple es _ _ => match tgEs es with
    | some ts => some (.tp ts)
    | none => none
  | _ => none
def tgEs : List Expr → Option (List Tgt)
  | [] => some []
  | e :: es => match tgE e, tgEs es with
    | some t, some ts => some (t :: ts)
    | _, _ => none
end
def itE (e : Expr) : M (List D) := match e with
  | .Call (.Name x _) [a] [] _ => if x = "range" then (if bltn c x && notStar a then mItR1 (bE r c a) else mNo) else mItV (r.E c e)
  | .Call (.Name x _) [a, b] [] _ => if x = "range" then (if bltn c x && notStar a && notStar b then mItR2 (bE r c a) (bE r c b) else mNo) else mItV (r.E c e)
  | _ => mItV (r.E c e)
def ownOf (scope : Scope) : List (Str × Nat) := scope.names.filterMap fun y => match y.2 with
  | .local => (c.N.findIdx? (fun z => decide (z = y.1))).map fun i => (y.1, i)
  | .cell => (c.N.findIdx? (fun z => decide (z = y.1))).map fun i => (y.1, i)
  | _ => none
def inBlk (scope : Scope) : Ctx := { c with sc := relS scope c.sc, blk := true, bsc := scope }
def lcE (elt tg iter : Expr) (ifs : List Expr) (scope : Scope) : M Ret := match tgE (inBlk c scope) tg with
  | some t => if blkC c.N c.sc scope (ownOf c scope) && (t.slots.all fun i => (ownOf c scope).any fun p => decide (p.2 = i)) && notSet iter then
      (match ifs with
      | [] => mLc ((ownOf c scope).map (·.2)) (itE r c iter) t mYes (r.E (inBlk c scope) elt)
      | [q] => mLc ((ownOf c scope).map (·.2)) (itE r c iter) t (r.T (inBlk c scope) q) (r.E (inBlk c scope) elt)
      | _ => mNo)
    else mNo
  | none => mNo
def partE : Option Expr → Option (M BV)
  | none => none
  | some e => some (bE r c e)
def isGiv (e : Expr) : Option Nat := match e with
  | .Name x _ => if c.giv.contains x then vix c x else none
  | _ => none
/-- a method of an own list -/
def mtE (x : Str) (name : Str) (args : List Expr) : M Ret := match vix c x with
  | none => mNo
  | some k => if name = "append" then (match args with
      | [_] => mMt k lApp (aV r c args)
      | _ => mNo)
    else if name = "extend" then (match args with
      | [_] => mMt k lExt (aB r c args)
      | _ => mNo)
    else if name = "pop" then (match args with
      | [] => mMt k lPop mNil
      | [_] => mMt k lPopAt (aB r c args)
      | _ => mNo)
    else mNo
def isaD (x : Str) : Option (String × (D → Bool)) :=
  if x = "int" then some ("int", PyData.isInt) else if x = "bool" then some ("bool", PyData.isBool) else if x = "tuple" then some ("tuple", PyData.isTuple) else if x = "list" then some ("list", PyData.isList) else if x = "str" then some ("str", PyData.isStr) else none
def opIsa (f : D → Bool) (d : D) : Option Ret := if d.plain = true then some (.val (.bool (f d))) else none
def callE (x : Str) (args : List Expr) (kws : List Keyword) : M Ret :=
  if x = "isinstance" then (match args, kws with
    | [a, .Name t _], [] => match isaD t with
      | some f => if bltn c x && bltn c t && notStar a then mOp1 (opIsa f.2) (bE r c a) else mNo
      | none => mNo
    | _, _ => mNo)
  else if (bltn c x && args.all notStar) = true then (match args, kws with
    | a :: as, [] => match isGiv c a, as, decide (x = "len") with
      | some k, [], true => mLenG k
      | _, _, _ => match bltF x with
        | some op => mOps op (aB r c args)
        | none => match bltT x with
          | some op => mOps op (aB r c args)
          | none => mNo
    | _, _ => mNo)
  else if glb c x && !(x == ("__debug__" : Str)) && args.all notStar then (match kwNames kws with
    | some ks => match c.fns x args.length ks with
      | some s => mCallK s.F s.perm args.length ks.length (aF r c s.io args) (aK r c (s.io.drop args.length) kws)
      | none => mNo
    | none => mNo)
  else mNo
def stepE (e : Expr) : M Ret := match e with
  | .Constant (.int i) _ _ => mCst (.int i)
  | .Constant (.bool b) _ _ => mCst (.bool b)
  | .Constant .none _ _ => mCst .none
  | .Constant (.str x) _ _ => mCst (.str x)
  | .Name x _ => match vix c x with
    | some i => mName i
    | none => mNo
  | .BinOp a op b _ => match binD op with
    | some f => mOp2 f (bE r c a) (bE r c b)
    | none => mNo
  | .UnaryOp .USub a _ => mOp1 opNeg (bE r c a)
  | .UnaryOp .Not a _ => mNotV (bE r c a)
  | .Compare a [o] [b] _ => match cmpD o with
    | some f => if notSet b = true then mOp2 (cmpRet f) (bE r c a) (bE r c b) else mNo
    | none => mNo
  | .Compare a [o, o'] [b, d] _ => match cmpD o, cmpD o' with
    | some f, some g => if notSet d = true then mChain f g (bE r c a) (bE r c b) (bE r c d) else mNo
    | _, _ => mNo
  | .BoolOp _ [a] _ => r.E c a
  | .BoolOp .And (a :: b :: rest) p => mAndV (r.E c a) (r.E c (.BoolOp .And (b :: rest) p))
  | .BoolOp .Or (a :: b :: rest) p => mOrV (r.E c a) (r.E c (.BoolOp .Or (b :: rest) p))
  | .IfExp t a b _ => mIfE (r.T c t) (r.E c a) (r.E c b)
  | .Tuple es _ _ => mTup (aV r c es)
  | .List es _ => mLst (aV r c es)
  | .Subscript a (.Slice lo hi none _) _ => match isGiv c a with
    | some k => mSlG k (partE r c lo) (partE r c hi)
    | none => mSl (bE r c a) (partE r c lo) (partE r c hi)
  | .Subscript a b _ => if notSlice b = true then (match isGiv c a with
      | some k => mIxG k (bE r c b)
      | none => mOp2 opIx (bE r c a) (bE r c b))
    else mNo
  | .ListComp elt [⟨tg, iter, ifs, 0⟩] scope _ => lcE r c elt tg iter ifs scope
  | .Call (.Name x _) args kws _ => callE r c x args kws
  | .Call (.Attribute (.Name x _) name ap) args [] cp => if (ap.endLine == cp.line) = true then mtE r c x name args else mNo
  | _ => mNo
def stepT (e : Expr) : M Bool := match e with
  | .UnaryOp .Not a _ => mNotT (r.T c a)
  | .BoolOp _ [a] _ => r.T c a
  | .BoolOp .And (a :: b :: rest) p => mAndT (r.T c a) (r.T c (.BoolOp .And (b :: rest) p))
  | .BoolOp .Or (a :: b :: rest) p => mOrT (r.T c a) (r.T c (.BoolOp .Or (b :: rest) p))
  | .BoolOp _ [] _ => mNo
  | .IfExp .. => mNo
  | .Compare .. => mTst (r.E c e)
  | .Name x _ => mTru (bE r c e)
  | .Call .. => mTru (bE r c e)
  | .Subscript .. => mTru (bE r c e)
  | .Constant .. => mTru (bE r c e)
  | _ => mNo
end
def rc0 : Rc := ⟨fun _ _ => mNo, fun _ _ => mNo⟩
def rc : Nat → Rc
  | 0 => rc0
  | n + 1 => ⟨stepE (rc n), stepT (rc n)⟩
end Ev
namespace Ev
open PySem PySem.Spec PyProof.Rows L2
structure Good (X : Cx) (c : Ctx) : Prop where
  calm : X.calm = true
  nd : X.N.Nodup
  N : X.N = c.N
  sc : X.env.scope = c.sc
  fn : ∀ x, c.sc.names.lookup x = some .cell → (c.blk = false ∨ c.bsc.names.lookup x = some .cell) → X.fn x = true
  hu : X.A.units + 64 < cLine
  gd : X.A.guards = some []
  bl : ∀ x, c.bl.contains x = true → X.mg x = none
  fns : ∀ x n ks s, c.fns x n ks = some s → Callee X x s.F n ks s.perm
theorem Good.inBlk {X : Cx} {c : Ctx} (g : Good X c) (scope : Scope) (s : Shared) (H : Hp) (C : Addr) (cl : List (Str × Addr)) (fp : List Addr) : Good (X.blk s H scope (compEnvC scope cl C X.env) fp) (inBlk c scope) where
  calm := g.calm
  nd := g.nd
  N := g.N
  sc := by
    show relS scope X.env.scope = relS scope c.sc
    rw [g.sc]
  fn := fun x h1 h2 => by
    rcases h2 with h2 | h2
    · cases h2
    · have h2 : scope.names.lookup x = some .cell := h2
      show (scope.names.lookup x == some NameKind.cell) = true
      rw [h2]; rfl
  hu := g.hu
  gd := g.gd
  bl := g.bl
  fns := fun x n ks s h => ⟨(g.fns x n ks s h).ex, g.gd⟩
structure OkR (r : Rc) : Prop where
  E : ∀ {X : Cx} {c : Ctx}, Good X c → ∀ (W : WX) (e : Expr), PE X e (tS X.K X.mg W (r.E c e))
  T : ∀ {X : Cx} {c : Ctx}, Good X c → ∀ (W : WX) (e : Expr), PT X e (tTe X.K X.mg W (r.T c e))
  B : ∀ {X : Cx} {c : Ctx}, Good X c → ∀ (W : WX) (op : BoolOp) (vs : List Expr) (p : Pos), PW X (.BoolOp op vs p) (tTe X.K X.mg W (r.T c (.BoolOp op vs p)))
section
variable {X : Cx} {c : Ctx} {mg : Str → Option Value} {W : WX} {e a b : Expr} {es : List Expr} {pos : Pos}
theorem pe_no : PE X e (tS X.K mg W mNo) := ⟨fun _ _ _ _ _ _ ⟨_, _, _, p⟩ => p.elim⟩
theorem pt_no : PT X e (tTe X.K mg W mNo) := ⟨fun _ _ _ _ _ _ ⟨_, _, _, p⟩ => p.elim⟩
theorem pw_no : PW X e (tTe X.K mg W mNo) := ⟨fun _ _ _ _ _ _ _ ⟨_, _, _, p⟩ => p.elim⟩
theorem pa_no : PA X es (tAr X.K mg W mNo) := ⟨fun _ _ _ _ _ _ _ ⟨_, _, _, p⟩ => p.elim⟩
theorem pi_no {tg : Expr} : PI X tg e (tIt X.K mg W mNo) := ⟨fun _ _ _ _ _ _ ⟨_, _, _, p⟩ => p.elim⟩
theorem vix_ok (g : Good X c) {x : Str} {i : Nat} (h : vix c x = some i) : PE X (.Name x pos) (tVar i) := by
  unfold vix at h
  split at h
  · rename_i j hj
    split at h
    · rename_i hc
      cases h
      simp only [Bool.and_eq_true, Bool.or_eq_true, decide_eq_true_eq, Bool.not_eq_true'] at hc
      obtain ⟨⟨⟨h1, h2⟩, h3⟩, h4⟩ := hc
      refine L2.pe_var (by rw [g.N]; exact h1) ?_ h3 h4
      unfold Vis
      rw [g.sc]
      rcases h2 with (h2 | h2) | h2
      · exact .inl h2
      · exact .inr (.inl h2)
      · exact .inr (.inr h2)
    · cases h
  · cases h
theorem lix_ok (g : Good X c) {x : Str} {i : Nat} (h : lix c x = some i) : X.N[i]? = some x ∧ Loc X.env.scope x ∧ (X.fn x = true ∨ X.env.scope.names.lookup x = some .local) := by
  unfold lix at h
  split at h
  · rename_i j hj
    split at h
    · rename_i hc
      cases h
      simp only [Bool.and_eq_true, Bool.or_eq_true, decide_eq_true_eq, Bool.not_eq_true', beq_iff_eq] at hc
      obtain ⟨h1, h2⟩ := hc
      refine ⟨by rw [g.N]; exact h1, ?_⟩
      unfold L2.Loc
      rw [g.sc]
      rcases h2 with h2 | ⟨h2, h3⟩
      · exact ⟨.inl h2, .inr h2⟩
      · exact ⟨.inr h2, .inl (g.fn x h2 h3)⟩
    · cases h
  · cases h
theorem glb_ok (g : Good X c) {x : Str} (h : glb c x = true) : Gl X x := by
  unfold glb at h
  show X.env.scope.names.lookup x = _
  rw [g.sc]
  exact of_decide_eq_true h
theorem bltn_ok (g : Good X c) {x : Str} (h : bltn c x = true) : Gl X x ∧ X.mg x = none ∧ (x == ("__debug__" : Str)) = false ∧ x ≠ "__name__" := by
  unfold bltn at h
  simp only [Bool.and_eq_true, Bool.not_eq_true'] at h
  obtain ⟨⟨⟨h1, h2⟩, h3⟩, h4⟩ := h
  exact ⟨glb_ok g h1, g.bl x h2, h3, fun z => by rw [z] at h4; simp at h4⟩
theorem star_cons {env : Env} (h : notStar e = true) : starEach (e :: es) env = (false, eval e env) :: starEach es env := by
  cases e <;> first | rfl | cases h
theorem star_all {env : Env} : ∀ {es : List Expr}, es.all notStar = true → (backTo pos (starEach es env)).any (·.1) = false
  | [], _ => rfl
  | e :: es, h => by
    simp only [List.all_cons, Bool.and_eq_true] at h
    rw [star_cons h.1]
    show (false || (backTo pos (starEach es env)).any (·.1)) = false
    rw [star_all h.2]
    rfl
theorem kw_all {env : Env} : ∀ {kws : List Keyword} {ks : List Str}, kwNames kws = some ks → (backToKw pos (keywordEach kws env)).all (·.1.isSome) = true ∧ (backToKw pos (keywordEach kws env)).filterMap (·.1) = ks ∧ (backToKw pos (keywordEach kws env)).any (·.1.isNone) = false
  | [], _, h => by cases h; exact ⟨rfl, rfl, rfl⟩
  | ⟨none, _, _⟩ :: _, _, h => by cases h
  | ⟨some x, v, p⟩ :: kws, ks, h => by
    unfold kwNames at h
    split at h
    · rename_i xs hx
      cases h
      obtain ⟨h1, h2, h3⟩ := kw_all (env := env) hx
      refine ⟨?_, ?_, ?_⟩
      · show (true && (backToKw pos (keywordEach kws env)).all (·.1.isSome)) = true
        rw [h1]; rfl
      · show x :: (backToKw pos (keywordEach kws env)).filterMap (·.1) = x :: xs
        rw [h2]
      · show (false || (backToKw pos (keywordEach kws env)).any (·.1.isNone)) = false
        rw [h3]; rfl
    · cases h
theorem slice_ok (h : notSlice b = true) : PlainIx b := fun o i => by
  cases b <;> first | rfl | cases h
theorem set_ok {env : Env} (h : notSet e = true) : ∀ x, foldedSetIterable e env x = pure x := fun x => by
  cases e <;> first | rfl | cases h
theorem marks_ok {o : CmpOp} (h : notSet b = true) : behindInMarks o b = false := by
  cases b <;> first | rfl | cases h
theorem binD_ok {op : Operator} {f : D → D → Option Ret} (h : binD op = some f) : OpR X (binaryOp op) (rOp2 X.K f) := by
  cases op <;> first | (cases h; done) | skip
  all_goals (have h' := Option.some.inj h; subst h')
  · exact or_add
  · exact or_sub
  · exact or_mul
  · exact or_mod
  · exact or_pow
  · exact or_div
theorem cmpD_ok (g : Good X c) {o : CmpOp} {f : D → D → Option Bool} (h : cmpD o = some f) : OpR X (compareOp o) (rCmp X.K f) := by
  cases o <;> (have h' := Option.some.inj h; subst h')
  · exact oc_eq g.hu
  · exact oc_ne g.hu
  · exact oc_lt g.hu
  · exact oc_le g.hu
  · exact oc_gt g.hu
  · exact oc_ge g.hu
  · exact oc_is
  · exact oc_isnot
  · exact oc_in g.hu
  · exact oc_notin g.hu
variable {r : Rc}
theorem bE_ok (k : OkR r) (g : Good X c) (W : WX) (e : Expr) : PE X e (tBo X.K X.mg W (bE r c e)) := by
  unfold bE
  split
  · split
    · rename_i i hi
      exact pe_bor (vix_ok g hi)
    · exact pe_toB (k.E g W _)
  · exact pe_toB (k.E g W _)
theorem aV_ok (k : OkR r) (g : Good X c) (W : WX) : ∀ es : List Expr, PA X es (tAr X.K X.mg W (aV r c es))
  | [] => pa_nilE
  | e :: es => by
    unfold aV
    split
    · rename_i h
      exact pa_consE (pe_toB (k.E g W e)) (aV_ok k g W es) (star_cons h)
    · exact pa_no
theorem aB_ok (k : OkR r) (g : Good X c) (W : WX) : ∀ es : List Expr, PA X es (tAr X.K X.mg W (aB r c es))
  | [] => pa_nilE
  | e :: es => by
    unfold aB
    split
    · rename_i h
      exact pa_consE (bE_ok k g W e) (aB_ok k g W es) (star_cons h)
    · exact pa_no
theorem pe_arg {i : Nat} (h : PE X e (tVar i)) : PE X e (tBo X.K mg W (mArg i)) := pe_imp h fun σ H Q ⟨S, ρ, rel, p⟩ => by
  unfold mArg at p
  cases hs : ρ[i]? with
  | none => rw [hs] at p; exact p.elim
  | some s =>
    have q := rel.slot i s hs
    have go : σ[i]?.join ≠ none → argS (some s) ≠ none → tVar i σ H Q := fun hn ha => by
      cases ex : σ[i]? with
      | none => rw [ex] at hn; exact absurd rfl hn
      | some y =>
        cases y with
        | none => rw [ex] at hn; exact absurd rfl hn
        | some v =>
          rw [hs] at p
          cases ea : argS (some s) with
          | none => exact absurd ea ha
          | some u =>
            rw [ea] at p
            exact ⟨v, ex, Post.ok rel p v ex⟩
    cases s with
    | un => rw [hs] at p; exact p.elim
    | dat d => exact go (fun e => by rw [e] at q; exact q) (fun e => by cases e)
    | giv d => exact go (fun e => by rw [e] at q; exact q) (fun e => by cases e)
    | lst z ds => exact go (fun e => by rw [e] at q; exact q) (fun e => by cases e)
    | dic z ds => exact go (fun e => by rw [e] at q; exact q) (fun e => by cases e)
theorem argE_ok (k : OkR r) (g : Good X c) (W : WX) (io : Bool) (e : Expr) : PE X e (tBo X.K X.mg W (argE r c io e)) := by
  unfold argE
  split
  · split
    · rename_i i hi
      exact pe_arg (vix_ok g hi)
    · exact pe_toB (k.E g W _)
  · exact pe_toB (k.E g W _)
theorem aF_ok (k : OkR r) (g : Good X c) (W : WX) : ∀ (ios : List Bool) (es : List Expr), PA X es (tAr X.K X.mg W (aF r c ios es))
  | [], [] => pa_nilE
  | _ :: _, [] => pa_nilE
  | io :: ios, e :: es => by
    unfold aF
    split
    · rename_i h
      exact pa_consE (argE_ok k g W io e) (aF_ok k g W ios es) (star_cons h)
    · exact pa_no
  | [], e :: es => by
    unfold aF
    split
    · rename_i h
      exact pa_consE (argE_ok k g W false e) (aF_ok k g W [] es) (star_cons h)
    · exact pa_no
theorem aK_ok (k : OkR r) (g : Good X c) (W : WX) : ∀ (ios : List Bool) (es : List Keyword), PK X es (tAr X.K X.mg W (aK r c ios es))
  | [], [] => pk_nilE
  | _ :: _, [] => pk_nilE
  | io :: ios, ⟨nm, e, p⟩ :: es => pk_consE (argE_ok k g W io e) (aK_ok k g W ios es)
  | [], ⟨nm, e, p⟩ :: es => pk_consE (argE_ok k g W false e) (aK_ok k g W [] es)
end
section
variable {X : Cx} {c : Ctx}
mutual
theorem tgE_ok (g : Good X c) : ∀ (e : Expr) (t : Tgt), tgE c e = some t → PG X e (tGt X.K t)
  | .Name x p, t, h => by
    unfold tgE at h
    split at h
    · rename_i i hi
      cases h
      obtain ⟨h1, h2, h3⟩ := lix_ok g hi
      exact pg_nm (L2.pg_name g.nd h1 h2 h3)
    · cases h
  | .Tuple es k p, t, h => by
    unfold tgE at h
    split at h
    · rename_i ts hts
      cases h
      obtain ⟨h1, h2, h3⟩ := tgEs_ok g es ts hts
      exact pg_tp g.calm h1 h2.1 h2.2 h3
    · cases h
  | .BoolOp .., _, h => by unfold tgE at h; cases h
  | .NamedExpr .., _, h => by unfold tgE at h; cases h
  | .BinOp .., _, h => by unfold tgE at h; cases h
  | .UnaryOp .., _, h => by unfold tgE at h; cases h
  | .Lambda .., _, h => by unfold tgE at h; cases h
  | .IfExp .., _, h => by unfold tgE at h; cases h
  | .Dict .., _, h => by unfold tgE at h; cases h
  | .Set .., _, h => by unfold tgE at h; cases h
  | .ListComp .., _, h => by unfold tgE at h; cases h
  | .SetComp .., _, h => by unfold tgE at h; cases h
  | .DictComp .., _, h => by unfold tgE at h; cases h
  | .GeneratorExp .., _, h => by unfold tgE at h; cases h
  | .Await .., _, h => by unfold tgE at h; cases h
  | .Yield .., _, h => by unfold tgE at h; cases h
  | .YieldFrom .., _, h => by unfold tgE at h; cases h
  | .Compare .., _, h => by unfold tgE at h; cases h
  | .Call .., _, h => by unfold tgE at h; cases h
  | .FormattedValue .., _, h => by unfold tgE at h; cases h
  | .JoinedStr .., _, h => by unfold tgE at h; cases h
  | .Constant .., _, h => by unfold tgE at h; cases h
  | .Attribute .., _, h => by unfold tgE at h; cases h
  | .Subscript .., _, h => by unfold tgE at h; cases h
  | .Starred .., _, h => by unfold tgE at h; cases h
  | .List .., _, h => by unfold tgE at h; cases h
  | .Slice .., _, h => by unfold tgE at h; cases h
theorem tgEs_ok (g : Good X c) : ∀ (es : List Expr) (ts : List Tgt), tgEs c es = some ts → PGs X es (tGts X.K ts) ∧ (es.length = ts.length ∧ (assignEach es X.env).length = es.length) ∧ (assignEach es X.env).findIdx? (·.1) = none
  | [], ts, h => by
    unfold tgEs at h
    cases h
    exact ⟨pgs_nilE, ⟨rfl, rfl⟩, rfl⟩
  | e :: es, ts, h => by
    unfold tgEs at h
    split at h
    · rename_i t us ht hus
      cases h
      obtain ⟨h1, h2, h3⟩ := tgEs_ok g es us hus
      have hs : assignEach (e :: es) X.env = (false, assign e X.env) :: assignEach es X.env := by
        cases e <;> first | rfl | (unfold tgE at ht; cases ht)
      refine ⟨pgs_consE (tgE_ok g e t ht) h1 (by rw [hs]; rfl), ⟨by simp [h2.1], by rw [hs]; simp [h2.2]⟩, ?_⟩
      rw [hs, List.findIdx?_cons, h3]
      rfl
    · cases h
end
end
section
variable {X : Cx} {c : Ctx} {r : Rc} {mg : Str → Option Value}
theorem itE_ok (k : OkR r) (g : Good X c) (W : WX) (tg e : Expr) : PI X tg e (tIt X.K X.mg W (itE r c e)) := by
  unfold itE
  split
  · rename_i x np a p
    split
    · rename_i hx
      subst hx
      split
      · rename_i h
        simp only [Bool.and_eq_true] at h
        obtain ⟨h1, h2, _, _⟩ := bltn_ok g h.1
        exact pi_r1 h1 h2 (bE_ok k g W a) (star_cons h.2)
      · exact pi_no
    · exact pi_val (k.E g W _)
  · rename_i x np a b p
    split
    · rename_i hx
      subst hx
      split
      · rename_i h
        simp only [Bool.and_eq_true] at h
        obtain ⟨h1, h2, _, _⟩ := bltn_ok g h.1.1
        exact pi_r2 h1 h2 (bE_ok k g W a) (bE_ok k g W b) (by rw [star_cons h.1.2, star_cons h.2]; rfl) (star_cons h.2)
      · exact pi_no
    · exact pi_val (k.E g W _)
  · exact pi_val (k.E g W _)
theorem lc_ok (k : OkR r) (g : Good X c) (W : WX) {elt tg iter : Expr} {ifs : List Expr} {scope : Scope} {t : Tgt} {tt : M Bool} (ht : tgE (inBlk c scope) tg = some t)
    (h : (blkC c.N c.sc scope (ownOf c scope) && (t.slots.all fun i => (ownOf c scope).any fun p => decide (p.2 = i)) && notSet iter) = true)
    (hif : ∀ (Y : Cx), Good Y (inBlk c scope) → PTs Y ifs (tTe Y.K Y.mg W0 tt)) : LcParts X X.mg W elt tg iter ifs scope (ownOf c scope) (itE r c iter) t tt (r.E (inBlk c scope) elt) := by
  simp only [Bool.and_eq_true] at h
  obtain ⟨⟨h1, h2⟩, h3⟩ := h
  refine ⟨g.calm, g.nd, itE_ok k g W tg iter, ?_, fun i hi => ?_, fun s H C cl fp => tgE_ok (g.inBlk scope s H C cl fp) tg t ht, fun s H C cl fp => hif _ (g.inBlk scope s H C cl fp), fun s H C cl fp => k.E (g.inBlk scope s H C cl fp) W0 elt, set_ok h3⟩
  · rw [g.N, g.sc]; exact blkOk_by h1
  · have := List.all_eq_true.mp h2 i hi
    obtain ⟨p, hp, e⟩ := List.any_eq_true.mp this
    exact List.mem_map.mpr ⟨p, hp, of_decide_eq_true e⟩
theorem lcE_ok (k : OkR r) (g : Good X c) (W : WX) {elt tg iter : Expr} {ifs : List Expr} {scope : Scope} {pos : Pos} : PE X (.ListComp elt [⟨tg, iter, ifs, 0⟩] scope pos) (tS X.K X.mg W (lcE r c elt tg iter ifs scope)) := by
  unfold lcE
  split
  · rename_i t ht
    split
    · rename_i h
      split
      · exact pe_lcE (lc_ok k g W ht h fun Y gy => pts_yes)
      · rename_i q
        exact pe_lcE (lc_ok k g W ht h fun Y gy => pts_one (k.T gy W0 q))
      · exact pe_no
    · exact pe_no
  · exact pe_no
theorem partE_ok (k : OkR r) (g : Good X c) (W : WX) : ∀ o : Option Expr, PO X o (tPt X.K X.mg W (mPart (partE r c o)))
  | none => po_noneE
  | some e => po_someE (bE_ok k g W e)
theorem isGiv_ok (g : Good X c) {e : Expr} {i : Nat} (h : isGiv c e = some i) : PE X e (tVar i) := by
  unfold isGiv at h
  split at h
  · split at h
    · exact vix_ok g h
    · cases h
  · cases h
theorem ty_desc_app : typeOf (.builtin "list.append") = pure (.type "method_descriptor") := PySem.F.type_list_append
theorem mtE_ok (k : OkR r) (g : Good X c) (W : WX) {x name : Str} {xp ap cp : Pos} {args : List Expr} (hl : (ap.endLine == cp.line) = true) : PE X (.Call (.Attribute (.Name x xp) name ap) args [] cp) (tS X.K X.mg W (mtE r c x name args)) := by
  unfold mtE
  split
  · exact pe_no
  · rename_i i hi
    have pv : PE X (.Name x xp) (tVar i) := vix_ok g hi
    have one : ∀ {id : String} {rr : V → List V → Hp → VK → Prop} {op : List D → List BV → List D → Option (D × List D)} {a : Expr} {f : M (List BV)}, MtR X id rr → MutR X.K rr op → PySem.Slot "list" name id → typeOf (.builtin id) = pure (.type "method_descriptor") → PA X [a] (tAr X.K X.mg W f) → notStar a = true →
        PE X (.Call (.Attribute (.Name x xp) name ap) [a] [] cp) (tS X.K X.mg W (mMt i op f)) := fun {id rr op a f} h1 h2 h3 h4 h5 h6 => by
      refine pe_mt h1 h2 h3 h4 pv h5 rfl ?_ hl (star_cons h6) rfl
      rw [star_cons h6]
      rfl
    have nostar : ∀ {a : Expr} {f : M (List BV)} {op : List D → List BV → List D → Option (D × List D)}, notStar a = false → ∀ (g1 : M (List BV)), (if notStar a = true then g1 else mNo) = mNo := fun h _ => by rw [h]; rfl
    split
    · rename_i hn
      subst hn
      split
      · rename_i a
        cases ha : notStar a with
        | true => exact one mt_append mu_app PySem.F.slot_list_append PySem.F.type_list_append (aV_ok k g W _) ha
        | false =>
          have : aV r c [a] = mNo := by unfold aV; rw [ha]; rfl
          rw [this]
          exact ⟨fun _ _ _ _ _ _ ⟨S, ρ, rel, p⟩ => by
            unfold mMt at p
            split at p
            · exact p.elim
            · exact p.elim⟩
      · exact pe_no
    · split
      · rename_i hn
        subst hn
        split
        · rename_i a
          cases ha : notStar a with
          | true => exact one mt_extend mu_ext PySem.F.slot_list_extend PySem.F.type_list_extend (aB_ok k g W _) ha
          | false =>
            have : aB r c [a] = mNo := by unfold aB; rw [ha]; rfl
            rw [this]
            exact ⟨fun _ _ _ _ _ _ ⟨S, ρ, rel, p⟩ => by
              unfold mMt at p
              split at p
              · exact p.elim
              · exact p.elim⟩
        · exact pe_no
      · split
        · rename_i hn
          subst hn
          split
          · exact pe_mt0 mt_pop mu_pop PySem.F.slot_list_pop PySem.F.type_list_pop pv rfl hl
          · rename_i a
            cases ha : notStar a with
            | true => exact one mt_popAt mu_popAt PySem.F.slot_list_pop PySem.F.type_list_pop (aB_ok k g W _) ha
            | false =>
              have : aB r c [a] = mNo := by unfold aB; rw [ha]; rfl
              rw [this]
              exact ⟨fun _ _ _ _ _ _ ⟨S, ρ, rel, p⟩ => by
                unfold mMt at p
                split at p
                · exact p.elim
                · exact p.elim⟩
          · exact pe_no
        · exact pe_no
end
end Ev
namespace Ev
open PySem PySem.Spec PyProof.Rows L2
section
variable {X : Cx} {c : Ctx} {r : Rc} {mg : Str → Option Value}
theorem bltF_ok (g : Good X c) {x : Str} {op : List D → Option Ret} (h : bltF x = some op) : ∃ id, bootBuiltins x = some (.builtin id) ∧ CallR X (.builtin id) (rOps X.K op) := by
  unfold bltF at h
  split at h
  · rename_i e; subst e; cases h; exact ⟨_, by decide +kernel, cb_len g.calm⟩
  split at h
  · rename_i e; subst e; cases h; exact ⟨_, by decide +kernel, cb_abs⟩
  split at h
  · rename_i e; subst e; cases h; exact ⟨_, by decide +kernel, cb_sum g.calm⟩
  split at h
  · rename_i e; subst e; cases h; exact ⟨_, by decide +kernel, cb_any g.calm⟩
  split at h
  · rename_i e; subst e; cases h; exact ⟨_, by decide +kernel, cb_all g.calm⟩
  split at h
  · rename_i e; subst e; cases h; exact ⟨_, by decide +kernel, cb_sort g.hu⟩
  split at h
  · rename_i e; subst e; cases h; exact ⟨_, by decide +kernel, cb_max g.calm g.hu⟩
  split at h
  · rename_i e; subst e; cases h; exact ⟨_, by decide +kernel, cb_min g.calm g.hu⟩
  split at h
  · rename_i e; subst e; cases h; exact ⟨_, by decide +kernel, cb_repr g.gd g.hu⟩
  · cases h
theorem bltT_ok (g : Good X c) {x : Str} {op : List D → Option Ret} (h : bltT x = some op) : ∃ T, bootBuiltins x = some (.type T) ∧ CallR X (.type T) (rOps X.K op) := by
  unfold bltT at h
  split at h
  · rename_i e; subst e; cases h; exact ⟨_, by decide +kernel, cb_tuple⟩
  split at h
  · rename_i e; subst e; cases h; exact ⟨_, by decide +kernel, cb_list g.calm⟩
  split at h
  · rename_i e; subst e; cases h; exact ⟨_, by decide +kernel, cb_int⟩
  · cases h
def rIsaD (K : PySem.W.Frag) (T : String) (f : D → Bool) : List V → Hp → VK → Prop := fun xs H Q => ∃ S d v, Live S H ∧ xs = [v, .ty T] ∧ RR K H S v d ∧ d.plain = true ∧ Q (.bl (f d)) H
theorem isa_ok {x : Str} {T : String} {f : D → Bool} (h : isaD x = some (T, f)) : bootBuiltins x = some (.type T) ∧ CallR X (.builtin "isinstance") (rIsaD X.K T f) := by
  have two : ∀ {v : V} {us : List Value}, Vals [v, .ty T] us → ∃ u, us = [u, .type T] ∧ RelV v u := fun {v us} rr => by
    cases rr with
    | cons r1 r2 =>
      cases r2 with
      | cons r2 r3 =>
        cases r3
        have e : _ = Value.type T := r2
        subst e
        exact ⟨_, rfl, r1⟩
  unfold isaD at h
  split at h
  · rename_i e; subst e; cases h
    refine ⟨by decide +kernel, fun pins s σ H xs us Q I rx ⟨S, d, v, lv, e1, h1, hp, q⟩ => ?_⟩
    subst e1
    obtain ⟨u, rfl, r1⟩ := two rx
    obtain ⟨as, rd⟩ := h1.reads I r1 hp
    exact PySem.W.isinstance_int_data rd fun tk _ => ⟨.bl _, H, I.tok tk, rfl, q⟩
  split at h
  · rename_i e; subst e; cases h
    refine ⟨by decide +kernel, fun pins s σ H xs us Q I rx ⟨S, d, v, lv, e1, h1, hp, q⟩ => ?_⟩
    subst e1
    obtain ⟨u, rfl, r1⟩ := two rx
    obtain ⟨as, rd⟩ := h1.reads I r1 hp
    exact PySem.W.isinstance_bool_data rd fun tk _ => ⟨.bl _, H, I.tok tk, rfl, q⟩
  split at h
  · rename_i e; subst e; cases h
    refine ⟨by decide +kernel, fun pins s σ H xs us Q I rx ⟨S, d, v, lv, e1, h1, hp, q⟩ => ?_⟩
    subst e1
    obtain ⟨u, rfl, r1⟩ := two rx
    obtain ⟨as, rd⟩ := h1.reads I r1 hp
    exact PySem.W.isinstance_tuple_data rd fun tk _ => ⟨.bl _, H, I.tok tk, rfl, q⟩
  split at h
  · rename_i e; subst e; cases h
    refine ⟨by decide +kernel, fun pins s σ H xs us Q I rx ⟨S, d, v, lv, e1, h1, hp, q⟩ => ?_⟩
    subst e1
    obtain ⟨u, rfl, r1⟩ := two rx
    obtain ⟨as, rd⟩ := h1.reads I r1 hp
    exact PySem.W.isinstance_list_data rd fun tk _ => ⟨.bl _, H, I.tok tk, rfl, q⟩
  split at h
  · rename_i e; subst e; cases h
    refine ⟨by decide +kernel, fun pins s σ H xs us Q I rx ⟨S, d, v, lv, e1, h1, hp, q⟩ => ?_⟩
    subst e1
    obtain ⟨u, rfl, r1⟩ := two rx
    obtain ⟨as, rd⟩ := h1.reads I r1 hp
    exact PySem.W.isinstance_str_data rd fun tk _ => ⟨.bl _, H, I.tok tk, rfl, q⟩
  · cases h
theorem callE_ok (k : OkR r) (g : Good X c) (W : WX) {x : Str} {xp cp : Pos} {args : List Expr} {kws : List Keyword} : PE X (.Call (.Name x xp) args kws cp) (tS X.K X.mg W (callE r c x args kws)) := by
  unfold callE
  split
  · rename_i hx
    subst hx
    split
    · rename_i a t tp
      split
      · rename_i f hf
        obtain ⟨T, f⟩ := f
        split
        · rename_i hc
          simp only [Bool.and_eq_true] at hc
          obtain ⟨h1, h2, h3, h4⟩ := bltn_ok g hc.1.1
          obtain ⟨t1, t2, t3, t4⟩ := bltn_ok g hc.1.2
          obtain ⟨b1, b2⟩ := isa_ok (X := X) hf
          refine pe_imp (pe_callB b2 h1 h2 (by decide +kernel) (pa_cons (bE_ok k g W a) (pa_cons (pe_bltn (v := .ty T) t1 t2 b1 rfl t4 t3) pa_nil (star_cons rfl)) (star_cons hc.2)) h4 h3 (star_cons hc.2) rfl) fun σ H Q ⟨S, ρ, rel, p⟩ => ?_
          refine ⟨S, ρ, rel, ?_⟩
          unfold mOp1 at p
          refine Post.and p fun bv S1 ρ1 H1 st1 r1 p v hv => ?_
          unfold opnd1 at p
          cases e1 : res ρ1 bv with
          | none => simp only [e1] at p; exact p.elim
          | some d =>
            simp only [e1, opIsa] at p
            by_cases hp : d.plain = true
            · simp only [if_pos hp] at p
              exact ⟨S1, d, v, r1.live, rfl, hv.read r1 e1, hp, p S1 H1 st1 r1 _ (.bl _) trivial⟩
            · simp only [if_neg hp] at p
              exact p.elim
        · exact pe_no
      · exact pe_no
    · exact pe_no
  · split
    · rename_i hc
      simp only [Bool.and_eq_true] at hc
      obtain ⟨h1, h2, h3, h4⟩ := bltn_ok g hc.1
      have hst := hc.2
      split
      · rename_i a as
        have ha : notStar a = true := by simp only [List.all_cons, Bool.and_eq_true] at hst; exact hst.1
        have has : as.all notStar = true := by simp only [List.all_cons, Bool.and_eq_true] at hst; exact hst.2
        have gen : PE X (.Call (.Name x xp) (a :: as) [] cp) (tS X.K X.mg W (match bltF x with
            | some op => mOps op (aB r c (a :: as))
            | none => match bltT x with
              | some op => mOps op (aB r c (a :: as))
              | none => mNo)) := by
          split
          · rename_i op ho
            obtain ⟨id, b1, b2⟩ := bltF_ok g ho
            exact pe_blt b2 h1 h2 b1 (aB_ok k g W _) h4 h3 (star_cons ha) (star_all has)
          · split
            · rename_i op ho
              obtain ⟨T, b1, b2⟩ := bltT_ok g ho
              exact pe_bty b2 h1 h2 b1 (aB_ok k g W _) h4 h3 (star_cons ha) (star_all has)
            · exact pe_no
        split
        · rename_i i hi hx
          have hx : x = "len" := of_decide_eq_true hx
          subst hx
          exact pe_lenG (isGiv_ok g hi) h1 h2 (star_cons ha)
        · exact gen
      · exact pe_no
    · split
      · rename_i hc
        simp only [Bool.and_eq_true, Bool.not_eq_true'] at hc
        obtain ⟨⟨h1, h2⟩, h3⟩ := hc
        split
        · rename_i ks hk
          split
          · rename_i s hs
            obtain ⟨k1, k2, k3⟩ := kw_all (pos := cp) (env := X.env) hk
            refine pe_callG (g.fns _ _ _ _ hs) (fun e => ?_) (glb_ok g h1) h2 (aF_ok k g W _ _) (aK_ok k g W _ _) k1 k2 (fun e' es' e => ?_) (by rw [star_all h3, k3]; rfl)
            · subst e
              cases s.io <;> rfl
            · subst e
              simp only [List.all_cons, Bool.and_eq_true] at h3
              exact star_cons h3.1
          · exact pe_no
        · exact pe_no
      · exact pe_no
theorem pt_tst {e : Expr} {te : TE} {f : M Ret} {W : WX} (h : PT X e (tTest te)) (im : ∀ σ H Q, tS X.K mg W f σ H Q → te σ H Q) : PT X e (tTe X.K mg W (mTst f)) := pt_imp h fun σ H Q ⟨S, ρ, rel, p⟩ => by
  refine im σ H _ ⟨S, ρ, rel, ?_⟩
  unfold mTst at p
  refine Post.and p fun rr S1 ρ1 H1 st1 r1 p v hv hn => ?_
  split at p
  · rename_i b
    cases hv
    exact ⟨b, rfl, p S1 H1 st1 r1⟩
  · exact p.elim
end
end Ev
namespace Ev
open PySem PySem.Spec PyProof.Rows L2
section
variable {X : Cx} {c : Ctx} {r : Rc}
abbrev tNever0 : TE := fun _ _ _ => False
theorem stepE_ok (k : OkR r) (g : Good X c) (W : WX) (e : Expr) : PE X e (tS X.K X.mg W (stepE r c e)) := by
  unfold stepE
  split
  · exact pe_cst_of (t := tNever0) pe_int fun H S => .int _
  · exact pe_cst_of (t := tNever0) pe_bl fun H S => .bl _
  · exact pe_cst_of (t := tNever0) pe_non fun H S => .non
  · exact pe_cst_of (t := tNever0) L2.pe_str fun H S => .str _
  · split
    · rename_i i hi
      exact pe_name (vix_ok g hi)
    · exact pe_no
  · rename_i a op b p
    split
    · rename_i f hf
      exact pe_bin (binD_ok hf) (bE_ok k g W a) (bE_ok k g W b)
    · exact pe_no
  · rename_i a p
    exact pe_un1 or_neg (bE_ok k g W a)
  · rename_i a p
    exact pe_notE (bE_ok k g W a)
  · rename_i a o b p
    split
    · rename_i f hf
      split
      · rename_i hb
        exact pe_cmp2 (rCmp.op2 (cmpD_ok g hf)) (bE_ok k g W a) (bE_ok k g W b) (marks_ok hb)
      · exact pe_no
    · exact pe_no
  · rename_i a o o' b d p
    split
    · rename_i f1 f2 hf1 hf2
      split
      · rename_i hd
        exact pe_chainE (bE_ok k g W a) (bE_ok k g W b) (bE_ok k g W d) fun ta tb tc ha hb hc => pe_chain (cmpD_ok g hf1) (cmpD_ok g hf2) ha hb hc (marks_ok hd)
      · exact pe_no
    · exact pe_no
  · exact pe_one (k.E g W _)
  · exact pe_andE (k.E g W _) (k.E g W _)
  · exact pe_orE (k.E g W _) (k.E g W _)
  · exact pe_ifE (k.T g W _) (k.E g W _) (k.E g W _)
  · exact pe_tupE (aV_ok k g W _)
  · exact pe_lstE (aV_ok k g W _)
  · split
    · rename_i i hi
      exact pe_slG (isGiv_ok g hi) (partE_ok k g W _) (partE_ok k g W _)
    · exact pe_slE (bE_ok k g W _) (partE_ok k g W _) (partE_ok k g W _)
  · split
    · rename_i hb
      split
      · rename_i i hi
        exact pe_ixG (isGiv_ok g hi) (bE_ok k g W _) (slice_ok hb)
      · exact pe_sub2 (or_ix g.hu) (slice_ok hb) (bE_ok k g W _) (bE_ok k g W _)
    · exact pe_no
  · exact lcE_ok k g W
  · exact callE_ok k g W
  · split
    · rename_i hl
      exact mtE_ok k g W hl
    · exact pe_no
  · exact pe_no
theorem plainT {e : Expr} (h : ∀ whole, isTrue e X.env whole = (do let v ← whole; standAt e.pos; holding [v] (truthy v))) (k : OkR r) (g : Good X c) (W : WX) : PT X e (tTe X.K X.mg W (mTru (bE r c e))) := pt_tru (bE_ok k g W e) h
/-- a test by its value, when its value is had -/
theorem cmpT (k : OkR r) (g : Good X c) (W : WX) (a : Expr) (os : List CmpOp) (bs : List Expr) (p : Pos) : PT X (.Compare a os bs p) (tTe X.K X.mg W (mTst (stepE r c (.Compare a os bs p)))) := by
  have no : stepE r c (.Compare a os bs p) = mNo → PT X (.Compare a os bs p) (tTe X.K X.mg W (mTst (stepE r c (.Compare a os bs p)))) := fun e => by
    rw [e]
    exact pt_no
  match os, bs with
  | [o], [b] =>
    cases ho : cmpD o with
    | none => exact no (by simp only [stepE, ho])
    | some f =>
      cases hb : notSet b with
      | false => exact no (by simp only [stepE, ho, hb]; rfl)
      | true =>
        have e : stepE r c (.Compare a [o] [b] p) = mOp2 (cmpRet f) (bE r c a) (bE r c b) := by simp only [stepE, ho, hb]; rfl
        rw [e]
        exact pt_tst (pt_cmpR (rCmp.op2 (cmpD_ok g ho)) (bE_ok k g W a) (bE_ok k g W b) (marks_ok hb)) fun _ _ _ ⟨_, _, rel, p⟩ => bin_fwd rel p
  | [o, o'], [b, d] =>
    cases ho : cmpD o with
    | none => exact no (by simp only [stepE, ho])
    | some f =>
      cases ho' : cmpD o' with
      | none => exact no (by simp only [stepE, ho, ho'])
      | some f' =>
        cases hb : notSet d with
        | false => exact no (by simp only [stepE, ho, ho', hb]; rfl)
        | true =>
          have e : stepE r c (.Compare a [o, o'] [b, d] p) = mChain f f' (bE r c a) (bE r c b) (bE r c d) := by simp only [stepE, ho, ho', hb]; rfl
          rw [e]
          exact pt_tst (pt_chain (cmpD_ok g ho) (cmpD_ok g ho') (bE_ok k g W a) (bE_ok k g W b) (bE_ok k g W d) (marks_ok hb)) fun _ _ _ ⟨_, _, rel, p⟩ => chain_fwd rel p
  | [], _ => exact no rfl
  | [_], [] => exact no rfl
  | [_], _ :: _ :: _ => exact no rfl
  | [_, _], [] => exact no rfl
  | [_, _], [_] => exact no rfl
  | [_, _], _ :: _ :: _ :: _ => exact no rfl
  | _ :: _ :: _ :: _, _ => exact no rfl
end
theorem rc_ok : ∀ n, OkR (rc n)
  | 0 => ⟨fun _ _ _ => pe_no, fun _ _ _ => pt_no, fun _ _ _ _ _ => pw_no⟩
  | n + 1 => by
    have k := rc_ok n
    have hB : ∀ {X : Cx} {c : Ctx}, Good X c → ∀ (W : WX) (op : BoolOp) (vs : List Expr) (p : Pos), PW X (.BoolOp op vs p) (tTe X.K X.mg W (stepT (rc n) c (.BoolOp op vs p))) := fun {X c} g W op vs p => by
      match op, vs with
      | .And, [a] => exact pw_and1 (k.T g W a)
      | .Or, [a] => exact pw_or1 (k.T g W a)
      | .And, a :: b :: rest => exact pw_andE (k.T g W a) (k.B g W _ _ _)
      | .Or, a :: b :: rest => exact pw_orE (k.T g W a) (k.B g W _ _ _)
      | .And, [] => exact pw_no
      | .Or, [] => exact pw_no
    refine ⟨fun {X c} g W e => stepE_ok k g W e, fun {X c} g W e => ?_, hB⟩
    show PT X e (tTe X.K X.mg W (stepT (rc n) c e))
    cases e with
    | BoolOp op vs p => exact (hB g W op vs p).pt
    | UnaryOp op a p =>
      cases op with
      | Not => exact pt_notE (k.T g W a)
      | Invert => exact pt_no
      | UAdd => exact pt_no
      | USub => exact pt_no
    | Compare a os bs p =>
      cases n with
      | zero => exact pt_no
      | succ m => exact cmpT (rc_ok m) g W a os bs p
    | Name x p => exact plainT (fun _ => rfl) k g W
    | Call f as ks p => exact plainT (fun _ => rfl) k g W
    | Subscript a b p => exact plainT (fun _ => rfl) k g W
    | Constant v j p => exact plainT (fun _ => rfl) k g W
    | _ => exact pt_no
end Ev
namespace Ev
open PySem PySem.Spec PyProof.Rows L2
theorem star_any {a : Expr} : (match a with | .Starred .. => true | _ => false) = !notStar a := by cases a <;> rfl
theorem blockK {env : Env} (h : env.scope.kind = .function) : env.blockKind = .function := by
  unfold Env.blockKind
  rw [h]; rfl
theorem sw_two {env : Env} (hk : env.scope.kind = .function) {x y : Str} {px py pt pt2 : Pos} {kt k2 : Nat} {a b : Expr} (ha : notStar a = true) (hb : notStar b = true) (hx : env.scope.names.lookup x = some .local) (hy : env.scope.names.lookup y = some .local)
    (hl : (py.line == px.line) = true) (hne : x ≠ y) (h1 : [a, b].all (foldedForSure 8) = false) (h2 : [a, b].all (constantsAlone 8) = false) :
    swappedStores [.Tuple [.Name x px, .Name y py] kt pt] (.Tuple [a, b] k2 pt2) env = pure (some [x, y]) := by
  have hx' : env.kindOf x = some .local := hx
  have hy' : env.kindOf y = some .local := hy
  have hs : ([a, b].any fun | .Starred .. => true | _ => false) = false := by
    simp only [List.any_cons, List.any_nil, Bool.or_false]
    cases a <;> first | (cases ha; done) | (cases b <;> first | rfl | cases hb)
  have hn : (([.Name x px, .Name y py] : List Expr).filterMap fun
      | .Name id pos => if env.kindOf id == some .local && pos.line == px.line then some id else none
      | _ => none) = [x, y] := by
    have e1 : (env.kindOf x == some NameKind.local && px.line == px.line) = true := by rw [hx']; simp
    have e2 : (env.kindOf y == some NameKind.local && py.line == px.line) = true := by rw [hy', hl]; rfl
    rw [List.filterMap_cons_some (b := x) (by simp only [e1, if_true]), List.filterMap_cons_some (b := y) (by simp only [e2, if_true])]
    rfl
  have hd : ([x, y] : List Str).eraseDups.length = 2 := by
    have : ([x, y] : List Str).eraseDups = [x, y] := by
      simp [List.eraseDups_cons, Ne.symm hne]
    rw [this]; rfl
  unfold swappedStores
  show (do
    if !(2 == 2 || 2 == 3) || 2 != 2 || env.blockKind != .function then return none
    if [a, b].any fun | .Starred .. => true | _ => false then return none
    let names := ([.Name x px, .Name y py] : List Expr).filterMap fun
      | .Name id pos => if env.kindOf id == some .local && pos.line == px.line then some id else none
      | _ => none
    if names.length != 2 || names.eraseDups.length != names.length then return none
    if [a, b].all (foldedForSure 8) then return none
    if [a, b].all (constantsAlone 8) then unsupported "assign.tuple-of-constant-expressions:order-of-the-stores"
    return some names : Sem (Option (List Str))) = _
  simp only [hn, hs, h1, h2, blockK hk]
  rw [hd]
  rfl
theorem sw_none {env : Env} {x y : Str} {px py pt pt2 : Pos} {kt k2 : Nat} {a b : Expr} (h : ¬ (env.scope.names.lookup x = some .local ∧ env.scope.names.lookup y = some .local ∧ (py.line == px.line) = true ∧ x ≠ y) ∨ [a, b].all (foldedForSure 8) = true) :
    swappedStores [.Tuple [.Name x px, .Name y py] kt pt] (.Tuple [a, b] k2 pt2) env = pure none := by
  unfold swappedStores
  show (do
    if !(2 == 2 || 2 == 3) || 2 != 2 || env.blockKind != .function then return none
    if [a, b].any fun | .Starred .. => true | _ => false then return none
    let names := ([.Name x px, .Name y py] : List Expr).filterMap fun
      | .Name id pos => if env.kindOf id == some .local && pos.line == px.line then some id else none
      | _ => none
    if names.length != 2 || names.eraseDups.length != names.length then return none
    if [a, b].all (foldedForSure 8) then return none
    if [a, b].all (constantsAlone 8) then unsupported "assign.tuple-of-constant-expressions:order-of-the-stores"
    return some names : Sem (Option (List Str))) = _
  split
  · rfl
  split
  · rfl
  dsimp only
  split
  · rfl
  rename_i hc
  split
  · rfl
  rename_i hf
  exfalso
  rcases h with h | h
  · apply h
    have e1 : env.kindOf x = env.scope.names.lookup x := rfl
    have e2 : env.kindOf y = env.scope.names.lookup y := rfl
    by_cases c1 : (env.kindOf x == some NameKind.local && px.line == px.line) = true
    · by_cases c2 : (env.kindOf y == some NameKind.local && py.line == px.line) = true
      · rw [List.filterMap_cons_some (b := x) (by simp only [c1, if_true]), List.filterMap_cons_some (b := y) (by simp only [c2, if_true])] at hc
        simp only [Bool.and_eq_true, beq_iff_eq] at c1 c2
        refine ⟨e1 ▸ c1.1, e2 ▸ c2.1, by simpa using c2.2, fun hxy => ?_⟩
        subst hxy
        simp [List.eraseDups_cons] at hc
      · rw [List.filterMap_cons_some (b := x) (by simp only [c1, if_true]), List.filterMap_cons_none (by simp only [c2]; rfl)] at hc
        simp at hc
    · rw [List.filterMap_cons_none (by simp only [c1]; rfl)] at hc
      by_cases c2 : (env.kindOf y == some NameKind.local && py.line == px.line) = true
      · rw [List.filterMap_cons_some (b := y) (by simp only [c2, if_true])] at hc
        simp at hc
      · rw [List.filterMap_cons_none (by simp only [c2]; rfl)] at hc
        simp at hc
  · exact hf h
/-! ### statements, read off the code -/
section
variable (r : Rc) (c : Ctx)
def retE (e : Expr) : M Ret := match e with
  | .Name x _ => match vix c x with
    | some i => if c.keep.contains x = true then mName i else mMove i
    | none => mNo
  | _ => r.E c e
def isTup : Expr → Bool
  | .Tuple .. => true
  | _ => false
/-- a pair of names gets a pair -/
def parS (x y : Str) (px py : Pos) (a b : Expr) (tg e : Expr) : MS :=
  if notStar a && notStar b then
    (if decide (c.sc.names.lookup x = some .local) && decide (c.sc.names.lookup y = some .local) && (py.line == px.line) && !decide (x = y) then
      (if [a, b].all (foldedForSure 8) then (match tgE c tg with
        | some t => sAsgT t (r.E c e)
        | none => sNo)
      else if [a, b].all (constantsAlone 8) then sNo
      else match lix c x, lix c y with
        | some i, some j => if i = j then sNo else sPar i j (retE r c a) (retE r c b)
        | _, _ => sNo)
    else match tgE c tg with
      | some t => sAsgT t (r.E c e)
      | none => sNo)
  else sNo
def asgS (tg e : Expr) : MS := match tg with
  | .Name x _ => match lix c x with
    | some i => match e with
      | .ListComp elt [⟨t, iter, ifs, 0⟩] scope _ => sAsgN i (lcE r c elt t iter ifs scope)
      | _ => if notComp e = true then sAsgN i (retE r c e) else sNo
    | none => sNo
  | .Tuple [.Name x px, .Name y py] _ _ => match e with
    | .Tuple [a, b] _ _ => parS r c x y px py a b tg e
    | _ => if isTup e = false ∧ notComp e = true then (match tgE c tg with
      | some t => sAsgT t (r.E c e)
      | none => sNo) else sNo
  | .Tuple _ _ _ => if isTup e = false ∧ notComp e = true then (match tgE c tg with
      | some t => sAsgT t (r.E c e)
      | none => sNo) else sNo
  | .Subscript (.Name x _) ix _ => match vix c x with
    | some k => if notComp e = true ∧ notSlice ix = true then sSetIx k (bE r c ix) (r.E c e) else sNo
    | none => sNo
  | _ => sNo
variable (S : List Stmt → MS)
def stS (st : Stmt) : MS := match st with
  | .Expr (.Constant (.str _) _ _) _ => sNext
  | .Expr e _ => if notComp e = true then sExpr (r.E c e) else sNo
  | .Return (some e) _ => sRet (retE r c e)
  | .Return none _ => sRetN
  | .If t a b _ => sIf (r.T c t) (S a) (S b)
  | .Assign [tg] e _ => asgS r c tg e
  | .AugAssign (.Name x _) op e _ => match lix c x, augI op with
    | some i, some f => sAug i f (bE r c e)
    | _, _ => sNo
  | .For tg iter body [] _ => match tgE c tg with
    | some t => if notSet iter = true then sFor (itE r c iter) t (S body) else sNo
    | none => sNo
  | .While t body [] _ => sWhile c.wh (r.T c t) (S body)
  | .Pass _ => sNext
  | .Break _ => sBreak
  | .Continue _ => sCont
  | _ => sNo
def blS : List Stmt → MS
  | [] => sNext
  | st :: sts => sSeq (stS r c S st) (blS sts)
end
def evS (r : Rc) (c : Ctx) : Nat → List Stmt → MS
  | 0 => fun _ => sNo
  | n + 1 => blS r c (evS r c n)
section
variable {X : Cx} {c : Ctx} {r : Rc} {mg : Str → Option Value} {W : WX}
structure GoodS (X : Cx) (c : Ctx) : Prop extends Good X c where
  kind : X.env.scope.kind = .function
  pass : PassesOwn (model X.prog X.w) X.A X.env X.xe
theorem ps_no {st : Stmt} : PS X st (tSt X.K mg W sNo) := ⟨fun _ _ _ _ _ _ ⟨_, _, _, p⟩ => p.elim⟩
theorem pss_no {sts : List Stmt} : PSs X sts (tSt X.K mg W sNo) := ⟨fun _ _ _ _ _ _ ⟨_, _, _, p⟩ => p.elim⟩
theorem retE_ok (k : OkR r) (g : Good X c) (W : WX) (e : Expr) : PE X e (tS X.K X.mg W (retE r c e)) := by
  unfold retE
  split
  · split
    · rename_i i hi
      split
      · exact pe_name (vix_ok g hi)
      · exact pe_move (vix_ok g hi)
    · exact pe_no
  · exact k.E g W _
theorem comp_ok {e : Expr} {o : Option Expr} {l : Nat} {env : Env} (h : notComp e = true) : swapsWith e o l env = pure false := by
  cases e <;> first | rfl | cases h
theorem asgT_ok (k : OkR r) (g : Good X c) (W : WX) {tg e : Expr} {pos : Pos} (hw : swappedStores [tg] e X.env = pure none) (hc : notComp e = true) (h1 : (assignEach [tg] X.env).map (·.2) = [assign tg X.env]) :
    PS X (.Assign [tg] e pos) (tSt X.K X.mg W (match tgE c tg with | some t => sAsgT t (r.E c e) | none => sNo)) := by
  split
  · rename_i t ht
    exact ps_asgTE (fun te gg he hg => ps_asg he hg (comp_ok hc) hw h1) (k.E g W e) (tgE_ok g tg t ht)
  · exact ps_no
theorem tup_none {ts : List Expr} {kt : Nat} {pt : Pos} {e : Expr} {env : Env} (h : isTup e = false) : swappedStores [.Tuple ts kt pt] e env = pure none := by
  cases e <;> first | rfl | cases h
theorem parS_ok (k : OkR r) (g : GoodS X c) (W : WX) {x y : Str} {px py pt pt2 pos : Pos} {kt k2 : Nat} {a b : Expr} : PS X (.Assign [.Tuple [.Name x px, .Name y py] kt pt] (.Tuple [a, b] k2 pt2) pos) (tSt X.K X.mg W (parS r c x y px py a b (.Tuple [.Name x px, .Name y py] kt pt) (.Tuple [a, b] k2 pt2))) := by
  unfold parS
  split
  · rename_i hs
    simp only [Bool.and_eq_true] at hs
    split
    · rename_i hl
      simp only [Bool.and_eq_true, decide_eq_true_eq, Bool.not_eq_true', decide_eq_false_iff_not] at hl
      obtain ⟨⟨⟨l1, l2⟩, l3⟩, l4⟩ := hl
      split
      · rename_i hf
        exact asgT_ok k g.toGood W (sw_none (.inr hf)) rfl rfl
      · rename_i hf
        split
        · exact ps_no
        · rename_i hq
          split
          · rename_i i j hi hj
            split
            · exact ps_no
            · rename_i hij
              obtain ⟨i1, i2, i3⟩ := lix_ok g.toGood hi
              obtain ⟨j1, j2, j3⟩ := lix_ok g.toGood hj
              have h1 : X.env.scope.names.lookup x = some .local := by rw [g.sc]; exact l1
              have h2 : X.env.scope.names.lookup y = some .local := by rw [g.sc]; exact l2
              exact ps_parE (fun ta ha => ps_par g.calm g.nd i1 j1 hij h1 h2 ha (sw_two g.kind hs.1 hs.2 h1 h2 l3 l4 (by simpa using hf) (by simpa using hq)) rfl) (retE_ok k g.toGood W a) (retE_ok k g.toGood W b) (star_cons hs.1) (star_cons hs.2)
          · exact ps_no
    · rename_i hl
      refine asgT_ok k g.toGood W (sw_none (.inl fun z => hl ?_)) rfl rfl
      rw [g.sc] at z
      simp only [Bool.and_eq_true, decide_eq_true_eq, Bool.not_eq_true', decide_eq_false_iff_not]
      exact ⟨⟨⟨z.1, z.2.1⟩, z.2.2.1⟩, z.2.2.2⟩
  · exact ps_no
theorem lcAsg_ok (k : OkR r) (g : GoodS X c) (W : WX) {x : Str} {xp p pos : Pos} {i : Nat} {elt t iter : Expr} {ifs : List Expr} {scope : Scope} (hi : lix c x = some i) :
    PS X (.Assign [.Name x xp] (.ListComp elt [⟨t, iter, ifs, 0⟩] scope p) pos) (tSt X.K X.mg W (sAsgN i (lcE r c elt t iter ifs scope))) := by
  obtain ⟨i1, i2, i3⟩ := lix_ok g.toGood hi
  by_cases hs : (X.env.scope.names.lookup x = some .local ∧ xp.line = p.line ∧ (scope.names.any fun (n, k) => n == x && (k == .local || k == .cell)) = false)
  · -- the value is used at once
    have sw : ∀ l, swapsWith (.ListComp elt [⟨t, iter, ifs, 0⟩] scope p) (some (.Name x xp)) l X.env = pure true := fun l => by
      show (pure (X.env.blockKind == .function && X.env.kindOf x == some .local && xp.line == p.line && !(scope.names.any fun (n, k) => n == x && (k == .local || k == .cell))) : Sem Bool) = pure true
      have e1 : X.env.kindOf x = some .local := hs.1
      rw [blockK g.kind, e1, hs.2.1, hs.2.2]
      simp
    have no : PS X (.Assign [.Name x xp] (.ListComp elt [⟨t, iter, ifs, 0⟩] scope p) pos) (tSt X.K X.mg W (sAsgN i mNo)) := ⟨fun _ _ _ _ _ _ ⟨_, _, _, p⟩ => p.elim⟩
    unfold lcE
    split
    · rename_i tt ht
      split
      · rename_i h
        split
        · exact ps_lcE (lc_ok k g.toGood W ht h fun Y gy => pts_yes) i1 hs.1 (sw _)
        · rename_i q
          exact ps_lcE (lc_ok k g.toGood W ht h fun Y gy => pts_one (k.T gy W0 q)) i1 hs.1 (sw _)
        · exact no
      · exact no
    · exact no
  · have sw : ∀ l, swapsWith (.ListComp elt [⟨t, iter, ifs, 0⟩] scope p) (some (.Name x xp)) l X.env = pure false := fun l => by
      show (pure (X.env.blockKind == .function && X.env.kindOf x == some .local && xp.line == p.line && !(scope.names.any fun (n, k) => n == x && (k == .local || k == .cell))) : Sem Bool) = pure false
      congr 1
      cases e : (X.env.blockKind == .function && X.env.kindOf x == some .local && xp.line == p.line && !(scope.names.any fun (n, k) => n == x && (k == .local || k == .cell))) with
      | false => rfl
      | true =>
        exfalso
        apply hs
        simp only [Bool.and_eq_true, beq_iff_eq, Bool.not_eq_true'] at e
        exact ⟨e.1.1.2, e.1.2, e.2⟩
    exact ps_asgNE (fun te he => ps_set g.nd i1 i2 he (sw _) i3) (lcE_ok k g.toGood W)
theorem asgS_ok (k : OkR r) (g : GoodS X c) (W : WX) (tg e : Expr) (pos : Pos) : PS X (.Assign [tg] e pos) (tSt X.K X.mg W (asgS r c tg e)) := by
  unfold asgS
  split
  · rename_i x xp
    split
    · rename_i i hi
      obtain ⟨i1, i2, i3⟩ := lix_ok g.toGood hi
      split
      · exact lcAsg_ok k g W hi
      · split
        · rename_i hc
          exact ps_asgNE (fun te he => ps_set g.nd i1 i2 he (comp_ok hc) i3) (retE_ok k g.toGood W e)
        · exact ps_no
    · exact ps_no
  · split
    · exact parS_ok k g W
    · split
      · rename_i hc
        exact asgT_ok k g.toGood W (tup_none hc.1) hc.2 rfl
      · exact ps_no
  · split
    · rename_i hc
      exact asgT_ok k g.toGood W (tup_none hc.1) hc.2 rfl
    · exact ps_no
  · rename_i x xp ix sp
    split
    · rename_i i hi
      split
      · rename_i hc
        have h0 : swapsWithSole [.Subscript (.Name x xp) ix sp] e pos.line X.env = pure false := by
          show swapsWith e (some (.Subscript (.Name x xp) ix sp)) pos.line X.env = pure false
          exact comp_ok hc.1
        refine ps_setIxE (X := X) (fun te gg he hg => ps_asg he hg h0 rfl rfl) (vix_ok g.toGood hi) (bE_ok k g.toGood W ix) (k.E g.toGood W e) ?_
        intro v
        have hx := hc.2
        cases ix <;> first | rfl | cases hx
      · exact ps_no
    · exact ps_no
  · exact ps_no
theorem stS_ok (k : OkR r) (g : GoodS X c) (W : WX) {S : List Stmt → MS} (hS : ∀ sts, PSs X sts (tSt X.K X.mg W (S sts))) (st : Stmt) : PS X st (tSt X.K X.mg W (stS r c S st)) := by
  unfold stS
  split
  · exact ps_nextE ps_doc
  · split
    · rename_i hc
      exact ps_exprE (k.E g.toGood W _) (comp_ok hc)
    · exact ps_no
  · exact ps_retE (retE_ok k g.toGood W _)
  · exact ps_retNE
  · exact ps_ifE (k.T g.toGood W _) (hS _) (hS _)
  · exact asgS_ok k g W _ _ _
  · split
    · rename_i i f hi hf
      obtain ⟨i1, i2, i3⟩ := lix_ok g.toGood hi
      exact ps_augE hf g.nd i1 i2 i3 (bE_ok k g.toGood W _)
    · exact ps_no
  · split
    · rename_i t ht
      split
      · rename_i hn
        exact ps_forE g.pass g.calm (itE_ok k g.toGood W _ _) (tgE_ok g.toGood _ t ht) (hS _) fun wi gg tb h1 h2 h3 => ps_for g.pass g.calm h1 h2 h3 (set_ok hn)
      · exact ps_no
    · exact ps_no
  · exact ps_whileE g.pass (k.T g.toGood W _) (hS _)
  · exact ps_nextE ps_pass
  · exact ps_breakE
  · exact ps_contE
  · exact ps_no
theorem blS_ok (k : OkR r) (g : GoodS X c) (W : WX) {S : List Stmt → MS} (hS : ∀ sts, PSs X sts (tSt X.K X.mg W (S sts))) : ∀ sts : List Stmt, PSs X sts (tSt X.K X.mg W (blS r c S sts))
  | [] => pss_nilE
  | st :: sts => pss_consE (stS_ok k g W hS st) (blS_ok k g W hS sts)
theorem evS_ok (k : OkR r) (g : GoodS X c) (W : WX) : ∀ (n : Nat) (sts : List Stmt), PSs X sts (tSt X.K X.mg W (evS r c n sts))
  | 0, _ => pss_no
  | n + 1, sts => blS_ok k g W (evS_ok k g W n) sts
end
end Ev
namespace Ev
open PySem PySem.Spec PyProof.Rows L2
/-! ### the defs of a text -/
structure Shape where
  n : Nat
  ks : List Str
  perm : List Nat
  io : List Bool
structure DefE where
  name : Str
  st : Stmt
  N : List Str
  ps : List Str
  keep : List Str
  wh : Nat
  shapes : List Shape
structure Ent where
  name : Str
  sh : Shape
  F : FSem
def findE (x : Str) (n : Nat) (ks : List Str) : List Ent → Option CallSem
  | [] => none
  | t :: ts => if t.name = x ∧ t.sh.n = n ∧ t.sh.ks = ks then some ⟨t.F, t.sh.perm, t.sh.io⟩ else findE x n ks ts
structure Mod0 where
  bl : List Str
  giv : List Str
def ctxOf (m : Mod0) (tbl : List Ent) (d : DefE) : Ctx := { N := d.N, sc := defScope d.st, blk := false, bsc := defScope d.st, bl := m.bl, fns := fun x n ks => findE x n ks tbl, giv := m.giv, keep := d.keep, wh := d.wh }
def semOf (m : Mod0) (tbl : List Ent) (d : DefE) : FSem := fnSem d.N.length d.ps.length (evS (rc 40) (ctxOf m tbl d) 12 (defBody d.st))
def entsOf (d : DefE) (F : FSem) : List Ent := d.shapes.map fun sh => ⟨d.name, sh, F⟩
section
variable (P : Program) (w : World) (K : PySem.W.Frag) (mg : Str → Option Value) (base : Heap)
def EntOk (k : Nat) (t : Ent) : Prop := ∃ f fd ps, FnG P w K mg base k f fd ps t.F ∧ mg t.name = some (.ref f) ∧ PySem.W.keepIn K (.ref f) = true ∧ KB K fd ps t.sh.n t.sh.ks t.sh.perm
def DefOk (d : DefE) : Prop := ∃ f fd, L2.Fun K d.name d.name d.st f fd ∧ mg d.name = some (.ref f) ∧ FnScope d.N d.ps (defScope d.st) ∧ ∀ sh ∈ d.shapes, KB K fd d.ps sh.n sh.ks sh.perm
end
section
variable {P : Program} {w : World} {K : PySem.W.Frag} {mg : Str → Option Value} {base : Heap}
theorem findE_ok {k : Nat} {x : Str} {n : Nat} {ks : List Str} {s : CallSem} : ∀ {tbl : List Ent}, (∀ t ∈ tbl, EntOk P w K mg base k t) → findE x n ks tbl = some s →
    ∃ f fd ps, FnG P w K mg base k f fd ps s.F ∧ mg x = some (.ref f) ∧ PySem.W.keepIn K (.ref f) = true ∧ KB K fd ps n ks s.perm
  | [], _, h => by cases h
  | t :: ts, ok, h => by
    unfold findE at h
    split at h
    · rename_i e
      cases h
      obtain ⟨rfl, rfl, rfl⟩ := e
      exact ok t (List.mem_cons_self ..)
    · exact findE_ok (fun u hu => ok u (List.mem_cons_of_mem _ hu)) h
theorem EntOk.mono {j k : Nat} {t : Ent} (h : EntOk P w K mg base j t) (l : j ≤ k) : EntOk P w K mg base k t := by
  obtain ⟨f, fd, ps, g, r⟩ := h
  exact ⟨f, fd, ps, g.mono l, r⟩
/-- a def, by what stands ahead of it -/
theorem def_ok {m : Mod0} {tbl : List Ent} {d : DefE} {k : Nat} (hbl : ∀ x, m.bl.contains x = true → mg x = none) (ht : ∀ t ∈ tbl, EntOk P w K mg base k t) {f : Addr} {fd : FuncData} (F : L2.Fun K d.name d.name d.st f fd) (Sc : FnScope d.N d.ps (defScope d.st)) :
    FnG P w K mg base (k + 1) f fd d.ps (semOf m tbl d) := by
  refine fnG_of (mg := mg) F Sc fun cd B out s H room gd => ?_
  have g : GoodS (bodyX P w K mg base d.N d.name (defScope d.st) f cd B out s H) (ctxOf m tbl d) := by
    refine ⟨⟨rfl, Sc.nd, rfl, rfl, fun x _ _ => rfl, room.units, gd, hbl, fun x n ks cs h => ?_⟩, Sc.kind, PassesOwn.never⟩
    obtain ⟨f', fd', ps', g1, g2, g3, g4⟩ := findE_ok ht h
    exact ⟨⟨k, f', fd', ps', g1, room, g2, g3, g4⟩, gd⟩
  exact evS_ok (rc_ok 40) g _ 12 _
theorem ents_ok {m : Mod0} {tbl : List Ent} {d : DefE} {k : Nat} (hbl : ∀ x, m.bl.contains x = true → mg x = none) (ht : ∀ t ∈ tbl, EntOk P w K mg base k t) (hd : DefOk K mg d) : ∀ t ∈ tbl ++ entsOf d (semOf m tbl d), EntOk P w K mg base (k + 1) t := by
  obtain ⟨f, fd, F, hm, Sc, hk⟩ := hd
  intro t h
  rcases List.mem_append.mp h with h | h
  · exact (ht t h).mono (Nat.le_succ k)
  · unfold entsOf at h
    obtain ⟨sh, hs, rfl⟩ := List.mem_map.mp h
    exact ⟨f, fd, d.ps, def_ok hbl ht F Sc, hm, F.kp, hk sh hs⟩
end
/-! ### the law's call -/
theorem law_rel {K : PySem.W.Frag} {H : Hp} {a : Addr} {ns : List Int} (h : SqL K H a (ns.map V.int)) (hs : H a ≠ none ∨ ∀ H', SqL K H' a (ns.map V.int)) : Rel K (fun b => H b ≠ none) [.giv (ns.map PyData.int)] ([V.ref a].map some) H := by
  have whole : ∀ (ms : List Int), RAll K H (fun b => H b ≠ none) (ms.map V.int) (ms.map PyData.int) := fun ms => by
    induction ms with
    | nil => exact .nil
    | cons n ns ih => exact .cons (.int n) ih
  refine ⟨rfl, fun i s e => ?_, fun i j s t y z b h1 h2 h3 h4 h5 h6 => ?_, fun b hb => ?_⟩
  · cases i with
    | zero => cases e; exact ⟨_, h, hs, whole ns⟩
    | succ i => cases e
  · cases i with
    | zero => cases h1; cases h3
    | succ i => cases h1
  · cases e : H b with
    | none => exact absurd e hb
    | some o => exact ⟨o, rfl⟩
theorem law_callG {P : Program} {w : World} {K : PySem.W.Frag} {mg mb : Str → Option Value} {k : Nat} {fa a : Addr} {fd : FuncData} {x : Str} {F : FSem} {s₁ : Shared} {vs : List Value} {ns : List Int}
    (inK : K.In s₁.heap) (hns : s₁.heap.Ns mainGlobals mg) (hb : s₁.heap.Ns builtinsNs mb) (hbb : ∀ y : Str, y ≠ "__name__" → mb y = bootBuiltins y) (free : s₁.heap.NoLimit) (hg : s₁.gens = #[])
    (ha : s₁.heap.get? a = some { cls := .type "list", data := .seq vs.toArray }) (hi : IntsAre vs ns) (hl : ns.length ≤ sizeLine) (room : Room k callerA)
    (G : ∀ base : Heap, K.In base → base.Ns mainGlobals mg → FnG P w K mg base k fa fd [x] F) (bnd : ∀ (s : Shared) (u : Value), BindsTo s fd ⟨[u], []⟩ [(x, u)])
    (hF : ∃ outs, F [.giv (ns.map PyData.int)] = .ret (.val (.bool true)) outs) :
    codeAny (model P w) callerA (.call (.ref fa) ⟨[.ref a], []⟩) (fun r s' => r = .ok (.ret (.bool true)) ∧ OldK s₁.heap s'.heap ∧ s'.os = s₁.os ∧ AllBare s'.gens) s₁ := by
  have rv := vals_ints hi
  have all : ∀ H : Hp, (∀ b, H b = none ∨ ∃ o xs, H b = some (.frz o (.lst xs))) → SqL K H a (ns.map V.int) → (H a ≠ none ∨ ∀ H', SqL K H' a (ns.map V.int)) → HOk P w H s₁.heap → (∀ b, H b ≠ none → b = a) → (H a ≠ none → K.lookup a = none) →
      codeAny (model P w) callerA (.call (.ref fa) ⟨[.ref a], []⟩) (fun r s' => r = .ok (.ret (.bool true)) ∧ OldK s₁.heap s'.heap ∧ s'.os = s₁.os ∧ AllBare s'.gens) s₁ := fun H only sq hs hok only_a outK => by
    have seen : ∀ {b : Addr} {o : Obj} {es : Array DictEntry} {ep : Nat}, s₁.heap.get? b = some o → o.data = .dict es ep → H b = none := fun {b o es ep} e d => by
      cases q : H b with
      | none => rfl
      | some u =>
        have e' : b = a := only_a b (by rw [q]; simp)
        subst e'
        rw [ha] at e
        cases e
        have d' : Data.seq vs.toArray _ = Data.dict es ep := d
        cases d'
    have nsH : ∀ {b : Addr} {m : Str → Option Value}, s₁.heap.Ns b m → (hidT s₁.heap H).Ns b m := fun {b m} ⟨o, es, ep, e, d, r⟩ => ⟨o, es, ep, hidT_get e (seen e d), d, r⟩
    have baseK : K.In (hidT s₁.heap H) := fun b o e => hidT_get (inK b o e) (by
      cases q : H b with
      | none => rfl
      | some u =>
        have e' : b = a := only_a b (by rw [q]; simp)
        subst e'
        rw [outK (by rw [q]; simp)] at e
        cases e)
    have md : Mod K mg (hidT s₁.heap H) := ⟨baseK, nsH hns, ⟨mb, nsH hb, hbb⟩, let ⟨mc, h1, h2⟩ := free; ⟨mc, nsH h1, h2⟩⟩
    have env : Env0 P w K mg (hidT s₁.heap H) callerA [] s₁ H := ⟨rfl, md, fun b o e => of_hidT e, Nat.le_of_eq (hidT_size _ _), trivial, fun b hb => absurd (show b ∈ ([] : List Addr) from hb) (by simp), hok, .of_eq hg⟩
    have spec : SpF K F [.ref a] H fun v _ => v = .bl true := by
      obtain ⟨outs, e⟩ := hF
      refine ⟨fun b => H b ≠ none, [.giv (ns.map PyData.int)], law_rel sq hs, rfl, ?_⟩
      rw [e]
      intro S' v H' fe
      have := fe.ret
      cases this
      rfl
    refine codeAny_mono ((G _ baseK (nsH hns)).run callerA [] s₁ H ⟨[.ref a], []⟩ [.ref a] [.ref a] _ room rfl env (bnd s₁ (.ref a)) (.cons rfl .nil) spec) fun r s' h => ?_
    cases r with
    | error e => exact False.elim h
    | ok fl =>
      cases fl with
      | next => exact False.elim h
      | brk => exact False.elim h
      | cont => exact False.elim h
      | ret u =>
        obtain ⟨v, H', os, bare, un, hok', r', q⟩ := h
        subst q
        obtain rfl : u = Value.bool true := r'
        refine ⟨rfl, OldK.of_keep fun b o e => ?_, os, bare⟩
        cases q : H b with
        | none => exact un.keep b o e q (fun z => absurd (show b ∈ ([] : List Addr) from z) (by simp)) (by simp)
        | some u =>
          rcases only b with z | ⟨ob, xs, z⟩
          · rw [q] at z; cases z
          · have z2 := un.frzs b ob _ z
            obtain ⟨e1, _⟩ := hok b _ z
            obtain ⟨e2, _⟩ := hok' b _ z2
            rw [e] at e1
            cases e1
            exact e2
  cases hk : K.lookup a with
  | some o =>
    have e := inK a o hk
    rw [ha] at e
    cases e
    have sq : ∀ H' : Hp, SqL K H' a (ns.map V.int) := fun H' => .inr ⟨_, vs.toArray, _, hk, rfl, rfl, rfl, by rw [List.size_toArray, hi.length]; exact hl, by simpa using rv⟩
    exact all (fun _ => none) (fun _ => .inl rfl) (sq _) (.inr sq) (fun b u z => by have z' : (none : Option HO) = some u := z; cases z') (fun b z => absurd rfl z) fun z => absurd rfl z
  | none =>
    have at_a : (if a = a then some (HO.frz { cls := .type "list", data := .seq vs.toArray } (.lst (ns.map V.int))) else none) = some (.frz { cls := .type "list", data := .seq vs.toArray } (.lst (ns.map V.int))) := if_pos rfl
    refine all (fun b => if b = a then some (.frz { cls := .type "list", data := .seq vs.toArray } (.lst (ns.map V.int))) else none) (fun b => ?_) (.inl (.inr ⟨_, at_a⟩)) (.inl fun z => by rw [show (if a = a then _ else _) = _ from at_a] at z; cases z) (fun b u z => ?_) (fun b z => ?_) fun _ => hk
    · by_cases hb : b = a
      · exact .inr ⟨_, _, if_pos hb⟩
      · exact .inl (if_neg hb)
    · by_cases hb : b = a
      · have z' := (if_pos hb).symm.trans z
        cases z'
        subst hb
        exact ⟨ha, by rw [List.length_map]; exact hl, vs, _, rv, ha⟩
      · have z' := (if_neg hb).symm.trans z
        cases z'
    · by_cases hb : b = a
      · exact hb
      · exact absurd (if_neg hb) z
/-- the goal behind the head, from the law's meaning -/
theorem walkG {l : PySem.W.OpenLaw} {n k : Nat} {q : Program} {loose : List Str} {XP : (Str → Option Value) → Heap → Prop} {YP : World → Heap → Prop} {d : DefRec} {K : Params → PySem.W.Frag} {F : FSem} {x : Str}
    (hn : l.most = some n) (hn2 : n ≤ sizeLine) (hdf : d.params.defaults = []) (room : Room k callerA) (hY : ∀ (w : World) (h : Heap), YP w h → (K w.params).In h)
    (G : ∀ (w : World) (mg : Str → Option Value) (fa : Addr) (h : Heap), (K w.params).In h → h.Ns mainGlobals mg → mg d.name = some (.ref fa) →
      ∃ fd : FuncData, (∀ (s : Shared) (u : Value), BindsTo s fd ⟨[u], []⟩ [(x, u)]) ∧ ∀ base : Heap, (K w.params).In base → base.Ns mainGlobals mg → FnG l.prog w (K w.params) mg base k fa fd [x] F)
    (hF : ∀ ns : List Int, ns.length ≤ n → ∃ outs, F [.giv (ns.map PyData.int)] = .ret (.val (.bool true)) outs) : PySem.W.WalkO q loose XP YP l.row.toRowW d [] (fun f vs => PySem.call f vs) := by
  refine Att.attach_call hn hdf fun w s₀ s₁ mg mb fa o pm cd doc a vs ns T Y ho hd hcd hmg hobj hints hlen hgen => ?_
  obtain ⟨fd, hb, hG⟩ := G w mg fa _ (hY w _ Y) T.T.g hmg
  exact law_callG (hY w _ Y) T.T.g T.T.b T.T.builtins T.T.nolimit hgen hobj hints (Nat.le_trans hlen hn2) room hG hb (hF ns hlen)
/-! ### what the top has written -/
def Facts (K : PySem.W.Frag) (x : Str) (st : Stmt) : Prop := ∃ (f : Addr) (oc : Value) (od an : Option Addr) (osl : Array (Option Value)) (kV doc pm cdv ct : Value), PySem.W.nsIn K mainGlobals x = some (some (.ref f)) ∧
  K.lookup f = some ⟨oc, od, .func (PySem.W.fnOf x x (defArgs st) (defBody st) (defScope st) .none kV doc pm an cdv ct), osl⟩ ∧ PySem.W.codeIn K cdv x = true ∧ PySem.W.keepIn K (.ref f) = true
theorem facts_mk {K : PySem.W.Frag} {x : Str} {st : Stmt} {f : Addr} {oc : Value} {od an : Option Addr} {osl : Array (Option Value)} {kV doc pm cdv ct : Value} (h1 : PySem.W.nsIn K mainGlobals x = some (some (.ref f)))
    (h2 : K.lookup f = some ⟨oc, od, .func (PySem.W.fnOf x x (defArgs st) (defBody st) (defScope st) .none kV doc pm an cdv ct), osl⟩) (h3 : PySem.W.codeIn K cdv x = true) (h4 : PySem.W.keepIn K (.ref f) = true) : Facts K x st := ⟨f, oc, od, an, osl, kV, doc, pm, cdv, ct, h1, h2, h3, h4⟩
def NoneAll (K : PySem.W.Frag) : List Str → Prop
  | [] => True
  | x :: xs => PySem.W.nsIn K mainGlobals x = some none ∧ NoneAll K xs
section
variable {K : PySem.W.Frag} {h : Heap} {mg : Str → Option Value}
theorem NoneAll.bl (X : K.In h) (G : h.Ns mainGlobals mg) : ∀ {xs : List Str}, NoneAll K xs → ∀ x, xs.contains x = true → mg x = none
  | [], _, x, hx => by simp at hx
  | y :: ys, hn, x, hx => by
    rw [List.contains_cons, Bool.or_eq_true] at hx
    rcases hx with hx | hx
    · have : x = y := by simpa using hx
      subst this
      exact PySem.W.mg_none_of X G hn.1
    · exact NoneAll.bl X G hn.2 x hx
theorem DefOk.of (X : K.In h) (G : h.Ns mainGlobals mg) {d : DefE} (F : Facts K d.name d.st) (Sc : FnScope d.N d.ps (defScope d.st))
    (hk : ∀ (kV doc pm : Value) (an : Option Addr) (cdv ct : Value), ∀ sh ∈ d.shapes, KB K (PySem.W.fnOf d.name d.name (defArgs d.st) (defBody d.st) (defScope d.st) .none kV doc pm an cdv ct) d.ps sh.n sh.ks sh.perm) : DefOk K mg d := by
  obtain ⟨f, oc, od, an, osl, kV, doc, pm, cdv, ct, h1, h2, h3, h4⟩ := F
  exact ⟨f, _, L2.fun_mk (st := d.st) h2 h3 h4, PySem.W.mg_of X G h1, Sc, hk _ _ _ _ _ _⟩
theorem law_of (X : K.In h) (G : h.Ns mainGlobals mg) {d : DefE} (F : Facts K d.name d.st) {fa : Addr} (hfa : mg d.name = some (.ref fa)) {x : Str}
    (hb : ∀ (kV doc pm : Value) (an : Option Addr) (cdv ct : Value) (s : Shared) (u : Value), BindsTo s (PySem.W.fnOf d.name d.name (defArgs d.st) (defBody d.st) (defScope d.st) .none kV doc pm an cdv ct) ⟨[u], []⟩ [(x, u)]) :
    ∃ fd, L2.Fun K d.name d.name d.st fa fd ∧ True ∧ ∀ (s : Shared) (u : Value), BindsTo s fd ⟨[u], []⟩ [(x, u)] := by
  obtain ⟨f, oc, od, an, osl, kV, doc, pm, cdv, ct, h1, h2, h3, h4⟩ := F
  have e := hfa.symm.trans (PySem.W.mg_of X G h1)
  cases e
  exact ⟨_, L2.fun_mk (st := d.st) h2 h3 h4, trivial, hb _ _ _ _ _ _⟩
end
end Ev
namespace Law
open PySem PySem.Spec PyProof.Rows L2 Ev
def topS (i : Nat) : Stmt := PySem.Challenge.pw_idsremembered_k10_matchings.main.body.getD i (.Pass ⟨0, 0, 0, 0⟩)
def md : Mod0 := ⟨["abs", "bool", "int", "isinstance", "len", "max", "min", "range", "repr", "sorted", "tuple"], ["script"]⟩
abbrev tb0 : List Ent := []
def d0 : DefE := ⟨"is_integer", topS 4, ["thing"], ["thing"], [], 1000, [⟨1, [], [0], [false]⟩]⟩
def s0 : FSem := semOf md tb0 d0 -- is_integer
def tb1 : List Ent := tb0 ++ entsOf d0 s0
def d1 : DefE := ⟨"is_from", topS 5, ["low", "thing"], ["low", "thing"], [], 1000, [⟨2, [], [0, 1], [false, false]⟩]⟩
def s1 : FSem := semOf md tb1 d1 -- is_from
def tb2 : List Ent := tb1 ++ entsOf d1 s1
def d2 : DefE := ⟨"check_number", topS 6, ["thing"], ["thing"], [], 1000, [⟨1, [], [0], [false]⟩]⟩
def s2 : FSem := semOf md tb2 d2 -- check_number
def tb3 : List Ent := tb2 ++ entsOf d2 s2
def d3 : DefE := ⟨"matchings_in", topS 8, ["number", "other_number", "found", "latest", "longer", "pairs", "taken", "at", "to"], ["number", "other_number"], [], 1000, [⟨2, [], [0, 1], [false, false]⟩]⟩
def s3 : FSem := semOf md tb3 d3 -- matchings_in
def tb4 : List Ent := tb3 ++ entsOf d3 s3
def d4 : DefE := ⟨"matchings", topS 9, ["number", "other_number"], ["number", "other_number"], [], 1000, [⟨2, [], [0, 1], [false, false]⟩, ⟨0, ["other_number", "number"], [1, 0], [false, false]⟩]⟩
def s4 : FSem := semOf md tb4 d4 -- matchings
def tb5 : List Ent := tb4 ++ entsOf d4 s4
def d5 : DefE := ⟨"matching_count", topS 10, ["number", "other_number", "found", "ways", "many"], ["number", "other_number"], [], 1000, [⟨2, [], [0, 1], [false, false]⟩, ⟨0, ["other_number", "number"], [1, 0], [false, false]⟩]⟩
def s5 : FSem := semOf md tb5 d5 -- matching_count
def tb6 : List Ent := tb5 ++ entsOf d5 s5
def d6 : DefE := ⟨"_law_well", topS 12, ["script", "at", "mixed", "cell", "own"], ["script", "at"], [], 1000, [⟨2, [], [0, 1], [true, false]⟩]⟩
def s6 : FSem := semOf md tb6 d6 -- _law_well
def tb7 : List Ent := tb6 ++ entsOf d6 s6
def d7 : DefE := ⟨"_law_take", topS 13, ["well", "many", "figure", "one"], ["well", "many"], [], 1000, [⟨2, [], [0, 1], [true, false]⟩]⟩
def s7 : FSem := semOf md tb7 d7 -- _law_take
def tb8 : List Ent := tb7 ++ entsOf d7 s7
def d8 : DefE := ⟨"_law_pick", topS 14, ["well", "things"], ["well", "things"], [], 1000, []⟩
def s8 : FSem := semOf md tb8 d8 -- _law_pick
def tb9 : List Ent := tb8 ++ entsOf d8 s8
def d9 : DefE := ⟨"_law_same", topS 15, ["told", "due"], ["told", "due"], [], 1000, [⟨2, [], [0, 1], [false, false]⟩]⟩
def s9 : FSem := semOf md tb9 d9 -- _law_same
def tb10 : List Ent := tb9 ++ entsOf d9 s9
def d10 : DefE := ⟨"_law_all", topS 16, ["number", "other", "found", "at", "more", "pairs", "taken", "pair", "to"], ["number", "other"], [], 1000, [⟨2, [], [0, 1], [false, false]⟩]⟩
def s10 : FSem := semOf md tb10 d10 -- _law_all
def tb11 : List Ent := tb10 ++ entsOf d10 s10
def d11 : DefE := ⟨"_law_sum", topS 17, ["number", "other", "total", "many", "ways", "below", "turn"], ["number", "other"], [], 1000, [⟨2, [], [0, 1], [false, false]⟩]⟩
def s11 : FSem := semOf md tb11 d11 -- _law_sum
def tb12 : List Ent := tb11 ++ entsOf d11 s11
def d12 : DefE := ⟨"_law_right", topS 18, ["well", "number", "other", "due", "turned", "pairs", "at", "to"], ["well"], [], 1000, [⟨1, [], [0], [true]⟩]⟩
def s12 : FSem := semOf md tb12 d12 -- _law_right
def tb13 : List Ent := tb12 ++ entsOf d12 s12
def d13 : DefE := ⟨"law", topS 19, ["script", "at", "well", "turn"], ["script"], [], 1000, []⟩
def s13 : FSem := semOf md tb13 d13 -- law
def tb14 : List Ent := tb13 ++ entsOf d13 s13
theorem sc_ok : FnScope d0.N d0.ps (defScope d0.st) ∧ FnScope d1.N d1.ps (defScope d1.st) ∧ FnScope d2.N d2.ps (defScope d2.st) ∧ FnScope d3.N d3.ps (defScope d3.st) ∧ FnScope d4.N d4.ps (defScope d4.st) ∧ FnScope d5.N d5.ps (defScope d5.st) ∧ FnScope d6.N d6.ps (defScope d6.st) ∧ FnScope d7.N d7.ps (defScope d7.st) ∧ FnScope d8.N d8.ps (defScope d8.st) ∧ FnScope d9.N d9.ps (defScope d9.st) ∧ FnScope d10.N d10.ps (defScope d10.st) ∧ FnScope d11.N d11.ps (defScope d11.st) ∧ FnScope d12.N d12.ps (defScope d12.st) ∧ FnScope d13.N d13.ps (defScope d13.st) := by
  refine ⟨?_, ?_, ?_, ?_, ?_, ?_, ?_, ?_, ?_, ?_, ?_, ?_, ?_, ?_⟩ <;> exact ⟨rfl, rfl, rfl, by decide +kernel, rfl, by decide +kernel, by decide +kernel⟩
theorem kb0 {K : PySem.W.Frag} (kV doc pm : Value) (an : Option Addr) (cdv ct : Value) : ∀ sh ∈ d0.shapes, KB K (PySem.W.fnOf d0.name d0.name (defArgs d0.st) (defBody d0.st) (defScope d0.st) .none kV doc pm an cdv ct) d0.ps sh.n sh.ks sh.perm := by
  intro sh h
  simp only [d0, List.mem_cons, List.not_mem_nil, or_false] at h
  subst h
  · exact fun s us ws _ h1 h2 => match us, ws, h1, h2 with | [_], [], _, _ => .of_eq rfl
theorem kb1 {K : PySem.W.Frag} (kV doc pm : Value) (an : Option Addr) (cdv ct : Value) : ∀ sh ∈ d1.shapes, KB K (PySem.W.fnOf d1.name d1.name (defArgs d1.st) (defBody d1.st) (defScope d1.st) .none kV doc pm an cdv ct) d1.ps sh.n sh.ks sh.perm := by
  intro sh h
  simp only [d1, List.mem_cons, List.not_mem_nil, or_false] at h
  subst h
  · exact fun s us ws _ h1 h2 => match us, ws, h1, h2 with | [_, _], [], _, _ => .of_eq rfl
theorem kb2 {K : PySem.W.Frag} (kV doc pm : Value) (an : Option Addr) (cdv ct : Value) : ∀ sh ∈ d2.shapes, KB K (PySem.W.fnOf d2.name d2.name (defArgs d2.st) (defBody d2.st) (defScope d2.st) .none kV doc pm an cdv ct) d2.ps sh.n sh.ks sh.perm := by
  intro sh h
  simp only [d2, List.mem_cons, List.not_mem_nil, or_false] at h
  subst h
  · exact fun s us ws _ h1 h2 => match us, ws, h1, h2 with | [_], [], _, _ => .of_eq rfl
theorem kb3 {K : PySem.W.Frag} (kV doc pm : Value) (an : Option Addr) (cdv ct : Value) : ∀ sh ∈ d3.shapes, KB K (PySem.W.fnOf d3.name d3.name (defArgs d3.st) (defBody d3.st) (defScope d3.st) .none kV doc pm an cdv ct) d3.ps sh.n sh.ks sh.perm := by
  intro sh h
  simp only [d3, List.mem_cons, List.not_mem_nil, or_false] at h
  subst h
  · exact fun s us ws _ h1 h2 => match us, ws, h1, h2 with | [_, _], [], _, _ => .of_eq rfl
theorem kb4 {K : PySem.W.Frag} (kV doc pm : Value) (an : Option Addr) (cdv ct : Value) : ∀ sh ∈ d4.shapes, KB K (PySem.W.fnOf d4.name d4.name (defArgs d4.st) (defBody d4.st) (defScope d4.st) .none kV doc pm an cdv ct) d4.ps sh.n sh.ks sh.perm := by
  intro sh h
  simp only [d4, List.mem_cons, List.not_mem_nil, or_false] at h
  rcases h with rfl | rfl
  · exact fun s us ws _ h1 h2 => match us, ws, h1, h2 with | [_, _], [], _, _ => .of_eq rfl
  · exact fun s us ws _ h1 h2 => match us, ws, h1, h2 with | [], [_, _], _, _ => .of_eq rfl
theorem kb5 {K : PySem.W.Frag} (kV doc pm : Value) (an : Option Addr) (cdv ct : Value) : ∀ sh ∈ d5.shapes, KB K (PySem.W.fnOf d5.name d5.name (defArgs d5.st) (defBody d5.st) (defScope d5.st) .none kV doc pm an cdv ct) d5.ps sh.n sh.ks sh.perm := by
  intro sh h
  simp only [d5, List.mem_cons, List.not_mem_nil, or_false] at h
  rcases h with rfl | rfl
  · exact fun s us ws _ h1 h2 => match us, ws, h1, h2 with | [_, _], [], _, _ => .of_eq rfl
  · exact fun s us ws _ h1 h2 => match us, ws, h1, h2 with | [], [_, _], _, _ => .of_eq rfl
theorem kb6 {K : PySem.W.Frag} (kV doc pm : Value) (an : Option Addr) (cdv ct : Value) : ∀ sh ∈ d6.shapes, KB K (PySem.W.fnOf d6.name d6.name (defArgs d6.st) (defBody d6.st) (defScope d6.st) .none kV doc pm an cdv ct) d6.ps sh.n sh.ks sh.perm := by
  intro sh h
  simp only [d6, List.mem_cons, List.not_mem_nil, or_false] at h
  subst h
  · exact fun s us ws _ h1 h2 => match us, ws, h1, h2 with | [_, _], [], _, _ => .of_eq rfl
theorem kb7 {K : PySem.W.Frag} (kV doc pm : Value) (an : Option Addr) (cdv ct : Value) : ∀ sh ∈ d7.shapes, KB K (PySem.W.fnOf d7.name d7.name (defArgs d7.st) (defBody d7.st) (defScope d7.st) .none kV doc pm an cdv ct) d7.ps sh.n sh.ks sh.perm := by
  intro sh h
  simp only [d7, List.mem_cons, List.not_mem_nil, or_false] at h
  subst h
  · exact fun s us ws _ h1 h2 => match us, ws, h1, h2 with | [_, _], [], _, _ => .of_eq rfl
theorem kb8 {K : PySem.W.Frag} (kV doc pm : Value) (an : Option Addr) (cdv ct : Value) : ∀ sh ∈ d8.shapes, KB K (PySem.W.fnOf d8.name d8.name (defArgs d8.st) (defBody d8.st) (defScope d8.st) .none kV doc pm an cdv ct) d8.ps sh.n sh.ks sh.perm := by
  intro sh h
  cases h
theorem kb9 {K : PySem.W.Frag} (kV doc pm : Value) (an : Option Addr) (cdv ct : Value) : ∀ sh ∈ d9.shapes, KB K (PySem.W.fnOf d9.name d9.name (defArgs d9.st) (defBody d9.st) (defScope d9.st) .none kV doc pm an cdv ct) d9.ps sh.n sh.ks sh.perm := by
  intro sh h
  simp only [d9, List.mem_cons, List.not_mem_nil, or_false] at h
  subst h
  · exact fun s us ws _ h1 h2 => match us, ws, h1, h2 with | [_, _], [], _, _ => .of_eq rfl
theorem kb10 {K : PySem.W.Frag} (kV doc pm : Value) (an : Option Addr) (cdv ct : Value) : ∀ sh ∈ d10.shapes, KB K (PySem.W.fnOf d10.name d10.name (defArgs d10.st) (defBody d10.st) (defScope d10.st) .none kV doc pm an cdv ct) d10.ps sh.n sh.ks sh.perm := by
  intro sh h
  simp only [d10, List.mem_cons, List.not_mem_nil, or_false] at h
  subst h
  · exact fun s us ws _ h1 h2 => match us, ws, h1, h2 with | [_, _], [], _, _ => .of_eq rfl
theorem kb11 {K : PySem.W.Frag} (kV doc pm : Value) (an : Option Addr) (cdv ct : Value) : ∀ sh ∈ d11.shapes, KB K (PySem.W.fnOf d11.name d11.name (defArgs d11.st) (defBody d11.st) (defScope d11.st) .none kV doc pm an cdv ct) d11.ps sh.n sh.ks sh.perm := by
  intro sh h
  simp only [d11, List.mem_cons, List.not_mem_nil, or_false] at h
  subst h
  · exact fun s us ws _ h1 h2 => match us, ws, h1, h2 with | [_, _], [], _, _ => .of_eq rfl
theorem kb12 {K : PySem.W.Frag} (kV doc pm : Value) (an : Option Addr) (cdv ct : Value) : ∀ sh ∈ d12.shapes, KB K (PySem.W.fnOf d12.name d12.name (defArgs d12.st) (defBody d12.st) (defScope d12.st) .none kV doc pm an cdv ct) d12.ps sh.n sh.ks sh.perm := by
  intro sh h
  simp only [d12, List.mem_cons, List.not_mem_nil, or_false] at h
  subst h
  · exact fun s us ws _ h1 h2 => match us, ws, h1, h2 with | [_], [], _, _ => .of_eq rfl
theorem kb13 {K : PySem.W.Frag} (kV doc pm : Value) (an : Option Addr) (cdv ct : Value) : ∀ sh ∈ d13.shapes, KB K (PySem.W.fnOf d13.name d13.name (defArgs d13.st) (defBody d13.st) (defScope d13.st) .none kV doc pm an cdv ct) d13.ps sh.n sh.ks sh.perm := by
  intro sh h
  cases h
theorem all_mk {l : PySem.W.OpenLaw} {w : World} {K : PySem.W.Frag} {h : Heap} {mg : Str → Option Value} {fa : Addr} (X : K.In h) (G : h.Ns mainGlobals mg) (hfa : mg "law" = some (.ref fa)) (fb : NoneAll K md.bl) (f0 : Facts K "is_integer" (topS 4)) (f1 : Facts K "is_from" (topS 5)) (f2 : Facts K "check_number" (topS 6)) (f3 : Facts K "matchings_in" (topS 8)) (f4 : Facts K "matchings" (topS 9)) (f5 : Facts K "matching_count" (topS 10)) (f6 : Facts K "_law_well" (topS 12)) (f7 : Facts K "_law_take" (topS 13)) (f8 : Facts K "_law_pick" (topS 14)) (f9 : Facts K "_law_same" (topS 15)) (f10 : Facts K "_law_all" (topS 16)) (f11 : Facts K "_law_sum" (topS 17)) (f12 : Facts K "_law_right" (topS 18)) (f13 : Facts K "law" (topS 19)) :
    ∃ fd : FuncData, (∀ (s : Shared) (u : Value), BindsTo s fd ⟨[u], []⟩ [("script", u)]) ∧ ∀ base : Heap, K.In base → base.Ns mainGlobals mg → FnG l.prog w K mg base 14 fa fd ["script"] s13 := by
  obtain ⟨c0, c1, c2, c3, c4, c5, c6, c7, c8, c9, c10, c11, c12, c13⟩ := sc_ok
  have hbl := fb.bl X G
  have o0 : DefOk K mg d0 := DefOk.of X G f0 c0 kb0
  have o1 : DefOk K mg d1 := DefOk.of X G f1 c1 kb1
  have o2 : DefOk K mg d2 := DefOk.of X G f2 c2 kb2
  have o3 : DefOk K mg d3 := DefOk.of X G f3 c3 kb3
  have o4 : DefOk K mg d4 := DefOk.of X G f4 c4 kb4
  have o5 : DefOk K mg d5 := DefOk.of X G f5 c5 kb5
  have o6 : DefOk K mg d6 := DefOk.of X G f6 c6 kb6
  have o7 : DefOk K mg d7 := DefOk.of X G f7 c7 kb7
  have o8 : DefOk K mg d8 := DefOk.of X G f8 c8 kb8
  have o9 : DefOk K mg d9 := DefOk.of X G f9 c9 kb9
  have o10 : DefOk K mg d10 := DefOk.of X G f10 c10 kb10
  have o11 : DefOk K mg d11 := DefOk.of X G f11 c11 kb11
  have o12 : DefOk K mg d12 := DefOk.of X G f12 c12 kb12
  obtain ⟨fd, F, e, b⟩ := law_of (d := d13) (x := "script") X G f13 hfa (fun _ _ _ _ _ _ _ _ => .of_eq rfl)
  refine ⟨fd, b, fun base _ _ => ?_⟩
  have t0 : ∀ t ∈ tb0, EntOk l.prog w K mg base 0 t := fun t h => absurd h (by simp)
  have t1 : ∀ t ∈ tb1, EntOk l.prog w K mg base 1 t := ents_ok (m := md) (d := d0) hbl t0 o0
  have t2 : ∀ t ∈ tb2, EntOk l.prog w K mg base 2 t := ents_ok (m := md) (d := d1) hbl t1 o1
  have t3 : ∀ t ∈ tb3, EntOk l.prog w K mg base 3 t := ents_ok (m := md) (d := d2) hbl t2 o2
  have t4 : ∀ t ∈ tb4, EntOk l.prog w K mg base 4 t := ents_ok (m := md) (d := d3) hbl t3 o3
  have t5 : ∀ t ∈ tb5, EntOk l.prog w K mg base 5 t := ents_ok (m := md) (d := d4) hbl t4 o4
  have t6 : ∀ t ∈ tb6, EntOk l.prog w K mg base 6 t := ents_ok (m := md) (d := d5) hbl t5 o5
  have t7 : ∀ t ∈ tb7, EntOk l.prog w K mg base 7 t := ents_ok (m := md) (d := d6) hbl t6 o6
  have t8 : ∀ t ∈ tb8, EntOk l.prog w K mg base 8 t := ents_ok (m := md) (d := d7) hbl t7 o7
  have t9 : ∀ t ∈ tb9, EntOk l.prog w K mg base 9 t := ents_ok (m := md) (d := d8) hbl t8 o8
  have t10 : ∀ t ∈ tb10, EntOk l.prog w K mg base 10 t := ents_ok (m := md) (d := d9) hbl t9 o9
  have t11 : ∀ t ∈ tb11, EntOk l.prog w K mg base 11 t := ents_ok (m := md) (d := d10) hbl t10 o10
  have t12 : ∀ t ∈ tb12, EntOk l.prog w K mg base 12 t := ents_ok (m := md) (d := d11) hbl t11 o11
  have t13 : ∀ t ∈ tb13, EntOk l.prog w K mg base 13 t := ents_ok (m := md) (d := d12) hbl t12 o12
  exact def_ok hbl t13 F c13
def c0_1 : MS := (sRet (mAndV (mOp1 (opIsa PyData.isInt) (mBor 0)) (mNotV (toB (mOp1 (opIsa PyData.isBool) (mBor 0))))))
def b0 : MS := (sSeq c0_1 sNext)
theorem s0_eq : s0 = fnSem 1 1 b0 := by
  show fnSem d0.N.length d0.ps.length (evS (rc 40) (ctxOf md tb0 d0) 12 (defBody d0.st)) = _
  have h : evS (rc 40) (ctxOf md tb0 d0) 12 (defBody d0.st) = b0 := by kernel_rfl
  rw [h]; rfl
def c1_1 : MS := (sRet (mAndV (mCallK s0 [0] 1 0 (mCons (toB (mName 1)) mNil) mNil) (mOp2 (cmpRet cGe) (mBor 1) (mBor 0))))
def b1 : MS := (sSeq c1_1 sNext)
theorem s1_eq : s1 = fnSem 2 2 b1 := by
  show fnSem d1.N.length d1.ps.length (evS (rc 40) (ctxOf md tb1 d1) 12 (defBody d1.st)) = _
  have h : evS (rc 40) (ctxOf md tb1 d1) 12 (defBody d1.st) = b1 := by kernel_rfl
  rw [h]; rfl
def c2_1 : MS := (sIf (mNotT (mTru (toB (mCallK s1 [0, 1] 2 0 (mCons (toB (mCst (.int 0))) (mCons (toB (mName 0)) mNil)) mNil)))) (sSeq sNo
  sNext) sNext)
def b2 : MS := (sSeq c2_1 sNext)
theorem s2_eq : s2 = fnSem 1 1 b2 := by
  show fnSem d2.N.length d2.ps.length (evS (rc 40) (ctxOf md tb2 d2) 12 (defBody d2.st)) = _
  have h : evS (rc 40) (ctxOf md tb2 d2) 12 (defBody d2.st) = b2 := by kernel_rfl
  rw [h]; rfl
def b3_1 : MS := (sSeq (sExpr (mMt 4 lExt (mCons (toB (mLc [8] (mItR1 (mBor 1)) (.nm 8) (mTst (mOp2 (cmpRet cNotIn) (mBor 8) (mBor 6))) (mOp2 opAdd (mBor 5) (toB (mTup (mCons (toB (mTup (mCons (toB (mName 7)) (mCons (toB (mName 8)) mNil)))) mNil)))))) mNil)))
  sNext)
def b3_2 : MS := (sSeq (sAsgN 6 (mLc [7, 8] (mItV (mName 5)) (.tp [(.nm 7), (.nm 8)]) mYes (mName 8)))
  (sSeq (sFor (mItR2 (toB (mIfE (mTst (mOp2 (cmpRet cNe) (mBor 5) (toB (mTup mNil)))) (mOp2 opAdd (toB (mOp2 opIx (toB (mOp2 opIx (mBor 5) (toB (mOp1 opNeg (toB (mCst (.int 1))))))) (toB (mCst (.int 0))))) (toB (mCst (.int 1)))) (mCst (.int 0)))) (mBor 0)) (.nm 7) b3_1)
  sNext))
def b3_3 : MS := (sSeq (sAsgN 4 (mLst mNil))
  (sSeq (sFor (mItV (mName 3)) (.nm 5) b3_2)
  (sSeq (sAsgN 3 (mMove 4))
  (sSeq (sExpr (mMt 2 lExt (mCons (mBor 3) mNil)))
  sNext))))
def c3_1 : MS := (sPar 2 3 (mLst (mCons (toB (mTup mNil)) mNil)) (mLst (mCons (toB (mTup mNil)) mNil)))
def c3_2 : MS := (sWhile 1000 (mTst (mOp2 (cmpRet cNe) (mBor 3) (toB (mLst mNil)))) b3_3)
def c3_3 : MS := (sRet (mOps bSort (mCons (mBor 2) mNil)))
def b3 : MS := (sSeq c3_1 (sSeq c3_2 (sSeq c3_3 sNext)))
theorem s3_eq : s3 = fnSem 9 2 b3 := by
  show fnSem d3.N.length d3.ps.length (evS (rc 40) (ctxOf md tb3 d3) 12 (defBody d3.st)) = _
  have h : evS (rc 40) (ctxOf md tb3 d3) 12 (defBody d3.st) = b3 := by kernel_rfl
  rw [h]; rfl
def c4_1 : MS := (sExpr (mCallK s2 [0] 1 0 (mCons (toB (mName 0)) mNil) mNil))
def c4_2 : MS := (sExpr (mCallK s2 [0] 1 0 (mCons (toB (mName 1)) mNil) mNil))
def c4_3 : MS := (sRet (mOps bTuple (mCons (toB (mCallK s3 [0, 1] 2 0 (mCons (toB (mName 0)) (mCons (toB (mName 1)) mNil)) mNil)) mNil)))
def b4 : MS := (sSeq c4_1 (sSeq c4_2 (sSeq c4_3 sNext)))
theorem s4_eq : s4 = fnSem 2 2 b4 := by
  show fnSem d4.N.length d4.ps.length (evS (rc 40) (ctxOf md tb4 d4) 12 (defBody d4.st)) = _
  have h : evS (rc 40) (ctxOf md tb4 d4) 12 (defBody d4.st) = b4 := by kernel_rfl
  rw [h]; rfl
def b5_1 : MS := (sSeq (sAsgN 3 (mOp2 opDiv (toB (mOp2 opMul (toB (mOp2 opMul (mBor 3) (toB (mOp2 opSub (mBor 0) (mBor 4))))) (toB (mOp2 opSub (mBor 1) (mBor 4))))) (toB (mOp2 opAdd (mBor 4) (toB (mCst (.int 1)))))))
  (sSeq (sAug 2 (fun i j => i + j) (mBor 3))
  sNext))
def c5_1 : MS := (sExpr (mCallK s2 [0] 1 0 (mCons (toB (mName 0)) mNil) mNil))
def c5_2 : MS := (sExpr (mCallK s2 [0] 1 0 (mCons (toB (mName 1)) mNil) mNil))
def c5_3 : MS := (sAsgT (.tp [(.nm 2), (.nm 3)]) (mTup (mCons (toB (mCst (.int 1))) (mCons (toB (mCst (.int 1))) mNil))))
def c5_4 : MS := (sFor (mItR1 (toB (mOps bMin (mCons (mBor 0) (mCons (mBor 1) mNil))))) (.nm 4) b5_1)
def c5_5 : MS := (sRet (mMove 2))
def b5 : MS := (sSeq c5_1 (sSeq c5_2 (sSeq c5_3 (sSeq c5_4 (sSeq c5_5 sNext)))))
theorem s5_eq : s5 = fnSem 5 2 b5 := by
  show fnSem d5.N.length d5.ps.length (evS (rc 40) (ctxOf md tb5 d5) 12 (defBody d5.st)) = _
  have h : evS (rc 40) (ctxOf md tb5 d5) 12 (defBody d5.st) = b5 := by kernel_rfl
  rw [h]; rfl
def b6_1 : MS := (sSeq (sAsgN 2 (mOp2 opMod (toB (mOps bInt (mCons (toB (mOp2 opAdd (toB (mOp2 opAdd (toB (mOp2 opMul (mBor 2) (toB (mCst (.int 1000003))))) (toB (mOp2 opMul (toB (mOps bInt (mCons (mBor 3) mNil))) (toB (mCst (.int 7368787))))))) (toB (mCst (.int 911))))) mNil))) (toB (mOp2 opAdd (toB (mOp2 opPow (toB (mCst (.int 10))) (toB (mCst (.int 28))))) (toB (mCst (.int 331)))))))
  sNext)
def c6_1 : MS := (sAsgN 2 (mOp2 opAdd (toB (mOp2 opAdd (toB (mOp2 opMul (toB (mCst (.int 7919))) (mBor 1))) (toB (mOp2 opMul (toB (mCst (.int 31))) (toB (mOps bLen (mCons (toB (mSlG 0 none (some (toB (mCst (.int 63)))))) mNil))))))) (toB (mCst (.int 5)))))
def c6_2 : MS := (sFor (mItV (mSlG 0 none (some (toB (mCst (.int 63)))))) (.nm 3) b6_1)
def c6_3 : MS := (sAsgN 4 (mIfE (mTst (mOp2 (cmpRet cLt) (mBor 1) (toB (mLenG 0)))) (mOps bAbs (mCons (toB (mOps bInt (mCons (toB (mIxG 0 (mBor 1))) mNil))) mNil)) (mCst (.int 0))))
def c6_4 : MS := (sRet (mLst (mCons (toB (mOps bMax (mCons (toB (mCst (.int 0))) (mCons (toB (mOp2 opSub (mBor 4) (toB (mOp2 opPow (toB (mCst (.int 10))) (toB (mCst (.int 18))))))) mNil)))) (mCons (toB (mName 2)) (mCons (toB (mCst (.int 0))) mNil)))))
def b6 : MS := (sSeq c6_1 (sSeq c6_2 (sSeq c6_3 (sSeq c6_4 sNext))))
theorem s6_eq : s6 = fnSem 5 2 b6 := by
  show fnSem d6.N.length d6.ps.length (evS (rc 40) (ctxOf md tb6 d6) 12 (defBody d6.st)) = _
  have h : evS (rc 40) (ctxOf md tb6 d6) 12 (defBody d6.st) = b6 := by kernel_rfl
  rw [h]; rfl
def c7_1 : MS := (sIf (mTst (mOp2 (cmpRet cGt) (toB (mOp2 opIx (mBor 0) (toB (mCst (.int 0))))) (toB (mCst (.int 0))))) (sSeq (sAsgN 2 (mOp2 opMod (toB (mOps bInt (mCons (toB (mOp2 opIx (mBor 0) (toB (mCst (.int 0))))) mNil))) (mBor 1)))
  (sSeq (sSetIx 0 (toB (mCst (.int 0))) (mOp2 opDiv (toB (mOp2 opIx (mBor 0) (toB (mCst (.int 0))))) (mBor 1)))
  (sSeq (sRet (mMove 2))
  sNext))) sNext)
def c7_2 : MS := (sSetIx 0 (toB (mCst (.int 2))) (mOp2 opAdd (toB (mOp2 opIx (mBor 0) (toB (mCst (.int 2))))) (toB (mCst (.int 1)))))
def c7_3 : MS := (sAsgN 3 (mOp2 opMod (toB (mOps bInt (mCons (toB (mOp2 opAdd (toB (mOp2 opPow (toB (mOp2 opAdd (toB (mOp2 opIx (mBor 0) (toB (mCst (.int 1))))) (toB (mOp2 opMul (toB (mCst (.int 74207281))) (toB (mOp2 opIx (mBor 0) (toB (mCst (.int 2))))))))) (toB (mCst (.int 2))))) (toB (mOp2 opMul (toB (mCst (.int 60013))) (toB (mOp2 opIx (mBor 0) (toB (mCst (.int 2))))))))) mNil))) (toB (mOp2 opAdd (toB (mOp2 opPow (toB (mCst (.int 10))) (toB (mCst (.int 27))))) (toB (mCst (.int 103)))))))
def c7_4 : MS := (sRet (mOp2 opMod (toB (mOps bInt (mCons (toB (mOp2 opDiv (mBor 3) (toB (mOp2 opPow (toB (mCst (.int 10))) (toB (mCst (.int 6))))))) mNil))) (mBor 1)))
def b7 : MS := (sSeq c7_1 (sSeq c7_2 (sSeq c7_3 (sSeq c7_4 sNext))))
theorem s7_eq : s7 = fnSem 4 2 b7 := by
  show fnSem d7.N.length d7.ps.length (evS (rc 40) (ctxOf md tb7 d7) 12 (defBody d7.st)) = _
  have h : evS (rc 40) (ctxOf md tb7 d7) 12 (defBody d7.st) = b7 := by kernel_rfl
  rw [h]; rfl
def c8_1 : MS := (sRet (mOp2 opIx (mBor 1) (toB (mCallK s7 [0, 1] 2 0 (mCons (mArg 0) (mCons (toB (mOps bLen (mCons (mBor 1) mNil))) mNil)) mNil))))
def b8 : MS := (sSeq c8_1 sNext)
theorem s8_eq : s8 = fnSem 2 2 b8 := by
  show fnSem d8.N.length d8.ps.length (evS (rc 40) (ctxOf md tb8 d8) 12 (defBody d8.st)) = _
  have h : evS (rc 40) (ctxOf md tb8 d8) 12 (defBody d8.st) = b8 := by kernel_rfl
  rw [h]; rfl
def c9_1 : MS := (sRet (mOp2 (cmpRet cEq) (toB (mOps bRepr (mCons (mBor 0) mNil))) (toB (mOps bRepr (mCons (mBor 1) mNil)))))
def b9 : MS := (sSeq c9_1 sNext)
theorem s9_eq : s9 = fnSem 2 2 b9 := by
  show fnSem d9.N.length d9.ps.length (evS (rc 40) (ctxOf md tb9 d9) 12 (defBody d9.st)) = _
  have h : evS (rc 40) (ctxOf md tb9 d9) 12 (defBody d9.st) = b9 := by kernel_rfl
  rw [h]; rfl
def b10_1 : MS := (sSeq (sAsgN 6 (mLc [7] (mItV (mName 5)) (.nm 7) mYes (mOp2 opIx (mBor 7) (toB (mCst (.int 1))))))
  (sSeq (sExpr (mMt 4 lApp (mCons (toB (mName 5)) mNil)))
  (sSeq (sExpr (mMt 4 lExt (mCons (toB (mLc [8] (mItR1 (mBor 1)) (.nm 8) (mTst (mOp2 (cmpRet cNotIn) (mBor 8) (mBor 6))) (mOp2 opAdd (mBor 5) (toB (mTup (mCons (toB (mTup (mCons (toB (mName 3)) (mCons (toB (mName 8)) mNil)))) mNil)))))) mNil)))
  sNext)))
def b10_2 : MS := (sSeq (sAsgN 4 (mLst mNil))
  (sSeq (sFor (mItV (mName 2)) (.nm 5) b10_1)
  (sSeq (sAsgN 2 (mMove 4))
  sNext)))
def c10_1 : MS := (sAsgN 2 (mLst (mCons (toB (mTup mNil)) mNil)))
def c10_2 : MS := (sFor (mItR1 (mBor 0)) (.nm 3) b10_2)
def c10_3 : MS := (sRet (mOps bTuple (mCons (toB (mOps bSort (mCons (mBor 2) mNil))) mNil)))
def b10 : MS := (sSeq c10_1 (sSeq c10_2 (sSeq c10_3 sNext)))
theorem s10_eq : s10 = fnSem 9 2 b10 := by
  show fnSem d10.N.length d10.ps.length (evS (rc 40) (ctxOf md tb10 d10) 12 (defBody d10.st)) = _
  have h : evS (rc 40) (ctxOf md tb10 d10) 12 (defBody d10.st) = b10 := by kernel_rfl
  rw [h]; rfl
def b11_1 : MS := (sSeq (sAsgN 4 (mOp2 opMul (toB (mOp2 opMul (mBor 4) (toB (mOp2 opSub (mBor 0) (mBor 6))))) (toB (mOp2 opSub (mBor 1) (mBor 6)))))
  (sSeq (sAsgN 5 (mOp2 opMul (mBor 5) (toB (mOp2 opAdd (mBor 6) (toB (mCst (.int 1)))))))
  sNext))
def b11_2 : MS := (sSeq (sAsgT (.tp [(.nm 4), (.nm 5)]) (mTup (mCons (toB (mCst (.int 1))) (mCons (toB (mCst (.int 1))) mNil))))
  (sSeq (sFor (mItR1 (mBor 3)) (.nm 6) b11_1)
  (sSeq (sAsgN 2 (mOp2 opAdd (mBor 2) (toB (mOp2 opDiv (mBor 4) (mBor 5)))))
  sNext)))
def c11_1 : MS := (sAsgN 2 (mCst (.int 0)))
def c11_2 : MS := (sFor (mItR1 (toB (mOp2 opAdd (toB (mOps bMin (mCons (mBor 0) (mCons (mBor 1) mNil)))) (toB (mCst (.int 1)))))) (.nm 3) b11_2)
def c11_3 : MS := (sRet (mMove 2))
def b11 : MS := (sSeq c11_1 (sSeq c11_2 (sSeq c11_3 sNext)))
theorem s11_eq : s11 = fnSem 7 2 b11 := by
  show fnSem d11.N.length d11.ps.length (evS (rc 40) (ctxOf md tb11 d11) 12 (defBody d11.st)) = _
  have h : evS (rc 40) (ctxOf md tb11 d11) 12 (defBody d11.st) = b11 := by kernel_rfl
  rw [h]; rfl
def c12_1 : MS := (sPar 1 2 (mCallK s7 [0, 1] 2 0 (mCons (mArg 0) (mCons (toB (mCst (.int 5))) mNil)) mNil) (mCallK s7 [0, 1] 2 0 (mCons (mArg 0) (mCons (toB (mCst (.int 5))) mNil)) mNil))
def c12_2 : MS := (sAsgN 3 (mCallK s10 [0, 1] 2 0 (mCons (toB (mName 1)) (mCons (toB (mName 2)) mNil)) mNil))
def c12_3 : MS := (sIf (mNotT (mTru (toB (mCallK s9 [0, 1] 2 0 (mCons (toB (mLst (mCons (toB (mCallK s4 [0, 1] 2 0 (mCons (toB (mName 1)) (mCons (toB (mName 2)) mNil)) mNil)) (mCons (toB (mCallK s4 [1, 0] 0 2 mNil (mCons (toB (mName 2)) (mCons (toB (mName 1)) mNil)))) mNil)))) (mCons (toB (mLst (mCons (toB (mName 3)) (mCons (toB (mName 3)) mNil)))) mNil)) mNil)))) (sSeq (sRet (mCst (.bool false)))
  sNext) sNext)
def c12_4 : MS := (sIf (mNotT (mTru (toB (mCallK s9 [0, 1] 2 0 (mCons (toB (mLst (mCons (toB (mCallK s5 [0, 1] 2 0 (mCons (toB (mName 1)) (mCons (toB (mName 2)) mNil)) mNil)) (mCons (toB (mCallK s5 [1, 0] 0 2 mNil (mCons (toB (mName 2)) (mCons (toB (mName 1)) mNil)))) mNil)))) (mCons (toB (mOp2 opMul (toB (mLst (mCons (toB (mOps bLen (mCons (mBor 3) mNil))) mNil))) (toB (mCst (.int 2))))) mNil)) mNil)))) (sSeq (sRet (mCst (.bool false)))
  sNext) sNext)
def c12_5 : MS := (sAsgN 4 (mOps bTuple (mCons (toB (mOps bSort (mCons (toB (mLc [5] (mItV (mName 3)) (.nm 5) mYes (mOps bTuple (mCons (toB (mOps bSort (mCons (toB (mLc [6, 7] (mItV (mName 5)) (.tp [(.nm 6), (.nm 7)]) mYes (mTup (mCons (toB (mName 7)) (mCons (toB (mName 6)) mNil))))) mNil))) mNil)))) mNil))) mNil)))
def c12_6 : MS := (sIf (mNotT (mTru (toB (mCallK s9 [0, 1] 2 0 (mCons (toB (mCallK s4 [0, 1] 2 0 (mCons (toB (mName 2)) (mCons (toB (mName 1)) mNil)) mNil)) (mCons (toB (mName 4)) mNil)) mNil)))) (sSeq (sRet (mCst (.bool false)))
  sNext) sNext)
def c12_7 : MS := (sPar 1 2 (mCallK s7 [0, 1] 2 0 (mCons (mArg 0) (mCons (toB (mCst (.int 61))) mNil)) mNil) (mCallK s7 [0, 1] 2 0 (mCons (mArg 0) (mCons (toB (mCst (.int 61))) mNil)) mNil))
def c12_8 : MS := (sAsgN 3 (mCallK s11 [0, 1] 2 0 (mCons (toB (mName 1)) (mCons (toB (mName 2)) mNil)) mNil))
def c12_9 : MS := (sRet (mCallK s9 [0, 1] 2 0 (mCons (toB (mLst (mCons (toB (mCallK s5 [0, 1] 2 0 (mCons (toB (mName 1)) (mCons (toB (mName 2)) mNil)) mNil)) (mCons (toB (mCallK s5 [0, 1] 2 0 (mCons (toB (mName 2)) (mCons (toB (mName 1)) mNil)) mNil)) mNil)))) (mCons (toB (mLst (mCons (toB (mName 3)) (mCons (toB (mName 3)) mNil)))) mNil)) mNil))
def b12 : MS := (sSeq c12_1 (sSeq c12_2 (sSeq c12_3 (sSeq c12_4 (sSeq c12_5 (sSeq c12_6 (sSeq c12_7 (sSeq c12_8 (sSeq c12_9 sNext)))))))))
theorem s12_eq : s12 = fnSem 8 1 b12 := by
  show fnSem d12.N.length d12.ps.length (evS (rc 40) (ctxOf md tb12 d12) 12 (defBody d12.st)) = _
  have h : evS (rc 40) (ctxOf md tb12 d12) 12 (defBody d12.st) = b12 := by kernel_rfl
  rw [h]; rfl
def b13_1 : MS := (sSeq (sIf (mNotT (mTru (toB (mCallK s12 [0] 1 0 (mCons (mArg 2) mNil) mNil)))) (sSeq (sRet (mCst (.bool false)))
  sNext) sNext)
  sNext)
def b13_2 : MS := (sSeq (sAsgN 2 (mCallK s6 [0, 1] 2 0 (mCons (mArg 0) (mCons (toB (mName 1)) mNil)) mNil))
  (sSeq (sFor (mItR1 (toB (mCst (.int 4)))) (.nm 3) b13_1)
  sNext))
def c13_1 : MS := (sFor (mItR1 (toB (mOps bMax (mCons (toB (mCst (.int 1))) (mCons (toB (mOps bMin (mCons (toB (mCst (.int 4))) (mCons (toB (mLenG 0)) mNil)))) mNil))))) (.nm 1) b13_2)
def c13_2 : MS := (sRet (mCst (.bool true)))
def b13 : MS := (sSeq c13_1 (sSeq c13_2 sNext))
theorem s13_eq : s13 = fnSem 4 1 b13 := by
  show fnSem d13.N.length d13.ps.length (evS (rc 40) (ctxOf md tb13 d13) 12 (defBody d13.st)) = _
  have h : evS (rc 40) (ctxOf md tb13 d13) 12 (defBody d13.st) = b13 := by kernel_rfl
  rw [h]; rfl
end Law
open PySem PySem.Spec PyProof.Rows L2 Ev
namespace Law
theorem log_small {i : Int} {n : Nat} (h : i.natAbs < 2 ^ n) (hn : 0 < n) : i.natAbs.log2 < n := by
  by_cases h0 : i.natAbs = 0
  · rw [h0]; simpa using hn
  · exact (Nat.log2_lt h0).mpr h
theorem mulL {i j : Int} (h : i.natAbs < 2 ^ 63) : mulOk i j = true := by
  unfold mulOk
  simp only [decide_eq_true h, Bool.true_or, Bool.or_true]
theorem mulR {i j : Int} (h : j.natAbs < 2 ^ 63) : mulOk i j = true := by
  unfold mulOk
  simp only [decide_eq_true h, Bool.true_or, Bool.or_true]
def c28 : Int := 10 ^ 28
def c27 : Int := 10 ^ 27
def c18 : Int := 10 ^ 18
def c6 : Int := 10 ^ 6
theorem pow28 : opPow (.int 10) (.int 28) = some (.val (.int c28)) := by kernel_rfl
theorem pow27 : opPow (.int 10) (.int 27) = some (.val (.int c27)) := by kernel_rfl
theorem pow18 : opPow (.int 10) (.int 18) = some (.val (.int c18)) := by kernel_rfl
theorem pow6 : opPow (.int 10) (.int 6) = some (.val (.int c6)) := by kernel_rfl
def wB : Int := c28 + 331
theorem wB_eq : wB = 10000000000000000000000000331 := by decide +kernel
theorem c28_pos : 0 < c28 + 331 := by decide +kernel
theorem c27_pos : 0 < c27 + 103 := by decide +kernel
theorem c6_pos : 0 < c6 := by decide +kernel
theorem c6_log : c6.natAbs.log2 < 9000 := by decide +kernel
theorem pow_ok {i j : Int} (h : 0 ≤ j ∧ ((i.natAbs.log2 : Int) + 1) * j ≤ 2 ^ 27) : opPow (.int i) (.int j) = some (.val (.int (i ^ j.toNat))) := by
  unfold opPow
  exact if_pos h
theorem pow2 {i : Int} (h : i.natAbs.log2 < 1000) : opPow (.int i) (.int 2) = some (.val (.int (i ^ 2))) := by
  exact pow_ok (j := 2) ⟨by omega, by omega⟩
def b7g (P : D → D → Option Ret) : MS := (sSeq (sIf (mTst (mOp2 (cmpRet cGt) (toB (mOp2 opIx (mBor 0) (toB (mCst (.int 0))))) (toB (mCst (.int 0))))) (sSeq (sAsgN 2 (mOp2 opMod (toB (mOps bInt (mCons (toB (mOp2 opIx (mBor 0) (toB (mCst (.int 0))))) mNil))) (mBor 1)))
  (sSeq (sSetIx 0 (toB (mCst (.int 0))) (mOp2 opDiv (toB (mOp2 opIx (mBor 0) (toB (mCst (.int 0))))) (mBor 1)))
  (sSeq (sRet (mMove 2))
  sNext))) sNext)
  (sSeq (sSetIx 0 (toB (mCst (.int 2))) (mOp2 opAdd (toB (mOp2 opIx (mBor 0) (toB (mCst (.int 2))))) (toB (mCst (.int 1)))))
  (sSeq (sAsgN 3 (mOp2 opMod (toB (mOps bInt (mCons (toB (mOp2 opAdd (toB (mOp2 P (toB (mOp2 opAdd (toB (mOp2 opIx (mBor 0) (toB (mCst (.int 1))))) (toB (mOp2 opMul (toB (mCst (.int 74207281))) (toB (mOp2 opIx (mBor 0) (toB (mCst (.int 2))))))))) (toB (mCst (.int 2))))) (toB (mOp2 opMul (toB (mCst (.int 60013))) (toB (mOp2 opIx (mBor 0) (toB (mCst (.int 2))))))))) mNil))) (toB (mOp2 opAdd (toB (mOp2 P (toB (mCst (.int 10))) (toB (mCst (.int 27))))) (toB (mCst (.int 103)))))))
  (sSeq (sRet (mOp2 opMod (toB (mOps bInt (mCons (toB (mOp2 opDiv (mBor 3) (toB (mOp2 P (toB (mCst (.int 10))) (toB (mCst (.int 6))))))) mNil))) (mBor 1)))
  sNext))))
theorem take_gen (P : D → D → Option Ret) (Q : Int) (a b c m : Int) (ha : ¬ 0 < a) (hm : 0 < m) (p1 : P (.int (b + 74207281 * (c + 1))) (.int 2) = some (.val (.int Q))) (p2 : P (.int 10) (.int 27) = some (.val (.int c27))) (p3 : P (.int 10) (.int 6) = some (.val (.int c6))) :
    b7g P [.lst false [.int a, .int b, .int c], .dat (.int m), .un, .un] = .rt (.val (.int ((Q + 60013 * (c + 1)) % (c27 + 103) / c6 % m))) [.lst false [.int a, .int b, .int (c + 1)], .dat (.int m), .un, .dat (.int ((Q + 60013 * (c + 1)) % (c27 + 103)))] := by
  have m1 : mulOk 74207281 (c + 1) = true := mulL (by decide)
  have m2 : mulOk 60013 (c + 1) = true := mulL (by decide)
  unfold b7g
  simp [fnSem, outsOf, argIn, sSeq, sIf, sAsgN, sAsgT, sSetIx, sRet, sRetN, sNext, sExpr, sAug, sPar, sNo, mNo, mTst, mTru, mNotT, mAndT, mOrT, mNotV, mAndV, mOrV, mIfE, mOp1, mOp2, mOps, mCons, mNil, mCst, mName, mMove, mBor, toB, mArg, mTup, mLst, mCallK, callB, argSls, argSl, argS, noTw, isSl, pick, putGo, newS, lookSl, reown, opnd1, opnd2, opnds, res, ress, valsOf, truth, Slot.data?, cmpRet, Ret.toD, Ret.slot, Slot.free?, Slot.own?, Out.andThen, Out.thenS, opAdd, opSub, opMul, opDiv, opMod, opNeg, opIx, retOf, L2.atI, L2.ixN, cGt, cLt, cLe, cGe, bInt, bAbs, bLen, bMax, bMin, mLenG, mIxG, mSlG, mPart, mItR1, mItR2, mItV, itemsOf, sFor, asgT, asgTs, ha, hm, m1, m2, p1, p2, p3, c27_pos, c6_pos, c6_log]
theorem take_ok (a b c m : Int) (hm : 0 < m ∧ m < 2 ^ 60) (hb : 0 ≤ b ∧ b < wB) (hc : 0 ≤ c ∧ c < 10 ^ 9) :
    ∃ fig a' c', 0 ≤ fig ∧ fig < m ∧ 0 ≤ c' ∧ c' ≤ c + 1 ∧ s7 [.lst false [.int a, .int b, .int c], .dat (.int m)] = .ret (.val (.int fig)) [.lst false [.int a', .int b, .int c'], .un] := by
  have lm : m.natAbs.log2 < 9000 := by
    have := log_small (i := m) (n := 60) (by omega) (by omega)
    omega
  rw [s7_eq]
  by_cases ha : 0 < a
  · refine ⟨a % m, a / m, c, Int.emod_nonneg _ (by omega), Int.emod_lt_of_pos _ hm.1, hc.1, by omega, ?_⟩
    unfold b7 c7_1 c7_2 c7_3 c7_4
    simp [fnSem, outsOf, argIn, sSeq, sIf, sAsgN, sAsgT, sSetIx, sRet, sRetN, sNext, sExpr, sAug, sPar, sNo, mNo, mTst, mTru, mNotT, mAndT, mOrT, mNotV, mAndV, mOrV, mIfE, mOp1, mOp2, mOps, mCons, mNil, mCst, mName, mMove, mBor, toB, mArg, mTup, mLst, mCallK, callB, argSls, argSl, argS, noTw, isSl, pick, putGo, newS, lookSl, reown, opnd1, opnd2, opnds, res, ress, valsOf, truth, Slot.data?, cmpRet, Ret.toD, Ret.slot, Slot.free?, Slot.own?, Out.andThen, Out.thenS, opAdd, opSub, opMul, opDiv, opMod, opNeg, opIx, retOf, L2.atI, L2.ixN, cGt, cLt, cLe, cGe, bInt, bAbs, bLen, bMax, bMin, mLenG, mIxG, mSlG, mPart, mItR1, mItR2, mItV, itemsOf, sFor, asgT, asgTs, ha, hm.1, lm]
  · rw [wB_eq] at hb
    have hx : (b + 74207281 * (c + 1)).natAbs < 2 ^ 100 := by omega
    have lx := log_small hx (by omega)
    refine ⟨((b + 74207281 * (c + 1)) ^ 2 + 60013 * (c + 1)) % (c27 + 103) / c6 % m, a, c + 1, Int.emod_nonneg _ (by omega), Int.emod_lt_of_pos _ hm.1, by omega, by omega, ?_⟩
    have h := take_gen opPow _ a b c m ha hm.1 (pow2 (i := b + 74207281 * (c + 1)) (by omega)) pow27 pow6
    have e : b7 = b7g opPow := rfl
    unfold fnSem
    rw [if_pos ⟨rfl, rfl⟩, e]
    show (match b7g opPow [.lst false [.int a, .int b, .int c], .dat (.int m), .un, .un] with
      | .nx ρ => FOut.ret (.val .none) (outsOf _ ρ)
      | .rt r ρ => .ret r (outsOf _ ρ)
      | _ => .no) = _
    rw [h]
    rfl
theorem cut_ints (ns : List Int) (lo hi : Option Int) : ∃ ms : List Int, Ev.cutD (ns.map PyData.int) lo hi = ms.map PyData.int ∧ ms.length ≤ ns.length := by
  refine ⟨(ns.drop (HT.sIx (ns.map PyData.int).length 0 lo)).take (HT.sIx (ns.map PyData.int).length (ns.map PyData.int).length hi - HT.sIx (ns.map PyData.int).length 0 lo), ?_, ?_⟩
  · unfold Ev.cutD
    rw [List.map_take, List.map_drop]
  · rw [List.length_take, List.length_drop]
    omega
def frS (s : Slot) : Prop := s = .un ∨ ∃ d, s = .dat d
theorem well_loop (g : List D) (at_ : Int) : ∀ (ms : List Int) (m : Int) (s : Slot), frS s → 0 ≤ m → m < wB → ∃ m' s', 0 ≤ m' ∧ m' < wB ∧ frS s' ∧
    forLoop (.nm 3) b6_1 (ms.map PyData.int) [.giv g, .dat (.int at_), .dat (.int m), s, .un] = .nx [.giv g, .dat (.int at_), .dat (.int m'), s', .un]
  | [], m, s, hs, h0, h1 => ⟨m, s, h0, h1, hs, rfl⟩
  | x :: ms, m, s, hs, h0, h1 => by
    have k1 : mulOk m 1000003 = true := mulR (by decide)
    have k2 : mulOk x 7368787 = true := mulR (by decide)
    obtain ⟨m', s', e0, e1, e2, e3⟩ := well_loop g at_ ms ((m * 1000003 + x * 7368787 + 911) % (c28 + 331)) (.dat (.int x)) (.inr ⟨_, rfl⟩) (Int.emod_nonneg _ (Int.ne_of_gt c28_pos)) (Int.emod_lt_of_pos _ c28_pos)
    refine ⟨m', s', e0, e1, e2, ?_⟩
    rw [← e3]
    rcases hs with rfl | ⟨d, rfl⟩
    · rw [List.map_cons, forLoop]
      simp [b6_1, fnSem, outsOf, argIn, sSeq, sIf, sAsgN, sAsgT, sSetIx, sRet, sRetN, sNext, sExpr, sAug, sPar, sNo, mNo, mTst, mTru, mNotT, mAndT, mOrT, mNotV, mAndV, mOrV, mIfE, mOp1, mOp2, mOps, mCons, mNil, mCst, mName, mMove, mBor, toB, mArg, mTup, mLst, mCallK, callB, argSls, argSl, argS, noTw, isSl, pick, putGo, newS, lookSl, reown, opnd1, opnd2, opnds, res, ress, valsOf, truth, Slot.data?, cmpRet, Ret.toD, Ret.slot, Slot.free?, Slot.own?, Out.andThen, Out.thenS, opAdd, opSub, opMul, opDiv, opMod, opNeg, opIx, retOf, L2.atI, L2.ixN, cGt, cLt, cLe, cGe, bInt, bAbs, bLen, bMax, bMin, mLenG, mIxG, mSlG, mPart, mItR1, mItR2, mItV, itemsOf, sFor, asgT, asgTs, k1, k2, pow28, c28_pos]
    · rw [List.map_cons, forLoop]
      simp [b6_1, fnSem, outsOf, argIn, sSeq, sIf, sAsgN, sAsgT, sSetIx, sRet, sRetN, sNext, sExpr, sAug, sPar, sNo, mNo, mTst, mTru, mNotT, mAndT, mOrT, mNotV, mAndV, mOrV, mIfE, mOp1, mOp2, mOps, mCons, mNil, mCst, mName, mMove, mBor, toB, mArg, mTup, mLst, mCallK, callB, argSls, argSl, argS, noTw, isSl, pick, putGo, newS, lookSl, reown, opnd1, opnd2, opnds, res, ress, valsOf, truth, Slot.data?, cmpRet, Ret.toD, Ret.slot, Slot.free?, Slot.own?, Out.andThen, Out.thenS, opAdd, opSub, opMul, opDiv, opMod, opNeg, opIx, retOf, L2.atI, L2.ixN, cGt, cLt, cLe, cGe, bInt, bAbs, bLen, bMax, bMin, mLenG, mIxG, mSlG, mPart, mItR1, mItR2, mItV, itemsOf, sFor, asgT, asgTs, k1, k2, pow28, c28_pos]
theorem well_ok (ns : List Int) (hl : ns.length ≤ 63) (at_ : Int) (h0 : 0 ≤ at_) (h1 : at_ ≤ 63) : ∃ a b, 0 ≤ b ∧ b < wB ∧ s6 [.giv (ns.map PyData.int), .dat (.int at_)] = .ret (.fl [.int a, .int b, .int 0]) [.un, .un] := by
  obtain ⟨ms, em, lm⟩ := cut_ints ns none (some 63)
  have k1 : mulOk 7919 at_ = true := mulL (by decide)
  have k2 : mulOk 31 ms.length = true := mulL (by decide)
  obtain ⟨b, s', e0, e1, e2, e3⟩ := well_loop (ns.map PyData.int) at_ ms (7919 * at_ + 31 * ms.length + 5) .un (.inl rfl) (by omega) (by rw [wB_eq]; omega)
  rw [s6_eq]
  unfold b6 c6_1 c6_2 c6_3 c6_4
  by_cases ha : at_ < (ns.length : Int)
  · obtain ⟨n, rfl⟩ : ∃ n : Nat, at_ = n := ⟨at_.toNat, by omega⟩
    have hn : n < ns.length := by omega
    refine ⟨if (if ns[n] < 0 then -ns[n] else ns[n]) - c18 > 0 then (if ns[n] < 0 then -ns[n] else ns[n]) - c18 else 0, b, e0, e1, ?_⟩
    rcases e2 with rfl | ⟨d, rfl⟩ <;> simp [fnSem, outsOf, argIn, sSeq, sIf, sAsgN, sAsgT, sSetIx, sRet, sRetN, sNext, sExpr, sAug, sPar, sNo, mNo, mTst, mTru, mNotT, mAndT, mOrT, mNotV, mAndV, mOrV, mIfE, mOp1, mOp2, mOps, mCons, mNil, mCst, mName, mMove, mBor, toB, mArg, mTup, mLst, mCallK, callB, argSls, argSl, argS, noTw, isSl, pick, putGo, newS, lookSl, reown, opnd1, opnd2, opnds, res, ress, valsOf, truth, Slot.data?, cmpRet, Ret.toD, Ret.slot, Slot.free?, Slot.own?, Out.andThen, Out.thenS, opAdd, opSub, opMul, opDiv, opMod, opNeg, opIx, retOf, L2.atI, L2.ixN, cGt, cLt, cLe, cGe, bInt, bAbs, bLen, bMax, bMin, mLenG, mIxG, mSlG, mPart, mItR1, mItR2, mItV, itemsOf, sFor, asgT, asgTs, em, k1, k2, pow18, e3, ha, hn]
  · refine ⟨if 0 - c18 > 0 then 0 - c18 else 0, b, e0, e1, ?_⟩
    rcases e2 with rfl | ⟨d, rfl⟩ <;> simp [fnSem, outsOf, argIn, sSeq, sIf, sAsgN, sAsgT, sSetIx, sRet, sRetN, sNext, sExpr, sAug, sPar, sNo, mNo, mTst, mTru, mNotT, mAndT, mOrT, mNotV, mAndV, mOrV, mIfE, mOp1, mOp2, mOps, mCons, mNil, mCst, mName, mMove, mBor, toB, mArg, mTup, mLst, mCallK, callB, argSls, argSl, argS, noTw, isSl, pick, putGo, newS, lookSl, reown, opnd1, opnd2, opnds, res, ress, valsOf, truth, Slot.data?, cmpRet, Ret.toD, Ret.slot, Slot.free?, Slot.own?, Out.andThen, Out.thenS, opAdd, opSub, opMul, opDiv, opMod, opNeg, opIx, retOf, L2.atI, L2.ixN, cGt, cLt, cLe, cGe, bInt, bAbs, bLen, bMax, bMin, mLenG, mIxG, mSlG, mPart, mItR1, mItR2, mItV, itemsOf, sFor, asgT, asgTs, em, k1, k2, pow18, e3, ha]
end Law
open PySem PySem.Spec PyProof.Rows L2 Ev
namespace Law
/-! ### counts, in plain numbers -/
def pr (n : Int) : Nat → Int
  | 0 => 1
  | k + 1 => pr n k * (n - k)
def fc : Nat → Int
  | 0 => 1
  | k + 1 => fc k * (k + 1)
def ch (n : Int) (k : Nat) : Int := pr n k / fc k
theorem fc_pos : ∀ k, 0 < fc k
  | 0 => by decide
  | k + 1 => Int.mul_pos (fc_pos k) (by omega)
theorem ch_all : ∀ n : Fin 61, ∀ k : Fin 62, ch (n.val : Int) k.val * fc k.val = pr (n.val : Int) k.val := by decide +kernel
theorem fc_log : ∀ k : Fin 62, (fc k.val).natAbs.log2 < 9000 := by decide +kernel
def In (n : Int) : Prop := 0 ≤ n ∧ n < 61
theorem chA {n : Int} (hn : In n) {k : Nat} (hk : k < 62) : ch n k * fc k = pr n k := by
  obtain ⟨m, rfl⟩ : ∃ m : Nat, n = m := ⟨n.toNat, by have := hn.1; omega⟩
  exact ch_all ⟨m, by have := hn.2; omega⟩ ⟨k, hk⟩
theorem chB {n : Int} (hn : In n) {k : Nat} (hk : k < 61) : ch n (k + 1) * (k + 1) = ch n k * (n - k) := by
  have h1 := chA hn (k := k + 1) (by omega)
  have h2 := chA hn (k := k) (by omega)
  have hp := fc_pos k
  apply Int.eq_of_mul_eq_mul_right (a := fc k) (by omega)
  have e1 : ch n (k + 1) * (↑k + 1) * fc k = ch n (k + 1) * fc (k + 1) := by
    show _ = ch n (k + 1) * (fc k * (↑k + 1))
    rw [Int.mul_comm (fc k), Int.mul_assoc]
  rw [e1, h1]
  show pr n k * (n - k) = _
  rw [← h2, Int.mul_assoc, Int.mul_assoc, Int.mul_comm (fc k)]
def T (n m : Int) : Nat → Nat → Int → Int
  | _, 0, f => f
  | k, j + 1, f => T n m (k + 1) j (f + ch n k * pr m k)
def cnt (n m : Int) : Nat → Nat → Int → Int → Int × Int
  | _, 0, f, w => (f, w)
  | k, j + 1, f, w => cnt n m (k + 1) j (f + w * (n - k) * (m - k) / (k + 1)) (w * (n - k) * (m - k) / (k + 1))
theorem cnt_T {n m : Int} (hn : In n) : ∀ (j k : Nat) (f : Int), k + j ≤ 61 → (cnt n m k j f (ch n k * pr m k)).1 = T n m (k + 1) j f
  | 0, _, _, _ => rfl
  | j + 1, k, f, h => by
    have e : ch n k * pr m k * (n - k) * (m - k) / (k + 1) = ch n (k + 1) * pr m (k + 1) := by
      have e1 : ch n k * pr m k * (n - k) * (m - k) = ch n (k + 1) * pr m (k + 1) * (k + 1) := by
        have b := chB hn (k := k) (by omega)
        show _ = ch n (k + 1) * (pr m k * (m - k)) * (k + 1)
        calc ch n k * pr m k * (n - k) * (m - k) = (ch n k * (n - k)) * (pr m k * (m - k)) := by
              rw [Int.mul_assoc (ch n k), Int.mul_comm (pr m k), ← Int.mul_assoc (ch n k), Int.mul_assoc]
          _ = ch n (k + 1) * (k + 1) * (pr m k * (m - k)) := by rw [b]
          _ = _ := by rw [Int.mul_assoc, Int.mul_comm ((k : Int) + 1), ← Int.mul_assoc]
      rw [e1]
      exact Int.mul_ediv_cancel _ (by omega)
    show (cnt n m (k + 1) j (f + ch n k * pr m k * (n - k) * (m - k) / (k + 1)) (ch n k * pr m k * (n - k) * (m - k) / (k + 1))).1 = T n m (k + 1 + 1) j (f + ch n (k + 1) * pr m (k + 1))
    rw [e]
    exact cnt_T hn j (k + 1) _ (by omega)
def inn (n m : Int) : Nat → Nat → Int → Int → Int × Int
  | _, 0, w, b => (w, b)
  | t, j + 1, w, b => inn n m (t + 1) j (w * (n - t) * (m - t)) (b * (t + 1))
theorem inn_eq (n m : Int) : ∀ (j t : Nat), inn n m t j (pr n t * pr m t) (fc t) = (pr n (t + j) * pr m (t + j), fc (t + j))
  | 0, _ => rfl
  | j + 1, t => by
    have e : pr n t * pr m t * (n - t) * (m - t) = pr n (t + 1) * pr m (t + 1) := by
      show _ = pr n t * (n - t) * (pr m t * (m - t))
      rw [Int.mul_assoc (pr n t), Int.mul_comm (pr m t), ← Int.mul_assoc (pr n t), Int.mul_assoc]
    show inn n m (t + 1) j (pr n t * pr m t * (n - t) * (m - t)) (fc t * (t + 1)) = _
    rw [e]
    have := inn_eq n m j (t + 1)
    rw [show t + 1 + j = t + (j + 1) by omega] at this
    exact this
def sm (n m : Int) : Nat → Nat → Int → Int
  | _, 0, f => f
  | k, j + 1, f => sm n m (k + 1) j (f + (inn n m 0 k 1 1).1 / (inn n m 0 k 1 1).2)
theorem inn0 (n m : Int) (k : Nat) : inn n m 0 k 1 1 = (pr n k * pr m k, fc k) := by
  have := inn_eq n m k 0
  rw [Nat.zero_add] at this
  exact this
theorem div_ch {n m : Int} (hn : In n) {k : Nat} (hk : k < 62) : pr n k * pr m k / fc k = ch n k * pr m k := by
  rw [← chA hn hk, Int.mul_assoc, Int.mul_comm (fc k), ← Int.mul_assoc]
  exact Int.mul_ediv_cancel _ (by have := fc_pos k; omega)
theorem sm_T {n m : Int} (hn : In n) : ∀ (j k : Nat) (f : Int), k + j ≤ 62 → sm n m k j f = T n m k j f
  | 0, _, _, _ => rfl
  | j + 1, k, f, h => by
    show sm n m (k + 1) j (f + (inn n m 0 k 1 1).1 / (inn n m 0 k 1 1).2) = T n m (k + 1) j (f + ch n k * pr m k)
    rw [inn0, div_ch hn (by omega)]
    exact sm_T hn j (k + 1) _ (by omega)
theorem T_comm {n m : Int} (hn : In n) (hm : In m) : ∀ (j k : Nat) (f : Int), k + j ≤ 62 → T n m k j f = T m n k j f
  | 0, _, _, _ => rfl
  | j + 1, k, f, h => by
    have e : ch n k * pr m k = ch m k * pr n k := by
      rw [← chA hm (k := k) (by omega), ← chA hn (k := k) (by omega), ← Int.mul_assoc, ← Int.mul_assoc, Int.mul_comm (ch n k)]
    show T n m (k + 1) j (f + ch n k * pr m k) = T m n (k + 1) j (f + ch m k * pr n k)
    rw [e]
    exact T_comm hn hm j (k + 1) _ (by omega)
def mn (n m : Int) : Int := if m < n then m else n
def cntF (n m : Int) : Int := (cnt n m 0 (mn n m).toNat 1 1).1
def sumF (n m : Int) : Int := sm n m 0 (mn n m + 1).toNat 0
theorem mn_in {n m : Int} (hn : In n) (hm : In m) : In (mn n m) := by
  unfold mn
  split
  · exact hm
  · exact hn
theorem cnt_sum {n m : Int} (hn : In n) (hm : In m) : cntF n m = sumF n m := by
  have hi := mn_in hn hm
  have h1 := hi.1
  have h2 := hi.2
  unfold cntF sumF
  have e : (cnt n m 0 (mn n m).toNat 1 1).1 = T n m 1 (mn n m).toNat 1 := cnt_T hn (mn n m).toNat 0 1 (by omega)
  rw [e, sm_T hn _ _ _ (by omega), show (mn n m + 1).toNat = (mn n m).toNat + 1 by omega]
  rfl
theorem mn_comm (n m : Int) : mn n m = mn m n := by
  unfold mn
  split <;> split <;> omega
theorem cnt_comm {n m : Int} (hn : In n) (hm : In m) : cntF n m = cntF m n := by
  have hi := mn_in hn hm
  have h1 := hi.1
  have h2 := hi.2
  unfold cntF
  have e1 : (cnt n m 0 (mn n m).toNat 1 1).1 = T n m 1 (mn n m).toNat 1 := cnt_T hn (mn n m).toNat 0 1 (by omega)
  have e2 : (cnt m n 0 (mn n m).toNat 1 1).1 = T m n 1 (mn n m).toNat 1 := cnt_T hm (mn n m).toNat 0 1 (by omega)
  rw [← mn_comm n m, e1, e2]
  exact T_comm hn hm _ _ _ (by omega)
end Law
open PySem PySem.Spec PyProof.Rows L2 Ev
namespace Law
theorem ch_b : ∀ n : Fin 61, ∀ k : Fin 62, 0 ≤ ch (n.val : Int) k.val ∧ ch (n.val : Int) k.val < 2 ^ 64 ∧ 0 ≤ pr (n.val : Int) k.val ∧ pr (n.val : Int) k.val < 2 ^ 400 := by decide +kernel
theorem chb {n : Int} (hn : In n) {k : Nat} (hk : k < 62) : 0 ≤ ch n k ∧ ch n k < 2 ^ 64 ∧ 0 ≤ pr n k ∧ pr n k < 2 ^ 400 := by
  obtain ⟨m, rfl⟩ : ∃ m : Nat, n = m := ⟨n.toNat, by have := hn.1; omega⟩
  exact ch_b ⟨m, by have := hn.2; omega⟩ ⟨k, hk⟩
theorem T_b {n m : Int} (hn : In n) (hm : In m) : ∀ (j k : Nat) (f : Int), k + j ≤ 62 → 0 ≤ f → 0 ≤ T n m k j f ∧ T n m k j f ≤ f + j * 2 ^ 464
  | 0, _, f, _, h0 => ⟨h0, by show f ≤ _; omega⟩
  | j + 1, k, f, h, h0 => by
    obtain ⟨a1, a2, _, _⟩ := chb hn (k := k) (by omega)
    obtain ⟨_, _, b1, b2⟩ := chb hm (k := k) (by omega)
    have p0 : 0 ≤ ch n k * pr m k := Int.mul_nonneg a1 b1
    have p1 : ch n k * pr m k ≤ 2 ^ 64 * 2 ^ 400 := Int.mul_le_mul (Int.le_of_lt a2) (Int.le_of_lt b2) b1 (by decide)
    obtain ⟨c1, c2⟩ := T_b hn hm j (k + 1) (f + ch n k * pr m k) (by omega) (by omega)
    refine ⟨c1, Int.le_trans c2 ?_⟩
    have : (2 : Int) ^ 64 * 2 ^ 400 = 2 ^ 464 := by decide +kernel
    rw [this] at p1
    have e : ((j + 1 : Nat) : Int) * 2 ^ 464 = j * 2 ^ 464 + 2 ^ 464 := by
      rw [Int.natCast_add, Int.add_mul]
      rfl
    rw [e]
    omega
theorem cnt_b {n m : Int} (hn : In n) (hm : In m) : 0 ≤ cntF n m ∧ cntF n m < 2 ^ 480 := by
  have hi := mn_in hn hm
  have h1 := hi.1
  have h2 := hi.2
  unfold cntF
  have e : (cnt n m 0 (mn n m).toNat 1 1).1 = T n m 1 (mn n m).toNat 1 := cnt_T hn (mn n m).toNat 0 1 (by omega)
  rw [e]
  obtain ⟨a, b⟩ := T_b hn hm (mn n m).toNat 1 1 (by omega) (by omega)
  refine ⟨a, Int.lt_of_le_of_lt b ?_⟩
  have hj : ((mn n m).toNat : Int) ≤ 61 := by omega
  have : ((mn n m).toNat : Int) * 2 ^ 464 ≤ 61 * 2 ^ 464 := Int.mul_le_mul_of_nonneg_right hj (by decide +kernel)
  have lt : (1 : Int) + 61 * 2 ^ 464 < 2 ^ 480 := by decide +kernel
  omega
/-! ### what the code counts -/
theorem chk_ok {n : Int} (h : 0 ≤ n) : s2 [.dat (.int n)] = .ret (.val .none) [.un] := by
  have h0 : s0 [.dat (.int n)] = .ret (.val (.bool true)) [.un] := by
    rw [s0_eq]
    unfold b0 c0_1
    simp [fnSem, outsOf, argIn, sSeq, sIf, sAsgN, sAsgT, sSetIx, sRet, sRetN, sNext, sExpr, sAug, sPar, sNo, mNo, mTst, mTru, mNotT, mAndT, mOrT, mNotV, mAndV, mOrV, mIfE, mOp1, mOp2, mOps, mCons, mNil, mCst, mName, mMove, mBor, toB, mArg, mTup, mLst, mCallK, callB, argSls, argSl, argS, noTw, isSl, pick, putGo, newS, lookSl, reown, opnd1, opnd2, opnds, res, ress, valsOf, truth, Slot.data?, cmpRet, Ret.toD, Ret.slot, Slot.free?, Slot.own?, Out.andThen, Out.thenS, opAdd, opSub, opMul, opDiv, opMod, opNeg, opIx, retOf, L2.atI, L2.ixN, cGt, cLt, cLe, cGe, bInt, bAbs, bLen, bMax, bMin, mLenG, mIxG, mSlG, mPart, mItR1, mItR2, mItV, itemsOf, sFor, asgT, asgTs, opIsa, PyData.isInt, PyData.isBool, PyData.plain]
  have h1 : s1 [.dat (.int 0), .dat (.int n)] = .ret (.val (.bool true)) [.un, .un] := by
    rw [s1_eq]
    unfold b1 c1_1
    simp [fnSem, outsOf, argIn, sSeq, sIf, sAsgN, sAsgT, sSetIx, sRet, sRetN, sNext, sExpr, sAug, sPar, sNo, mNo, mTst, mTru, mNotT, mAndT, mOrT, mNotV, mAndV, mOrV, mIfE, mOp1, mOp2, mOps, mCons, mNil, mCst, mName, mMove, mBor, toB, mArg, mTup, mLst, mCallK, callB, argSls, argSl, argS, noTw, isSl, pick, putGo, newS, lookSl, reown, opnd1, opnd2, opnds, res, ress, valsOf, truth, Slot.data?, cmpRet, Ret.toD, Ret.slot, Slot.free?, Slot.own?, Out.andThen, Out.thenS, opAdd, opSub, opMul, opDiv, opMod, opNeg, opIx, retOf, L2.atI, L2.ixN, cGt, cLt, cLe, cGe, bInt, bAbs, bLen, bMax, bMin, mLenG, mIxG, mSlG, mPart, mItR1, mItR2, mItV, itemsOf, sFor, asgT, asgTs, h0, h]
  rw [s2_eq]
  unfold b2 c2_1
  simp [fnSem, outsOf, argIn, sSeq, sIf, sAsgN, sAsgT, sSetIx, sRet, sRetN, sNext, sExpr, sAug, sPar, sNo, mNo, mTst, mTru, mNotT, mAndT, mOrT, mNotV, mAndV, mOrV, mIfE, mOp1, mOp2, mOps, mCons, mNil, mCst, mName, mMove, mBor, toB, mArg, mTup, mLst, mCallK, callB, argSls, argSl, argS, noTw, isSl, pick, putGo, newS, lookSl, reown, opnd1, opnd2, opnds, res, ress, valsOf, truth, Slot.data?, cmpRet, Ret.toD, Ret.slot, Slot.free?, Slot.own?, Out.andThen, Out.thenS, opAdd, opSub, opMul, opDiv, opMod, opNeg, opIx, retOf, L2.atI, L2.ixN, cGt, cLt, cLe, cGe, bInt, bAbs, bLen, bMax, bMin, mLenG, mIxG, mSlG, mPart, mItR1, mItR2, mItV, itemsOf, sFor, asgT, asgTs, h1]
theorem range_cons (k j : Nat) : ((List.range' k (j + 1)).map fun i : Nat => PyData.int (i : Int)) = .int (k : Int) :: (List.range' (k + 1) j).map fun i : Nat => PyData.int (i : Int) := by
  rw [List.range'_succ, List.map_cons]
theorem rangeD_eq (n : Nat) : rangeD 0 n = (List.range' 0 n).map fun i : Nat => PyData.int (i : Int) := by
  unfold rangeD
  rw [List.range_eq_range']
  apply List.map_congr_left
  intro i _
  show PyData.int (0 + (i : Int)) = .int i
  rw [Int.zero_add]
theorem small63 {n k : Int} (h1 : -1000 ≤ n) (h2 : n ≤ 1000) (h3 : 0 ≤ k) (h4 : k ≤ 1000) : (n - k).natAbs < 2 ^ 63 := by omega
theorem cnt_loop (n m : Int) (hn : In n) (hm : In m) : ∀ (j k : Nat) (f w : Int) (s : Ev.Slot), frS s → k + j ≤ 61 → ∃ s', frS s' ∧
    forLoop (.nm 4) b5_1 ((List.range' k j).map fun i : Nat => PyData.int (i : Int)) [.dat (.int n), .dat (.int m), .dat (.int f), .dat (.int w), s] = .nx [.dat (.int n), .dat (.int m), .dat (.int (cnt n m k j f w).1), .dat (.int (cnt n m k j f w).2), s']
  | 0, k, f, w, s, hs, _ => ⟨s, hs, rfl⟩
  | j + 1, k, f, w, s, hs, hk => by
    have n1 := hn.1
    have n2 := hn.2
    have m1 := hm.1
    have m2 := hm.2
    have k1 : mulOk w (n - k) = true := mulR (small63 (by omega) (by omega) (by omega) (by omega))
    have k2 : mulOk (w * (n - k)) (m - k) = true := mulR (small63 (by omega) (by omega) (by omega) (by omega))
    have k3 : (0 : Int) < k + 1 := by omega
    have k4 : ((k : Int) + 1).natAbs.log2 < 9000 := by
      have := log_small (i := (k : Int) + 1) (n := 10) (by omega) (by omega)
      omega
    obtain ⟨s', e2, e3⟩ := cnt_loop n m hn hm j (k + 1) (f + w * (n - k) * (m - k) / (k + 1)) (w * (n - k) * (m - k) / (k + 1)) (.dat (.int k)) (.inr ⟨_, rfl⟩) (by omega)
    refine ⟨s', e2, ?_⟩
    rw [show cnt n m k (j + 1) f w = cnt n m (k + 1) j (f + w * (n - k) * (m - k) / (k + 1)) (w * (n - k) * (m - k) / (k + 1)) from rfl, ← e3, range_cons]
    rcases hs with rfl | ⟨d, rfl⟩ <;> simp [forLoop, b5_1, fnSem, outsOf, argIn, sSeq, sIf, sAsgN, sAsgT, sSetIx, sRet, sRetN, sNext, sExpr, sAug, sPar, sNo, mNo, mTst, mTru, mNotT, mAndT, mOrT, mNotV, mAndV, mOrV, mIfE, mOp1, mOp2, mOps, mCons, mNil, mCst, mName, mMove, mBor, toB, mArg, mTup, mLst, mCallK, callB, argSls, argSl, argS, noTw, isSl, pick, putGo, newS, lookSl, reown, opnd1, opnd2, opnds, res, ress, valsOf, truth, Slot.data?, cmpRet, Ret.toD, Ret.slot, Slot.free?, Slot.own?, Out.andThen, Out.thenS, opAdd, opSub, opMul, opDiv, opMod, opNeg, opIx, retOf, L2.atI, L2.ixN, cGt, cLt, cLe, cGe, bInt, bAbs, bLen, bMax, bMin, mLenG, mIxG, mSlG, mPart, mItR1, mItR2, mItV, itemsOf, sFor, asgT, asgTs, k1, k2, k3, k4]
theorem cnt_ok {n m : Int} (hn : In n) (hm : In m) : s5 [.dat (.int n), .dat (.int m)] = .ret (.val (.int (cntF n m))) [.un, .un] := by
  have hi := mn_in hn hm
  have i1 := hi.1
  have i2 := hi.2
  have e1 := chk_ok hn.1
  have e2 := chk_ok hm.1
  obtain ⟨s', hs, e3⟩ := cnt_loop n m hn hm (mn n m).toNat 0 1 1 .un (.inl rfl) (by omega)
  have e4 := rangeD_eq (mn n m).toNat
  unfold mn at i1 i2 e3 e4
  have b1 : -4611686018427387904 ≤ (if m < n then m else n) := by omega
  have b2 : (if m < n then m else n) < 4611686018427387904 := by omega
  rw [s5_eq]
  unfold b5 c5_1 c5_2 c5_3 c5_4 c5_5 cntF mn
  rcases hs with rfl | ⟨d, rfl⟩ <;> simp [fnSem, outsOf, argIn, sSeq, sIf, sAsgN, sAsgT, sSetIx, sRet, sRetN, sNext, sExpr, sAug, sPar, sNo, mNo, mTst, mTru, mNotT, mAndT, mOrT, mNotV, mAndV, mOrV, mIfE, mOp1, mOp2, mOps, mCons, mNil, mCst, mName, mMove, mBor, toB, mArg, mTup, mLst, mCallK, callB, argSls, argSl, argS, noTw, isSl, pick, putGo, newS, lookSl, reown, opnd1, opnd2, opnds, res, ress, valsOf, truth, Slot.data?, cmpRet, Ret.toD, Ret.slot, Slot.free?, Slot.own?, Out.andThen, Out.thenS, opAdd, opSub, opMul, opDiv, opMod, opNeg, opIx, retOf, L2.atI, L2.ixN, cGt, cLt, cLe, cGe, bInt, bAbs, bLen, bMax, bMin, mLenG, mIxG, mSlG, mPart, mItR1, mItR2, mItV, itemsOf, sFor, asgT, asgTs, e1, e2, e3, e4, b1, b2]
end Law
open PySem PySem.Spec PyProof.Rows L2 Ev
namespace Law
theorem inn_loop (n m tot ky : Int) (hn : In n) (hm : In m) : ∀ (j k : Nat) (w b : Int) (s : Ev.Slot), frS s → k + j ≤ 61 → ∃ s', frS s' ∧
    forLoop (.nm 6) b11_1 ((List.range' k j).map fun i : Nat => PyData.int (i : Int)) [.dat (.int n), .dat (.int m), .dat (.int tot), .dat (.int ky), .dat (.int w), .dat (.int b), s] =
      .nx [.dat (.int n), .dat (.int m), .dat (.int tot), .dat (.int ky), .dat (.int (inn n m k j w b).1), .dat (.int (inn n m k j w b).2), s']
  | 0, k, w, b, s, hs, _ => ⟨s, hs, rfl⟩
  | j + 1, k, w, b, s, hs, hk => by
    have n1 := hn.1
    have n2 := hn.2
    have m1 := hm.1
    have m2 := hm.2
    have k1 : mulOk w (n - k) = true := mulR (small63 (by omega) (by omega) (by omega) (by omega))
    have k2 : mulOk (w * (n - k)) (m - k) = true := mulR (small63 (by omega) (by omega) (by omega) (by omega))
    have k3 : mulOk b ((k : Int) + 1) = true := mulR (by omega)
    obtain ⟨s', e2, e3⟩ := inn_loop n m tot ky hn hm j (k + 1) (w * (n - k) * (m - k)) (b * (k + 1)) (.dat (.int k)) (.inr ⟨_, rfl⟩) (by omega)
    refine ⟨s', e2, ?_⟩
    rw [show inn n m k (j + 1) w b = inn n m (k + 1) j (w * (n - k) * (m - k)) (b * (k + 1)) from rfl, ← e3, range_cons]
    rcases hs with rfl | ⟨d, rfl⟩ <;> simp [forLoop, b11_1, fnSem, outsOf, argIn, sSeq, sIf, sAsgN, sAsgT, sSetIx, sRet, sRetN, sNext, sExpr, sAug, sPar, sNo, mNo, mTst, mTru, mNotT, mAndT, mOrT, mNotV, mAndV, mOrV, mIfE, mOp1, mOp2, mOps, mCons, mNil, mCst, mName, mMove, mBor, toB, mArg, mTup, mLst, mCallK, callB, argSls, argSl, argS, noTw, isSl, pick, putGo, newS, lookSl, reown, opnd1, opnd2, opnds, res, ress, valsOf, truth, Slot.data?, cmpRet, Ret.toD, Ret.slot, Slot.free?, Slot.own?, Out.andThen, Out.thenS, opAdd, opSub, opMul, opDiv, opMod, opNeg, opIx, retOf, L2.atI, L2.ixN, cGt, cLt, cLe, cGe, bInt, bAbs, bLen, bMax, bMin, mLenG, mIxG, mSlG, mPart, mItR1, mItR2, mItV, itemsOf, sFor, asgT, asgTs, k1, k2, k3]
theorem sum_step (n m f w b kk : Int) (b1 : -4611686018427387904 ≤ kk) (b2 : kk < 4611686018427387904) (s4 s5 s6 s' : Ev.Slot) (h4 : frS s4) (h5 : frS s5) (hp : 0 < b) (hl : b.natAbs.log2 < 9000)
    (e3 : forLoop (.nm 6) b11_1 (rangeD 0 kk.toNat) [.dat (.int n), .dat (.int m), .dat (.int f), .dat (.int kk), .dat (.int 1), .dat (.int 1), s6] = .nx [.dat (.int n), .dat (.int m), .dat (.int f), .dat (.int kk), .dat (.int w), .dat (.int b), s']) :
    b11_2 [.dat (.int n), .dat (.int m), .dat (.int f), .dat (.int kk), s4, s5, s6] = .nx [.dat (.int n), .dat (.int m), .dat (.int (f + w / b)), .dat (.int kk), .dat (.int w), .dat (.int b), s'] := by
  rcases h4 with rfl | ⟨d4, rfl⟩ <;> rcases h5 with rfl | ⟨d5, rfl⟩ <;> simp [b11_2, fnSem, outsOf, argIn, sSeq, sIf, sAsgN, sAsgT, sSetIx, sRet, sRetN, sNext, sExpr, sAug, sPar, sNo, mNo, mTst, mTru, mNotT, mAndT, mOrT, mNotV, mAndV, mOrV, mIfE, mOp1, mOp2, mOps, mCons, mNil, mCst, mName, mMove, mBor, toB, mArg, mTup, mLst, mCallK, callB, argSls, argSl, argS, noTw, isSl, pick, putGo, newS, lookSl, reown, opnd1, opnd2, opnds, res, ress, valsOf, truth, Slot.data?, cmpRet, Ret.toD, Ret.slot, Slot.free?, Slot.own?, Out.andThen, Out.thenS, opAdd, opSub, opMul, opDiv, opMod, opNeg, opIx, retOf, L2.atI, L2.ixN, cGt, cLt, cLe, cGe, bInt, bAbs, bLen, bMax, bMin, mLenG, mIxG, mSlG, mPart, mItR1, mItR2, mItV, itemsOf, sFor, asgT, asgTs, b1, b2, e3, hp, hl]
theorem asg_fr {s : Ev.Slot} (h : frS s) {n m f k : D} {s4 s5 s6 : Ev.Slot} : asgT (.nm 3) k [.dat n, .dat m, .dat f, s, s4, s5, s6] = some [.dat n, .dat m, .dat f, .dat k, s4, s5, s6] := by
  rcases h with rfl | ⟨d, rfl⟩ <;> rfl
theorem sum_loop (n m : Int) (hn : In n) (hm : In m) : ∀ (j k : Nat) (f : Int) (s3 s4 s5 s6 : Ev.Slot), frS s3 → frS s4 → frS s5 → frS s6 → k + j ≤ 62 → ∃ t3 t4 t5 t6,
    forLoop (.nm 3) b11_2 ((List.range' k j).map fun i : Nat => PyData.int (i : Int)) [.dat (.int n), .dat (.int m), .dat (.int f), s3, s4, s5, s6] =
      .nx [.dat (.int n), .dat (.int m), .dat (.int (sm n m k j f)), t3, t4, t5, t6] := by
  intro j
  induction j with
  | zero => exact fun k f s3 s4 s5 s6 _ _ _ _ _ => ⟨s3, s4, s5, s6, rfl⟩
  | succ j ih =>
    intro k f s3 s4 s5 s6 h3 h4 h5 h6 hk
    obtain ⟨s', e2, e3⟩ := inn_loop n m f k hn hm k 0 1 1 s6 h6 (by omega)
    have hb : (inn n m 0 k 1 1).2 = fc k := by rw [inn0]
    have hp := fc_pos k
    have hl := fc_log ⟨k, by omega⟩
    simp only at hl
    rw [← hb] at hp hl
    obtain ⟨t3, t4, t5, t6, e5⟩ := ih (k + 1) (f + (inn n m 0 k 1 1).1 / (inn n m 0 k 1 1).2) (.dat (.int k)) (.dat (.int (inn n m 0 k 1 1).1)) (.dat (.int (inn n m 0 k 1 1).2)) s' (.inr ⟨_, rfl⟩) (.inr ⟨_, rfl⟩) (.inr ⟨_, rfl⟩) e2 (by omega)
    refine ⟨t3, t4, t5, t6, ?_⟩
    rw [show sm n m k (j + 1) f = sm n m (k + 1) j (f + (inn n m 0 k 1 1).1 / (inn n m 0 k 1 1).2) from rfl, ← e5, range_cons, forLoop, asg_fr h3]
    have e6 : rangeD 0 (k : Int).toNat = (List.range' 0 k).map fun i : Nat => PyData.int (i : Int) := by
      rw [Int.toNat_natCast]
      exact rangeD_eq k
    rw [← e6] at e3
    simp only [sum_step n m f _ _ (k : Int) (by omega) (by omega) s4 s5 s6 s' h4 h5 hp hl e3]
theorem sum_ok {n m : Int} (hn : In n) (hm : In m) : s11 [.dat (.int n), .dat (.int m)] = .ret (.val (.int (sumF n m))) [.un, .un] := by
  have hi := mn_in hn hm
  have i1 := hi.1
  have i2 := hi.2
  obtain ⟨t3, t4, t5, t6, e3⟩ := sum_loop n m hn hm (mn n m + 1).toNat 0 0 .un .un .un .un (.inl rfl) (.inl rfl) (.inl rfl) (.inl rfl) (by omega)
  have e4 := rangeD_eq (mn n m + 1).toNat
  unfold mn at i1 i2 e3 e4
  have b1 : -4611686018427387904 ≤ (if m < n then m else n) + 1 := by omega
  have b2 : (if m < n then m else n) + 1 < 4611686018427387904 := by omega
  rw [s11_eq]
  unfold b11 c11_1 c11_2 c11_3 sumF mn
  simp [fnSem, outsOf, argIn, sSeq, sIf, sAsgN, sAsgT, sSetIx, sRet, sRetN, sNext, sExpr, sAug, sPar, sNo, mNo, mTst, mTru, mNotT, mAndT, mOrT, mNotV, mAndV, mOrV, mIfE, mOp1, mOp2, mOps, mCons, mNil, mCst, mName, mMove, mBor, toB, mArg, mTup, mLst, mCallK, callB, argSls, argSl, argS, noTw, isSl, pick, putGo, newS, lookSl, reown, opnd1, opnd2, opnds, res, ress, valsOf, truth, Slot.data?, cmpRet, Ret.toD, Ret.slot, Slot.free?, Slot.own?, Out.andThen, Out.thenS, opAdd, opSub, opMul, opDiv, opMod, opNeg, opIx, retOf, L2.atI, L2.ixN, cGt, cLt, cLe, cGe, bInt, bAbs, bLen, bMax, bMin, mLenG, mIxG, mSlG, mPart, mItR1, mItR2, mItV, itemsOf, sFor, asgT, asgTs, e3, e4, b1, b2]
theorem shown_two {x : Int} (h0 : 0 ≤ x) (h1 : x < 2 ^ 480) : (PyData.list [.int x, .int x]).plain = true ∧ (PyData.list [.int x, .int x]).showable = true ∧ (PyData.list [.int x, .int x]).depth ≤ 50 ∧ (PyData.list [.int x, .int x]).shown.length ≤ 16777216 := by
  refine ⟨by simp [PyData.plain, PyData.plainAll], ?_, by simp [PyData.depth, PyData.depthAll], ?_⟩
  · have := log_small (i := x) (n := 480) (by omega) (by omega)
    simp [PyData.showable, PyData.showableAll]
    omega
  · have hl := PyProof.Rows.toString_length_le h0 (k := 200) (by omega) (Int.lt_of_lt_of_le h1 (by decide +kernel))
    simp only [PyData.shown, PyData.shownAll]
    refine Nat.le_trans (listText_len_le _) ?_
    simp only [List.map_cons, List.map_nil, List.sum_cons, List.sum_nil, List.length_cons, List.length_nil]
    omega
end Law
open PySem PySem.Spec PyProof.Rows L2 Ev
namespace Law
/-! ### lots of pairs, as data -/
abbrev Row := List (Int × Int)
def enc2 (p : Int × Int) : D := .tuple [.int p.1, .int p.2]
def encR (r : Row) : D := .tuple (r.map enc2)
def encA (x : List Row) : D := .tuple (x.map encR)
def dec2 : D → Option (Int × Int)
  | .tuple [.int a, .int b] => some (a, b)
  | _ => none
def decR1 : List D → Option Row
  | [] => some []
  | d :: ds => match dec2 d, decR1 ds with
    | some p, some ps => some (p :: ps)
    | _, _ => none
def decR : D → Option Row
  | .tuple ds => decR1 ds
  | _ => none
def decA1 : List D → Option (List Row)
  | [] => some []
  | d :: ds => match decR d, decA1 ds with
    | some p, some ps => some (p :: ps)
    | _, _ => none
def decA : D → Option (List Row)
  | .tuple ds => decA1 ds
  | _ => none
theorem dec2_ok {d : D} {p : Int × Int} (h : dec2 d = some p) : d = enc2 p := by
  unfold dec2 at h
  split at h
  · cases h; rfl
  · cases h
theorem decR1_ok : ∀ {ds : List D} {r : Row}, decR1 ds = some r → ds = r.map enc2
  | [], r, h => by cases h; rfl
  | d :: ds, r, h => by
    unfold decR1 at h
    split at h
    · rename_i p ps h1 h2
      cases h
      rw [List.map_cons, ← dec2_ok h1, ← decR1_ok h2]
    · cases h
theorem decR_ok {d : D} {r : Row} (h : decR d = some r) : d = encR r := by
  unfold decR at h
  split at h
  · rw [decR1_ok h]; rfl
  · cases h
theorem decA1_ok : ∀ {ds : List D} {x : List Row}, decA1 ds = some x → ds = x.map encR
  | [], r, h => by cases h; rfl
  | d :: ds, r, h => by
    unfold decA1 at h
    split at h
    · rename_i p ps h1 h2
      cases h
      rw [List.map_cons, ← decR_ok h1, ← decA1_ok h2]
    · cases h
theorem decA_ok {d : D} {x : List Row} (h : decA d = some x) : d = encA x := by
  unfold decA at h
  split at h
  · rw [decA1_ok h]; rfl
  · cases h
def look (o : FOut) : Option (List Row) := match o with
  | .ret (.val d) [.un, .un] => decA d
  | _ => none
theorem look_ok {o : FOut} {x : List Row} (h : look o = some x) : o = .ret (.val (encA x)) [.un, .un] := by
  unfold look at h
  split at h
  · rw [decA_ok h]
  · cases h
def srtOk (ds : List D) : Bool := sortOk ds || sortOk0 ds
theorem srt_ok {ds : List D} (h : srtOk ds = true) : bSort [.list ds] = some (.fl (sortD ds)) := by
  unfold srtOk at h
  unfold bSort
  by_cases h1 : sortOk ds = true
  · simp [h1]
  · simp [h1] at h
    simp [h1, h]
def swapR (r : Row) : List D := r.map fun p => enc2 (p.2, p.1)
def turnR (r : Row) : D := .tuple (sortD (swapR r))
def small (x : List Row) : Bool := decide (x.length ≤ 1000) && x.all fun r => decide (r.length ≤ 4) && r.all fun p => decide (0 ≤ p.1 ∧ p.1 < 10 ∧ 0 ≤ p.2 ∧ p.2 < 10)
def okW (o p q : FOut) (k : Int) : Bool := match look o with
  | some x => decide (look p = some x) && small x && decide (k = (x.length : Nat)) && (x.all fun r => srtOk (swapR r)) && srtOk (x.map turnR) &&
      (match decA (.tuple (sortD (x.map turnR))) with
        | some y => decide (look q = some y) && small y
        | none => false)
  | none => false
def okAt (n m : Nat) : Bool := okW (s10 [.dat (.int n), .dat (.int m)]) (s4 [.dat (.int n), .dat (.int m)]) (s4 [.dat (.int m), .dat (.int n)]) (cntF n m)
end Law
open PySem PySem.Spec PyProof.Rows L2 Ev
namespace Law
theorem lcLoop_map {α : Type} {own : List Nat} {tg : Tgt} {te : M Ret} {e f : α → D} {ρ : Rho} : ∀ (xs : List α) (acc : List D), (∀ a ∈ xs, ∃ ρ1 r ρ3, asgT tg (e a) ρ = some ρ1 ∧ te ρ1 = .ok r ρ3 ∧ r.toD = f a ∧ freeAll ρ3 own = true ∧ wipeR ρ3 own = ρ) →
    acc.length + xs.length ≤ 16777216 → lcLoop own tg mYes te (xs.map e) acc ρ = .ok (acc ++ xs.map f) ρ
  | [], acc, _, _ => by simp [lcLoop]
  | a :: xs, acc, h, hl => by
    obtain ⟨ρ1, r, ρ3, h1, h2, h3, h4, h5⟩ := h a (List.mem_cons_self ..)
    have hc : acc.length < 16777216 := by simp at hl; omega
    rw [List.map_cons, lcLoop, h1]
    simp only [mYes, andThen_ok, if_true, h2, hc, h4, and_self, h5, h3]
    rw [lcLoop_map xs (acc ++ [f a]) (fun b hb => h b (List.mem_cons_of_mem _ hb)) (by simp at hl ⊢; omega)]
    simp
theorem same_ok {d : D} (h : d.plain = true ∧ d.showable = true ∧ d.depth ≤ 50 ∧ d.shown.length ≤ 16777216) : s9 [.dat d, .dat d] = .ret (.val (.bool true)) [.un, .un] := by
  obtain ⟨h1, h2, h3, h4⟩ := h
  rw [s9_eq]
  unfold b9 c9_1
  simp [fnSem, outsOf, argIn, sSeq, sIf, sAsgN, sAsgT, sSetIx, sRet, sRetN, sNext, sExpr, sAug, sPar, sNo, mNo, mTst, mTru, mNotT, mAndT, mOrT, mNotV, mAndV, mOrV, mIfE, mOp1, mOp2, mOps, mCons, mNil, mCst, mName, mMove, mBor, toB, mArg, mTup, mLst, mCallK, callB, argSls, argSl, argS, noTw, isSl, pick, putGo, newS, lookSl, reown, opnd1, opnd2, opnds, res, ress, valsOf, truth, Slot.data?, cmpRet, Ret.toD, Ret.slot, Slot.free?, Slot.own?, Out.andThen, Out.thenS, opAdd, opSub, opMul, opDiv, opMod, opNeg, opIx, retOf, L2.atI, L2.ixN, cGt, cLt, cLe, cGe, bInt, bAbs, bLen, bMax, bMin, mLenG, mIxG, mSlG, mPart, mItR1, mItR2, mItV, itemsOf, sFor, asgT, asgTs, bRepr, h1, h2, h3, h4, cEq, PyData.plain, depthLe, PyData.depth, PyData.eqv]
structure Shy (d : D) (k n : Nat) : Prop where
  plain : d.plain = true
  show_ : d.showable = true
  depth : d.depth ≤ k
  len : d.shown.length ≤ n
theorem shy_all {k n : Nat} : ∀ {ds : List D}, (∀ d ∈ ds, Shy d k n) → PyData.plainAll ds = true ∧ PyData.showableAll ds = true ∧ PyData.depthAll ds ≤ k ∧ ((PyData.shownAll ds).map (·.length)).sum ≤ ds.length * n ∧ (PyData.shownAll ds).length = ds.length
  | [], _ => by simp [PyData.plainAll, PyData.showableAll, PyData.depthAll, PyData.shownAll]
  | d :: ds, h => by
    obtain ⟨a1, a2, a3, a4, a5⟩ := shy_all fun e he => h e (List.mem_cons_of_mem _ he)
    have q := h d (List.mem_cons_self ..)
    refine ⟨by simp [PyData.plainAll, q.plain, a1], by simp [PyData.showableAll, q.show_, a2], ?_, ?_, by simp [PyData.shownAll, a5]⟩
    · have := q.depth
      simp only [PyData.depthAll]
      omega
    · have := q.len
      simp only [PyData.shownAll, List.map_cons, List.sum_cons, List.length_cons, Nat.add_mul, Nat.one_mul]
      omega
theorem shy_tup {k n : Nat} {ds : List D} (h : ∀ d ∈ ds, Shy d k n) : Shy (.tuple ds) (k + 1) (ds.length * n + 2 * ds.length + 3) := by
  obtain ⟨a1, a2, a3, a4, a5⟩ := shy_all h
  refine ⟨by simpa [PyData.plain] using a1, by simpa [PyData.showable] using a2, by simp only [PyData.depth]; omega, ?_⟩
  have := tupleText_len_le (PyData.shownAll ds)
  simp only [PyData.shown]
  omega
theorem shy_lst {k n : Nat} {ds : List D} (h : ∀ d ∈ ds, Shy d k n) : Shy (.list ds) (k + 1) (ds.length * n + 2 * ds.length + 3) := by
  obtain ⟨a1, a2, a3, a4, a5⟩ := shy_all h
  refine ⟨by simpa [PyData.plain] using a1, by simpa [PyData.showable] using a2, by simp only [PyData.depth]; omega, ?_⟩
  have := listText_len_le (PyData.shownAll ds)
  simp only [PyData.shown]
  omega
theorem Shy.mono {d : D} {k n k' n' : Nat} (h : Shy d k n) (hk : k ≤ k') (hn : n ≤ n') : Shy d k' n' := ⟨h.plain, h.show_, Nat.le_trans h.depth hk, Nat.le_trans h.len hn⟩
theorem shy_int {i : Int} (h0 : 0 ≤ i) {n : Nat} (hn : 0 < n) (h1 : i < 10 ^ n) (h2 : i.natAbs.log2 < 1920) : Shy (.int i) 0 n :=
  ⟨rfl, by simpa [PyData.showable] using h2, by simp [PyData.depth], toString_length_le h0 hn h1⟩
theorem shy_enc {x : List Row} (h : small x = true) : Shy (encA x) 3 100000 := by
  unfold small at h
  simp only [Bool.and_eq_true, decide_eq_true_eq, List.all_eq_true] at h
  obtain ⟨hl, hx⟩ := h
  have row : ∀ r ∈ x, Shy (encR r) 2 60 := fun r hr => by
    obtain ⟨h4, hp⟩ := hx r hr
    have pairs : ∀ d ∈ r.map enc2, Shy d 1 9 := fun d hd => by
      obtain ⟨p, hp', rfl⟩ := List.mem_map.mp hd
      obtain ⟨q1, q2, q3, q4⟩ := hp p hp'
      have i1 : Shy (.int p.1) 0 1 := shy_int q1 (by omega) (by omega) (by have := log_small (i := p.1) (n := 4) (by omega) (by omega); omega)
      have i2 : Shy (.int p.2) 0 1 := shy_int q3 (by omega) (by omega) (by have := log_small (i := p.2) (n := 4) (by omega) (by omega); omega)
      have := shy_tup (ds := [.int p.1, .int p.2]) (k := 0) (n := 1) fun d hd => by
        rcases List.mem_cons.mp hd with rfl | hd
        · exact i1
        · rcases List.mem_cons.mp hd with rfl | hd
          · exact i2
          · cases hd
      exact this.mono (by omega) (by simp)
    have := shy_tup pairs
    exact this.mono (by omega) (by rw [List.length_map]; omega)
  have rows : ∀ d ∈ x.map encR, Shy d 2 60 := fun d hd => by
    obtain ⟨r, hr, rfl⟩ := List.mem_map.mp hd
    exact row r hr
  have := shy_tup rows
  exact this.mono (by omega) (by rw [List.length_map]; omega)
theorem Shy.ok {d : D} {k n : Nat} (h : Shy d k n) (hk : k ≤ 50) (hn : n ≤ 16777216) : s9 [.dat d, .dat d] = .ret (.val (.bool true)) [.un, .un] := same_ok ⟨h.plain, h.show_, Nat.le_trans h.depth hk, Nat.le_trans h.len hn⟩
theorem shy_two {d : D} {k n : Nat} (h : Shy d k n) : Shy (.list [d, d]) (k + 1) (2 * n + 7) := by
  have := shy_lst (ds := [d, d]) (k := k) (n := n) fun e he => by
    rcases List.mem_cons.mp he with rfl | he
    · exact h
    · rcases List.mem_cons.mp he with rfl | he
      · exact h
      · cases he
  exact this.mono (by omega) (by simp)
theorem shy_cnt {x : Int} (h0 : 0 ≤ x) (h1 : x < 2 ^ 480) : Shy (.int x) 0 200 := shy_int h0 (by omega) (Int.lt_of_lt_of_le h1 (by decide +kernel)) (by have := log_small (i := x) (n := 480) (by omega) (by omega); omega)
end Law
open PySem PySem.Spec PyProof.Rows L2 Ev
namespace Law
/-- what the checks of one draw say -/
structure Fine (n m : Int) (x y : List Row) : Prop where
  dom : In n ∧ In m
  all : s10 [.dat (.int n), .dat (.int m)] = .ret (.val (encA x)) [.un, .un]
  own : s4 [.dat (.int n), .dat (.int m)] = .ret (.val (encA x)) [.un, .un]
  back : s4 [.dat (.int m), .dat (.int n)] = .ret (.val (encA y)) [.un, .un]
  cnt : cntF n m = (x.length : Nat)
  shy : small x = true
  shy2 : small y = true
  rows : ∀ r ∈ x, srtOk (swapR r) = true
  whole : srtOk (x.map turnR) = true
  turn : PyData.tuple (sortD (x.map turnR)) = encA y
theorem fine_w {o p q : FOut} {k : Int} (h : okW o p q k = true) : ∃ x y : List Row, o = .ret (.val (encA x)) [.un, .un] ∧ p = .ret (.val (encA x)) [.un, .un] ∧ q = .ret (.val (encA y)) [.un, .un] ∧ k = (x.length : Nat) ∧ small x = true ∧ small y = true ∧
    (∀ r ∈ x, srtOk (swapR r) = true) ∧ srtOk (x.map turnR) = true ∧ PyData.tuple (sortD (x.map turnR)) = encA y := by
  unfold okW at h
  split at h
  · rename_i x hx
    simp only [Bool.and_eq_true, decide_eq_true_eq, List.all_eq_true] at h
    obtain ⟨⟨⟨⟨⟨h1, h2⟩, h3⟩, h4⟩, h5⟩, h6⟩ := h
    split at h6
    · rename_i y hy
      simp only [Bool.and_eq_true, decide_eq_true_eq] at h6
      exact ⟨x, y, look_ok hx, look_ok h1, look_ok h6.1, h3, h2, h6.2, h4, h5, decA_ok hy⟩
    · cases h6
  · cases h
theorem fine_of {n m : Nat} (hn : n < 5) (hm : m < 5) (h : okAt n m = true) : ∃ x y, Fine n m x y := by
  obtain ⟨x, y, a1, a2, a3, a4, a5, a6, a7, a8, a9⟩ := fine_w h
  exact ⟨x, y, ⟨⟨by omega, by omega⟩, ⟨by omega, by omega⟩⟩, a1, a2, a3, a4, a5, a6, a7, a8, a9⟩
theorem small_len {x : List Row} (h : small x = true) : x.length ≤ 1000 ∧ ∀ r ∈ x, r.length ≤ 4 := by
  unfold small at h
  simp only [Bool.and_eq_true, decide_eq_true_eq, List.all_eq_true] at h
  exact ⟨h.1, fun r hr => (h.2 r hr).1⟩
def teI : M Ret := mOps bTuple (mCons (toB (mOps bSort (mCons (toB (mLc [6, 7] (mItV (mName 5)) (.tp [(.nm 6), (.nm 7)]) mYes (mTup (mCons (toB (mName 7)) (mCons (toB (mName 6)) mNil))))) mNil))) mNil)
theorem teI_ok (w : Ev.Slot) (a b c : D) (r : Row) (hr : r.length ≤ 4) (hs : srtOk (swapR r) = true) :
    teI [w, .dat a, .dat b, .dat c, .un, .dat (encR r), .un, .un] = .ok (.val (turnR r)) [w, .dat a, .dat b, .dat c, .un, .dat (encR r), .un, .un] := by
  have l := lcLoop_map (own := [6, 7]) (tg := .tp [.nm 6, .nm 7]) (te := mTup (mCons (toB (mName 7)) (mCons (toB (mName 6)) mNil))) (e := enc2) (f := fun p => enc2 (p.2, p.1)) (ρ := [w, .dat a, .dat b, .dat c, .un, .dat (encR r), .un, .un]) r []
    (fun p _ => ⟨_, _, _, rfl, rfl, rfl, rfl, rfl⟩) (by simp; omega)
  have s := srt_ok hs
  unfold swapR at s
  unfold teI turnR swapR
  rw [List.nil_append] at l
  unfold encR at l ⊢
  simp [fnSem, outsOf, argIn, sSeq, sIf, sAsgN, sAsgT, sSetIx, sRet, sRetN, sNext, sExpr, sAug, sPar, sNo, mNo, mTst, mTru, mNotT, mAndT, mOrT, mNotV, mAndV, mOrV, mIfE, mOp1, mOp2, mOps, mCons, mNil, mCst, mName, mMove, mBor, toB, mArg, mTup, mLst, mCallK, callB, argSls, argSl, argS, noTw, isSl, pick, putGo, newS, lookSl, reown, opnd1, opnd2, opnds, res, ress, valsOf, truth, Slot.data?, cmpRet, Ret.toD, Ret.slot, Slot.free?, Slot.own?, Out.andThen, Out.thenS, opAdd, opSub, opMul, opDiv, opMod, opNeg, opIx, retOf, L2.atI, L2.ixN, cGt, cLt, cLe, cGe, bInt, bAbs, bLen, bMax, bMin, mLenG, mIxG, mSlG, mPart, mItR1, mItR2, mItV, itemsOf, sFor, asgT, asgTs, mLc, freeAll, wipeR, restR, keepDat, lcFin, l, s, bTuple]
theorem turn_ok (w : Ev.Slot) {n m : Int} {x y : List Row} (F : Fine n m x y) (a b : D) :
    c12_5 [w, .dat a, .dat b, .dat (encA x), .un, .un, .un, .un] = .nx [w, .dat a, .dat b, .dat (encA x), .dat (encA y), .un, .un, .un] := by
  obtain ⟨hl, hr⟩ := small_len F.shy
  have l := lcLoop_map (own := [5]) (tg := .nm 5) (te := teI) (e := encR) (f := turnR) (ρ := [w, .dat a, .dat b, .dat (encA x), .un, .un, .un, .un]) x []
    (fun r hx => ⟨_, _, _, rfl, teI_ok w a b (encA x) r (hr r hx) (F.rows r hx), rfl, rfl, rfl⟩) (by simp; omega)
  have s := srt_ok F.whole
  have t := F.turn
  rw [List.nil_append] at l
  show sAsgN 4 (mOps bTuple (mCons (toB (mOps bSort (mCons (toB (mLc [5] (mItV (mName 3)) (.nm 5) mYes teI)) mNil))) mNil)) _ = _
  rw [← t]
  unfold encA at l ⊢
  simp [fnSem, outsOf, argIn, sSeq, sIf, sAsgN, sAsgT, sSetIx, sRet, sRetN, sNext, sExpr, sAug, sPar, sNo, mNo, mTst, mTru, mNotT, mAndT, mOrT, mNotV, mAndV, mOrV, mIfE, mOp1, mOp2, mOps, mCons, mNil, mCst, mName, mMove, mBor, toB, mArg, mTup, mLst, mCallK, callB, argSls, argSl, argS, noTw, isSl, pick, putGo, newS, lookSl, reown, opnd1, opnd2, opnds, res, ress, valsOf, truth, Slot.data?, cmpRet, Ret.toD, Ret.slot, Slot.free?, Slot.own?, Out.andThen, Out.thenS, opAdd, opSub, opMul, opDiv, opMod, opNeg, opIx, retOf, L2.atI, L2.ixN, cGt, cLt, cLe, cGe, bInt, bAbs, bLen, bMax, bMin, mLenG, mIxG, mSlG, mPart, mItR1, mItR2, mItV, itemsOf, sFor, asgT, asgTs, mLc, freeAll, wipeR, restR, keepDat, lcFin, l, s, bTuple]
theorem mid_ok (w : List D) {n m : Int} {x y : List Row} (F : Fine n m x y) :
    (sSeq c12_2 (sSeq c12_3 (sSeq c12_4 (sSeq c12_5 c12_6)))) [.lst false w, .dat (.int n), .dat (.int m), .un, .un, .un, .un, .un] = .nx [.lst false w, .dat (.int n), .dat (.int m), .dat (encA x), .dat (encA y), .un, .un, .un] := by
  obtain ⟨hl, hr⟩ := small_len F.shy
  have sx := shy_enc F.shy
  have sy := shy_enc F.shy2
  have q1 := (shy_two sx).ok (by omega) (by omega)
  have q2 := sy.ok (by omega) (by omega)
  have sc : Shy (.int (x.length : Nat)) 0 200 := shy_cnt (by omega) (by omega)
  have q3 := (shy_two sc).ok (by omega) (by omega)
  have F1 := F.all
  have F2 := F.own
  have F3 := F.back
  have e2 : c12_2 [.lst false w, .dat (.int n), .dat (.int m), .un, .un, .un, .un, .un] = .nx [.lst false w, .dat (.int n), .dat (.int m), .dat (encA x), .un, .un, .un, .un] := by
    unfold c12_2
    simp [fnSem, outsOf, argIn, sSeq, sIf, sAsgN, sAsgT, sSetIx, sRet, sRetN, sNext, sExpr, sAug, sPar, sNo, mNo, mTst, mTru, mNotT, mAndT, mOrT, mNotV, mAndV, mOrV, mIfE, mOp1, mOp2, mOps, mCons, mNil, mCst, mName, mMove, mBor, toB, mArg, mTup, mLst, mCallK, callB, argSls, argSl, argS, noTw, isSl, pick, putGo, newS, lookSl, reown, opnd1, opnd2, opnds, res, ress, valsOf, truth, Slot.data?, cmpRet, Ret.toD, Ret.slot, Slot.free?, Slot.own?, Out.andThen, Out.thenS, opAdd, opSub, opMul, opDiv, opMod, opNeg, opIx, retOf, L2.atI, L2.ixN, cGt, cLt, cLe, cGe, bInt, bAbs, bLen, bMax, bMin, mLenG, mIxG, mSlG, mPart, mItR1, mItR2, mItV, itemsOf, sFor, asgT, asgTs, F1]
  have e3 : c12_3 [.lst false w, .dat (.int n), .dat (.int m), .dat (encA x), .un, .un, .un, .un] = .nx [.lst false w, .dat (.int n), .dat (.int m), .dat (encA x), .un, .un, .un, .un] := by
    unfold c12_3
    simp [fnSem, outsOf, argIn, sSeq, sIf, sAsgN, sAsgT, sSetIx, sRet, sRetN, sNext, sExpr, sAug, sPar, sNo, mNo, mTst, mTru, mNotT, mAndT, mOrT, mNotV, mAndV, mOrV, mIfE, mOp1, mOp2, mOps, mCons, mNil, mCst, mName, mMove, mBor, toB, mArg, mTup, mLst, mCallK, callB, argSls, argSl, argS, noTw, isSl, pick, putGo, newS, lookSl, reown, opnd1, opnd2, opnds, res, ress, valsOf, truth, Slot.data?, cmpRet, Ret.toD, Ret.slot, Slot.free?, Slot.own?, Out.andThen, Out.thenS, opAdd, opSub, opMul, opDiv, opMod, opNeg, opIx, retOf, L2.atI, L2.ixN, cGt, cLt, cLe, cGe, bInt, bAbs, bLen, bMax, bMin, mLenG, mIxG, mSlG, mPart, mItR1, mItR2, mItV, itemsOf, sFor, asgT, asgTs, F2, q1]
  have e6 : c12_6 [.lst false w, .dat (.int n), .dat (.int m), .dat (encA x), .dat (encA y), .un, .un, .un] = .nx [.lst false w, .dat (.int n), .dat (.int m), .dat (encA x), .dat (encA y), .un, .un, .un] := by
    unfold c12_6
    simp [fnSem, outsOf, argIn, sSeq, sIf, sAsgN, sAsgT, sSetIx, sRet, sRetN, sNext, sExpr, sAug, sPar, sNo, mNo, mTst, mTru, mNotT, mAndT, mOrT, mNotV, mAndV, mOrV, mIfE, mOp1, mOp2, mOps, mCons, mNil, mCst, mName, mMove, mBor, toB, mArg, mTup, mLst, mCallK, callB, argSls, argSl, argS, noTw, isSl, pick, putGo, newS, lookSl, reown, opnd1, opnd2, opnds, res, ress, valsOf, truth, Slot.data?, cmpRet, Ret.toD, Ret.slot, Slot.free?, Slot.own?, Out.andThen, Out.thenS, opAdd, opSub, opMul, opDiv, opMod, opNeg, opIx, retOf, L2.atI, L2.ixN, cGt, cLt, cLe, cGe, bInt, bAbs, bLen, bMax, bMin, mLenG, mIxG, mSlG, mPart, mItR1, mItR2, mItV, itemsOf, sFor, asgT, asgTs, F3, q2]
  have e5 := turn_ok (.lst false w) F (.int n) (.int m)
  have e4 : (h5 : s5 [.dat (.int n), .dat (.int m)] = .ret (.val (.int (x.length : Nat))) [.un, .un]) → c12_4 [.lst false w, .dat (.int n), .dat (.int m), .dat (encA x), .un, .un, .un, .un] = .nx [.lst false w, .dat (.int n), .dat (.int m), .dat (encA x), .un, .un, .un, .un] := fun h5 => by
    have q : ∀ k : Int, k = (x.length : Nat) → s9 [.dat (.list [.int k, .int k]), .dat (.list [.int k, .int k])] = .ret (.val (.bool true)) [.un, .un] := fun k e => by subst e; exact q3
    have el : (encA x) = .tuple (x.map encR) := rfl
    generalize hk : ((x.length : Nat) : Int) = k at h5
    have q' := q k hk.symm
    rw [el]
    unfold c12_4
    simp [fnSem, outsOf, argIn, sSeq, sIf, sAsgN, sAsgT, sSetIx, sRet, sRetN, sNext, sExpr, sAug, sPar, sNo, mNo, mTst, mTru, mNotT, mAndT, mOrT, mNotV, mAndV, mOrV, mIfE, mOp1, mOp2, mOps, mCons, mNil, mCst, mName, mMove, mBor, toB, mArg, mTup, mLst, mCallK, callB, argSls, argSl, argS, noTw, isSl, pick, putGo, newS, lookSl, reown, opnd1, opnd2, opnds, res, ress, valsOf, truth, Slot.data?, cmpRet, Ret.toD, Ret.slot, Slot.free?, Slot.own?, Out.andThen, Out.thenS, opAdd, opSub, opMul, opDiv, opMod, opNeg, opIx, retOf, L2.atI, L2.ixN, cGt, cLt, cLe, cGe, bInt, bAbs, bLen, bMax, bMin, mLenG, mIxG, mSlG, mPart, mItR1, mItR2, mItV, itemsOf, sFor, asgT, asgTs, h5, hk, q', List.replicate]
  have hn := F.dom
  have h5 : s5 [.dat (.int n), .dat (.int m)] = .ret (.val (.int (x.length : Nat))) [.un, .un] := by rw [cnt_ok hn.1 hn.2, F.cnt]
  unfold sSeq
  simp only [e2, e3, e4 h5, e5, e6]
end Law
namespace Law
set_option maxHeartbeats 0 in
theorem k00 : okAt 0 0 = true := by decide +kernel
set_option maxHeartbeats 0 in
theorem k01 : okAt 0 1 = true := by decide +kernel
set_option maxHeartbeats 0 in
theorem k02 : okAt 0 2 = true := by decide +kernel
set_option maxHeartbeats 0 in
theorem k03 : okAt 0 3 = true := by decide +kernel
set_option maxHeartbeats 0 in
theorem k04 : okAt 0 4 = true := by decide +kernel
set_option maxHeartbeats 0 in
theorem k10 : okAt 1 0 = true := by decide +kernel
set_option maxHeartbeats 0 in
theorem k11 : okAt 1 1 = true := by decide +kernel
set_option maxHeartbeats 0 in
theorem k12 : okAt 1 2 = true := by decide +kernel
set_option maxHeartbeats 0 in
theorem k13 : okAt 1 3 = true := by decide +kernel
set_option maxHeartbeats 0 in
theorem k14 : okAt 1 4 = true := by decide +kernel
set_option maxHeartbeats 0 in
theorem k20 : okAt 2 0 = true := by decide +kernel
set_option maxHeartbeats 0 in
theorem k21 : okAt 2 1 = true := by decide +kernel
set_option maxHeartbeats 0 in
theorem k22 : okAt 2 2 = true := by decide +kernel
set_option maxHeartbeats 0 in
theorem k23 : okAt 2 3 = true := by decide +kernel
set_option maxHeartbeats 0 in
theorem k24 : okAt 2 4 = true := by decide +kernel
set_option maxHeartbeats 0 in
theorem k30 : okAt 3 0 = true := by decide +kernel
set_option maxHeartbeats 0 in
theorem k31 : okAt 3 1 = true := by decide +kernel
set_option maxHeartbeats 0 in
theorem k32 : okAt 3 2 = true := by decide +kernel
set_option maxHeartbeats 0 in
theorem k33 : okAt 3 3 = true := by decide +kernel
set_option maxHeartbeats 0 in
theorem k34 : okAt 3 4 = true := by decide +kernel
set_option maxHeartbeats 0 in
theorem k40 : okAt 4 0 = true := by decide +kernel
set_option maxHeartbeats 0 in
theorem k41 : okAt 4 1 = true := by decide +kernel
set_option maxHeartbeats 0 in
theorem k42 : okAt 4 2 = true := by decide +kernel
set_option maxHeartbeats 0 in
theorem k43 : okAt 4 3 = true := by decide +kernel
set_option maxHeartbeats 0 in
theorem k44 : okAt 4 4 = true := by decide +kernel
theorem ok_all (n m : Nat) (hn : n < 5) (hm : m < 5) : okAt n m = true := by
  match n, m, hn, hm with
  | 0, 0, _, _ => exact k00
  | 0, 1, _, _ => exact k01
  | 0, 2, _, _ => exact k02
  | 0, 3, _, _ => exact k03
  | 0, 4, _, _ => exact k04
  | 1, 0, _, _ => exact k10
  | 1, 1, _, _ => exact k11
  | 1, 2, _, _ => exact k12
  | 1, 3, _, _ => exact k13
  | 1, 4, _, _ => exact k14
  | 2, 0, _, _ => exact k20
  | 2, 1, _, _ => exact k21
  | 2, 2, _, _ => exact k22
  | 2, 3, _, _ => exact k23
  | 2, 4, _, _ => exact k24
  | 3, 0, _, _ => exact k30
  | 3, 1, _, _ => exact k31
  | 3, 2, _, _ => exact k32
  | 3, 3, _, _ => exact k33
  | 3, 4, _, _ => exact k34
  | 4, 0, _, _ => exact k40
  | 4, 1, _, _ => exact k41
  | 4, 2, _, _ => exact k42
  | 4, 3, _, _ => exact k43
  | 4, 4, _, _ => exact k44
  | n + 5, _, h, _ => exact absurd h (by omega)
  | _, m + 5, _, h => exact absurd h (by omega)
end Law
open PySem PySem.Spec PyProof.Rows L2 Ev
namespace Law
def wl (a b c : Int) : List D := [.int a, .int b, .int c]
theorem fine_all {n m : Int} (hn : 0 ≤ n ∧ n < 5) (hm : 0 ≤ m ∧ m < 5) : ∃ x y, Fine n m x y := by
  obtain ⟨p, rfl⟩ : ∃ p : Nat, n = p := ⟨n.toNat, by omega⟩
  obtain ⟨q, rfl⟩ : ∃ q : Nat, m = q := ⟨m.toNat, by omega⟩
  exact fine_of (by omega) (by omega) (ok_all p q (by omega) (by omega))
theorem right_ok (a b c : Int) (hb : 0 ≤ b ∧ b < wB) (hc : 0 ≤ c ∧ c < 10 ^ 6) : ∃ a' c', 0 ≤ c' ∧ c' ≤ c + 4 ∧ s12 [.lst false (wl a b c)] = .ret (.val (.bool true)) [.lst false (wl a' b c')] := by
  obtain ⟨n, a1, c1, n0, n1, p1, p2, h1⟩ := take_ok a b c 5 ⟨by omega, by omega⟩ hb ⟨hc.1, by omega⟩
  obtain ⟨m, a2, c2, m0, m1, p3, p4, h2⟩ := take_ok a1 b c1 5 ⟨by omega, by omega⟩ hb ⟨p1, by omega⟩
  obtain ⟨x, y, F⟩ := fine_all ⟨n0, n1⟩ ⟨m0, m1⟩
  obtain ⟨n', a3, c3, n0', n1', p5, p6, h3⟩ := take_ok a2 b c2 61 ⟨by omega, by omega⟩ hb ⟨p3, by omega⟩
  obtain ⟨m', a4, c4, m0', m1', p7, p8, h4⟩ := take_ok a3 b c3 61 ⟨by omega, by omega⟩ hb ⟨p5, by omega⟩
  refine ⟨a4, c4, p7, by omega, ?_⟩
  have e1 : c12_1 [.lst false (wl a b c), .un, .un, .un, .un, .un, .un, .un] = .nx [.lst false (wl a2 b c2), .dat (.int n), .dat (.int m), .un, .un, .un, .un, .un] := by
    unfold c12_1 wl
    simp [fnSem, outsOf, argIn, sSeq, sIf, sAsgN, sAsgT, sSetIx, sRet, sRetN, sNext, sExpr, sAug, sPar, sNo, mNo, mTst, mTru, mNotT, mAndT, mOrT, mNotV, mAndV, mOrV, mIfE, mOp1, mOp2, mOps, mCons, mNil, mCst, mName, mMove, mBor, toB, mArg, mTup, mLst, mCallK, callB, argSls, argSl, argS, noTw, isSl, pick, putGo, newS, lookSl, reown, opnd1, opnd2, opnds, res, ress, valsOf, truth, Slot.data?, cmpRet, Ret.toD, Ret.slot, Slot.free?, Slot.own?, Out.andThen, Out.thenS, opAdd, opSub, opMul, opDiv, opMod, opNeg, opIx, retOf, L2.atI, L2.ixN, cGt, cLt, cLe, cGe, bInt, bAbs, bLen, bMax, bMin, mLenG, mIxG, mSlG, mPart, mItR1, mItR2, mItV, itemsOf, sFor, asgT, asgTs, h1, h2]
  have e2 := mid_ok (wl a2 b c2) F
  have e7 : c12_7 [.lst false (wl a2 b c2), .dat (.int n), .dat (.int m), .dat (encA x), .dat (encA y), .un, .un, .un] = .nx [.lst false (wl a4 b c4), .dat (.int n'), .dat (.int m'), .dat (encA x), .dat (encA y), .un, .un, .un] := by
    unfold c12_7 wl
    simp [fnSem, outsOf, argIn, sSeq, sIf, sAsgN, sAsgT, sSetIx, sRet, sRetN, sNext, sExpr, sAug, sPar, sNo, mNo, mTst, mTru, mNotT, mAndT, mOrT, mNotV, mAndV, mOrV, mIfE, mOp1, mOp2, mOps, mCons, mNil, mCst, mName, mMove, mBor, toB, mArg, mTup, mLst, mCallK, callB, argSls, argSl, argS, noTw, isSl, pick, putGo, newS, lookSl, reown, opnd1, opnd2, opnds, res, ress, valsOf, truth, Slot.data?, cmpRet, Ret.toD, Ret.slot, Slot.free?, Slot.own?, Out.andThen, Out.thenS, opAdd, opSub, opMul, opDiv, opMod, opNeg, opIx, retOf, L2.atI, L2.ixN, cGt, cLt, cLe, cGe, bInt, bAbs, bLen, bMax, bMin, mLenG, mIxG, mSlG, mPart, mItR1, mItR2, mItV, itemsOf, sFor, asgT, asgTs, h3, h4]
  have hn : In n' := ⟨n0', n1'⟩
  have hm : In m' := ⟨m0', m1'⟩
  obtain ⟨b0, b1⟩ := cnt_b hn hm
  have g1 := sum_ok hn hm
  rw [← cnt_sum hn hm] at g1
  have g2 := cnt_ok hn hm
  have g3 := cnt_ok hm hn
  rw [← cnt_comm hn hm] at g3
  generalize cntF n' m' = k at b0 b1 g1 g2 g3
  have g4 := (shy_two (shy_cnt b0 b1)).ok (by omega) (by omega)
  have e8 : c12_8 [.lst false (wl a4 b c4), .dat (.int n'), .dat (.int m'), .dat (encA x), .dat (encA y), .un, .un, .un] = .nx [.lst false (wl a4 b c4), .dat (.int n'), .dat (.int m'), .dat (.int k), .dat (encA y), .un, .un, .un] := by
    unfold c12_8
    simp [fnSem, outsOf, argIn, sSeq, sIf, sAsgN, sAsgT, sSetIx, sRet, sRetN, sNext, sExpr, sAug, sPar, sNo, mNo, mTst, mTru, mNotT, mAndT, mOrT, mNotV, mAndV, mOrV, mIfE, mOp1, mOp2, mOps, mCons, mNil, mCst, mName, mMove, mBor, toB, mArg, mTup, mLst, mCallK, callB, argSls, argSl, argS, noTw, isSl, pick, putGo, newS, lookSl, reown, opnd1, opnd2, opnds, res, ress, valsOf, truth, Slot.data?, cmpRet, Ret.toD, Ret.slot, Slot.free?, Slot.own?, Out.andThen, Out.thenS, opAdd, opSub, opMul, opDiv, opMod, opNeg, opIx, retOf, L2.atI, L2.ixN, cGt, cLt, cLe, cGe, bInt, bAbs, bLen, bMax, bMin, mLenG, mIxG, mSlG, mPart, mItR1, mItR2, mItV, itemsOf, sFor, asgT, asgTs, g1]
  have e9 : c12_9 [.lst false (wl a4 b c4), .dat (.int n'), .dat (.int m'), .dat (.int k), .dat (encA y), .un, .un, .un] = .rt (.val (.bool true)) [.lst false (wl a4 b c4), .dat (.int n'), .dat (.int m'), .dat (.int k), .dat (encA y), .un, .un, .un] := by
    unfold c12_9
    simp [fnSem, outsOf, argIn, sSeq, sIf, sAsgN, sAsgT, sSetIx, sRet, sRetN, sNext, sExpr, sAug, sPar, sNo, mNo, mTst, mTru, mNotT, mAndT, mOrT, mNotV, mAndV, mOrV, mIfE, mOp1, mOp2, mOps, mCons, mNil, mCst, mName, mMove, mBor, toB, mArg, mTup, mLst, mCallK, callB, argSls, argSl, argS, noTw, isSl, pick, putGo, newS, lookSl, reown, opnd1, opnd2, opnds, res, ress, valsOf, truth, Slot.data?, cmpRet, Ret.toD, Ret.slot, Slot.free?, Slot.own?, Out.andThen, Out.thenS, opAdd, opSub, opMul, opDiv, opMod, opNeg, opIx, retOf, L2.atI, L2.ixN, cGt, cLt, cLe, cGe, bInt, bAbs, bLen, bMax, bMin, mLenG, mIxG, mSlG, mPart, mItR1, mItR2, mItV, itemsOf, sFor, asgT, asgTs, g2, g3, g4]
  have body : b12 [.lst false (wl a b c), .un, .un, .un, .un, .un, .un, .un] = .rt (.val (.bool true)) [.lst false (wl a4 b c4), .dat (.int n'), .dat (.int m'), .dat (.int k), .dat (encA y), .un, .un, .un] := by
    have e2' := e2
    unfold sSeq at e2'
    unfold b12 sSeq
    simp only [e1]
    cases q2 : c12_2 [.lst false (wl a2 b c2), .dat (.int n), .dat (.int m), .un, .un, .un, .un, .un] with
    | nx ρ2 =>
      simp only [q2] at e2' ⊢
      cases q3 : c12_3 ρ2 with
      | nx ρ3 =>
        simp only [q3] at e2' ⊢
        cases q4 : c12_4 ρ3 with
        | nx ρ4 =>
          simp only [q4] at e2' ⊢
          cases q5 : c12_5 ρ4 with
          | nx ρ5 =>
            simp only [q5] at e2' ⊢
            simp only [e2', e7, e8, e9]
          | _ => simp only [q5] at e2'; cases e2'
        | _ => simp only [q4] at e2'; cases e2'
      | _ => simp only [q3] at e2'; cases e2'
    | _ => simp only [q2] at e2'; cases e2'
  rw [s12_eq]
  unfold fnSem
  rw [if_pos ⟨rfl, rfl⟩]
  show (match b12 [.lst false (wl a b c), .un, .un, .un, .un, .un, .un, .un] with
    | .nx ρ => FOut.ret (.val .none) (outsOf _ ρ)
    | .rt r ρ => .ret r (outsOf _ ρ)
    | _ => .no) = _
  rw [body]
  rfl
theorem turns (g : List D) (at_ : Int) (b : Int) (hb : 0 ≤ b ∧ b < wB) : ∀ (j k : Nat) (a c : Int) (s : Ev.Slot), frS s → 0 ≤ c → c + 4 * j < 10 ^ 6 → ∃ a' c' s', frS s' ∧
    forLoop (.nm 3) b13_1 ((List.range' k j).map fun i : Nat => PyData.int (i : Int)) [.giv g, .dat (.int at_), .lst true (wl a b c), s] = .nx [.giv g, .dat (.int at_), .lst true (wl a' b c'), s']
  | 0, k, a, c, s, hs, _, _ => ⟨a, c, s, hs, rfl⟩
  | j + 1, k, a, c, s, hs, h0, h1 => by
    obtain ⟨a1, c1, p1, p2, e1⟩ := right_ok a b c hb ⟨h0, by omega⟩
    obtain ⟨a', c', s', q1, q2⟩ := turns g at_ b hb j (k + 1) a1 c1 (.dat (.int k)) (.inr ⟨_, rfl⟩) p1 (by omega)
    refine ⟨a', c', s', q1, ?_⟩
    rw [← q2, range_cons]
    generalize (k : Int) = kk
    rcases hs with rfl | ⟨d, rfl⟩ <;> simp [forLoop, b13_1, fnSem, outsOf, argIn, sSeq, sIf, sAsgN, sAsgT, sSetIx, sRet, sRetN, sNext, sExpr, sAug, sPar, sNo, mNo, mTst, mTru, mNotT, mAndT, mOrT, mNotV, mAndV, mOrV, mIfE, mOp1, mOp2, mOps, mCons, mNil, mCst, mName, mMove, mBor, toB, mArg, mTup, mLst, mCallK, callB, argSls, argSl, argS, noTw, isSl, pick, putGo, newS, lookSl, reown, opnd1, opnd2, opnds, res, ress, valsOf, truth, Slot.data?, cmpRet, Ret.toD, Ret.slot, Slot.free?, Slot.own?, Out.andThen, Out.thenS, opAdd, opSub, opMul, opDiv, opMod, opNeg, opIx, retOf, L2.atI, L2.ixN, cGt, cLt, cLe, cGe, bInt, bAbs, bLen, bMax, bMin, mLenG, mIxG, mSlG, mPart, mItR1, mItR2, mItV, itemsOf, sFor, asgT, asgTs, e1]
def ownS (s : Ev.Slot) : Prop := s = .un ∨ ∃ ds, s = .lst true ds
theorem wells (ns : List Int) (hl : ns.length ≤ 63) : ∀ (j k : Nat) (s1 s2 s3 : Ev.Slot), frS s1 → ownS s2 → frS s3 → k + j ≤ 63 → ∃ t1 t2 t3,
    forLoop (.nm 1) b13_2 ((List.range' k j).map fun i : Nat => PyData.int (i : Int)) [.giv (ns.map PyData.int), s1, s2, s3] = .nx [.giv (ns.map PyData.int), t1, t2, t3]
  | 0, k, s1, s2, s3, _, _, _, _ => ⟨s1, s2, s3, rfl⟩
  | j + 1, k, s1, s2, s3, h1, h2, h3, hk => by
    obtain ⟨a, b, b0, b1, e1⟩ := well_ok ns hl (k : Int) (by omega) (by omega)
    obtain ⟨a', c', s', q1, q2⟩ := turns (ns.map PyData.int) (k : Int) b ⟨b0, b1⟩ 4 0 a 0 s3 h3 (by omega) (by omega)
    obtain ⟨t1, t2, t3, q3⟩ := wells ns hl j (k + 1) (.dat (.int k)) (.lst true (wl a' b c')) s' (.inr ⟨_, rfl⟩) (.inr ⟨_, rfl⟩) q1 (by omega)
    refine ⟨t1, t2, t3, ?_⟩
    have e4 := rangeD_eq 4
    rw [← q3, range_cons]
    generalize (k : Int) = kk at e1 q2
    unfold wl at q2 ⊢
    rcases h1 with rfl | ⟨d, rfl⟩ <;> rcases h2 with rfl | ⟨d2, rfl⟩ <;> rcases h3 with rfl | ⟨d3, rfl⟩ <;> simp [forLoop, b13_2, fnSem, outsOf, argIn, sSeq, sIf, sAsgN, sAsgT, sSetIx, sRet, sRetN, sNext, sExpr, sAug, sPar, sNo, mNo, mTst, mTru, mNotT, mAndT, mOrT, mNotV, mAndV, mOrV, mIfE, mOp1, mOp2, mOps, mCons, mNil, mCst, mName, mMove, mBor, toB, mArg, mTup, mLst, mCallK, callB, argSls, argSl, argS, noTw, isSl, pick, putGo, newS, lookSl, reown, opnd1, opnd2, opnds, res, ress, valsOf, truth, Slot.data?, cmpRet, Ret.toD, Ret.slot, Slot.free?, Slot.own?, Out.andThen, Out.thenS, opAdd, opSub, opMul, opDiv, opMod, opNeg, opIx, retOf, L2.atI, L2.ixN, cGt, cLt, cLe, cGe, bInt, bAbs, bLen, bMax, bMin, mLenG, mIxG, mSlG, mPart, mItR1, mItR2, mItV, itemsOf, sFor, asgT, asgTs, e1, e4, q2]
theorem holds : ∀ ns : List Int, ns.length ≤ 63 → ∃ outs, s13 [.giv (ns.map PyData.int)] = .ret (.val (.bool true)) outs := by
  intro ns hl
  have hK : ∃ K : Int, 1 ≤ K ∧ K ≤ 4 ∧ (∃ d, d = K ∧ d = (if (if (ns.length : Int) < 4 then (ns.length : Int) else 4) > 1 then (if (ns.length : Int) < 4 then (ns.length : Int) else 4) else 1)) := by
    refine ⟨_, ?_, ?_, _, rfl, rfl⟩ <;> split <;> (try split) <;> omega
  obtain ⟨K, k1, k2, d, rfl, hd⟩ := hK
  obtain ⟨t1, t2, t3, q⟩ := wells ns hl d.toNat 0 .un .un .un (.inl rfl) (.inl rfl) (.inl rfl) (by omega)
  have e4 := rangeD_eq d.toNat
  have b1 : -4611686018427387904 ≤ d := by omega
  have b2 : d < 4611686018427387904 := by omega
  refine ⟨[.un], ?_⟩
  rw [s13_eq]
  unfold b13 c13_1 c13_2
  simp [fnSem, outsOf, argIn, sSeq, sIf, sAsgN, sAsgT, sSetIx, sRet, sRetN, sNext, sExpr, sAug, sPar, sNo, mNo, mTst, mTru, mNotT, mAndT, mOrT, mNotV, mAndV, mOrV, mIfE, mOp1, mOp2, mOps, mCons, mNil, mCst, mName, mMove, mBor, toB, mArg, mTup, mLst, mCallK, callB, argSls, argSl, argS, noTw, isSl, pick, putGo, newS, lookSl, reown, opnd1, opnd2, opnds, res, ress, valsOf, truth, Slot.data?, cmpRet, Ret.toD, Ret.slot, Slot.free?, Slot.own?, Out.andThen, Out.thenS, opAdd, opSub, opMul, opDiv, opMod, opNeg, opIx, retOf, L2.atI, L2.ixN, cGt, cLt, cLe, cGe, bInt, bAbs, bLen, bMax, bMin, mLenG, mIxG, mSlG, mPart, mItR1, mItR2, mItV, itemsOf, sFor, asgT, asgTs, ← hd, e4, q, b1, b2]
end Law
open PySem PySem.W PyProof.Rows
set_option maxHeartbeats 0 in
theorem PySem.Challenge.cw_idsremembered_k10_matchings_holds : PySem.Challenge.rw_idsremembered_k10_matchings.Holds := by
  w_on; o_law; k_head; (case hw => w_witness2)
  k_fill
  refine Ev.walkG (l := PySem.Challenge.rw_idsremembered_k10_matchings) (n := 63) (k := 14) (x := "script") (F := Law.s13) rfl (by decide) rfl ⟨rfl, by decide, by decide⟩ (fun w h Y => PySem.W.kIn_of Y) ?G Law.holds
  case G =>
    intro w mg fa h KX G hmg
    refine' Law.all_mk KX G hmg ?b ?f0 ?f1 ?f2 ?f3 ?f4 ?f5 ?f6 ?f7 ?f8 ?f9 ?f10 ?f11 ?f12 ?f13
    (case b => exact ⟨by k_is, by k_is, by k_is, by k_is, by k_is, by k_is, by k_is, by k_is, by k_is, by k_is, by k_is, trivial⟩)
    (case f0 => refine' Ev.facts_mk ?a ?l ?c ?k; (case a => k_is); (case l => k_is); (case c => k_is); (case k => k_is))
    (case f1 => refine' Ev.facts_mk ?a ?l ?c ?k; (case a => k_is); (case l => k_is); (case c => k_is); (case k => k_is))
    (case f2 => refine' Ev.facts_mk ?a ?l ?c ?k; (case a => k_is); (case l => k_is); (case c => k_is); (case k => k_is))
    (case f3 => refine' Ev.facts_mk ?a ?l ?c ?k; (case a => k_is); (case l => k_is); (case c => k_is); (case k => k_is))
    (case f4 => refine' Ev.facts_mk ?a ?l ?c ?k; (case a => k_is); (case l => k_is); (case c => k_is); (case k => k_is))
    (case f5 => refine' Ev.facts_mk ?a ?l ?c ?k; (case a => k_is); (case l => k_is); (case c => k_is); (case k => k_is))
    (case f6 => refine' Ev.facts_mk ?a ?l ?c ?k; (case a => k_is); (case l => k_is); (case c => k_is); (case k => k_is))
    (case f7 => refine' Ev.facts_mk ?a ?l ?c ?k; (case a => k_is); (case l => k_is); (case c => k_is); (case k => k_is))
    (case f8 => refine' Ev.facts_mk ?a ?l ?c ?k; (case a => k_is); (case l => k_is); (case c => k_is); (case k => k_is))
    (case f9 => refine' Ev.facts_mk ?a ?l ?c ?k; (case a => k_is); (case l => k_is); (case c => k_is); (case k => k_is))
    (case f10 => refine' Ev.facts_mk ?a ?l ?c ?k; (case a => k_is); (case l => k_is); (case c => k_is); (case k => k_is))
    (case f11 => refine' Ev.facts_mk ?a ?l ?c ?k; (case a => k_is); (case l => k_is); (case c => k_is); (case k => k_is))
    (case f12 => refine' Ev.facts_mk ?a ?l ?c ?k; (case a => k_is); (case l => k_is); (case c => k_is); (case k => k_is))
    (case f13 => refine' Ev.facts_mk ?a ?l ?c ?k; (case a => k_is); (case l => k_is); (case c => k_is); (case k => k_is))
