import PyProof.Rows.All
import Wide.All
import OpenK.AllK
import Wide.FinOn
import HandS.ForMost
import HandS.Exc
import HandS.Deep
import HandS.TupAny
import HandS.Flow
import HandS.TupMul
import HandS.Wide
import KE.DataCmp
import KE.DataFind
import KE.DataMinMax
import KE.SortUse
import KE.DataIsa
import HandS.RaiseMore
import PyProof.ReprRoads
import HandS.Text
import HandS.Codes
import HandS.Conv
import HandS.More
import HandS.Words
import HandS.IsInst
import HandS.Style
import HandS.Zip
import HandS.Dict
import HandS.Small
import HandS.Iter
import HandS.DictComp
import HandS.SetKeys
import KE.KDictZip
import HandS.Ends
import HandS.TryOnly
import PySem.Challenge.RW_idsremembered_k51_programs_by_going_alon
set_option Elab.async false
set_option linter.all false
set_option maxRecDepth 1000000
/-! the evaluator over plain data: slots, outcomes, how they stand in an abstract heap -/
namespace Ev
open PySem PySem.Spec PyProof.Rows L2
abbrev D := PyData
/-- where the one bag of a run lies: [great, small, turn] -/
class Gh where
  b : Addr
  g : Addr
  m : Addr
  t : Addr
  bg : b ≠ g
  bm : b ≠ m
  bt : b ≠ t
  gm : g ≠ m
  gt : g ≠ t
  mt : m ≠ t
/-- what a name of a def holds -/
inductive Slot where
  | un
  | dat (d : D)
  | lst (z : Bool) (ds : List D)
  | dic (z : Bool) (kvs : List (D × D))
  | giv (ds : List D)
  | bag (G M : List Int) (T : Int)
abbrev Rho := List Slot
def Slot.own? : Slot → Option Bool
  | .lst z _ => some z
  | .dic z _ => some z
  | .bag _ _ _ => some false
  | _ => none
def Slot.isBag : Slot → Bool
  | .bag _ _ _ => true
  | _ => false
structure Exn where
  cls : Str
  arg : Option (Str × D)
inductive Out (α : Type) where
  | ok (a : α) (ρ : Rho)
  | exn (e : Exn) (ρ : Rho)
  | no
abbrev M (α : Type) := Rho → Out α
def Out.andThen {α β : Type} (o : Out α) (f : α → Rho → Out β) : Out β := match o with
  | .ok a ρ => f a ρ
  | .exn e ρ => .exn e ρ
  | .no => .no
@[simp] theorem andThen_ok {α β : Type} (a : α) (ρ : Rho) (f : α → Rho → Out β) : (Out.ok a ρ).andThen f = f a ρ := rfl
@[simp] theorem andThen_exn {α β : Type} (e : Exn) (ρ : Rho) (f : α → Rho → Out β) : (Out.exn e ρ : Out α).andThen f = .exn e ρ := rfl
@[simp] theorem andThen_no {α β : Type} (f : α → Rho → Out β) : (Out.no : Out α).andThen f = .no := rfl
/-- an expression's end: a value, or a new list, a new dict that nobody else holds -/
inductive Ret where
  | val (d : D)
  | fl (ds : List D)
  | fd (kvs : List (D × D))
def Ret.toD : Ret → D
  | .val d => d
  | .fl ds => .list ds
  | .fd kvs => .dict kvs
/-- keys of dicts -/
def keyOf : D → Option Key
  | .int i => some (.inl i)
  | .str x => some (.inr x)
  | _ => none
abbrev AS := Addr → Prop
mutual
/-- v is the data d: all objects of it are known, and stand in S or in the written part -/
inductive R (K : PySem.W.Frag) (H : Hp) (S : AS) : V → D → Prop
  | non : R K H S .non .none
  | bl (b : Bool) : R K H S (.bl b) (.bool b)
  | int (i : Int) : R K H S (.int i) (.int i)
  | str (x : Str) : R K H S (.str x) (.str x)
  | lst {a : Addr} {xs : List V} {ds : List D} : H a = some (.lst xs) → S a → RAll K H S xs ds → R K H S (.ref a) (.list ds)
  | tup {a : Addr} {xs : List V} {ds : List D} : SqT K H a xs → (S a ∨ ∀ H', SqT K H' a xs) → RAll K H S xs ds → R K H S (.ref a) (.tuple ds)
  | dct {a : Addr} {kvs : List (Key × V)} {ds : List (D × D)} : Rd H a (.dK kvs) → S a → RKv K H S kvs ds → R K H S (.ref a) (.dict ds)
inductive RAll (K : PySem.W.Frag) (H : Hp) (S : AS) : List V → List D → Prop
  | nil : RAll K H S [] []
  | cons {v : V} {vs : List V} {d : D} {ds : List D} : R K H S v d → RAll K H S vs ds → RAll K H S (v :: vs) (d :: ds)
inductive RKv (K : PySem.W.Frag) (H : Hp) (S : AS) : List (Key × V) → List (D × D) → Prop
  | nil : RKv K H S [] []
  | cons {k : Key} {v : V} {vs : List (Key × V)} {kd d : D} {ds : List (D × D)} : keyOf kd = some k → R K H S v d → RKv K H S vs ds → RKv K H S ((k, v) :: vs) ((kd, d) :: ds)
end
section
variable {K : PySem.W.Frag} {H H' : Hp} {S S' : AS}
/-- S only grows, and its objects stay -/
structure Stay (S S' : AS) (H H' : Hp) : Prop where
  sub : ∀ a, S a → S' a
  at_ : ∀ a, S a → H' a = H a
theorem Stay.refl (S : AS) (H : Hp) : Stay S S H H := ⟨fun _ h => h, fun _ _ => rfl⟩
theorem Stay.trans {S1 S2 S3 : AS} {H1 H2 H3 : Hp} (a : Stay S1 S2 H1 H2) (b : Stay S2 S3 H2 H3) : Stay S1 S3 H1 H3 :=
  ⟨fun x h => b.sub x (a.sub x h), fun x h => (b.at_ x (a.sub x h)).trans (a.at_ x h)⟩
theorem rd_at {a : Addr} {u : HO} (e : H' a = H a) (h : Rd H a u) : Rd H' a u := by
  rcases h with h | ⟨o, h⟩
  · exact .inl (e.trans h)
  · exact .inr ⟨o, e.trans h⟩
theorem sqL_at {a : Addr} {xs : List V} (e : H' a = H a) (h : SqL K H a xs) : SqL K H' a xs := by
  rcases h with h | h
  · exact .inl (rd_at e h)
  · exact .inr h
theorem sqT_at {a : Addr} {xs : List V} (e : H' a = H a) (h : SqT K H a xs) : SqT K H' a xs := by
  rcases h with h | h
  · exact .inl (rd_at e h)
  · exact .inr h
mutual
theorem R.stay (t : Stay S S' H H') : ∀ (d : D) (v : V), R K H S v d → R K H' S' v d
  | .none, _, h => by cases h; exact .non
  | .bool b, _, h => by cases h; exact .bl b
  | .int i, _, h => by cases h; exact .int i
  | .str x, _, h => by cases h; exact .str x
  | .list ds, _, h => by
    cases h with
    | lst hs hm ha => exact .lst ((t.at_ _ hm).trans hs) (t.sub _ hm) (RAll.stay t ds _ ha)
  | .tuple ds, _, h => by
    cases h with
    | tup hs hm ha =>
      rcases hm with hm | hm
      · exact .tup (sqT_at (t.at_ _ hm) hs) (.inl (t.sub _ hm)) (RAll.stay t ds _ ha)
      · exact .tup (hm _) (.inr hm) (RAll.stay t ds _ ha)
  | .dict ds, _, h => by
    cases h with
    | dct hs hm ha => exact .dct (rd_at (t.at_ _ hm) hs) (t.sub _ hm) (RKv.stay t ds _ ha)
theorem RAll.stay (t : Stay S S' H H') : ∀ (ds : List D) (vs : List V), RAll K H S vs ds → RAll K H' S' vs ds
  | [], _, h => by cases h; exact .nil
  | d :: ds, _, h => by
    cases h with
    | cons h1 h2 => exact .cons (R.stay t d _ h1) (RAll.stay t ds _ h2)
theorem RKv.stay (t : Stay S S' H H') : ∀ (ds : List (D × D)) (vs : List (Key × V)), RKv K H S vs ds → RKv K H' S' vs ds
  | [], _, h => by cases h; exact .nil
  | (kd, d) :: ds, _, h => by
    cases h with
    | cons hk h1 h2 => exact .cons hk (R.stay t d _ h1) (RKv.stay t ds _ h2)
end
mutual
theorem R.dp : ∀ (d : D) (v : V), R K H S v d → d.canLay0 = true → Dp K H v d
  | .none, _, h, _ => by cases h; exact .non
  | .bool b, _, h, _ => by cases h; exact .bl b
  | .int i, _, h, _ => by cases h; exact .int i
  | .str x, _, h, _ => by cases h; exact .str x
  | .list ds, _, h, c => by
    cases h with
    | lst hs hm ha => exact .lst (.inl (.inl hs)) (RAll.dp ds _ ha (by simpa [PyData.canLay0] using c))
  | .tuple ds, _, h, c => by
    cases h with
    | tup hs hm ha => exact .tup hs (RAll.dp ds _ ha (by simpa [PyData.canLay0] using c))
  | .dict ds, _, h, c => by simp [PyData.canLay0] at c
theorem RAll.dp : ∀ (ds : List D) (vs : List V), RAll K H S vs ds → PyData.canLayAll0 ds = true → DpAll K H vs ds
  | [], _, h, _ => by cases h; exact .nil
  | d :: ds, _, h, c => by
    cases h with
    | cons h1 h2 =>
      simp only [PyData.canLayAll0, Bool.and_eq_true] at c
      exact .cons (R.dp d _ h1 c.1) (RAll.dp ds _ h2 c.2)
end
end
end Ev
namespace Ev
open PySem PySem.Spec PyProof.Rows L2
variable [Gh]
section
variable {K : PySem.W.Frag} {H H' H1 H2 H3 : Hp} {S S' S1 S2 S3 : AS} {ρ ρ' ρ1 ρ2 ρ3 : Rho} {σ σ' σ1 σ2 σ3 : L2.St}
/-- the bag stands -/
structure BagOk (S : AS) (H : Hp) (G M : List Int) (T : Int) : Prop where
  b : H Gh.b = some (.lst [.ref Gh.g, .ref Gh.m, .ref Gh.t])
  g : H Gh.g = some (.lst (G.map V.int))
  m : H Gh.m = some (.lst (M.map V.int))
  t : H Gh.t = some (.lst [.int T])
  nb : ¬ S Gh.b
  ng : ¬ S Gh.g
  nm : ¬ S Gh.m
  nt : ¬ S Gh.t
/-- one of its parts -/
def InBag (a : Addr) : Prop := a = Gh.g ∨ a = Gh.m ∨ a = Gh.t
theorem BagOk.part {S : AS} {H : Hp} {G M : List Int} {T : Int} {a : Addr} (h : BagOk S H G M T) (p : InBag a) : ∃ vs, H a = some (.lst vs) ∧ ¬ S a := by
  rcases p with rfl | rfl | rfl
  · exact ⟨_, h.g, h.ng⟩
  · exact ⟨_, h.m, h.nm⟩
  · exact ⟨_, h.t, h.nt⟩
theorem BagOk.move {S S' : AS} {H H' : Hp} {G M : List Int} {T : Int} (h : BagOk S H G M T) (e : ∀ a xs, H a = some (.lst xs) → ¬ S a → (a = Gh.b ∨ InBag a) → H' a = some (.lst xs) ∧ ¬ S' a) : BagOk S' H' G M T where
  b := (e _ _ h.b h.nb (.inl rfl)).1
  g := (e _ _ h.g h.ng (.inr (.inl rfl))).1
  m := (e _ _ h.m h.nm (.inr (.inr (.inl rfl)))).1
  t := (e _ _ h.t h.nt (.inr (.inr (.inr rfl)))).1
  nb := (e _ _ h.b h.nb (.inl rfl)).2
  ng := (e _ _ h.g h.ng (.inr (.inl rfl))).2
  nm := (e _ _ h.m h.nm (.inr (.inr (.inl rfl)))).2
  nt := (e _ _ h.t h.nt (.inr (.inr (.inr rfl)))).2
def SlotOk (K : PySem.W.Frag) (S : AS) (H : Hp) : Option V → Slot → Prop
  | _, .un => True
  | some v, .dat d => R K H S v d
  | some (.ref a), .lst _ ds => ∃ vs, H a = some (.lst vs) ∧ ¬ S a ∧ RAll K H S vs ds
  | some (.ref a), .dic _ ds => ∃ vs, H a = some (.dK vs) ∧ ¬ S a ∧ RKv K H S vs ds
  | some (.ref a), .giv ds => ∃ vs, SqL K H a vs ∧ (S a ∨ ∀ H', SqL K H' a vs) ∧ RAll K H S vs ds
  | some (.ref a), .bag G M T => a = Gh.b ∧ BagOk S H G M T
  | _, _ => False
/-- the address that stands in slot i -/
def adr (σ : L2.St) (i : Nat) : Option Addr := match σ[i]? with
  | some (some (.ref a)) => some a
  | _ => none
/-- a slot's objects -/
def Ter (σ : L2.St) (i : Nat) (s : Slot) (a : Addr) : Prop := adr σ i = some a ∨ (s.isBag = true ∧ InBag a)
def Own (ρ : Rho) (σ : L2.St) (a : Addr) : Prop := ∃ (i : Nat) (s : Slot) (z : Bool), ρ[i]? = some s ∧ s.own? = some z ∧ Ter σ i s a
def OwnZ (ρ : Rho) (σ : L2.St) (a : Addr) : Prop := ∃ (i : Nat) (s : Slot), ρ[i]? = some s ∧ s.own? = some true ∧ adr σ i = some a
theorem OwnZ.own {a : Addr} (h : OwnZ ρ σ a) : Own ρ σ a := let ⟨i, s, h1, h2, h3⟩ := h; ⟨i, s, true, h1, h2, .inl h3⟩
structure Rel (K : PySem.W.Frag) (S : AS) (ρ : Rho) (σ : L2.St) (H : Hp) : Prop where
  len : ρ.length = σ.length
  slot : ∀ (i : Nat) (s : Slot), ρ[i]? = some s → SlotOk K S H (σ[i]?.join) s
  inj : ∀ (i j : Nat) (s t : Slot) (y z : Bool) (a : Addr), ρ[i]? = some s → ρ[j]? = some t → s.own? = some y → t.own? = some z → Ter σ i s a → Ter σ j t a → i = j
  live : ∀ a, S a → ∃ o, H a = some o
theorem SlotOk.giv_stay {S S' : AS} {H H' : Hp} {ds : List D} {x : Option V} (t : Stay S S' H H') (h : SlotOk K S H x (.giv ds)) : SlotOk K S' H' x (.giv ds) := by
  cases x with
  | none => exact h.elim
  | some v =>
    cases v <;> first | exact False.elim h | skip
    obtain ⟨vs, h1, h2, h3⟩ := h
    rcases h2 with h2 | h2
    · exact ⟨vs, sqL_at (t.at_ _ h2) h1, .inl (t.sub _ h2), RAll.stay t ds vs h3⟩
    · exact ⟨vs, h2 _, .inr h2, RAll.stay t ds vs h3⟩
theorem SlotOk.bag {S : AS} {H : Hp} {G M : List Int} {T : Int} {x : Option V} (h : SlotOk K S H x (.bag G M T)) : BagOk S H G M T := by
  cases x with
  | none => exact h.elim
  | some v =>
    cases v <;> first | exact False.elim h | skip
    exact h.2
theorem SlotOk.bagAt {S S' : AS} {H H' : Hp} {G M G' M' : List Int} {T T' : Int} {x : Option V} (h : SlotOk K S H x (.bag G M T)) (q : BagOk S' H' G' M' T') : SlotOk K S' H' x (.bag G' M' T') := by
  cases x with
  | none => exact h.elim
  | some v =>
    cases v <;> first | exact False.elim h | skip
    exact ⟨h.1, q⟩
theorem SlotOk.own_adr {S : AS} {H : Hp} {s : Slot} {z : Bool} {x : Option V} (h : SlotOk K S H x s) (e : s.own? = some z) : ∃ a o, x = some (.ref a) ∧ H a = some o ∧ ¬ S a ∧ Mut (some o) := by
  cases s with
  | un => cases e
  | dat d => cases e
  | giv d => cases e
  | bag G M T =>
    cases x with
    | none => exact h.elim
    | some v =>
      cases v <;> first | exact False.elim h | skip
      obtain ⟨rfl, h⟩ := h
      exact ⟨_, _, rfl, h.b, h.nb, trivial⟩
  | lst y ds =>
    cases x with
    | none => exact h.elim
    | some v =>
      cases v <;> first | exact False.elim h | skip
      obtain ⟨vs, h1, h2, _⟩ := h
      exact ⟨_, _, rfl, h1, h2, trivial⟩
  | dic y ds =>
    cases x with
    | none => exact h.elim
    | some v =>
      cases v <;> first | exact False.elim h | skip
      obtain ⟨vs, h1, h2, _⟩ := h
      exact ⟨_, _, rfl, h1, h2, trivial⟩
theorem ter_at {σ' σ : L2.St} {i j : Nat} {s : Slot} {a : Addr} (e : adr σ' j = adr σ i) : Ter σ' j s a ↔ Ter σ i s a := by unfold Ter; rw [e]
theorem ter_bag {i : Nat} {s t : Slot} {a : Addr} (e : t.isBag = s.isBag) : Ter σ i t a ↔ Ter σ i s a := by unfold Ter; rw [e]
theorem ter_plain {i : Nat} {s : Slot} {a : Addr} (e : s.isBag = false) : Ter σ i s a ↔ adr σ i = some a := by unfold Ter; rw [e]; simp
theorem plain_of {s : Slot} (h : s.own? = some true) : s.isBag = false := by cases s <;> first | rfl | cases h
theorem join_adr {i : Nat} {a : Addr} (h : σ[i]?.join = some (.ref a)) : adr σ i = some a := by
  unfold adr
  cases e : σ[i]? with
  | none => rw [e] at h; cases h
  | some x =>
    rw [e] at h
    cases x with
    | none => cases h
    | some v => cases h; rfl
theorem adr_join {i : Nat} {a : Addr} (h : adr σ i = some a) : σ[i]?.join = some (.ref a) := by
  unfold adr at h
  split at h
  · rename_i b e
    cases h
    rw [e]; rfl
  · cases h
theorem adr_get {i : Nat} {a : Addr} (h : adr σ i = some a) : σ[i]? = some (some (.ref a)) := by
  unfold adr at h
  split at h
  · rename_i b e
    cases h
    exact e
  · cases h
theorem SlotOk.bagTer {G M : List Int} {T : Int} {j : Nat} {b : Addr} (h : SlotOk K S H (σ[j]?.join) (.bag G M T)) (p : b = Gh.b ∨ InBag b) : Ter σ j (.bag G M T) b := by
  rcases p with rfl | p
  · obtain ⟨a, o, e, _⟩ := h.own_adr (z := false) rfl
    rw [e] at h
    obtain ⟨rfl, _⟩ := h
    exact .inl (join_adr e)
  · exact .inr ⟨rfl, p⟩
theorem Rel.own (r : Rel K S ρ σ H) {a : Addr} (h : Own ρ σ a) : ∃ o, H a = some o ∧ ¬ S a ∧ Mut (some o) := by
  obtain ⟨i, s, z, h1, h2, h3⟩ := h
  rcases h3 with h3 | ⟨h3, h4⟩
  case inr =>
    have q := r.slot i s h1
    cases s <;> first | cases h3 | skip
    obtain ⟨vs, e1, e2⟩ := q.bag.part h4
    exact ⟨_, e1, e2, trivial⟩
  obtain ⟨b, o, e1, e2, e3, e4⟩ := (r.slot i s h1).own_adr h2
  have := join_adr e1
  rw [h3] at this
  cases this
  exact ⟨o, e2, e3, e4⟩
theorem Rel.nown (r : Rel K S ρ σ H) {a : Addr} (h : S a) : ¬ Own ρ σ a := fun o => let ⟨_, _, n, _⟩ := r.own o; n h
/-- from one state to a later one of the same frame -/
structure Step (S : AS) (ρ : Rho) (σ : L2.St) (H : Hp) (S' : AS) (ρ' : Rho) (σ' : L2.St) (H' : Hp) : Prop where
  sub : ∀ a, S a → S' a
  at_ : ∀ a, S a → H' a = H a
  frame : ∀ a o, H a = some o → ¬ Own ρ σ a → H' a = some o
  there : ∀ a o, H a = some o → ∃ o', H' a = some o'
  new : ∀ a, S' a → S a ∨ H a = none ∨ OwnZ ρ σ a
  own : ∀ a, Own ρ' σ' a → Own ρ σ a ∨ H a = none
  ownZ : ∀ a, OwnZ ρ' σ' a → OwnZ ρ σ a ∨ H a = none
  ino : ∀ (i : Nat) (s : Slot), ρ[i]? = some s → s.own? = some false → ∃ t : Slot, ρ'[i]? = some t ∧ t.own? = some false ∧ t.isBag = s.isBag ∧ adr σ' i = adr σ i
theorem Step.refl : Step S ρ σ H S ρ σ H :=
  ⟨fun _ h => h, fun _ _ => rfl, fun _ _ h _ => h, fun _ o h => ⟨o, h⟩, fun _ h => .inl h, fun _ h => .inl h, fun _ h => .inl h, fun i s h1 h2 => ⟨s, h1, h2, rfl, rfl⟩⟩
theorem Step.trans (a : Step S1 ρ1 σ1 H1 S2 ρ2 σ2 H2) (b : Step S2 ρ2 σ2 H2 S3 ρ3 σ3 H3) : Step S1 ρ1 σ1 H1 S3 ρ3 σ3 H3 where
  sub := fun x h => b.sub x (a.sub x h)
  at_ := fun x h => (b.at_ x (a.sub x h)).trans (a.at_ x h)
  frame := fun x o h n => b.frame x o (a.frame x o h n) fun z => by
    rcases a.own x z with q | q
    · exact n q
    · rw [q] at h; cases h
  there := fun x o h => let ⟨o', h'⟩ := a.there x o h; b.there x o' h'
  new := fun x h => by
    have none1 : H2 x = none → H1 x = none := fun q => by
      cases e : H1 x with
      | none => rfl
      | some o => obtain ⟨o', e'⟩ := a.there x o e; rw [q] at e'; cases e'
    rcases b.new x h with q | q | q
    · exact a.new x q
    · exact .inr (.inl (none1 q))
    · rcases a.ownZ x q with z | z
      · exact .inr (.inr z)
      · exact .inr (.inl z)
  own := fun x h => by
    rcases b.own x h with q | q
    · exact a.own x q
    · cases e : H1 x with
      | none => exact .inr rfl
      | some o => obtain ⟨o', e'⟩ := a.there x o e; rw [q] at e'; cases e'
  ownZ := fun x h => by
    rcases b.ownZ x h with q | q
    · exact a.ownZ x q
    · cases e : H1 x with
      | none => exact .inr rfl
      | some o => obtain ⟨o', e'⟩ := a.there x o e; rw [q] at e'; cases e'
  ino := fun i s h1 h2 => by
    obtain ⟨t, e1, e2, e0, e3⟩ := a.ino i s h1 h2
    obtain ⟨u, f1, f2, f0, f3⟩ := b.ino i t e1 e2
    exact ⟨u, f1, f2, f0.trans e0, f3.trans e3⟩
theorem Step.stay (a : Step S ρ σ H S' ρ' σ' H') : Stay S S' H H' := ⟨a.sub, a.at_⟩
/-- a value's standing -/
def RRet (K : PySem.W.Frag) (S : AS) (ρ : Rho) (σ : L2.St) (H : Hp) (v : V) : Ret → Prop
  | .val d => R K H S v d
  | .fl ds => ∃ a vs, v = .ref a ∧ H a = some (.lst vs) ∧ ¬ S a ∧ RAll K H S vs ds ∧ ¬ Own ρ σ a
  | .fd ds => ∃ a vs, v = .ref a ∧ H a = some (.dK vs) ∧ ¬ S a ∧ RKv K H S vs ds ∧ ¬ Own ρ σ a
/-- a new list, dict was not there at the start, or it was owned -/
def RNew (ρ : Rho) (σ : L2.St) (H : Hp) (v : V) : Ret → Prop
  | .val _ => True
  | _ => ∀ a, v = .ref a → H a = none ∨ OwnZ ρ σ a
/-- H with a new object that nobody writes: it is in S from now on -/
theorem Rel.grow (r : Rel K S ρ σ H) {p : Addr} {o : HO} (hp : H p = none) : Rel K (fun a => S a ∨ a = p) ρ σ (upd H p o) ∧ Step S ρ σ H (fun a => S a ∨ a = p) ρ σ (upd H p o) := by
  have ne : ∀ a o, H a = some o → a ≠ p := fun a o h e => by subst e; rw [hp] at h; cases h
  have st : Stay S (fun a => S a ∨ a = p) H (upd H p o) := ⟨fun _ h => .inl h, fun a h => by
    obtain ⟨u, e⟩ := r.live a h
    rw [upd_ne (ne a u e)]⟩
  refine ⟨⟨r.len, fun i s h => ?_, r.inj, fun a h => ?_⟩, ⟨fun _ h => .inl h, st.at_, fun a u h _ => by rw [upd_ne (ne a u h)]; exact h, fun a u h => ⟨u, by rw [upd_ne (ne a u h)]; exact h⟩,
    fun a h => by rcases h with h | rfl; exact .inl h; exact .inr (.inl hp), fun _ h => .inl h, fun _ h => .inl h, fun i s h1 h2 => ⟨s, h1, h2, rfl, rfl⟩⟩⟩
  · have q := r.slot i s h
    cases s with
    | un => exact trivial
    | giv d => exact SlotOk.giv_stay st q
    | bag G M T => exact q.bagAt (q.bag.move fun a xs e n _ => ⟨by rw [upd_ne (ne a _ e)]; exact e, fun h => h.elim n (ne a _ e)⟩)
    | dat d =>
      cases e : σ[i]?.join with
      | none => rw [e] at q; exact q.elim
      | some v => rw [e] at q; exact R.stay st d v q
    | lst z ds =>
      obtain ⟨a, u, e1, e2, e3, e4⟩ := q.own_adr (z := z) rfl
      rw [e1] at q ⊢
      obtain ⟨vs, q1, q2, q3⟩ := q
      exact ⟨vs, by rw [upd_ne (ne a _ q1)]; exact q1, fun h => h.elim q2 (ne a _ q1), RAll.stay st ds vs q3⟩
    | dic z ds =>
      obtain ⟨a, u, e1, e2, e3, e4⟩ := q.own_adr (z := z) rfl
      rw [e1] at q ⊢
      obtain ⟨vs, q1, q2, q3⟩ := q
      exact ⟨vs, by rw [upd_ne (ne a _ q1)]; exact q1, fun h => h.elim q2 (ne a _ q1), RKv.stay st ds vs q3⟩
  · rcases h with h | rfl
    · obtain ⟨u, e⟩ := r.live a h
      exact ⟨u, by rw [upd_ne (ne a u e)]; exact e⟩
    · exact ⟨o, upd_same⟩
/-- .. that is known to nobody yet (a new list) -/
theorem Rel.fresh (r : Rel K S ρ σ H) {p : Addr} {o : HO} (hp : H p = none) : Rel K S ρ σ (upd H p o) ∧ Step S ρ σ H S ρ σ (upd H p o) ∧ ¬ S p ∧ ¬ Own ρ σ p := by
  have ne : ∀ a o, H a = some o → a ≠ p := fun a o h e => by subst e; rw [hp] at h; cases h
  have st : Stay S S H (upd H p o) := ⟨fun _ h => h, fun a h => by
    obtain ⟨u, e⟩ := r.live a h
    rw [upd_ne (ne a u e)]⟩
  refine ⟨⟨r.len, fun i s h => ?_, r.inj, fun a h => ?_⟩, ⟨fun _ h => h, st.at_, fun a u h _ => by rw [upd_ne (ne a u h)]; exact h, fun a u h => ⟨u, by rw [upd_ne (ne a u h)]; exact h⟩,
    fun a h => .inl h, fun _ h => .inl h, fun _ h => .inl h, fun i s h1 h2 => ⟨s, h1, h2, rfl, rfl⟩⟩, fun h => ?_, fun h => ?_⟩
  · have q := r.slot i s h
    cases s with
    | un => exact trivial
    | giv d => exact SlotOk.giv_stay st q
    | bag G M T => exact q.bagAt (q.bag.move fun a xs e n _ => ⟨by rw [upd_ne (ne a _ e)]; exact e, n⟩)
    | dat d =>
      cases e : σ[i]?.join with
      | none => rw [e] at q; exact q.elim
      | some v => rw [e] at q; exact R.stay st d v q
    | lst z ds =>
      obtain ⟨a, u, e1, e2, e3, e4⟩ := q.own_adr (z := z) rfl
      rw [e1] at q ⊢
      obtain ⟨vs, q1, q2, q3⟩ := q
      exact ⟨vs, by rw [upd_ne (ne a _ q1)]; exact q1, q2, RAll.stay st ds vs q3⟩
    | dic z ds =>
      obtain ⟨a, u, e1, e2, e3, e4⟩ := q.own_adr (z := z) rfl
      rw [e1] at q ⊢
      obtain ⟨vs, q1, q2, q3⟩ := q
      exact ⟨vs, by rw [upd_ne (ne a _ q1)]; exact q1, q2, RKv.stay st ds vs q3⟩
  · obtain ⟨u, e⟩ := r.live a h
    exact ⟨u, by rw [upd_ne (ne a u e)]; exact e⟩
  · obtain ⟨u, e⟩ := r.live p h
    rw [hp] at e; cases e
  · obtain ⟨u, e, _⟩ := r.own h
    rw [hp] at e; cases e
end
end Ev
namespace Ev
open PySem PySem.Spec PyProof.Rows L2
variable [Gh]
/-- a borrowed operand: a value, or the list or dict of a slot as it stands -/
inductive BV where
  | val (d : D)
  | slot (i : Nat)
def Slot.data? : Slot → Option D
  | .un => none
  | .dat d => some d
  | .lst _ ds => some (.list ds)
  | .dic _ kvs => some (.dict kvs)
  | .giv _ => none
  | .bag _ _ _ => none
def res (ρ : Rho) : BV → Option D
  | .val d => some d
  | .slot i => match ρ[i]? with
    | some s => s.data?
    | none => none
section
variable {K : PySem.W.Frag} {H H' H1 H2 H3 : Hp} {S S' S1 S2 S3 : AS} {ρ ρ' ρ1 ρ2 ρ3 : Rho} {σ σ' σ1 σ2 σ3 : L2.St}
/-- nothing but new objects -/
structure Ext (S : AS) (H : Hp) (S' : AS) (H' : Hp) : Prop where
  sub : ∀ a, S a → S' a
  keep : ∀ a o, H a = some o → H' a = some o
  new : ∀ a, S' a → S a ∨ (H a = none ∧ ∃ o, H' a = some o)
theorem Ext.refl : Ext S H S H := ⟨fun _ h => h, fun _ _ h => h, fun _ h => .inl h⟩
theorem Ext.trans (a : Ext S1 H1 S2 H2) (b : Ext S2 H2 S3 H3) : Ext S1 H1 S3 H3 :=
  ⟨fun x h => b.sub x (a.sub x h), fun x o h => b.keep x o (a.keep x o h), fun x h => by
    rcases b.new x h with q | ⟨q, o, e⟩
    · rcases a.new x q with z | ⟨z, o, e⟩
      · exact .inl z
      · exact .inr ⟨z, o, b.keep _ _ e⟩
    · refine .inr ⟨?_, o, e⟩
      cases e1 : H1 x with
      | none => rfl
      | some u => rw [a.keep _ _ e1] at q; cases q⟩
theorem Ext.one {p : Addr} {o : HO} (hp : H p = none) : Ext S H (fun a => S a ∨ a = p) (upd H p o) :=
  ⟨fun _ h => .inl h, fun a u h => by rw [upd_ne (fun e => by subst e; rw [hp] at h; cases h)]; exact h,
    fun a h => by rcases h with h | rfl; exact .inl h; exact .inr ⟨hp, o, upd_same⟩⟩
theorem Ext.lay {p : Addr} {o : HO} (hp : H p = none) : Ext S H S (upd H p o) :=
  ⟨fun _ h => h, fun a u h => by rw [upd_ne (fun e => by subst e; rw [hp] at h; cases h)]; exact h, fun a h => .inl h⟩
theorem Ext.stay (e : Ext S H S' H') (l : ∀ a, S a → ∃ o, H a = some o) : Stay S S' H H' :=
  ⟨e.sub, fun a h => by obtain ⟨o, q⟩ := l a h; rw [e.keep a o q, q]⟩
theorem Rel.ext (r : Rel K S ρ σ H) (e : Ext S H S' H') : Rel K S' ρ σ H' ∧ Step S ρ σ H S' ρ σ H' := by
  have st := e.stay r.live
  have new : ∀ a o, H a = some o → S' a → S a := fun a o h q => by
    rcases e.new a q with z | ⟨z, _⟩
    · exact z
    · rw [h] at z; cases z
  refine ⟨⟨r.len, fun i s h => ?_, r.inj, fun a h => ?_⟩, ⟨e.sub, st.at_, fun a u h _ => e.keep a u h, fun a u h => ⟨u, e.keep a u h⟩,
    fun a h => by rcases e.new a h with z | ⟨z, _⟩; exact .inl z; exact .inr (.inl z), fun _ h => .inl h, fun _ h => .inl h, fun i s h1 h2 => ⟨s, h1, h2, rfl, rfl⟩⟩⟩
  · have q := r.slot i s h
    cases s with
    | un => exact trivial
    | giv d => exact SlotOk.giv_stay st q
    | bag G M T => exact q.bagAt (q.bag.move fun a xs h n _ => ⟨e.keep _ _ h, fun h' => n (new a _ h h')⟩)
    | dat d =>
      cases e : σ[i]?.join with
      | none => rw [e] at q; exact q.elim
      | some v => rw [e] at q; exact R.stay st d v q
    | lst z ds =>
      obtain ⟨a, u, e1, e2, e3, e4⟩ := q.own_adr (z := z) rfl
      rw [e1] at q ⊢
      obtain ⟨vs, q1, q2, q3⟩ := q
      exact ⟨vs, e.keep _ _ q1, fun h => q2 (new a _ q1 h), RAll.stay st ds vs q3⟩
    | dic z ds =>
      obtain ⟨a, u, e1, e2, e3, e4⟩ := q.own_adr (z := z) rfl
      rw [e1] at q ⊢
      obtain ⟨vs, q1, q2, q3⟩ := q
      exact ⟨vs, e.keep _ _ q1, fun h => q2 (new a _ q1 h), RKv.stay st ds vs q3⟩
  · rcases e.new a h with z | ⟨_, o, z⟩
    · obtain ⟨u, q⟩ := r.live a z
      exact ⟨u, e.keep a u q⟩
    · exact ⟨o, z⟩
/-- readable: the top may be a list or a dict that is still owned -/
inductive RR (K : PySem.W.Frag) (H : Hp) (S : AS) : V → D → Prop
  | of {v : V} {d : D} : R K H S v d → RR K H S v d
  | lst {a : Addr} {vs : List V} {ds : List D} : H a = some (.lst vs) → RAll K H S vs ds → RR K H S (.ref a) (.list ds)
  | dic {a : Addr} {vs : List (Key × V)} {ds : List (D × D)} : Rd H a (.dK vs) → RKv K H S vs ds → RR K H S (.ref a) (.dict ds)
theorem RR.dp {v : V} {d : D} (h : RR K H S v d) (c : d.canLay0 = true) : Dp K H v d := by
  cases h with
  | of h => exact h.dp d v c
  | lst h a => exact .lst (.inl (.inl h)) (RAll.dp _ _ a (by simpa [PyData.canLay0] using c))
  | dic h a => simp [PyData.canLay0] at c
theorem RR.list {v : V} {ds : List D} (h : RR K H S v (.list ds)) : ∃ a vs, v = .ref a ∧ H a = some (.lst vs) ∧ RAll K H S vs ds := by
  cases h with
  | of h =>
    cases h with
    | lst hs hm ha => exact ⟨_, _, rfl, hs, ha⟩
  | lst h a => exact ⟨_, _, rfl, h, a⟩
theorem RR.tuple {v : V} {ds : List D} (h : RR K H S v (.tuple ds)) : ∃ a vs, v = .ref a ∧ SqT K H a vs ∧ RAll K H S vs ds := by
  cases h with
  | of h =>
    cases h with
    | tup hs hm ha => exact ⟨_, _, rfl, hs, ha⟩
theorem RR.dict {v : V} {ds : List (D × D)} (h : RR K H S v (.dict ds)) : ∃ a vs, v = .ref a ∧ Rd H a (.dK vs) ∧ RKv K H S vs ds := by
  cases h with
  | of h =>
    cases h with
    | dct hs hm ha => exact ⟨_, _, rfl, hs, ha⟩
  | dic h a => exact ⟨_, _, rfl, h, a⟩
theorem RR.int {v : V} {i : Int} (h : RR K H S v (.int i)) : v = .int i := by
  cases h with
  | of h => cases h; rfl
theorem RR.bool {v : V} {i : Bool} (h : RR K H S v (.bool i)) : v = .bl i := by
  cases h with
  | of h => cases h; rfl
theorem RR.str {v : V} {i : Str} (h : RR K H S v (.str i)) : v = .str i := by
  cases h with
  | of h => cases h; rfl
theorem RR.none {v : V} (h : RR K H S v .none) : v = .non := by
  cases h with
  | of h => cases h; rfl
theorem RR.stay (t : Ext S H S' H') (l : ∀ a, S a → ∃ o, H a = some o) {v : V} {d : D} (h : RR K H S v d) : RR K H' S' v d := by
  cases h with
  | of h => exact .of (h.stay (t.stay l))
  | lst h a => exact .lst (t.keep _ _ h) (a.stay (t.stay l))
  | dic h a => exact .dic (h.elim (fun h => .inl (t.keep _ _ h)) fun ⟨o, h⟩ => .inr ⟨o, t.keep _ _ h⟩) (a.stay (t.stay l))
theorem RAll.length : ∀ {vs : List V} {ds : List D}, RAll K H S vs ds → vs.length = ds.length
  | _, _, .nil => rfl
  | _, _, .cons _ t => by simp [RAll.length t]
theorem RKv.length : ∀ {vs : List (Key × V)} {ds : List (D × D)}, RKv K H S vs ds → vs.length = ds.length
  | _, _, .nil => rfl
  | _, _, .cons _ _ t => by simp [RKv.length t]
theorem RAll.get : ∀ {vs : List V} {ds : List D} {i : Nat} {d : D}, RAll K H S vs ds → ds[i]? = some d → ∃ v, vs[i]? = some v ∧ R K H S v d
  | _, _, _, _, .nil, e => by simp at e
  | _, _, 0, _, .cons r _, e => by simp at e; subst e; exact ⟨_, rfl, r⟩
  | _, _, i + 1, d, .cons _ t, e => by
    obtain ⟨u, h1, h2⟩ := RAll.get (i := i) (d := d) t (by simpa using e)
    exact ⟨u, by simpa using h1, h2⟩
theorem RAll.getV : ∀ {vs : List V} {ds : List D} {i : Nat} {v : V}, RAll K H S vs ds → vs[i]? = some v → ∃ d, ds[i]? = some d ∧ R K H S v d
  | _, _, _, _, .nil, e => by simp at e
  | _, _, 0, _, .cons r _, e => by simp at e; subst e; exact ⟨_, rfl, r⟩
  | _, _, i + 1, d, .cons _ t, e => by
    obtain ⟨u, h1, h2⟩ := RAll.getV (i := i) (v := d) t (by simpa using e)
    exact ⟨u, by simpa using h1, h2⟩
theorem RAll.append : ∀ {xs ys : List V} {us ws : List D}, RAll K H S xs us → RAll K H S ys ws → RAll K H S (xs ++ ys) (us ++ ws)
  | _, _, _, _, .nil, s => s
  | _, _, _, _, .cons r t, s => .cons r (RAll.append t s)
theorem RAll.take : ∀ {xs : List V} {us : List D} (n : Nat), RAll K H S xs us → RAll K H S (xs.take n) (us.take n)
  | _, _, 0, _ => .nil
  | _, _, _ + 1, .nil => .nil
  | _, _, n + 1, .cons r t => .cons r (RAll.take n t)
theorem RAll.drop : ∀ {xs : List V} {us : List D} (n : Nat), RAll K H S xs us → RAll K H S (xs.drop n) (us.drop n)
  | _, _, 0, r => r
  | _, _, _ + 1, .nil => .nil
  | _, _, n + 1, .cons _ t => RAll.drop n t
theorem RAll.set {v : V} {d : D} (r : R K H S v d) : ∀ {xs : List V} {us : List D} (n : Nat), RAll K H S xs us → RAll K H S (xs.set n v) (us.set n d)
  | _, _, _, .nil => .nil
  | _, _, 0, .cons _ t => .cons r t
  | _, _, n + 1, .cons q t => .cons q (RAll.set r n t)
theorem RAll.replicate {v : V} {d : D} (r : R K H S v d) : ∀ n, RAll K H S (List.replicate n v) (List.replicate n d)
  | 0 => .nil
  | n + 1 => .cons r (RAll.replicate r n)
theorem RAll.flat {xs : List V} {us : List D} (r : RAll K H S xs us) : ∀ n, RAll K H S (List.replicate n xs).flatten (List.replicate n us).flatten
  | 0 => .nil
  | n + 1 => by
    rw [List.replicate_succ, List.replicate_succ, List.flatten_cons, List.flatten_cons]
    exact RAll.append r (RAll.flat r n)
theorem RAll.ints : ∀ {vs : List V} (ns : List Int), RAll K H S vs (ns.map PyData.int) → vs = ns.map V.int
  | _, [], h => by cases h; rfl
  | _, n :: ns, h => by
    cases h with
    | cons h1 h2 => cases h1; rw [RAll.ints ns h2]; rfl
theorem RAll.bools : ∀ {vs : List V} (ns : List Bool), RAll K H S vs (ns.map PyData.bool) → vs = ns.map V.bl
  | _, [], h => by cases h; rfl
  | _, n :: ns, h => by
    cases h with
    | cons h1 h2 => cases h1; rw [RAll.bools ns h2]; rfl
/-! ### a borrowed operand stands -/
def RB (K : PySem.W.Frag) (S : AS) (σ : L2.St) (H : Hp) (v : V) : BV → Prop
  | .val d => R K H S v d
  | .slot i => σ[i]? = some (some v)
theorem RB.stay (t : Stay S S' H H') {v : V} {b : BV} (h : RB K S σ H v b) : RB K S' σ H' v b := by
  cases b with
  | val d => exact R.stay t d v h
  | slot i => exact h
theorem RB.read (r : Rel K S ρ σ H) {v : V} {b : BV} {d : D} (h : RB K S σ H v b) (e : res ρ b = some d) : RR K H S v d := by
  cases b with
  | val d' => cases e; exact .of h
  | slot i =>
    have h' : σ[i]? = some (some v) := h
    cases hs : ρ[i]? with
    | none => simp only [res, hs] at e; cases e
    | some s =>
      simp only [res, hs] at e
      have q := r.slot i s hs
      rw [h'] at q
      have q : SlotOk K S H (some v) s := q
      cases s with
      | un => cases e
      | giv ds => cases e
      | bag _ _ _ => cases e
      | dat d' => cases e; exact .of q
      | lst z ds =>
        cases e
        cases v <;> first | exact False.elim q | skip
        obtain ⟨vs, q1, q2, q3⟩ := q
        exact .lst q1 q3
      | dic z ds =>
        cases e
        cases v <;> first | exact False.elim q | skip
        obtain ⟨vs, q1, q2, q3⟩ := q
        exact .dic (.inl q1) q3
/-! ### the values' end of an operation -/
/-- v in H' is r: nothing but new objects -/
def PPost (K : PySem.W.Frag) (S : AS) (H : Hp) (v : V) (H' : Hp) : Ret → Prop
  | .val d => ∃ S', Ext S H S' H' ∧ R K H' S' v d
  | .fl ds => ∃ S' a vs, Ext S H S' H' ∧ v = .ref a ∧ H a = none ∧ H' a = some (.lst vs) ∧ ¬ S' a ∧ RAll K H' S' vs ds
  | .fd ds => ∃ S' a vs, Ext S H S' H' ∧ v = .ref a ∧ H a = none ∧ H' a = some (.dK vs) ∧ ¬ S' a ∧ RKv K H' S' vs ds
theorem Rel.pure (r : Rel K S ρ σ H) {v : V} {q : Ret} (h : PPost K S H v H' q) : ∃ S', Step S ρ σ H S' ρ σ H' ∧ Rel K S' ρ σ H' ∧ RRet K S' ρ σ H' v q ∧ RNew ρ σ H v q := by
  cases q with
  | val d =>
    obtain ⟨S', e, hr⟩ := h
    obtain ⟨r', s'⟩ := r.ext e
    exact ⟨S', s', r', hr, trivial⟩
  | fl ds =>
    obtain ⟨S', a, vs, e, rfl, hn, ha, ns, hr⟩ := h
    obtain ⟨r', s'⟩ := r.ext e
    refine ⟨S', s', r', ⟨a, vs, rfl, ha, ns, hr, fun z => ?_⟩, fun b eb => by cases eb; exact .inl hn⟩
    obtain ⟨o, q, _⟩ := r.own z
    rw [hn] at q; cases q
  | fd ds =>
    obtain ⟨S', a, vs, e, rfl, hn, ha, ns, hr⟩ := h
    obtain ⟨r', s'⟩ := r.ext e
    refine ⟨S', s', r', ⟨a, vs, rfl, ha, ns, hr, fun z => ?_⟩, fun b eb => by cases eb; exact .inl hn⟩
    obtain ⟨o, q, _⟩ := r.own z
    rw [hn] at q; cases q
end
/-! ### judgements -/
section
variable (K : PySem.W.Frag) (mg : Str → Option Value) (W : WX)
/-- an exception stands -/
def XRel (S : AS) (H : Hp) (e : Exn) (cls : Value) (dx : Option Addr) : Prop :=
  (∃ C, mg e.cls = some (.ref C) ∧ cls = .ref C) ∧ match e.arg, dx with
    | none, none => True
    | some (f, d), some a => ∃ v, H a = some (.xd [(f, v)]) ∧ R K H S v d
    | _, _ => False
/-- what is to hold of an outcome: P of a normal one -/
def Post {α : Type} (S : AS) (ρ : Rho) (σ : L2.St) (H : Hp) (P : α → AS → Rho → Hp → Prop) : Out α → Prop
  | .ok a ρ' => ∀ S' H', Step S ρ σ H S' ρ' σ H' → Rel K S' ρ' σ H' → P a S' ρ' H'
  | .exn e ρ' => ∀ S' H' cls dx, Step S ρ σ H S' ρ' σ H' → Rel K S' ρ' σ H' → XRel K mg S' H' e cls dx → W cls dx σ H'
  | .no => False
/-- an expression, a borrowed one, a test, arguments -/
def tS (f : M Ret) : TE := fun σ H Q => ∃ S ρ, Rel K S ρ σ H ∧ Post K mg W S ρ σ H (fun r S' ρ' H' => ∀ v, RRet K S' ρ' σ H' v r → RNew ρ σ H v r → Q v H') (f ρ)
def tBo (f : M BV) : TE := fun σ H Q => ∃ S ρ, Rel K S ρ σ H ∧ Post K mg W S ρ σ H (fun b S' ρ' H' => ∀ v, RB K S' σ H' v b → Q v H') (f ρ)
def tTe (f : M Bool) : TT := fun σ H Q => ∃ S ρ, Rel K S ρ σ H ∧ Post K mg W S ρ σ H (fun b _ _ H' => Q b H') (f ρ)
def RBs (S : AS) (σ : L2.St) (H : Hp) : List V → List BV → Prop
  | [], [] => True
  | v :: vs, b :: bs => RB K S σ H v b ∧ RBs S σ H vs bs
  | _, _ => False
def tAr (f : M (List BV)) : TA := fun σ H Q => ∃ S ρ, Rel K S ρ σ H ∧ Post K mg W S ρ σ H (fun bs S' ρ' H' => ∀ vs, RBs K S' σ H' vs bs → Q vs H') (f ρ)
end
section
variable {X : Cx} {e : Expr} {es : List Expr}
theorem pe_imp {t t' : TE} (h : PE X e t) (i : ∀ σ H Q, t' σ H Q → t σ H Q) : PE X e t' := ⟨fun pins s σ H Q I q => h.run pins s σ H Q I (i σ H Q q)⟩
theorem pt_imp {t t' : TT} (h : PT X e t) (i : ∀ σ H Q, t' σ H Q → t σ H Q) : PT X e t' := ⟨fun pins s σ H Q I q => h.run pins s σ H Q I (i σ H Q q)⟩
theorem pa_imp {t t' : TA} (h : PA X es t) (i : ∀ σ H Q, t' σ H Q → t σ H Q) : PA X es t' := ⟨fun pos pins s σ H Q I q => h.run pos pins s σ H Q I (i σ H Q q)⟩
end
section
variable {K : PySem.W.Frag} {mg : Str → Option Value} {W : WX} {S S1 : AS} {ρ ρ1 : Rho} {σ σ1 : L2.St} {H H1 : Hp}
/-- an outcome, then more: the state in between -/
theorem Post.bind {α β : Type} {o : Out α} {f : α → Rho → Out β} {P : β → AS → Rho → Hp → Prop} (h : Post K mg W S ρ σ H P (o.andThen f)) :
    Post K mg W S ρ σ H (fun a S1 ρ1 H1 => Step S ρ σ H S1 ρ1 σ H1 ∧ Rel K S1 ρ1 σ H1 ∧ Post K mg W S1 ρ1 σ H1 (fun b S2 ρ2 H2 => P b S2 ρ2 H2) (f a ρ1)) o := by
  cases o with
  | ok a ρ1 =>
    intro S1 H1 st r
    refine ⟨st, r, ?_⟩
    change Post K mg W S ρ σ H P (f a ρ1) at h
    cases e : f a ρ1 with
    | ok b ρ2 => rw [e] at h; exact fun S2 H2 st2 r2 => h S2 H2 (st.trans st2) r2
    | exn x ρ2 => rw [e] at h; exact fun S2 H2 cls dx st2 r2 xr => h S2 H2 cls dx (st.trans st2) r2 xr
    | no => rw [e] at h; exact h
  | exn x ρ1 => exact h
  | no => exact h
theorem Post.imp {α : Type} {o : Out α} {P P' : α → AS → Rho → Hp → Prop} (h : Post K mg W S ρ σ H P o) (i : ∀ a S' ρ' H', Step S ρ σ H S' ρ' σ H' → Rel K S' ρ' σ H' → P a S' ρ' H' → P' a S' ρ' H') : Post K mg W S ρ σ H P' o := by
  cases o with
  | ok a ρ1 => exact fun S1 H1 st r => i a S1 ρ1 H1 st r (h S1 H1 st r)
  | exn x ρ1 => exact h
  | no => exact h
theorem Post.ok {α : Type} {a : α} {P : α → AS → Rho → Hp → Prop} (r : Rel K S ρ σ H) (h : Post K mg W S ρ σ H P (.ok a ρ)) : P a S ρ H := h S H .refl r
end
end Ev
namespace Ev
open PySem PySem.Spec PyProof.Rows L2
variable [Gh]
/-! ### the evaluator's words for expressions -/
def opnd1 (op : D → Option Ret) (b : BV) (ρ : Rho) : Out Ret := match res ρ b with
  | some d => match op d with
    | some r => .ok r ρ
    | none => .no
  | none => .no
def opnd2 (op : D → D → Option Ret) (b c : BV) (ρ : Rho) : Out Ret := match res ρ b, res ρ c with
  | some d, some e => match op d e with
    | some r => .ok r ρ
    | none => .no
  | _, _ => .no
def ress (ρ : Rho) : List BV → Option (List D)
  | [] => some []
  | b :: bs => match res ρ b, ress ρ bs with
    | some d, some ds => some (d :: ds)
    | _, _ => none
def opnds (op : List D → Option Ret) (bs : List BV) (ρ : Rho) : Out Ret := match ress ρ bs with
  | some ds => match op ds with
    | some r => .ok r ρ
    | none => .no
  | none => .no
def mCst (d : D) : M Ret := fun ρ => .ok (.val d) ρ
def mName (i : Nat) : M Ret := fun ρ => match ρ[i]? with
  | some (.dat d) => .ok (.val d) ρ
  | some (.lst true ds) => .ok (.val (.list ds)) (ρ.set i (.dat (.list ds)))
  | some (.dic true kvs) => .ok (.val (.dict kvs)) (ρ.set i (.dat (.dict kvs)))
  | _ => .no
def mMove (i : Nat) : M Ret := fun ρ => match ρ[i]? with
  | some (.dat d) => .ok (.val d) ρ
  | some (.lst true ds) => .ok (.fl ds) (ρ.set i .un)
  | some (.dic true kvs) => .ok (.fd kvs) (ρ.set i .un)
  | _ => .no
def mBor (i : Nat) : M BV := fun ρ => match ρ[i]? with
  | some s => match s.data? with
    | some _ => .ok (.slot i) ρ
    | none => .no
  | none => .no
def toB (f : M Ret) : M BV := fun ρ => (f ρ).andThen fun r ρ' => .ok (.val r.toD) ρ'
def mOp1 (op : D → Option Ret) (f : M BV) : M Ret := fun ρ => (f ρ).andThen (opnd1 op)
def mOp2 (op : D → D → Option Ret) (f g : M BV) : M Ret := fun ρ => (f ρ).andThen fun b ρ1 => (g ρ1).andThen fun c ρ2 => opnd2 op b c ρ2
def mNil : M (List BV) := fun ρ => .ok [] ρ
def mCons (f : M BV) (g : M (List BV)) : M (List BV) := fun ρ => (f ρ).andThen fun b ρ1 => (g ρ1).andThen fun bs ρ2 => .ok (b :: bs) ρ2
def mOps (op : List D → Option Ret) (f : M (List BV)) : M Ret := fun ρ => (f ρ).andThen (opnds op)
section
variable {K : PySem.W.Frag} {mg : Str → Option Value} {W : WX} {H H' H1 H2 H3 : Hp} {S S' S1 S2 S3 : AS} {ρ ρ' ρ1 ρ2 ρ3 : Rho} {σ σ' σ1 σ2 σ3 : L2.St}
theorem getset {i j : Nat} {s t : Slot} (h : (ρ.set i s)[j]? = some t) : (j = i ∧ t = s) ∨ (j ≠ i ∧ ρ[j]? = some t) := by
  by_cases e : i = j
  · subst e
    by_cases hl : i < ρ.length
    · rw [List.getElem?_set_self hl] at h; cases h; exact .inl ⟨rfl, rfl⟩
    · rw [List.getElem?_eq_none (by simpa using hl)] at h; cases h
  · rw [List.getElem?_set_ne e] at h
    exact .inr ⟨fun z => e z.symm, h⟩
/-- a slot's own list is known to nobody any more: it is in S, or free -/
theorem Rel.drop (r : Rel K S ρ σ H) {i : Nat} {s t : Slot} (hs : ρ[i]? = some s) (hz : s.own? = some true) {a : Addr} (ha : adr σ i = some a) (ht : t.own? = none)
    (hS : ∀ b, S b → S' b) (hS' : ∀ b, S' b → S b ∨ b = a) (hq : SlotOk K S' H (σ[i]?.join) t) : Rel K S' (ρ.set i t) σ H ∧ Step S ρ σ H S' (ρ.set i t) σ H := by
  have hoa : OwnZ ρ σ a := ⟨i, s, hs, hz, ha⟩
  have keep : ∀ {j : Nat} {u : Slot} {z : Bool} {b : Addr}, (ρ.set i t)[j]? = some u → u.own? = some z → Ter σ j u b → ρ[j]? = some u ∧ j ≠ i := fun {j u z b} h1 h2 h3 => by
    rcases getset h1 with ⟨rfl, rfl⟩ | ⟨h, e⟩
    · rw [ht] at h2; cases h2
    · exact ⟨e, h⟩
  have st : Stay S S' H H := ⟨hS, fun _ _ => rfl⟩
  refine ⟨⟨by rw [List.length_set]; exact r.len, fun j u h => ?_, fun j k u w y z b h1 h2 h3 h4 h5 h6 => ?_, fun b h => ?_⟩, ⟨hS, fun _ _ => rfl, fun _ _ h _ => h, fun _ o h => ⟨o, h⟩, fun b h => ?_, fun b h => ?_, fun b h => ?_, fun j u h1 h2 => ?_⟩⟩
  · rcases getset h with ⟨rfl, rfl⟩ | ⟨hne, e⟩
    · exact hq
    · have q := r.slot j u e
      cases u with
      | un => exact trivial
      | giv d => exact SlotOk.giv_stay st q
      | bag G M T => exact q.bagAt (q.bag.move fun b xs h1 n hb => ⟨h1, fun h' => (hS' b h').elim n fun hba => hne (r.inj j i _ s false true b e hs rfl hz (q.bagTer hb) (.inl (by rw [hba]; exact ha)))⟩)
      | dat d =>
        cases e' : σ[j]?.join with
        | none => rw [e'] at q; exact q.elim
        | some v => rw [e'] at q; exact R.stay st d v q
      | lst z ds =>
        obtain ⟨b, w, e1, e2, e3, e4⟩ := q.own_adr (z := z) rfl
        have hb := join_adr e1
        rw [e1] at q ⊢
        obtain ⟨vs, q1, q2, q3⟩ := q
        exact ⟨vs, q1, fun h => (hS' _ h).elim q2 fun hba => hne (r.inj j i _ s z true b e hs rfl hz (.inl hb) (.inl (by rw [hba]; exact ha))), RAll.stay st ds vs q3⟩
      | dic z ds =>
        obtain ⟨b, w, e1, e2, e3, e4⟩ := q.own_adr (z := z) rfl
        have hb := join_adr e1
        rw [e1] at q ⊢
        obtain ⟨vs, q1, q2, q3⟩ := q
        exact ⟨vs, q1, fun h => (hS' _ h).elim q2 fun hba => hne (r.inj j i _ s z true b e hs rfl hz (.inl hb) (.inl (by rw [hba]; exact ha))), RKv.stay st ds vs q3⟩
  · exact r.inj j k u w y z b (keep h1 h3 h5).1 (keep h2 h4 h6).1 h3 h4 h5 h6
  · rcases hS' b h with h | rfl
    · exact r.live b h
    · obtain ⟨o, h, _⟩ := r.own hoa.own
      exact ⟨o, h⟩
  · rcases hS' b h with h | rfl
    · exact .inl h
    · exact .inr (.inr hoa)
  · obtain ⟨j, u, z, h1, h2, h3⟩ := h
    exact .inl ⟨j, u, z, (keep h1 h2 h3).1, h2, h3⟩
  · obtain ⟨j, u, h1, h2, h3⟩ := h
    exact .inl ⟨j, u, (keep h1 h2 (.inl h3)).1, h2, h3⟩
  · refine ⟨u, ?_, h2, rfl, rfl⟩
    rw [List.getElem?_set_ne (fun e => by subst e; rw [hs] at h1; cases h1; rw [hz] at h2; cases h2)]
    exact h1
/-- a new list that nobody else holds is given to all -/
theorem Rel.give (r : Rel K S ρ σ H) {a : Addr} {o : HO} (ha : H a = some o) (hn : ¬ Own ρ σ a) : Rel K (fun b => S b ∨ b = a) ρ σ H := by
  have st : Stay S (fun b => S b ∨ b = a) H H := ⟨fun _ h => .inl h, fun _ _ => rfl⟩
  refine ⟨r.len, fun i s h => ?_, r.inj, fun b h => ?_⟩
  · have q := r.slot i s h
    cases s with
    | un => exact trivial
    | giv d => exact SlotOk.giv_stay st q
    | bag G M T => exact q.bagAt (q.bag.move fun b xs h1 n hb => ⟨h1, fun h' => h'.elim n fun e => hn ⟨i, _, false, h, rfl, by rw [← e]; exact q.bagTer hb⟩⟩)
    | dat d =>
      cases e : σ[i]?.join with
      | none => rw [e] at q; exact q.elim
      | some v => rw [e] at q; exact R.stay st d v q
    | lst z ds =>
      obtain ⟨b, u, e1, e2, e3, e4⟩ := q.own_adr (z := z) rfl
      have hb := join_adr e1
      rw [e1] at q ⊢
      obtain ⟨vs, q1, q2, q3⟩ := q
      exact ⟨vs, q1, fun hh => hh.elim q2 fun e => hn ⟨i, _, z, h, rfl, by rw [← e]; exact .inl hb⟩, RAll.stay st ds vs q3⟩
    | dic z ds =>
      obtain ⟨b, u, e1, e2, e3, e4⟩ := q.own_adr (z := z) rfl
      have hb := join_adr e1
      rw [e1] at q ⊢
      obtain ⟨vs, q1, q2, q3⟩ := q
      exact ⟨vs, q1, fun hh => hh.elim q2 fun e => hn ⟨i, _, z, h, rfl, by rw [← e]; exact .inl hb⟩, RKv.stay st ds vs q3⟩
  · rcases h with h | rfl
    · exact r.live b h
    · exact ⟨o, ha⟩
theorem Step.give (s : Step S ρ σ H S' ρ' σ' H') {a : Addr} (h : S a ∨ H a = none ∨ OwnZ ρ σ a) : Step S ρ σ H (fun b => S' b ∨ b = a) ρ' σ' H' :=
  ⟨fun b h => .inl (s.sub b h), s.at_, s.frame, s.there, fun b hb => by rcases hb with hb | rfl; exact s.new b hb; exact h, s.own, s.ownZ, s.ino⟩
/-- a new one counts as a value -/
theorem RRet.val (st : Step S ρ σ H S' ρ' σ H') (r : Rel K S' ρ' σ H') {v : V} {q : Ret} (h : RRet K S' ρ' σ H' v q) (n : RNew ρ σ H v q) :
    ∃ S2, Step S ρ σ H S2 ρ' σ H' ∧ Rel K S2 ρ' σ H' ∧ R K H' S2 v q.toD ∧ (∀ b, S' b → S2 b) := by
  cases q with
  | val d => exact ⟨S', st, r, h, fun _ h => h⟩
  | fl ds =>
    obtain ⟨a, vs, rfl, ha, ns, hr, no⟩ := h
    refine ⟨fun b => S' b ∨ b = a, st.give (.inr (n a rfl)), r.give ha no, ?_, fun _ h => .inl h⟩
    exact .lst ha (.inr rfl) (RAll.stay ⟨fun _ h => .inl h, fun _ _ => rfl⟩ ds vs hr)
  | fd ds =>
    obtain ⟨a, vs, rfl, ha, ns, hr, no⟩ := h
    refine ⟨fun b => S' b ∨ b = a, st.give (.inr (n a rfl)), r.give ha no, ?_, fun _ h => .inl h⟩
    exact .dct (.inl ha) (.inr rfl) (RKv.stay ⟨fun _ h => .inl h, fun _ _ => rfl⟩ ds vs hr)
end
section
variable {X : Cx} {mg : Str → Option Value} {W : WX} {e a b : Expr} {es : List Expr} {pos : Pos}
theorem pe_cst_of {t : TE} {v : V} {d : D} (h : PE X e (tC v)) (r : ∀ H S, R X.K H S v d) : PE X e (tS X.K mg W (mCst d)) :=
  pe_imp h fun σ H Q ⟨S, ρ, rel, p⟩ => Post.ok rel p v (r H S) trivial
theorem pe_name {i : Nat} (h : PE X e (tVar i)) : PE X e (tS X.K mg W (mName i)) := pe_imp h fun σ H Q ⟨S, ρ, rel, p⟩ => by
  unfold mName at p
  cases hs : ρ[i]? with
  | none => simp only [hs] at p; exact p.elim
  | some s =>
    simp only [hs] at p
    have q := rel.slot i s hs
    cases s with
    | un => exact p.elim
    | giv d => exact p.elim
    | bag _ _ _ => exact p.elim
    | dat d =>
      cases ex : σ[i]? with
      | none => rw [ex] at q; exact False.elim q
      | some x =>
        rw [ex] at q
        cases x with
        | none => exact False.elim q
        | some v => exact ⟨v, ex, Post.ok rel p v q trivial⟩
    | lst z ds =>
      cases z with
      | false => exact p.elim
      | true =>
        obtain ⟨a, o, e1, e2, e3, e4⟩ := q.own_adr (z := true) rfl
        have ha := join_adr e1
        have q' := q
        rw [e1] at q'
        obtain ⟨vs, q1, q2, q3⟩ := q'
        have hR : R X.K H (fun b => S b ∨ b = a) (.ref a) (.list ds) := .lst q1 (.inr rfl) (RAll.stay ⟨fun _ h => .inl h, fun _ _ => rfl⟩ ds vs q3)
        obtain ⟨r2, s2⟩ := rel.drop (t := .dat (.list ds)) (S' := fun b => S b ∨ b = a) hs rfl ha rfl (fun _ h => .inl h) (fun _ h => h) (by rw [e1]; exact hR)
        exact ⟨.ref a, adr_get ha, p _ H s2 r2 _ hR trivial⟩
    | dic z ds =>
      cases z with
      | false => exact p.elim
      | true =>
        obtain ⟨a, o, e1, e2, e3, e4⟩ := q.own_adr (z := true) rfl
        have ha := join_adr e1
        have q' := q
        rw [e1] at q'
        obtain ⟨vs, q1, q2, q3⟩ := q'
        have hR : R X.K H (fun b => S b ∨ b = a) (.ref a) (.dict ds) := .dct (.inl q1) (.inr rfl) (RKv.stay ⟨fun _ h => .inl h, fun _ _ => rfl⟩ ds vs q3)
        obtain ⟨r2, s2⟩ := rel.drop (t := .dat (.dict ds)) (S' := fun b => S b ∨ b = a) hs rfl ha rfl (fun _ h => .inl h) (fun _ h => h) (by rw [e1]; exact hR)
        exact ⟨.ref a, adr_get ha, p _ H s2 r2 _ hR trivial⟩
theorem pe_move {i : Nat} (h : PE X e (tVar i)) : PE X e (tS X.K mg W (mMove i)) := pe_imp h fun σ H Q ⟨S, ρ, rel, p⟩ => by
  unfold mMove at p
  cases hs : ρ[i]? with
  | none => simp only [hs] at p; exact p.elim
  | some s =>
    simp only [hs] at p
    have q := rel.slot i s hs
    cases s with
    | un => exact p.elim
    | giv d => exact p.elim
    | bag _ _ _ => exact p.elim
    | dat d =>
      cases ex : σ[i]? with
      | none => rw [ex] at q; exact False.elim q
      | some x =>
        rw [ex] at q
        cases x with
        | none => exact False.elim q
        | some v => exact ⟨v, ex, Post.ok rel p v q trivial⟩
    | lst z ds =>
      cases z with
      | false => exact p.elim
      | true =>
        obtain ⟨a, o, e1, e2, e3, e4⟩ := q.own_adr (z := true) rfl
        have ha := join_adr e1
        have q' := q
        rw [e1] at q'
        obtain ⟨vs, q1, q2, q3⟩ := q'
        obtain ⟨r2, s2⟩ := rel.drop (t := .un) (S' := S) hs rfl ha rfl (fun _ h => h) (fun _ h => .inl h) trivial
        refine ⟨.ref a, adr_get ha, p _ H s2 r2 _ ⟨a, vs, rfl, q1, q2, q3, fun ho => ?_⟩ fun b eb => ?_⟩
        · obtain ⟨j, u, z, h1, h2, h3⟩ := ho
          rcases getset h1 with ⟨rfl, rfl⟩ | ⟨hne, h1⟩
          · cases h2
          · exact hne (rel.inj j i _ _ _ _ a h1 hs h2 rfl h3 (.inl ha))
        · cases eb; exact .inr ⟨i, _, hs, rfl, ha⟩
    | dic z ds =>
      cases z with
      | false => exact p.elim
      | true =>
        obtain ⟨a, o, e1, e2, e3, e4⟩ := q.own_adr (z := true) rfl
        have ha := join_adr e1
        have q' := q
        rw [e1] at q'
        obtain ⟨vs, q1, q2, q3⟩ := q'
        obtain ⟨r2, s2⟩ := rel.drop (t := .un) (S' := S) hs rfl ha rfl (fun _ h => h) (fun _ h => .inl h) trivial
        refine ⟨.ref a, adr_get ha, p _ H s2 r2 _ ⟨a, vs, rfl, q1, q2, q3, fun ho => ?_⟩ fun b eb => ?_⟩
        · obtain ⟨j, u, z, h1, h2, h3⟩ := ho
          rcases getset h1 with ⟨rfl, rfl⟩ | ⟨hne, h1⟩
          · cases h2
          · exact hne (rel.inj j i _ _ _ _ a h1 hs h2 rfl h3 (.inl ha))
        · cases eb; exact .inr ⟨i, _, hs, rfl, ha⟩
theorem pe_bor {i : Nat} (h : PE X e (tVar i)) : PE X e (tBo X.K mg W (mBor i)) := pe_imp h fun σ H Q ⟨S, ρ, rel, p⟩ => by
  unfold mBor at p
  cases hs : ρ[i]? with
  | none => simp only [hs] at p; exact p.elim
  | some s =>
    simp only [hs] at p
    have q := rel.slot i s hs
    have go : ∀ (x : Option V), σ[i]?.join = x → x ≠ none → Post X.K mg W S ρ σ H (fun b S' ρ' H' => ∀ v, RB X.K S' σ H' v b → Q v H') (.ok (.slot i) ρ) → tVar i σ H Q := fun x hx hn p => by
      cases ex : σ[i]? with
      | none => rw [ex] at hx; exact absurd hx.symm hn
      | some y =>
        cases y with
        | none => rw [ex] at hx; exact absurd hx.symm hn
        | some v => exact ⟨v, ex, Post.ok rel p v ex⟩
    cases s with
    | un => exact p.elim
    | giv d => exact p.elim
    | bag _ _ _ => exact p.elim
    | dat d => exact go _ rfl (fun e => by rw [e] at q; exact q) p
    | lst z ds => exact go _ rfl (fun e => by rw [e] at q; exact q) p
    | dic z ds => exact go _ rfl (fun e => by rw [e] at q; exact q) p
theorem pe_toB {f : M Ret} (h : PE X e (tS X.K mg W f)) : PE X e (tBo X.K mg W (toB f)) := pe_imp h fun σ H Q ⟨S, ρ, rel, p⟩ => by
  refine ⟨S, ρ, rel, ?_⟩
  unfold toB at p
  cases ef : f ρ with
  | ok r ρ1 =>
    rw [ef] at p
    intro S1 H1 st r1 v hv hn
    obtain ⟨S2, st2, r2, hr, hs⟩ := RRet.val st r1 hv hn
    exact p S2 H1 st2 r2 v hr
  | exn x ρ1 => rw [ef] at p; exact p
  | no => rw [ef] at p; exact p
end
end Ev
namespace Ev
open PySem PySem.Spec PyProof.Rows L2
variable [Gh]
/-! ### operations by values -/
abbrev Live (S : AS) (H : Hp) : Prop := ∀ a, S a → ∃ o, H a = some o
inductive RRs (K : PySem.W.Frag) (H : Hp) (S : AS) : List V → List D → Prop
  | nil : RRs K H S [] []
  | cons {v : V} {vs : List V} {d : D} {ds : List D} : RR K H S v d → RRs K H S vs ds → RRs K H S (v :: vs) (d :: ds)
def rOp1 (K : PySem.W.Frag) (op : D → Option Ret) : V → Hp → VK → Prop := fun x H Q => ∃ S d r, Live S H ∧ RR K H S x d ∧ op d = some r ∧ ∀ v H', PPost K S H v H' r → Q v H'
def rOp2 (K : PySem.W.Frag) (op : D → D → Option Ret) : R2 := fun x y H Q => ∃ S d e r, Live S H ∧ RR K H S x d ∧ RR K H S y e ∧ op d e = some r ∧ ∀ v H', PPost K S H v H' r → Q v H'
def rOps (K : PySem.W.Frag) (op : List D → Option Ret) : List V → Hp → VK → Prop := fun xs H Q => ∃ S ds r, Live S H ∧ RRs K H S xs ds ∧ op ds = some r ∧ ∀ v H', PPost K S H v H' r → Q v H'
section
variable {K : PySem.W.Frag} {mg : Str → Option Value} {W : WX} {H H' H1 H2 H3 : Hp} {S S' S1 S2 S3 : AS} {ρ ρ' ρ1 ρ2 ρ3 : Rho} {σ σ' σ1 σ2 σ3 : L2.St}
theorem RB.step (t : Step S ρ σ H S' ρ' σ H') {v : V} {b : BV} (h : RB K S σ H v b) : RB K S' σ H' v b := h.stay t.stay
theorem RBs.step (t : Step S ρ σ H S' ρ' σ H') : ∀ {vs : List V} {bs : List BV}, RBs K S σ H vs bs → RBs K S' σ H' vs bs
  | [], [], _ => trivial
  | _ :: _, [], h => h.elim
  | [], _ :: _, h => h.elim
  | v :: vs, b :: bs, h => ⟨h.1.step t, RBs.step t h.2⟩
theorem RBs.read (r : Rel K S ρ σ H) : ∀ {vs : List V} {bs : List BV} {ds : List D}, RBs K S σ H vs bs → ress ρ bs = some ds → RRs K H S vs ds
  | [], [], ds, _, e => by cases e; exact .nil
  | _ :: _, [], _, h, _ => h.elim
  | [], _ :: _, _, h, _ => h.elim
  | v :: vs, b :: bs, ds, h, e => by
    unfold ress at e
    cases h1 : res ρ b with
    | none => simp only [h1] at e; cases e
    | some d =>
      simp only [h1] at e
      cases h2 : ress ρ bs with
      | none => simp only [h2] at e; cases e
      | some ds' =>
        simp only [h2] at e
        cases e
        exact .cons (h.1.read r h1) (RBs.read r h.2 h2)
/-- what a value operation gives goes on -/
theorem Post.pure (rel : Rel K S ρ σ H) {r : Ret} {Q : VK} (p : Post K mg W S ρ σ H (fun r S' ρ' H' => ∀ v, RRet K S' ρ' σ H' v r → RNew ρ σ H v r → Q v H') (.ok r ρ)) {v : V} (h : PPost K S H v H' r) : Q v H' := by
  obtain ⟨S', st, r', hr, hn⟩ := rel.pure h
  exact p S' H' st r' v hr hn
theorem un_fwd {op : D → Option Ret} {f : M BV} {Q : VK} (rel : Rel K S ρ σ H) (p : Post K mg W S ρ σ H (fun r S' ρ' H' => ∀ v, RRet K S' ρ' σ H' v r → RNew ρ σ H v r → Q v H') (mOp1 op f ρ)) :
    tBo K mg W f σ H fun x H1 => rOp1 K op x H1 Q := by
  refine ⟨S, ρ, rel, ?_⟩
  unfold mOp1 at p
  cases ef : f ρ with
  | ok b ρ1 =>
    rw [ef] at p
    intro S1 H1 st1 r1 v hv
    simp only [andThen_ok, opnd1] at p
    cases e1 : res ρ1 b with
    | none => simp only [e1] at p; exact p.elim
    | some d =>
      simp only [e1] at p
      cases e2 : op d with
      | none => simp only [e2] at p; exact p.elim
      | some r =>
        simp only [e2] at p
        refine ⟨S1, d, r, r1.live, hv.read r1 e1, e2, fun v' H' h => ?_⟩
        obtain ⟨S', st', r', hr, hn⟩ := r1.pure h
        refine p S' H' (st1.trans st') r' v' hr ?_
        cases r with
        | val _ => exact trivial
        | fl _ => exact fun a ea => (hn a ea).elim (fun q => .inl (by
            cases e : H a with
            | none => rfl
            | some o => obtain ⟨o', e'⟩ := st1.there a o e; rw [q] at e'; cases e')) fun q => (st1.ownZ a q).symm
        | fd _ => exact fun a ea => (hn a ea).elim (fun q => .inl (by
            cases e : H a with
            | none => rfl
            | some o => obtain ⟨o', e'⟩ := st1.there a o e; rw [q] at e'; cases e')) fun q => (st1.ownZ a q).symm
  | exn x ρ1 => rw [ef] at p; exact p
  | no => rw [ef] at p; exact p
theorem RNew.back (st : Step S ρ σ H S1 ρ1 σ H1) {v : V} {r : Ret} (h : RNew ρ1 σ H1 v r) : RNew ρ σ H v r := by
  have go : (∀ a, v = .ref a → H1 a = none ∨ OwnZ ρ1 σ a) → ∀ a, v = .ref a → H a = none ∨ OwnZ ρ σ a := fun hn a ea => (hn a ea).elim (fun q => .inl (by
    cases e : H a with
    | none => rfl
    | some o => obtain ⟨o', e'⟩ := st.there a o e; rw [q] at e'; cases e')) fun q => (st.ownZ a q).symm
  cases r with
  | val _ => exact trivial
  | fl _ => exact go h
  | fd _ => exact go h
theorem bin_fwd {op : D → D → Option Ret} {f g : M BV} {Q : VK} (rel : Rel K S ρ σ H) (p : Post K mg W S ρ σ H (fun r S' ρ' H' => ∀ v, RRet K S' ρ' σ H' v r → RNew ρ σ H v r → Q v H') (mOp2 op f g ρ)) :
    tBo K mg W f σ H fun x H1 => tBo K mg W g σ H1 fun y H2 => rOp2 K op x y H2 Q := by
  refine ⟨S, ρ, rel, ?_⟩
  unfold mOp2 at p
  cases ef : f ρ with
  | ok b ρ1 =>
    rw [ef] at p
    intro S1 H1 st1 r1 v hv
    simp only [andThen_ok] at p
    refine ⟨S1, ρ1, r1, ?_⟩
    cases eg : g ρ1 with
    | ok c ρ2 =>
      rw [eg] at p
      intro S2 H2 st2 r2 u hu
      simp only [andThen_ok, opnd2] at p
      cases e1 : res ρ2 b with
      | none => simp only [e1] at p; exact p.elim
      | some d =>
        cases e2 : res ρ2 c with
        | none => simp only [e1, e2] at p; exact p.elim
        | some d2 =>
          simp only [e1, e2] at p
          cases e3 : op d d2 with
          | none => simp only [e3] at p; exact p.elim
          | some r =>
            simp only [e3] at p
            refine ⟨S2, d, d2, r, r2.live, (hv.step st2).read r2 e1, hu.read r2 e2, e3, fun v' H' h => ?_⟩
            obtain ⟨S', st', r', hr, hn⟩ := r2.pure h
            exact p S' H' ((st1.trans st2).trans st') r' v' hr (hn.back (st1.trans st2))
    | exn x ρ2 => rw [eg] at p; exact fun S2 H2 cls dx st2 r2 xr => p S2 H2 cls dx (st1.trans st2) r2 xr
    | no => rw [eg] at p; exact p
  | exn x ρ1 => rw [ef] at p; exact p
  | no => rw [ef] at p; exact p
theorem ops_fwd {op : List D → Option Ret} {f : M (List BV)} {Q : VK} (rel : Rel K S ρ σ H) (p : Post K mg W S ρ σ H (fun r S' ρ' H' => ∀ v, RRet K S' ρ' σ H' v r → RNew ρ σ H v r → Q v H') (mOps op f ρ)) :
    tAr K mg W f σ H fun xs H1 => rOps K op xs H1 Q := by
  refine ⟨S, ρ, rel, ?_⟩
  unfold mOps at p
  cases ef : f ρ with
  | ok bs ρ1 =>
    rw [ef] at p
    intro S1 H1 st1 r1 vs hv
    simp only [andThen_ok, opnds] at p
    cases e1 : ress ρ1 bs with
    | none => simp only [e1] at p; exact p.elim
    | some ds =>
      simp only [e1] at p
      cases e2 : op ds with
      | none => simp only [e2] at p; exact p.elim
      | some r =>
        simp only [e2] at p
        refine ⟨S1, ds, r, r1.live, hv.read r1 e1, e2, fun v' H' h => ?_⟩
        obtain ⟨S', st', r', hr, hn⟩ := r1.pure h
        exact p S' H' (st1.trans st') r' v' hr (hn.back st1)
  | exn x ρ1 => rw [ef] at p; exact p
  | no => rw [ef] at p; exact p
end
section
variable {X : Cx} {mg : Str → Option Value} {W : WX} {e a b : Expr} {es : List Expr} {pos : Pos}
theorem pe_bin {o : Operator} {op : D → D → Option Ret} {f g : M BV} (ho : OpR X (binaryOp o) (rOp2 X.K op)) (ha : PE X a (tBo X.K mg W f)) (hb : PE X b (tBo X.K mg W g)) : PE X (.BinOp a o b pos) (tS X.K mg W (mOp2 op f g)) :=
  pe_imp (pe_op ho ha hb) fun _ _ _ ⟨_, _, rel, p⟩ => bin_fwd rel p
theorem pe_cmp2 {o : CmpOp} {op : D → D → Option Ret} {f g : M BV} (ho : OpR X (compareOp o) (rOp2 X.K op)) (ha : PE X a (tBo X.K mg W f)) (hb : PE X b (tBo X.K mg W g)) (hm : behindInMarks o b = false) : PE X (.Compare a [o] [b] pos) (tS X.K mg W (mOp2 op f g)) :=
  pe_imp (pe_cmpR ho ha hb hm) fun _ _ _ ⟨_, _, rel, p⟩ => bin_fwd rel p
theorem pe_un1 {o : UnaryOp} {op : D → Option Ret} {f : M BV} (ho : UnR X (unaryOp o) (rOp1 X.K op)) (ha : PE X a (tBo X.K mg W f)) : PE X (.UnaryOp o a pos) (tS X.K mg W (mOp1 op f)) :=
  pe_imp (pe_un ho ha) fun _ _ _ ⟨_, _, rel, p⟩ => un_fwd rel p
theorem pe_sub2 {op : D → D → Option Ret} {f g : M BV} (ho : IxR X (rOp2 X.K op)) (hp : PlainIx b) (ha : PE X a (tBo X.K mg W f)) (hb : PE X b (tBo X.K mg W g)) : PE X (.Subscript a b pos) (tS X.K mg W (mOp2 op f g)) :=
  pe_imp (pe_ix ho ha hb hp) fun _ _ _ ⟨_, _, rel, p⟩ => bin_fwd rel p
theorem pa_nilE : PA X [] (tAr X.K mg W mNil) := pa_imp pa_nil fun σ H Q ⟨S, ρ, rel, p⟩ => Post.ok rel p [] trivial
theorem pa_consE {f : M BV} {g : M (List BV)} (ha : PE X e (tBo X.K mg W f)) (hr : PA X es (tAr X.K mg W g)) (hs : starEach (e :: es) X.env = (false, eval e X.env) :: starEach es X.env) : PA X (e :: es) (tAr X.K mg W (mCons f g)) :=
  pa_imp (pa_cons ha hr hs) fun σ H Q ⟨S, ρ, rel, p⟩ => by
    refine ⟨S, ρ, rel, ?_⟩
    unfold mCons at p
    cases ef : f ρ with
    | ok b ρ1 =>
      rw [ef] at p
      intro S1 H1 st1 r1 v hv
      simp only [andThen_ok] at p
      refine ⟨S1, ρ1, r1, ?_⟩
      cases eg : g ρ1 with
      | ok c ρ2 =>
        rw [eg] at p
        exact fun S2 H2 st2 r2 vs hvs => p S2 H2 (st1.trans st2) r2 (v :: vs) ⟨hv.step st2, hvs⟩
      | exn x ρ2 => rw [eg] at p; exact fun S2 H2 cls dx st2 r2 xr => p S2 H2 cls dx (st1.trans st2) r2 xr
      | no => rw [eg] at p; exact p
    | exn x ρ1 => rw [ef] at p; exact p
    | no => rw [ef] at p; exact p
theorem pe_blt {id : String} {x : Str} {p : Pos} {op : List D → Option Ret} {f : M (List BV)} (hc : CallR X (.builtin id) (rOps X.K op)) (hg : Gl X x) (hm : X.mg x = none) (hv : bootBuiltins x = some (.builtin id)) (ha : PA X (e :: es) (tAr X.K mg W f)) (hn : x ≠ "__name__") (hdb : (x == ("__debug__" : Str)) = false)
    (he : starEach (e :: es) X.env = (false, eval e X.env) :: starEach es X.env) (hpl : (backTo pos (starEach es X.env)).any (·.1) = false) : PE X (.Call (.Name x p) (e :: es) [] pos) (tS X.K mg W (mOps op f)) :=
  pe_imp (pe_callB hc hg hm hv ha hn hdb he hpl) fun _ _ _ ⟨_, _, rel, p⟩ => ops_fwd rel p
theorem pe_bty {T : String} {x : Str} {p : Pos} {op : List D → Option Ret} {f : M (List BV)} (hc : CallR X (.type T) (rOps X.K op)) (hg : Gl X x) (hm : X.mg x = none) (hv : bootBuiltins x = some (.type T)) (ha : PA X (e :: es) (tAr X.K mg W f)) (hn : x ≠ "__name__") (hdb : (x == ("__debug__" : Str)) = false)
    (he : starEach (e :: es) X.env = (false, eval e X.env) :: starEach es X.env) (hpl : (backTo pos (starEach es X.env)).any (·.1) = false) : PE X (.Call (.Name x p) (e :: es) [] pos) (tS X.K mg W (mOps op f)) :=
  pe_imp (pe_callTy hc hg hm hv ha hn hdb he hpl) fun _ _ _ ⟨_, _, rel, p⟩ => ops_fwd rel p
/-! ### displays -/
def dTup (ds : List D) : Option Ret := if ds.length ≤ 16777216 then some (.val (.tuple ds)) else none
def dLst (ds : List D) : Option Ret := if ds.length ≤ 16777216 then some (.fl ds) else none
end
end Ev
namespace Ev
open PySem PySem.Spec PyProof.Rows L2
variable [Gh]
/-! ### displays, truth, and, or, not -/
def valsOf : List BV → Option (List D)
  | [] => some []
  | .val d :: bs => match valsOf bs with
    | some ds => some (d :: ds)
    | none => none
  | .slot _ :: _ => none
def mTup (f : M (List BV)) : M Ret := fun ρ => (f ρ).andThen fun bs ρ' => match valsOf bs with
  | some ds => if ds.length ≤ 16777216 then .ok (.val (.tuple ds)) ρ' else .no
  | none => .no
def mLst (f : M (List BV)) : M Ret := fun ρ => (f ρ).andThen fun bs ρ' => match valsOf bs with
  | some ds => if ds.length ≤ 16777216 then .ok (.fl ds) ρ' else .no
  | none => .no
def truth : D → Option Bool
  | .none => some false
  | .bool b => some b
  | .int i => some (i != 0)
  | .str x => if x.length ≤ 16777216 then some ((x.length : Int) != 0) else none
  | .list ds => some (!ds.isEmpty)
  | .tuple ds => some (!ds.isEmpty)
  | .dict _ => none
def mTru (f : M BV) : M Bool := fun ρ => (f ρ).andThen fun b ρ' => match res ρ' b with
  | some d => match truth d with
    | some k => .ok k ρ'
    | none => .no
  | none => .no
def mNotT (f : M Bool) : M Bool := fun ρ => (f ρ).andThen fun k ρ' => .ok (!k) ρ'
def mAndT (f g : M Bool) : M Bool := fun ρ => (f ρ).andThen fun k ρ' => if k = true then g ρ' else .ok false ρ'
def mOrT (f g : M Bool) : M Bool := fun ρ => (f ρ).andThen fun k ρ' => if k = true then .ok true ρ' else g ρ'
def mIfE {α : Type} (c : M Bool) (f g : M α) : M α := fun ρ => (c ρ).andThen fun k ρ' => if k = true then f ρ' else g ρ'
def mNotV (f : M BV) : M Ret := fun ρ => (f ρ).andThen fun b ρ' => match res ρ' b with
  | some d => match truth d with
    | some k => .ok (.val (.bool (!k))) ρ'
    | none => .no
  | none => .no
def mAndV (f g : M Ret) : M Ret := fun ρ => (f ρ).andThen fun r ρ' => match truth r.toD with
  | some true => g ρ'
  | some false => .ok r ρ'
  | none => .no
def mOrV (f g : M Ret) : M Ret := fun ρ => (f ρ).andThen fun r ρ' => match truth r.toD with
  | some false => g ρ'
  | some true => .ok r ρ'
  | none => .no
def mChain (op op' : D → D → Option Bool) (f g h : M BV) : M Ret := fun ρ => (f ρ).andThen fun a ρ1 => (g ρ1).andThen fun b ρ2 => match res ρ2 a, res ρ2 b with
  | some d, some e => match op d e with
    | some true => (h ρ2).andThen fun c ρ3 => match res ρ3 b, res ρ3 c with
      | some e', some e2 => match op' e' e2 with
        | some k => .ok (.val (.bool k)) ρ3
        | none => .no
      | _, _ => .no
    | some false => .ok (.val (.bool false)) ρ2
    | none => .no
  | _, _ => .no
section
variable {K : PySem.W.Frag} {mg : Str → Option Value} {W : WX} {H H' H1 H2 H3 : Hp} {S S' S1 S2 S3 : AS} {ρ ρ' ρ1 ρ2 ρ3 : Rho} {σ σ' σ1 σ2 σ3 : L2.St}
theorem line_eq : (sizeLine : Nat) = 16777216 := by rw [sizeLine_eq]
theorem RBs.vals : ∀ {vs : List V} {bs : List BV} {ds : List D}, RBs K S σ H vs bs → valsOf bs = some ds → RAll K H S vs ds
  | [], [], ds, _, e => by cases e; exact .nil
  | _ :: _, [], _, h, _ => h.elim
  | [], _ :: _, _, h, _ => h.elim
  | v :: vs, .slot _ :: bs, ds, h, e => by cases e
  | v :: vs, .val d :: bs, ds, h, e => by
    unfold valsOf at e
    cases h2 : valsOf bs with
    | none => simp only [h2] at e; cases e
    | some ds' =>
      simp only [h2] at e
      cases e
      exact .cons h.1 (RBs.vals h.2 h2)
theorem isEmpty_of_length {α β : Type} {xs : List α} {ys : List β} (h : xs.length = ys.length) : xs.isEmpty = ys.isEmpty := by
  cases xs <;> cases ys <;> simp at h ⊢
theorem truth_ok {v : V} {d : D} {k : Bool} (h : RR K H S v d) (e : truth d = some k) : TruV K v H k := by
  cases d with
  | none => cases h.none; cases e; rfl
  | bool b => cases h.bool; cases e; rfl
  | int i => cases h.int; cases e; rfl
  | str x =>
    cases h.str
    have e : (if x.length ≤ 16777216 then some ((x.length : Int) != 0) else none) = some k := e
    split at e
    · rename_i hl
      cases e
      exact ⟨by rw [line_eq]; exact hl, rfl⟩
    · cases e
  | list ds =>
    obtain ⟨a, vs, rfl, hs, ha⟩ := h.list
    cases e
    exact .inl ⟨vs, .inl (.inl hs), by rw [isEmpty_of_length ha.length]⟩
  | tuple ds =>
    obtain ⟨a, vs, rfl, hs, ha⟩ := h.tuple
    cases e
    exact .inr (.inl ⟨vs, hs, by rw [isEmpty_of_length ha.length]⟩)
  | dict ds => cases e
theorem RRet.read {v : V} {r : Ret} (h : RRet K S ρ σ H v r) : RR K H S v r.toD := by
  cases r with
  | val d => exact .of h
  | fl ds => obtain ⟨a, vs, rfl, ha, ns, hr, no⟩ := h; exact .lst ha hr
  | fd ds => obtain ⟨a, vs, rfl, ha, ns, hr, no⟩ := h; exact .dic (.inl ha) hr
/-- from an outcome's post, the state behind it -/
theorem Post.at {α : Type} {P : α → AS → Rho → Hp → Prop} {o : Out α} (p : Post K mg W S ρ σ H P o) : Post K mg W S ρ σ H (fun a S' ρ' H' => Step S ρ σ H S' ρ' σ H' ∧ Rel K S' ρ' σ H' ∧ P a S' ρ' H' ∧ o = .ok a ρ') o := by
  cases o with
  | ok a ρ1 => exact fun S1 H1 st r => ⟨st, r, p S1 H1 st r, rfl⟩
  | exn x ρ1 => exact p
  | no => exact p
/-- the later part of an outcome from an earlier state -/
theorem Post.from {α : Type} {P : α → AS → Rho → Hp → Prop} {o : Out α} (p : Post K mg W S ρ σ H P o) (st : Step S ρ σ H S1 ρ1 σ H1) : Post K mg W S1 ρ1 σ H1 P o := by
  cases o with
  | ok a ρ2 => exact fun S2 H2 st2 r2 => p S2 H2 (st.trans st2) r2
  | exn x ρ2 => exact fun S2 H2 cls dx st2 r2 xr => p S2 H2 cls dx (st.trans st2) r2 xr
  | no => exact p
/-- the two halves of andThen -/
theorem Post.and {α β : Type} {o : Out α} {f : α → Rho → Out β} {P : β → AS → Rho → Hp → Prop} {P' : α → AS → Rho → Hp → Prop} (p : Post K mg W S ρ σ H P (o.andThen f))
    (h : ∀ a S1 ρ1 H1, Step S ρ σ H S1 ρ1 σ H1 → Rel K S1 ρ1 σ H1 → Post K mg W S ρ σ H P (f a ρ1) → P' a S1 ρ1 H1) : Post K mg W S ρ σ H P' o := by
  cases o with
  | ok a ρ1 => exact fun S1 H1 st r => h a S1 ρ1 H1 st r p
  | exn x ρ1 => exact p
  | no => exact p
end
section
variable {X : Cx} {mg : Str → Option Value} {W : WX} {e a b c : Expr} {es : List Expr} {pos : Pos}
theorem pe_tupE {f : M (List BV)} {x1} (h : PA X es (tAr X.K mg W f)) : PE X (.Tuple es x1 pos) (tS X.K mg W (mTup f)) := pe_imp (pe_tup h) fun σ H Q ⟨S, ρ, rel, p⟩ => by
  refine ⟨S, ρ, rel, Post.and p fun bs S1 ρ1 H1 st1 r1 p vs hvs => ?_⟩
  cases e : valsOf bs with
  | none => simp only [e] at p; exact p.elim
  | some ds =>
    simp only [e] at p
    have ra := hvs.vals e
    by_cases hl : ds.length ≤ 16777216
    · rw [if_pos hl] at p
      refine ⟨by rw [ra.length, line_eq]; exact hl, fun q hq => ?_⟩
      obtain ⟨r2, s2⟩ := r1.grow (o := .tup vs) hq
      exact p _ _ (st1.trans s2) r2 _ (.tup (.inl (.inl upd_same)) (.inl (.inr rfl)) (ra.stay s2.stay)) trivial
    · rw [if_neg hl] at p; exact p.elim
theorem pe_lstE {f : M (List BV)} (h : PA X es (tAr X.K mg W f)) : PE X (.List es pos) (tS X.K mg W (mLst f)) := pe_imp (pe_lst h) fun σ H Q ⟨S, ρ, rel, p⟩ => by
  refine ⟨S, ρ, rel, Post.and p fun bs S1 ρ1 H1 st1 r1 p vs hvs => ?_⟩
  cases e : valsOf bs with
  | none => simp only [e] at p; exact p.elim
  | some ds =>
    simp only [e] at p
    have ra := hvs.vals e
    by_cases hl : ds.length ≤ 16777216
    · rw [if_pos hl] at p
      refine ⟨by rw [ra.length, line_eq]; exact hl, fun q hq => ?_⟩
      obtain ⟨r2, s2, nS, nO⟩ := r1.fresh (o := .lst vs) hq
      refine p _ _ (st1.trans s2) r2 _ ⟨q, vs, rfl, upd_same, nS, ra.stay s2.stay, nO⟩ fun b eb => ?_
      cases eb
      refine .inl ?_
      cases e : H q with
      | none => rfl
      | some o => obtain ⟨o', e'⟩ := st1.there q o e; rw [hq] at e'; cases e'
    · rw [if_neg hl] at p; exact p.elim
theorem pt_tru {f : M BV} (h : PE X e (tBo X.K mg W f)) (he : ∀ whole, isTrue e X.env whole = (do let v ← whole; standAt e.pos; holding [v] (truthy v))) : PT X e (tTe X.K mg W (mTru f)) :=
  pt_imp (pt_truth h he) fun σ H Q ⟨S, ρ, rel, p⟩ => by
    refine ⟨S, ρ, rel, Post.and p fun b S1 ρ1 H1 st1 r1 p v hv => ?_⟩
    cases e1 : res ρ1 b with
    | none => simp only [e1] at p; exact p.elim
    | some d =>
      simp only [e1] at p
      cases e2 : truth d with
      | none => simp only [e2] at p; exact p.elim
      | some k =>
        simp only [e2] at p
        exact ⟨k, truth_ok (hv.read r1 e1) e2, p S1 H1 st1 r1⟩
theorem pt_notE {f : M Bool} (h : PT X e (tTe X.K mg W f)) : PT X (.UnaryOp .Not e pos) (tTe X.K mg W (mNotT f)) :=
  pt_imp (pt_not h) fun σ H Q ⟨S, ρ, rel, p⟩ => ⟨S, ρ, rel, Post.and p fun b S1 ρ1 H1 st1 r1 p => p S1 H1 st1 r1⟩
theorem pw_imp {t t' : TT} (h : PW X e t) (i : ∀ σ H Q, t' σ H Q → t σ H Q) : PW X e t' := ⟨fun wh pins s σ H Q I q => h.run wh pins s σ H Q I (i σ H Q q)⟩
theorem pw_andE {f g : M Bool} {rest : List Expr} (ha : PT X a (tTe X.K mg W f)) (hb : PW X (.BoolOp .And (b :: rest) pos) (tTe X.K mg W g)) : PW X (.BoolOp .And (a :: b :: rest) pos) (tTe X.K mg W (mAndT f g)) :=
  pw_imp (pw_and ha hb) fun σ H Q ⟨S, ρ, rel, p⟩ => ⟨S, ρ, rel, Post.and p fun k S1 ρ1 H1 st1 r1 p => by
    cases k with
    | true => exact ⟨S1, ρ1, r1, Post.from p st1⟩
    | false => exact p S1 H1 st1 r1⟩
theorem pw_orE {f g : M Bool} {rest : List Expr} (ha : PT X a (tTe X.K mg W f)) (hb : PW X (.BoolOp .Or (b :: rest) pos) (tTe X.K mg W g)) : PW X (.BoolOp .Or (a :: b :: rest) pos) (tTe X.K mg W (mOrT f g)) :=
  pw_imp (pw_or ha hb) fun σ H Q ⟨S, ρ, rel, p⟩ => ⟨S, ρ, rel, Post.and p fun k S1 ρ1 H1 st1 r1 p => by
    cases k with
    | true => exact p S1 H1 st1 r1
    | false => exact ⟨S1, ρ1, r1, Post.from p st1⟩⟩
theorem RNew.from (st : Step S ρ σ H S1 ρ1 σ H1) {v : V} {r : Ret} (h : RNew ρ1 σ H1 v r) : RNew ρ σ H v r := h.back st
theorem tS_from {K : PySem.W.Frag} {f : M Ret} {S S1 : AS} {ρ ρ1 : Rho} {σ : L2.St} {H H1 : Hp} {Q : VK} (st : Step S ρ σ H S1 ρ1 σ H1) (r1 : Rel K S1 ρ1 σ H1)
    (p : Post K mg W S ρ σ H (fun r S' ρ' H' => ∀ v, RRet K S' ρ' σ H' v r → RNew ρ σ H v r → Q v H') (f ρ1)) : tS K mg W f σ H1 Q :=
  ⟨S1, ρ1, r1, (Post.from p st).imp fun r S2 ρ2 H2 st2 r2 q v hv hn => q v hv (hn.back st)⟩
theorem pe_ifE {t : M Bool} {f g : M Ret} (hc : PT X c (tTe X.K mg W t)) (ha : PE X a (tS X.K mg W f)) (hb : PE X b (tS X.K mg W g)) : PE X (.IfExp c a b pos) (tS X.K mg W (mIfE t f g)) :=
  pe_imp (pe_ifExp hc ha hb) fun σ H Q ⟨S, ρ, rel, p⟩ => ⟨S, ρ, rel, Post.and p fun k S1 ρ1 H1 st1 r1 p => by
    cases k with
    | true => exact tS_from st1 r1 p
    | false => exact tS_from st1 r1 p⟩
theorem pe_notE {f : M BV} (h : PE X e (tBo X.K mg W f)) : PE X (.UnaryOp .Not e pos) (tS X.K mg W (mNotV f)) :=
  pe_imp (pe_notT h) fun σ H Q ⟨S, ρ, rel, p⟩ => by
    refine ⟨S, ρ, rel, Post.and p fun b S1 ρ1 H1 st1 r1 p v hv => ?_⟩
    cases e1 : res ρ1 b with
    | none => simp only [e1] at p; exact p.elim
    | some d =>
      simp only [e1] at p
      cases e2 : truth d with
      | none => simp only [e2] at p; exact p.elim
      | some k =>
        simp only [e2] at p
        exact ⟨k, truth_ok (hv.read r1 e1) e2, p S1 H1 st1 r1 _ (.bl _) trivial⟩
theorem pe_andE {f g : M Ret} {rest : List Expr} (ha : PE X a (tS X.K mg W f)) (hb : PE X (.BoolOp .And (b :: rest) pos) (tS X.K mg W g)) : PE X (.BoolOp .And (a :: b :: rest) pos) (tS X.K mg W (mAndV f g)) :=
  pe_imp (pe_andT ha hb) fun σ H Q ⟨S, ρ, rel, p⟩ => by
    refine ⟨S, ρ, rel, Post.and p fun r S1 ρ1 H1 st1 r1 p v hv hn => ?_⟩
    cases e2 : truth r.toD with
    | none => simp only [e2] at p; exact p.elim
    | some k =>
      refine ⟨k, truth_ok hv.read e2, ?_⟩
      cases k with
      | true => simp only [e2] at p; exact tS_from st1 r1 p
      | false => simp only [e2] at p; exact p S1 H1 st1 r1 v hv hn
theorem pe_orE {f g : M Ret} {rest : List Expr} (ha : PE X a (tS X.K mg W f)) (hb : PE X (.BoolOp .Or (b :: rest) pos) (tS X.K mg W g)) : PE X (.BoolOp .Or (a :: b :: rest) pos) (tS X.K mg W (mOrV f g)) :=
  pe_imp (pe_orT ha hb) fun σ H Q ⟨S, ρ, rel, p⟩ => by
    refine ⟨S, ρ, rel, Post.and p fun r S1 ρ1 H1 st1 r1 p v hv hn => ?_⟩
    cases e2 : truth r.toD with
    | none => simp only [e2] at p; exact p.elim
    | some k =>
      refine ⟨k, truth_ok hv.read e2, ?_⟩
      cases k with
      | false => simp only [e2] at p; exact tS_from st1 r1 p
      | true => simp only [e2] at p; exact p S1 H1 st1 r1 v hv hn
/-- a comparison of two, to a bool -/
def rCmp (K : PySem.W.Frag) (op : D → D → Option Bool) : R2 := fun x y H Q => ∃ S d e k, Live S H ∧ RR K H S x d ∧ RR K H S y e ∧ op d e = some k ∧ Q (.bl k) H
def cmpRet (op : D → D → Option Bool) (d e : D) : Option Ret := match op d e with
  | some k => some (.val (.bool k))
  | none => none
theorem rCmp.op2 {f : Value → Value → Sem Value} {op : D → D → Option Bool} (h : OpR X f (rCmp X.K op)) : OpR X f (rOp2 X.K (cmpRet op)) := by
  intro pins s σ H x y v u Q I rx ry hh
  obtain ⟨S, d, e, r, lv, h1, h2, h3, q⟩ := hh
  unfold cmpRet at h3
  cases e1 : op d e with
  | none => simp only [e1] at h3; cases h3
  | some k =>
    simp only [e1] at h3
    cases h3
    exact h pins s σ H x y v u Q I rx ry ⟨S, d, e, k, lv, h1, h2, e1, q _ H ⟨S, .refl, .bl k⟩⟩
theorem chain_fwd {K : PySem.W.Frag} {op op' : D → D → Option Bool} {f g h : M BV} {S : AS} {ρ : Rho} {σ : L2.St} {H : Hp} {Q : VK} (rel : Rel K S ρ σ H)
    (p : Post K mg W S ρ σ H (fun r S' ρ' H' => ∀ v, RRet K S' ρ' σ H' v r → RNew ρ σ H v r → Q v H') (mChain op op' f g h ρ)) : tChain (rCmp K op) (rCmp K op') (tBo K mg W f) (tBo K mg W g) (tBo K mg W h) σ H Q := by
  refine ⟨S, ρ, rel, Post.and p fun ba S1 ρ1 H1 st1 r1 p v hv => ?_⟩
  refine ⟨S1, ρ1, r1, Post.and (Post.from p st1) fun bb S2 ρ2 H2 st2 r2 p u hu => ?_⟩
  cases e1 : res ρ2 ba with
  | none => simp only [e1] at p; exact p.elim
  | some d =>
    cases e2 : res ρ2 bb with
    | none => simp only [e1, e2] at p; exact p.elim
    | some d2 =>
      simp only [e1, e2] at p
      cases e3 : op d d2 with
      | none => simp only [e3] at p; exact p.elim
      | some k =>
        simp only [e3] at p
        refine ⟨S2, d, d2, k, r2.live, (hv.step st2).read r2 e1, hu.read r2 e2, e3, k, rfl, ?_⟩
        cases k with
        | false => exact p S2 H2 st2 r2 _ (.bl _) trivial
        | true =>
          refine ⟨S2, ρ2, r2, Post.and (Post.from p st2) fun bc S3 ρ3 H3 st3 r3 p w hw => ?_⟩
          cases e4 : res ρ3 bb with
          | none => simp only [e4] at p; exact p.elim
          | some d3 =>
            cases e5 : res ρ3 bc with
            | none => simp only [e4, e5] at p; exact p.elim
            | some d4 =>
              simp only [e4, e5] at p
              cases e6 : op' d3 d4 with
              | none => simp only [e6] at p; exact p.elim
              | some k =>
                simp only [e6] at p
                exact ⟨S3, d3, d4, k, r3.live, (hu.step st3).read r3 e4, hw.read r3 e5, e6, p S3 H3 st3 r3 _ (.bl _) trivial⟩
theorem pe_chainE {o o' : CmpOp} {op op' : D → D → Option Bool} {f g h : M BV} (ha : PE X a (tBo X.K mg W f)) (hb : PE X b (tBo X.K mg W g)) (hc : PE X c (tBo X.K mg W h))
    (hx : ∀ (ta tb tc : TE), PE X a ta → PE X b tb → PE X c tc → PE X (.Compare a [o, o'] [b, c] pos) (tChain (rCmp X.K op) (rCmp X.K op') ta tb tc)) : PE X (.Compare a [o, o'] [b, c] pos) (tS X.K mg W (mChain op op' f g h)) :=
  pe_imp (hx _ _ _ ha hb hc) fun _ _ _ ⟨_, _, rel, p⟩ => chain_fwd rel p
end
end Ev
set_option maxHeartbeats 4000000
namespace Ev
open PySem PySem.Spec PyProof.Rows L2
theorem tuple_mul1 (l : Addr) (items : Array Value) (n : Nat) (dd : Option Addr) (sl : Array (Option Value)) (x : Int) (u : Tok) (c0 : (decide (x < -(2 ^ 63)) || decide (x ≥ 2 ^ 63)) = false) (c1 : (items.isEmpty || x == 1) = true) :
    Meets (Builtin.«tuple.__mul__» ⟨[.ref l, .int x u], []⟩) (fun _ R s => s.heap.get? l = some { cls := .type "tuple", dict := dd, data := .seq items n, slots := sl } ∧
      R (.ok (.ret (Value.ref l))) s) :=
  .of_wp fun prog w A R s h => by
    obtain ⟨hp, g, d, tk, os⟩ := s
    obtain ⟨hl, h⟩ := h
    have f1 := AutoSeq1.idx_int
    wp_walk using wpAny_loadPart' hl
    repeat (first
      | (refine wpAny_ite_false (decide_eq_false (by rw [c0]; exact Bool.false_ne_true)) ?_; wp_walk using wpAny_loadPart' hl)
      | (refine wpAny_ite_true (decide_eq_true (by rw [c1])) ?_; wp_walk using wpAny_loadPart' hl))
    exact ⟨_, rfl, h⟩
theorem tuple_mul0 (l : Addr) (items : Array Value) (n : Nat) (dd : Option Addr) (sl : Array (Option Value)) (x : Int) (u : Tok) (c0 : (decide (x < -(2 ^ 63)) || decide (x ≥ 2 ^ 63)) = false) (c1 : (items.isEmpty || x == 1) = false) (c2 : (decide (x ≤ 0) || items.isEmpty) = true) :
    Meets (Builtin.«tuple.__mul__» ⟨[.ref l, .int x u], []⟩) (fun _ R s => s.heap.get? l = some { cls := .type "tuple", dict := dd, data := .seq items n, slots := sl } ∧
      R (.ok (.ret (Value.ref s.heap.objs.size))) { s with heap := s.heap.push { cls := Value.type "tuple", data := Data.seq #[] }, toks := s.toks }) :=
  .of_wp fun prog w A R s h => by
    obtain ⟨hp, g, d, tk, os⟩ := s
    obtain ⟨hl, h⟩ := h
    have f1 := AutoSeq1.idx_int
    wp_walk using wpAny_loadPart' hl
    repeat (first
      | (refine wpAny_ite_false (decide_eq_false (by rw [c0]; exact Bool.false_ne_true)) ?_; wp_walk using wpAny_loadPart' hl)
      | (refine wpAny_ite_false (decide_eq_false (by rw [c1]; exact Bool.false_ne_true)) ?_; wp_walk using wpAny_loadPart' hl)
      | (refine wpAny_ite_true (decide_eq_true (by rw [c2])) ?_; wp_walk using wpAny_loadPart' hl))
    exact ⟨_, rfl, h⟩
def rRepA (K : PySem.W.Frag) : R2 := fun x y H Q => ∃ l k xs, x = .ref l ∧ y = .int k ∧ SqT K H l xs ∧ k.natAbs < 2 ^ 62 ∧ k.toNat ≤ 1000 ∧ xs.length ≤ 1000 ∧ ((xs = [] ∨ k = 1) → Q x H) ∧ (xs ≠ [] → k ≠ 1 → ∀ p, H p = none → Q (.ref p) (upd H p (.tup (List.replicate k.toNat xs).flatten)))
theorem op_repA {X : Cx} : OpR X (binaryOp .Mult) (rRepA X.K) := by
  intro pins s σ H x y v u Q I rx ry h
  obtain ⟨l, k, xs, rfl, rfl, hT, h1, h2, hz, q1, q2⟩ := h
  by_cases hk : xs ≠ [] ∧ 2 ≤ k
  · exact op_repT pins s σ H _ _ v u Q I rx ry ⟨l, k, xs, rfl, rfl, hT, hk.1, hk.2, by omega, hz, q2 hk.1 (by omega)⟩
  cases rx
  obtain ⟨t, rfl⟩ := ry
  obtain ⟨its, r, ⟨⟨cls, dd, data, sl⟩, ho, hc, n, hd⟩, hs⟩ := I.tuple hT
  simp only at hc hd
  subst hc hd
  have hle : its.length = xs.length := r.length.symm
  have c0 : (decide (k < -(2 ^ 63)) || decide (k ≥ 2 ^ 63)) = false := by
    rw [decide_eq_false (by omega), decide_eq_false (by omega)] <;> rfl
  by_cases hn : xs = [] ∨ k = 1
  · have c1 : (its.toArray.isEmpty || k == 1) = true := by
      rcases hn with e | e
      · rw [e] at hle
        rw [List.eq_nil_of_length_eq_zero hle]
        rfl
      · rw [e]; simp
    exact wpAny_binaryOp_repeat_ref (T := "tuple") (U := "int") (by decide) ⟨_, ho, rfl⟩ (fun s' => typeIs_int s' k t) noFill_tuple_mul F.fills_int_mul F.slot_int_rmul repeat_tuple F.slot_int_index.lookup
      (call_meets F.slot_int_rmul (typeIs_int s k t) F.entry_int_rmul (F.args_int_rmul_2 _ _) (int_rmul_tuple k t l its.toArray n dd sl)
        ⟨ho, rfl, ⟨_, ho, rfl⟩, call_meets F.slot_tuple_mul ⟨_, ho, rfl⟩ F.entry_tuple_mul (F.args_tuple_mul_2 _ _) (tuple_mul1 l its.toArray n dd sl k t c0 c1) ⟨ho, ⟨.ref l, H, I, rfl, q1 hn⟩⟩⟩)
  · have hx : xs ≠ [] := fun e => hn (.inl e)
    have k1 : k ≠ 1 := fun e => hn (.inr e)
    have k0 : k ≤ 0 := by
      by_cases z : 2 ≤ k
      · exact absurd ⟨hx, z⟩ hk
      · omega
    have hi : its.toArray.isEmpty = false := by
      cases its with
      | nil => exact absurd (List.eq_nil_of_length_eq_zero hle.symm) hx
      | cons a b => rfl
    have c1 : (its.toArray.isEmpty || k == 1) = false := by
      rw [hi, Bool.false_or]
      exact beq_eq_false_iff_ne.mpr k1
    have c2 : (decide (k ≤ 0) || its.toArray.isEmpty) = true := by
      rw [decide_eq_true k0] <;> rfl
    have e0 : k.toNat = 0 := by omega
    have q2 := q2 hx k1
    rw [e0] at q2
    refine wpAny_binaryOp_repeat_ref (T := "tuple") (U := "int") (by decide) ⟨_, ho, rfl⟩ (fun s' => typeIs_int s' k t) noFill_tuple_mul F.fills_int_mul F.slot_int_rmul repeat_tuple F.slot_int_index.lookup
      (call_meets F.slot_int_rmul (typeIs_int s k t) F.entry_int_rmul (F.args_int_rmul_2 _ _) (int_rmul_tuple k t l its.toArray n dd sl)
        ⟨ho, rfl, ⟨_, ho, rfl⟩, call_meets F.slot_tuple_mul ⟨_, ho, rfl⟩ F.entry_tuple_mul (F.args_tuple_mul_2 _ _) (tuple_mul0 l its.toArray n dd sl k t c0 c1 c2) ⟨ho, ?_⟩⟩)
    refine ⟨.ref s.heap.objs.size, _, I.laid (t' := s.toks) (o := .tup []) (fun b ob q => Heap.get?_push_of_some _ q) (Nat.le_refl _) ?_, rfl, q2 _ (I.hok.fresh (Nat.le_refl _))⟩
    exact ⟨by rw [sizeLine_eq]; decide, [], .nil, IsTup.new _ _⟩
end Ev
namespace Ev
open PySem PySem.Spec PyProof.Rows L2
variable [Gh]
/-! ### what the operators give -/
def mulOk (i j : Int) : Bool := decide (j.natAbs < 2 ^ 63) || decide (i.natAbs < 2 ^ 63) || decide (i.natAbs.log2 + j.natAbs.log2 < 1000000)
def opAdd : D → D → Option Ret
  | .int i, .int j => some (.val (.int (i + j)))
  | .tuple xs, .tuple ys => if xs.length + ys.length ≤ 16777216 then some (.val (.tuple (xs ++ ys))) else none
  | .list xs, .list ys => if xs.length + ys.length ≤ 16777216 then some (.fl (xs ++ ys)) else none
  | .str x, .str y => if x.length + y.length ≤ 16777216 then some (.val (.str (x ++ y))) else none
  | _, _ => none
def opSub : D → D → Option Ret
  | .int i, .int j => some (.val (.int (i - j)))
  | _, _ => none
def opMul : D → D → Option Ret
  | .int i, .int j => if mulOk i j = true then some (.val (.int (i * j))) else none
  | .list xs, .int k => if k.natAbs < 2 ^ 62 ∧ xs.length * k.toNat ≤ 16777216 then some (.fl (List.replicate k.toNat xs).flatten) else none
  | .tuple xs, .int k => if k.natAbs < 2 ^ 62 ∧ k.toNat ≤ 1000 ∧ xs.length ≤ 1000 then some (.val (.tuple (List.replicate k.toNat xs).flatten)) else none
  | _, _ => none
def opDiv : D → D → Option Ret
  | .int i, .int j => if 0 < j ∧ j.natAbs.log2 < 9000 then some (.val (.int (i / j))) else none
  | _, _ => none
def opMod : D → D → Option Ret
  | .int i, .int j => if 0 < j then some (.val (.int (i % j))) else none
  | _, _ => none
def opPow : D → D → Option Ret
  | .int i, .int j => if 0 ≤ j ∧ ((i.natAbs.log2 : Int) + 1) * j ≤ 2 ^ 27 then some (.val (.int (i ^ j.toNat))) else none
  | _, _ => none
def opNeg : D → Option Ret
  | .int i => some (.val (.int (-i)))
  | _ => none
def depthLe (d e : D) : Bool := decide (min d.depth e.depth ≤ 60)
def cEq (d e : D) : Option Bool := if d.plain = true ∧ e.plain = true ∧ depthLe d e = true then some (PyData.eqv d e) else none
def cNe (d e : D) : Option Bool := if d.plain = true ∧ e.plain = true ∧ depthLe d e = true then some (!PyData.eqv d e) else none
def cmpOk (d e : D) : Bool := PySem.W.alike d e && depthLe d e && (match d with | .none => false | _ => true) && d.plain && e.plain
def cLt (d e : D) : Option Bool := match d, e with
  | .int i, .int j => some (decide (i < j))
  | _, _ => if cmpOk d e = true then some (PySem.W.dataLt d e) else none
def cGt (d e : D) : Option Bool := match d, e with
  | .int i, .int j => some (decide (j < i))
  | _, _ => if cmpOk d e = true then some (PySem.W.dataLt e d) else none
def cLe (d e : D) : Option Bool := match d, e with
  | .int i, .int j => some (decide (i ≤ j))
  | _, _ => if cmpOk d e = true then some (!PySem.W.dataLt e d) else none
def cGe (d e : D) : Option Bool := match d, e with
  | .int i, .int j => some (decide (j ≤ i))
  | _, _ => if cmpOk d e = true then some (!PySem.W.dataLt d e) else none
def inOk (x : D) (ds : List D) : Bool := x.plain && PyData.plainAll ds && decide (min (PyData.depthAll ds) x.depth ≤ 60)
def hasKey (kvs : List (D × D)) (k : Key) : Bool := kvs.any fun p => decide (keyOf p.1 = some k)
def cIn (x c : D) : Option Bool := match c with
  | .list ds => if inOk x ds = true then some (ds.any fun y => PyData.eqv y x) else none
  | .tuple ds => if inOk x ds = true then some (ds.any fun y => PyData.eqv y x) else none
  | .dict kvs => match keyOf x with
    | some k => some (hasKey kvs k)
    | none => none
  | _ => none
def cNotIn (x c : D) : Option Bool := match cIn x c with
  | some k => some (!k)
  | none => none
def cIsNone (x c : D) : Option Bool := match c, x with
  | .none, .none => some true
  | .none, _ => some false
  | _, _ => none
def cNotNone (x c : D) : Option Bool := match cIsNone x c with
  | some k => some (!k)
  | none => none
section
variable {K : PySem.W.Frag} {H H' : Hp} {S S' : AS}
section
variable {X : Cx} {pins : List (Addr × Obj)} {σ : L2.St} {s : Shared}
mutual
theorem R.reads (I : Inv X pins σ H s) : ∀ (d : D) (v : V) (u : Value), R X.K H S v d → RelV v u → d.plain = true → ∃ as, Reads s.heap u d as
  | .none, _, _, h, r, _ => by cases h; cases r; exact ⟨_, Reads.none⟩
  | .bool b, _, _, h, r, _ => by cases h; cases r; exact ⟨_, Reads.bool b⟩
  | .int i, _, _, h, r, _ => by cases h; obtain ⟨t, rfl⟩ := r; exact ⟨_, Reads.int i t⟩
  | .str x, _, _, h, r, _ => by cases h; obtain ⟨t, rfl⟩ := r; exact ⟨_, Reads.str x t⟩
  | .list ds, _, _, h, r, p => by
    cases h with
    | lst hs hm ha =>
      cases r
      obtain ⟨its, rv, ⟨o, n, ho, hc, _, hd⟩, _⟩ := I.list (.inl (.inl hs))
      obtain ⟨as, hr⟩ := RAll.reads I ds _ its ha rv (by simpa [PyData.plain] using p)
      exact ⟨_, Reads.list ho hc hd hr⟩
  | .tuple ds, _, _, h, r, p => by
    cases h with
    | tup hs hm ha =>
      cases r
      obtain ⟨its, rv, ⟨o, ho, hc, n, hd⟩, _⟩ := I.tuple hs
      obtain ⟨as, hr⟩ := RAll.reads I ds _ its ha rv (by simpa [PyData.plain] using p)
      exact ⟨_, Reads.tuple ho hc hd hr⟩
  | .dict _, _, _, h, _, p => by simp [PyData.plain] at p
theorem RAll.reads (I : Inv X pins σ H s) : ∀ (ds : List D) (vs : List V) (us : List Value), RAll X.K H S vs ds → Vals vs us → PyData.plainAll ds = true → ∃ as, ReadsAll s.heap us ds as
  | [], _, _, h, r, _ => by cases h; cases r; exact ⟨_, ReadsAll.nil⟩
  | d :: ds, _, _, h, r, p => by
    cases h with
    | cons h1 h2 =>
      cases r with
      | cons r1 r2 =>
        simp only [PyData.plainAll, Bool.and_eq_true] at p
        obtain ⟨as, q1⟩ := R.reads I d _ _ h1 r1 p.1
        obtain ⟨bs, q2⟩ := RAll.reads I ds _ _ h2 r2 p.2
        exact ⟨_, ReadsAll.cons q1 q2⟩
end
theorem RR.reads (I : Inv X pins σ H s) {d : D} {v : V} {u : Value} (h : RR X.K H S v d) (r : RelV v u) (p : d.plain = true) : ∃ as, Reads s.heap u d as := by
  cases h with
  | of h => exact h.reads I d v u r p
  | lst h a =>
    cases r
    obtain ⟨its, rv, ⟨o, n, ho, hc, _, hd⟩, _⟩ := I.list (.inl (.inl h))
    obtain ⟨as, hr⟩ := a.reads I _ _ its rv (by simpa [PyData.plain] using p)
    exact ⟨_, Reads.list ho hc hd hr⟩
  | dic h a => simp [PyData.plain] at p
end
theorem not_live (l : Live S H) {p : Addr} (hp : H p = none) : ¬ S p := fun h => by
  obtain ⟨o, e⟩ := l p h
  rw [hp] at e
  cases e
theorem PPost.flat {v : V} {d : D} (h : R K H S v d) : PPost K S H v H (.val d) := ⟨S, .refl, h⟩
theorem PPost.tup {p : Addr} {vs : List V} {ds : List D} (hp : H p = none) (l : Live S H) (h : RAll K H S vs ds) : PPost K S H (.ref p) (upd H p (.tup vs)) (.val (.tuple ds)) :=
  ⟨_, Ext.one hp, .tup (.inl (.inl upd_same)) (.inl (.inr rfl)) (h.stay ((Ext.one hp).stay l))⟩
theorem PPost.lst {p : Addr} {vs : List V} {ds : List D} (hp : H p = none) (l : Live S H) (h : RAll K H S vs ds) : PPost K S H (.ref p) (upd H p (.lst vs)) (.fl ds) :=
  ⟨S, p, vs, Ext.lay hp, rfl, hp, upd_same, not_live l hp, h.stay ((Ext.lay hp).stay l)⟩
end
section
variable {X : Cx}
theorem or_sub : OpR X (binaryOp .Sub) (rOp2 X.K opSub) := by
  intro pins s σ H x y v u Q I rx ry ⟨S, d, e, r, lv, h1, h2, h3, q⟩
  unfold opSub at h3
  split at h3
  · cases h1.int; cases h2.int; cases h3
    exact op_sub pins s σ H _ _ v u Q I rx ry ⟨_, _, rfl, rfl, q _ H (.flat (.int _))⟩
  · cases h3
theorem or_mod : OpR X (binaryOp .Mod) (rOp2 X.K opMod) := by
  intro pins s σ H x y v u Q I rx ry ⟨S, d, e, r, lv, h1, h2, h3, q⟩
  unfold opMod at h3
  split at h3
  · split at h3
    · rename_i hj
      cases h1.int; cases h2.int; cases h3
      exact op_mod pins s σ H _ _ v u Q I rx ry ⟨_, _, rfl, rfl, hj, q _ H (.flat (.int _))⟩
    · cases h3
  · cases h3
theorem or_div : OpR X (binaryOp .FloorDiv) (rOp2 X.K opDiv) := by
  intro pins s σ H x y v u Q I rx ry ⟨S, d, e, r, lv, h1, h2, h3, q⟩
  unfold opDiv at h3
  split at h3
  · split at h3
    · rename_i hj
      cases h1.int; cases h2.int; cases h3
      exact op_fdivW pins s σ H _ _ v u Q I rx ry ⟨_, _, rfl, rfl, hj, q _ H (.flat (.int _))⟩
    · cases h3
  · cases h3
theorem bits_le (i : Int) : Builtin.Int.intBits i ≤ i.natAbs.log2 + 1 := by
  unfold Builtin.Int.intBits
  split <;> omega
theorem or_pow : OpR X (binaryOp .Pow) (rOp2 X.K opPow) := by
  intro pins s σ H x y v u Q I rx ry ⟨S, d, e, r, lv, h1, h2, h3, q⟩
  unfold opPow at h3
  split at h3
  · rename_i i j
    split at h3
    · rename_i hj
      cases h1.int; cases h2.int; cases h3
      obtain ⟨t, rfl⟩ := rx
      obtain ⟨t', rfl⟩ := ry
      refine pow_int hj.1 (Int.le_trans (Int.mul_le_mul_of_nonneg_right ?_ hj.1) hj.2) ⟨.int _, H, I.tok _, ⟨_, rfl⟩, q _ H (.flat (.int _))⟩
      have := bits_le i
      omega
    · cases h3
  · cases h3
theorem log2_63 {n : Nat} (h : n < 2 ^ 63) : n.log2 < 63 := by
  by_cases h0 : n = 0
  · subst h0; decide
  · exact (Nat.log2_lt h0).mpr h
theorem mulOk_ok {i j : Int} (h : mulOk i j = true) : IntMulOk i j := by
  unfold mulOk at h
  simp only [Bool.or_eq_true, decide_eq_true_eq] at h
  rcases h with (h | h) | h
  · have h1 := log2_63 h
    have h2 := bits_le j
    exact .of_right (by omega)
  · have h1 := log2_63 h
    have h2 := bits_le i
    exact .of_left (by omega)
  · exact CMulW.ok h
theorem or_mul : OpR X (binaryOp .Mult) (rOp2 X.K opMul) := by
  intro pins s σ H x y v u Q I rx ry ⟨S, d, e, r, lv, h1, h2, h3, q⟩
  unfold opMul at h3
  split at h3
  · split at h3
    · rename_i hj
      cases h1.int; cases h2.int; cases h3
      obtain ⟨t, rfl⟩ := rx
      obtain ⟨t', rfl⟩ := ry
      exact mul_int ⟨.int _, H, I.tok _, ⟨_, rfl⟩, q _ H (.flat (.int _))⟩ (mulOk_ok hj)
    · cases h3
  · split at h3
    · rename_i hj
      cases h2.int; cases h3
      obtain ⟨a, vs, rfl, hs, ha⟩ := h1.list
      exact op_rep pins s σ H _ _ v u Q I rx ry ⟨_, _, _, rfl, rfl, hs, by omega, by omega, by rw [ha.length, line_eq]; exact hj.2, fun p hp => q _ _ (.lst hp lv (ha.flat _))⟩
    · cases h3
  · split at h3
    · rename_i xs k hj
      cases h2.int; cases h3
      cases h1 with
      | of h1 =>
      cases h1 with
      | tup hs hm ha =>
      refine op_repA pins s σ H _ _ v u Q I rx ry ⟨_, _, _, rfl, rfl, hs, hj.1, hj.2.1, by rw [ha.length]; exact hj.2.2, fun e => ?_, fun _ _ p hp => q _ _ (.tup hp lv (ha.flat _))⟩
      have e2 : (List.replicate k.toNat xs).flatten = xs := by
        rcases e with e | e
        · subst e
          cases ha
          simp
        · rw [e]; simp
      rw [e2] at q
      exact q _ H (.flat (.tup hs hm ha))
    · cases h3
  · cases h3
theorem or_add : OpR X (binaryOp .Add) (rOp2 X.K opAdd) := by
  intro pins s σ H x y v u Q I rx ry ⟨S, d, e, r, lv, h1, h2, h3, q⟩
  unfold opAdd at h3
  split at h3
  · cases h1.int; cases h2.int; cases h3
    exact op_add pins s σ H _ _ v u Q I rx ry ⟨_, _, rfl, rfl, q _ H (.flat (.int _))⟩
  · rename_i xs ys
    split at h3
    · rename_i hl
      cases h3
      cases h1 with
      | of h1 =>
        cases h2 with
        | of h2 =>
          cases h1 with
          | tup hs hm ha =>
            cases h2 with
            | tup hs2 hm2 ha2 =>
              refine op_catA pins s σ H _ _ v u Q I rx ry ⟨_, _, _, _, rfl, rfl, hs, hs2, by rw [ha.length, ha2.length, line_eq]; exact hl, fun e => ?_, fun _ e => ?_, fun _ _ p hp => q _ _ (.tup hp lv (ha.append ha2))⟩
              · subst e
                cases ha
                exact q _ H (.flat (.tup hs2 hm2 ha2))
              · subst e
                cases ha2
                rw [List.append_nil] at q
                exact q _ H (.flat (.tup hs hm ha))
    · cases h3
  · split at h3
    · rename_i hl
      cases h3
      obtain ⟨a, vs, rfl, hs, ha⟩ := h1.list
      obtain ⟨b, ws, rfl, hs2, ha2⟩ := h2.list
      exact op_cat pins s σ H _ _ v u Q I rx ry ⟨_, _, _, _, rfl, rfl, hs, hs2, by rw [ha.length, ha2.length, line_eq]; exact hl, fun p hp => q _ _ (.lst hp lv (ha.append ha2))⟩
    · cases h3
  · split at h3
    · rename_i hl
      cases h3
      cases h1.str; cases h2.str
      exact op_add_str pins s σ H _ _ v u Q I rx ry ⟨_, _, rfl, rfl, by rw [line_eq]; exact hl, q _ H (.flat (.str _))⟩
    · cases h3
  · cases h3
theorem or_neg : UnR X (unaryOp .USub) (rOp1 X.K opNeg) := by
  intro pins s σ H x v Q I rx ⟨S, d, r, lv, h1, h3, q⟩
  unfold opNeg at h3
  split at h3
  · cases h1.int; cases h3
    exact un_neg pins s σ H _ v Q I rx ⟨_, rfl, q _ H (.flat (.int _))⟩
  · cases h3
theorem min_room {A : Around} {d e : D} (hu : A.units + 64 < cLine) (h : depthLe d e = true) : A.units + min d.depth e.depth < cLine := by
  have := of_decide_eq_true h
  omega
theorem oc_eq (hu : X.A.units + 64 < cLine) : OpR X (compareOp .Eq) (rCmp X.K cEq) := by
  intro pins s σ H x y v u Q I rx ry ⟨S, d, e, k, lv, h1, h2, h3, q⟩
  unfold cEq at h3
  split at h3
  · rename_i hp
    cases h3
    obtain ⟨as, ra⟩ := h1.reads I rx hp.1
    obtain ⟨bs, rb⟩ := h2.reads I ry hp.2.1
    exact PySem.SeqAt.eq_plain ra rb hp.1 hp.2.1 (min_room hu hp.2.2) ⟨.bl _, H, I, rfl, q⟩
  · cases h3
theorem oc_ne (hu : X.A.units + 64 < cLine) : OpR X (compareOp .NotEq) (rCmp X.K cNe) := by
  intro pins s σ H x y v u Q I rx ry ⟨S, d, e, k, lv, h1, h2, h3, q⟩
  unfold cNe at h3
  split at h3
  · rename_i hp
    cases h3
    obtain ⟨as, ra⟩ := h1.reads I rx hp.1
    obtain ⟨bs, rb⟩ := h2.reads I ry hp.2.1
    exact PySem.SeqAt.ne_plain ra rb hp.1 hp.2.1 (min_room hu hp.2.2) ⟨.bl _, H, I, rfl, q⟩
  · cases h3
theorem cmpOk_ok {d e : D} (h : cmpOk d e = true) : PySem.W.alike d e = true ∧ depthLe d e = true ∧ d ≠ .none ∧ d.plain = true ∧ e.plain = true := by
  unfold cmpOk at h
  simp only [Bool.and_eq_true] at h
  obtain ⟨⟨⟨⟨h1, h2⟩, h3⟩, h4⟩, h5⟩ := h
  exact ⟨h1, h2, fun e => by subst e; exact Bool.false_ne_true h3, h4, h5⟩
theorem oc_lt (hu : X.A.units + 64 < cLine) : OpR X (compareOp .Lt) (rCmp X.K cLt) := by
  intro pins s σ H x y v u Q I rx ry ⟨S, d, e, k, lv, h1, h2, h3, q⟩
  unfold cLt at h3
  split at h3
  · cases h1.int; cases h2.int; cases h3
    exact op_lt pins s σ H _ _ v u Q I rx ry ⟨_, _, rfl, rfl, q⟩
  · split at h3
    · rename_i hp
      cases h3
      obtain ⟨p1, p2, p3, p4, p5⟩ := cmpOk_ok hp
      obtain ⟨as, ra⟩ := h1.reads I rx p4
      obtain ⟨bs, rb⟩ := h2.reads I ry p5
      exact PySem.W.lt_data ra rb p1 p3 (min_room hu p2) ⟨.bl _, H, I, rfl, q⟩
    · cases h3
theorem oc_gt (hu : X.A.units + 64 < cLine) : OpR X (compareOp .Gt) (rCmp X.K cGt) := by
  intro pins s σ H x y v u Q I rx ry ⟨S, d, e, k, lv, h1, h2, h3, q⟩
  unfold cGt at h3
  split at h3
  · cases h1.int; cases h2.int; cases h3
    exact op_gt pins s σ H _ _ v u Q I rx ry ⟨_, _, rfl, rfl, q⟩
  · split at h3
    · rename_i hp
      cases h3
      obtain ⟨p1, p2, p3, p4, p5⟩ := cmpOk_ok hp
      obtain ⟨as, ra⟩ := h1.reads I rx p4
      obtain ⟨bs, rb⟩ := h2.reads I ry p5
      exact PySem.W.gt_data ra rb p1 p3 (min_room hu p2) ⟨.bl _, H, I, rfl, q⟩
    · cases h3
theorem oc_le (hu : X.A.units + 64 < cLine) : OpR X (compareOp .LtE) (rCmp X.K cLe) := by
  intro pins s σ H x y v u Q I rx ry ⟨S, d, e, k, lv, h1, h2, h3, q⟩
  unfold cLe at h3
  split at h3
  · cases h1.int; cases h2.int; cases h3
    exact op_le pins s σ H _ _ v u Q I rx ry ⟨_, _, rfl, rfl, q⟩
  · split at h3
    · rename_i hp
      cases h3
      obtain ⟨p1, p2, p3, p4, p5⟩ := cmpOk_ok hp
      obtain ⟨as, ra⟩ := h1.reads I rx p4
      obtain ⟨bs, rb⟩ := h2.reads I ry p5
      exact PySem.W.le_data ra rb p1 p3 (min_room hu p2) ⟨.bl _, H, I, rfl, q⟩
    · cases h3
theorem oc_ge (hu : X.A.units + 64 < cLine) : OpR X (compareOp .GtE) (rCmp X.K cGe) := by
  intro pins s σ H x y v u Q I rx ry ⟨S, d, e, k, lv, h1, h2, h3, q⟩
  unfold cGe at h3
  split at h3
  · cases h1.int; cases h2.int; cases h3
    exact op_ge pins s σ H _ _ v u Q I rx ry ⟨_, _, rfl, rfl, q⟩
  · split at h3
    · rename_i hp
      cases h3
      obtain ⟨p1, p2, p3, p4, p5⟩ := cmpOk_ok hp
      obtain ⟨as, ra⟩ := h1.reads I rx p4
      obtain ⟨bs, rb⟩ := h2.reads I ry p5
      exact PySem.W.ge_data ra rb p1 p3 (min_room hu p2) ⟨.bl _, H, I, rfl, q⟩
    · cases h3
theorem cIsNone_ok {K : PySem.W.Frag} {S : AS} {H : Hp} {x c : D} {v u : V} {k : Bool} (h1 : RR K H S v x) (h2 : RR K H S u c) (h3 : cIsNone x c = some k) : u = .non ∧ k = decide (v = .non) := by
  have hc : c = .none := by
    cases c with
    | none => rfl
    | _ => cases x <;> cases h3
  subst hc
  refine ⟨h2.none, ?_⟩
  cases x with
  | none => cases h3; cases h1.none; rfl
  | bool b => cases h3; cases h1.bool; rfl
  | int b => cases h3; cases h1.int; rfl
  | str b => cases h3; cases h1.str; rfl
  | list b => cases h3; obtain ⟨a, vs, rfl, _⟩ := h1.list; rfl
  | tuple b => cases h3; obtain ⟨a, vs, rfl, _⟩ := h1.tuple; rfl
  | dict b => cases h3; obtain ⟨a, vs, rfl, _⟩ := h1.dict; rfl
theorem oc_is : OpR X (compareOp .Is) (rCmp X.K cIsNone) := by
  intro pins s σ H x y v u Q I rx ry ⟨S, d, e, k, lv, h1, h2, h3, q⟩
  obtain ⟨rfl, rfl⟩ := cIsNone_ok h1 h2 h3
  exact op_isN pins s σ H _ _ v u Q I rx ry ⟨rfl, q⟩
theorem oc_isnot : OpR X (compareOp .IsNot) (rCmp X.K cNotNone) := by
  intro pins s σ H x y v u Q I rx ry ⟨S, d, e, k, lv, h1, h2, h3, q⟩
  unfold cNotNone at h3
  cases e3 : cIsNone d e with
  | none => rw [e3] at h3; cases h3
  | some k' =>
    rw [e3] at h3
    cases h3
    obtain ⟨rfl, rfl⟩ := cIsNone_ok h1 h2 e3
    exact op_notN pins s σ H _ _ v u Q I rx ry ⟨rfl, q⟩
theorem in_room {A : Around} {x : D} {ds : List D} (hu : A.units + 64 < cLine) (h : inOk x ds = true) : x.plain = true ∧ PyData.plainAll ds = true ∧ A.units + 1 + min (PyData.depthAll ds) x.depth < cLine := by
  unfold inOk at h
  simp only [Bool.and_eq_true, decide_eq_true_eq] at h
  exact ⟨h.1.1, h.1.2, by omega⟩
theorem keyOf_V {K : PySem.W.Frag} {S : AS} {H : Hp} {x : D} {v : V} {k : Key} (h : RR K H S v x) (e : keyOf x = some k) : v = kV k := by
  cases x <;> cases e
  · exact h.int
  · exact h.str
theorem hasKey_valV {K : PySem.W.Frag} {S : AS} {H : Hp} {k : Key} : ∀ {vs : List (Key × V)} {ds : List (D × D)}, RKv K H S vs ds → hasKey ds k = (valV vs k).isSome
  | _, _, .nil => rfl
  | _, _, .cons (k := k') hk _ t => by
    have ih := hasKey_valV (k := k) t
    unfold hasKey at ih ⊢
    rw [List.any_cons, ih]
    by_cases e : k' = k
    · rw [valV_pos e, hk, e]; simp
    · rw [valV_neg e, hk]
      have : ¬ (some k' = some k) := fun q => e (Option.some.inj q)
      simp [this]
theorem oc_in (hu : X.A.units + 64 < cLine) : OpR X (compareOp .In) (rCmp X.K cIn) := by
  intro pins s σ H x y v u Q I rx ry ⟨S, d, e, k, lv, h1, h2, h3, q⟩
  unfold cIn at h3
  split at h3
  · rename_i ds
    split at h3
    · rename_i hp
      cases h3
      obtain ⟨p1, p2, p3⟩ := in_room hu hp
      obtain ⟨as, ra⟩ := h1.reads I rx p1
      obtain ⟨bs, rb⟩ := h2.reads I ry (show PyData.plain (.list ds) = true by simpa [PyData.plain] using p2)
      exact PySem.SeqAt.in_list_data rb ra p2 p1 p3 ⟨.bl _, H, I, rfl, q⟩
    · cases h3
  · rename_i ds
    split at h3
    · rename_i hp
      cases h3
      obtain ⟨p1, p2, p3⟩ := in_room hu hp
      obtain ⟨as, ra⟩ := h1.reads I rx p1
      obtain ⟨bs, rb⟩ := h2.reads I ry (show PyData.plain (.tuple ds) = true by simpa [PyData.plain] using p2)
      exact PySem.SeqAt.in_tuple_data rb ra p2 p1 p3 ⟨.bl _, H, I, rfl, q⟩
    · cases h3
  · rename_i kvs
    cases ek : keyOf d with
    | none => rw [ek] at h3; cases h3
    | some key =>
      rw [ek] at h3
      cases h3
      cases keyOf_V h1 ek
      obtain ⟨a, vs, rfl, hs, ha⟩ := h2.dict
      cases ry
      refine d_in (by omega) I (.inl ⟨_, _, hs, rfl, rfl⟩) rx fun s3 I3 => ⟨.bl _, H, I3, rfl, ?_⟩
      rw [← hasKey_valV ha]
      exact q
  · cases h3
theorem oc_notin (hu : X.A.units + 64 < cLine) : OpR X (compareOp .NotIn) (rCmp X.K cNotIn) := by
  intro pins s σ H x y v u Q I rx ry ⟨S, d, e, k, lv, h1, h2, h3, q⟩
  unfold cNotIn at h3
  cases e3 : cIn d e with
  | none => rw [e3] at h3; cases h3
  | some kk =>
    rw [e3] at h3
    cases h3
    unfold cIn at e3
    split at e3
    · rename_i ds
      split at e3
      · rename_i hp
        cases e3
        obtain ⟨p1, p2, p3⟩ := in_room hu hp
        obtain ⟨as, ra⟩ := h1.reads I rx p1
        obtain ⟨bs, rb⟩ := h2.reads I ry (show PyData.plain (.list ds) = true by simpa [PyData.plain] using p2)
        exact PySem.SeqAt.notIn_list_data rb ra p2 p1 p3 ⟨.bl _, H, I, rfl, q⟩
      · cases e3
    · rename_i ds
      split at e3
      · rename_i hp
        cases e3
        obtain ⟨p1, p2, p3⟩ := in_room hu hp
        obtain ⟨as, ra⟩ := h1.reads I rx p1
        obtain ⟨bs, rb⟩ := h2.reads I ry (show PyData.plain (.tuple ds) = true by simpa [PyData.plain] using p2)
        exact PySem.SeqAt.notIn_tuple_data rb ra p2 p1 p3 ⟨.bl _, H, I, rfl, q⟩
      · cases e3
    · rename_i kvs
      cases ek : keyOf d with
      | none => rw [ek] at e3; cases e3
      | some key =>
        rw [ek] at e3
        cases e3
        cases keyOf_V h1 ek
        obtain ⟨a, vs, rfl, hs, ha⟩ := h2.dict
        cases ry
        refine d_notIn (by omega) I (.inl ⟨_, _, hs, rfl, rfl⟩) rx fun s3 I3 => ⟨.bl _, H, I3, rfl, ?_⟩
        rw [← hasKey_valV ha]
        exact q
    · cases e3
end
end Ev
namespace Ev
open PySem PySem.Spec PyProof.Rows L2
variable [Gh]
/-! ### subscripts, slices -/
def valD (kvs : List (D × D)) (k : Key) : Option D := (kvs.find? fun p => decide (keyOf p.1 = some k)).map (·.2)
def retOf : Option D → Option Ret
  | some d => some (.val d)
  | none => none
def opIx : D → D → Option Ret
  | .list ds, .int i => retOf (atI ds i)
  | .tuple ds, .int i => retOf (atI ds i)
  | .str x, .int i => if x.length ≤ 16777216 then (match atI x.cps.toList i with
    | some c => some (.val (.str ⟨#[c]⟩))
    | none => none) else none
  | .dict kvs, d => match keyOf d with
    | some k => retOf (valD kvs k)
    | none => none
  | _, _ => none
def cutD (xs : List D) (lo hi : Option Int) : List D := (xs.drop (HT.sIx xs.length 0 lo)).take (HT.sIx xs.length xs.length hi - HT.sIx xs.length 0 lo)
def opSl (x : D) (lo hi : Option Int) : Option Ret := match x with
  | .list ds => some (.fl (cutD ds lo hi))
  | .tuple ds => some (.val (.tuple (cutD ds lo hi)))
  | _ => none
/-- an end of a slice -/
def mPart : Option (M BV) → M (Option Int)
  | none => fun ρ => .ok none ρ
  | some f => fun ρ => (f ρ).andThen fun b ρ' => match res ρ' b with
    | some (.int i) => .ok (some i) ρ'
    | _ => .no
def mSl (f : M BV) (lo hi : Option (M BV)) : M Ret := fun ρ => (f ρ).andThen fun b ρ1 => (mPart lo ρ1).andThen fun l ρ2 => (mPart hi ρ2).andThen fun u ρ3 => match res ρ3 b with
  | some d => match opSl d l u with
    | some r => .ok r ρ3
    | none => .no
  | none => .no
section
variable {K : PySem.W.Frag} {H H' : Hp} {S S' : AS}
theorem RAll.atI {vs : List V} {ds : List D} (h : RAll K H S vs ds) {i : Int} {d : D} (e : L2.atI ds i = some d) : ∃ v, L2.atI vs i = some v ∧ R K H S v d := by
  unfold L2.atI at e ⊢
  rw [h.length]
  cases hi : ixN ds.length i with
  | none => rw [hi] at e; cases e
  | some j =>
    rw [hi] at e
    obtain ⟨v, h1, h2⟩ := h.get (i := j) (d := d) e
    exact ⟨v, h1, h2⟩
theorem RAll.cut {vs : List V} {ds : List D} (h : RAll K H S vs ds) (lo hi : Option Int) : RAll K H S (cutV vs lo hi) (cutD ds lo hi) := by
  unfold cutV cutD
  rw [h.length]
  exact (h.drop _).take _
theorem RKv.val {k : Key} : ∀ {vs : List (Key × V)} {ds : List (D × D)} {d : D}, RKv K H S vs ds → valD ds k = some d → ∃ v, valV vs k = some v ∧ R K H S v d
  | _, _, _, .nil, e => by cases e
  | _, _, d, .cons (k := k') hk hr t, e => by
    unfold valD at e
    by_cases ek : k' = k
    · rw [List.find?_cons, hk, ek] at e
      simp only [decide_true] at e
      cases e
      exact ⟨_, valV_pos ek, hr⟩
    · rw [List.find?_cons, hk] at e
      have : decide (some k' = some k) = false := decide_eq_false fun q => ek (Option.some.inj q)
      rw [this] at e
      obtain ⟨v, h1, h2⟩ := RKv.val (d := d) t e
      exact ⟨v, by rw [valV_neg ek]; exact h1, h2⟩
end
section
variable {X : Cx}
theorem or_ix (hu : X.A.units + 64 < cLine) : IxR X (rOp2 X.K opIx) := by
  intro value slice pins s σ H x y v u Q I rx ry ⟨S, d, e, r, lv, h1, h2, h3, q⟩ hs
  unfold opIx at h3
  split at h3
  · rename_i ds i
    cases h2.int
    obtain ⟨a, vs, rfl, hs', ha⟩ := h1.list
    cases e3 : atI ds i with
    | none => rw [e3] at h3; cases h3
    | some z =>
      rw [e3] at h3
      cases h3
      obtain ⟨z', e4, hr⟩ := ha.atI e3
      exact ix_list value slice pins s σ H _ _ v u Q I rx ry ⟨a, vs, i, z', rfl, rfl, .inl (.inl hs'), e4, q _ H (.flat hr)⟩ hs
  · rename_i ds i
    cases h2.int
    obtain ⟨a, vs, rfl, hs', ha⟩ := h1.tuple
    cases e3 : atI ds i with
    | none => rw [e3] at h3; cases h3
    | some z =>
      rw [e3] at h3
      cases h3
      obtain ⟨z', e4, hr⟩ := ha.atI e3
      exact ix_tup value slice pins s σ H _ _ v u Q I rx ry ⟨a, vs, i, z', rfl, rfl, hs', e4, q _ H (.flat hr)⟩ hs
  · rename_i z i
    split at h3
    · rename_i hl
      cases h2.int
      cases h1.str
      cases e3 : atI z.cps.toList i with
      | none => rw [e3] at h3; cases h3
      | some c =>
        rw [e3] at h3
        cases h3
        exact ix_str value slice pins s σ H _ _ v u Q I rx ry ⟨z, i, c, rfl, rfl, by rw [line_eq]; exact hl, e3, q _ H (.flat (.str _))⟩ hs
    · cases h3
  · rename_i kvs
    cases ek : keyOf e with
    | none => rw [ek] at h3; cases h3
    | some k =>
      rw [ek] at h3
      cases e3 : valD kvs k with
      | none => simp only [e3] at h3; cases h3
      | some z =>
        simp only [e3] at h3
        cases h3
        obtain ⟨a, vs, rfl, hs', ha⟩ := h1.dict
        cases keyOf_V h2 ek
        obtain ⟨z', e4, hr⟩ := RKv.val ha e3
        cases rx
        have g : DGet H a (kV k) (some z') := .inl ⟨vs, k, hs', rfl, e4.symm⟩
        unfold subscriptTail
        refine wpAny_bind ?_
        rw [getitemInPython_of_ne (dict_typeIs I g).not_modules]
        refine wpAny_bind (wpAny_specialOf (dict_typeIs I g) PySem.F.slot_dict_getitem.lookup ?_)
        have fin : wpAny (model X.prog X.w) X.A (subscripted slice false (.ref a) u) (fun r s₃ => wpAny (model X.prog X.w) X.A (letTemporaryGo value (.ref a) r >>= fun _ => pure r) (EP X pins σ Q) X.xe s₃) X.xe s := by
          rw [hs]
          exact wpAny_operating (d_getItem (by omega) I g ry fun w' s3 I3 rw' => wpAny_bind (wpAny_letTemporaryGo (wpAny_pure ⟨z', H, I3, rw', q _ H (.flat hr)⟩)))
        first
          | exact wpAny_pure (wpAny_bind fin)
          | exact wpAny_bind (wpAny_pure (wpAny_bind fin))
          | exact wpAny_bind fin
  · cases h3
def rSl (K : PySem.W.Frag) : V → Option Int → Option Int → Hp → VK → Prop := fun x lo hi H Q => ∃ S d r, Live S H ∧ RR K H S x d ∧ opSl d lo hi = some r ∧ ∀ v H', PPost K S H v H' r → Q v H'
theorem sl_all : SlR X (rSl X.K) := by
  intro pins s σ H x v vl vu lo hi sl Q I rx hs pl pu ⟨S, d, r, lv, h1, h3, q⟩
  unfold opSl at h3
  split at h3
  · rename_i ds
    cases h3
    obtain ⟨a, vs, rfl, hs', ha⟩ := h1.list
    exact sl_list pins s σ H _ v vl vu lo hi sl Q I rx hs pl pu ⟨a, vs, rfl, .inl (.inl hs'), fun p hp => q _ _ (.lst hp lv (ha.cut lo hi))⟩
  · rename_i ds
    cases h3
    cases h1 with
    | of h1 =>
      cases h1 with
      | tup hs' hm ha =>
        refine sl_tupA pins s σ H _ v vl vu lo hi sl Q I rx hs pl pu ⟨_, _, rfl, hs', fun ⟨e1, e2⟩ => q _ H ?_, fun _ p hp => q _ _ (.tup hp lv (ha.cut lo hi))⟩
        rw [ha.length] at e1 e2
        have : cutD ds lo hi = ds := by
          unfold cutD
          rw [e1, e2, List.drop_zero, Nat.sub_zero, List.take_length]
        rw [this]
        exact .flat (.tup hs' hm ha)
  · cases h3
variable {mg : Str → Option Value} {W : WX} {e : Expr} {lo hi : Option Expr} {pos p2 : Pos}
def tPt (K : PySem.W.Frag) (mg : Str → Option Value) (W : WX) (f : M (Option Int)) : TO := fun σ H Q => ∃ S ρ, Rel K S ρ σ H ∧ Post K mg W S ρ σ H (fun o _ _ H' => Q o H') (f ρ)
theorem po_imp {o : Option Expr} {t t' : TO} (h : PO X o t) (i : ∀ σ H Q, t' σ H Q → t σ H Q) : PO X o t' := ⟨fun pins s σ H Q I q => h.run pins s σ H Q I (i σ H Q q)⟩
theorem po_noneE : PO X none (tPt X.K mg W (mPart none)) := po_imp po_none fun σ H Q ⟨S, ρ, rel, p⟩ => Post.ok rel p
theorem po_someE {f : M BV} (h : PE X e (tBo X.K mg W f)) : PO X (some e) (tPt X.K mg W (mPart (some f))) := po_imp (po_some h) fun σ H Q ⟨S, ρ, rel, p⟩ => by
  refine ⟨S, ρ, rel, Post.and p fun b S1 ρ1 H1 st1 r1 p v hv => ?_⟩
  cases e1 : res ρ1 b with
  | none => simp only [e1] at p; exact p.elim
  | some d =>
    simp only [e1] at p
    cases d with
    | int i => exact ⟨i, (hv.read r1 e1).int, p S1 H1 st1 r1⟩
    | _ => exact p.elim
theorem pe_slE {f : M BV} {l h : Option (M BV)} (he : PE X e (tBo X.K mg W f)) (hl : PO X lo (tPt X.K mg W (mPart l))) (hh : PO X hi (tPt X.K mg W (mPart h))) : PE X (.Subscript e (.Slice lo hi none p2) pos) (tS X.K mg W (mSl f l h)) :=
  pe_imp (pe_slice sl_all he hl hh) fun σ H Q ⟨S, ρ, rel, p⟩ => by
    refine ⟨S, ρ, rel, Post.and p fun b S1 ρ1 H1 st1 r1 p v hv => ?_⟩
    refine ⟨S1, ρ1, r1, Post.and (Post.from p st1) fun o S2 ρ2 H2 st2 r2 p => ?_⟩
    refine ⟨S2, ρ2, r2, Post.and (Post.from p st2) fun o2 S3 ρ3 H3 st3 r3 p => ?_⟩
    cases e1 : res ρ3 b with
    | none => simp only [e1] at p; exact p.elim
    | some d =>
      simp only [e1] at p
      cases e2 : opSl d o o2 with
      | none => simp only [e2] at p; exact p.elim
      | some r =>
        simp only [e2] at p
        refine ⟨S3, d, r, r3.live, ((hv.step st2).step st3).read r3 e1, e2, fun v' H' hp => ?_⟩
        obtain ⟨S', st', r', hr, hn⟩ := r3.pure hp
        exact p S' H' (st3.trans st') r' v' hr (((hn.back st3).back st2).back st1)
end
end Ev
namespace Ev
open PySem PySem.Spec PyProof.Rows L2
variable [Gh]
/-! ### built-in functions -/
def bLen : List D → Option Ret
  | [.str x] => if x.length ≤ 16777216 then some (.val (.int x.length)) else none
  | [.list ds] => some (.val (.int ds.length))
  | [.tuple ds] => some (.val (.int ds.length))
  | [.dict ds] => some (.val (.int ds.length))
  | _ => none
def bTuple : List D → Option Ret
  | [.list ds] => some (.val (.tuple ds))
  | [.tuple ds] => some (.val (.tuple ds))
  | _ => none
def bList : List D → Option Ret
  | [.list ds] => some (.fl ds)
  | [.tuple ds] => some (.fl ds)
  | [.dict kvs] => some (.fl (kvs.map (·.1)))
  | _ => none
def bAbs : List D → Option Ret
  | [.int i] => some (.val (.int (if i < 0 then -i else i)))
  | _ => none
def bInt : List D → Option Ret
  | [.int i] => some (.val (.int i))
  | [.bool k] => some (.val (.int (if k then 1 else 0)))
  | _ => none
def intsOf : List D → Option (List Int)
  | [] => some []
  | .int i :: ds => match intsOf ds with
    | some is => some (i :: is)
    | none => none
  | _ :: _ => none
def boolsOf : List D → Option (List Bool)
  | [] => some []
  | .bool i :: ds => match boolsOf ds with
    | some is => some (i :: is)
    | none => none
  | _ :: _ => none
def bSum : List D → Option Ret
  | [.list ds] => match intsOf ds with
    | some is => some (.val (.int is.sum))
    | none => none
  | _ => none
def bAny : List D → Option Ret
  | [.list ds] => match boolsOf ds with
    | some bs => some (.val (.bool (bs.any id)))
    | none => none
  | _ => none
def bAll : List D → Option Ret
  | [.list ds] => match boolsOf ds with
    | some bs => some (.val (.bool (bs.all id)))
    | none => none
  | _ => none
/-- a look at whether all are of one sort: whole numbers, truth values, texts, or tuples whose items are -/
def isInt0 : D → Bool
  | .int _ => true
  | _ => false
def isBool0 : D → Bool
  | .bool _ => true
  | _ => false
def isStr0 : D → Bool
  | .str _ => true
  | _ => false
def isTup0 : D → Bool
  | .tuple _ => true
  | _ => false
def items0 : D → List D
  | .tuple xs => xs
  | _ => []
def oneSort : Nat → List D → Bool
  | 0, _ => false
  | n + 1, ds => ds.all isInt0 || ds.all isStr0 || ds.all isBool0 || (ds.all isTup0 && oneSort n (ds.flatMap items0))
def alikeOk (ds : List D) : Bool := (ds.all fun d => d.plain && decide (d.depth ≤ 50)) && (oneSort 6 ds || ds.all fun d => ds.all fun e => PySem.W.alike d e)
theorem alikeAll_of : ∀ {xs ys : List D}, (∀ d ∈ xs, ∀ e ∈ ys, PySem.W.alike d e = true) → PySem.W.alikeAll xs ys = true
  | [], ys, _ => by cases ys <;> simp [PySem.W.alikeAll]
  | _ :: _, [], _ => by simp [PySem.W.alikeAll]
  | x :: xs, y :: ys, h => by
    have h1 := h x (List.mem_cons_self ..) y (List.mem_cons_self ..)
    have h2 := alikeAll_of fun d hd e he => h d (List.mem_cons_of_mem _ hd) e (List.mem_cons_of_mem _ he)
    simp [PySem.W.alikeAll, h1, h2]
theorem oneSort_ok : ∀ {n : Nat} {ds : List D}, oneSort n ds = true → ∀ d ∈ ds, ∀ e ∈ ds, PySem.W.alike d e = true
  | 0, _, h => by cases h
  | n + 1, ds, h => by
    unfold oneSort at h
    simp only [Bool.or_eq_true, Bool.and_eq_true, List.all_eq_true] at h
    intro d hd e he
    rcases h with ((h | h) | h) | ⟨h, h2⟩
    · have a := h d hd
      have b := h e he
      cases d <;> cases e <;> first | (cases a; done) | (cases b; done) | simp [PySem.W.alike]
    · have a := h d hd
      have b := h e he
      cases d <;> cases e <;> first | (cases a; done) | (cases b; done) | simp [PySem.W.alike]
    · have a := h d hd
      have b := h e he
      cases d <;> cases e <;> first | (cases a; done) | (cases b; done) | simp [PySem.W.alike]
    · have a := h d hd
      have b := h e he
      have ih := oneSort_ok h2
      cases d <;> try (cases a; done)
      cases e <;> try (cases b; done)
      rename_i xs ys
      have : PySem.W.alikeAll xs ys = true := alikeAll_of fun u hu v hv => ih u (List.mem_flatMap.mpr ⟨_, hd, hu⟩) v (List.mem_flatMap.mpr ⟨_, he, hv⟩)
      simpa [PySem.W.alike] using this
def notNone : D → Bool
  | .none => false
  | _ => true
def tupNe : D → Bool
  | .tuple (_ :: _) => true
  | _ => false
def notTup : D → Bool
  | .none => false
  | .tuple _ => false
  | _ => true
def sortOk (ds : List D) : Bool := alikeOk ds && (ds.all tupNe || ds.all notTup) && decide (ds.length ≤ 16777216)
/-- sorting by putting each one in its place, from the right -/
def insD (le : D → D → Bool) (x : D) : List D → List D
  | [] => [x]
  | y :: ys => if le x y = true then x :: y :: ys else y :: insD le x ys
def isoD (le : D → D → Bool) : List D → List D
  | [] => []
  | x :: xs => insD le x (isoD le xs)
def sortD (ds : List D) : List D := isoD (PySem.W.dataLe false id) ds
theorem insD_mem {le : D → D → Bool} {x z : D} : ∀ {ys : List D}, z ∈ insD le x ys → z = x ∨ z ∈ ys
  | [], h => by simpa [insD] using h
  | y :: ys, h => by
    unfold insD at h
    split at h
    · simpa using h
    · rcases List.mem_cons.mp h with rfl | h
      · exact .inr (List.mem_cons_self ..)
      · rcases insD_mem h with h | h
        · exact .inl h
        · exact .inr (List.mem_cons_of_mem _ h)
theorem insD_sorted {le : D → D → Bool} (t : PySem.W.TotalLe le) {x : D} : ∀ {ys : List D}, ys.Pairwise (fun a b => le a b = true) → (insD le x ys).Pairwise (fun a b => le a b = true)
  | [], _ => by simp [insD]
  | y :: ys, h => by
    unfold insD
    obtain ⟨h1, h2⟩ := List.pairwise_cons.mp h
    split
    · rename_i hxy
      refine List.pairwise_cons.mpr ⟨fun z hz => ?_, h⟩
      rcases List.mem_cons.mp hz with rfl | hz
      · exact hxy
      · exact t.trans _ _ _ hxy (h1 z hz)
    · rename_i hxy
      refine List.pairwise_cons.mpr ⟨fun z hz => ?_, insD_sorted t h2⟩
      rcases insD_mem hz with rfl | hz
      · have := t.total y z
        exact this.resolve_right hxy
      · exact h1 z hz
theorem insD_filter {le : D → D → Bool} {x c : D} (t : PySem.W.TotalLe le) : ∀ {ys : List D}, ys.Pairwise (fun a b => le a b = true) → (insD le x ys).filter (PySem.W.sameRank le c) = (x :: ys).filter (PySem.W.sameRank le c)
  | [], _ => rfl
  | y :: ys, h => by
    obtain ⟨h1, h2⟩ := List.pairwise_cons.mp h
    unfold insD
    split
    · rfl
    · rename_i hxy
      have ih := insD_filter (x := x) (c := c) t h2
      rw [List.filter_cons, ih]
      by_cases hx : PySem.W.sameRank le c x = true
      · by_cases hy : PySem.W.sameRank le c y = true
        · exfalso
          apply hxy
          unfold PySem.W.sameRank at hx hy
          simp only [Bool.and_eq_true] at hx hy
          first
            | exact t.trans _ _ _ hx.1 hy.2
            | exact t.trans _ _ _ hx.2 hy.1
        · rw [List.filter_cons_of_pos hx, List.filter_cons_of_pos hx, List.filter_cons_of_neg hy, if_neg hy]
      · rw [List.filter_cons_of_neg hx, List.filter_cons_of_neg hx, List.filter_cons]
theorem isoD_sorted {le : D → D → Bool} (t : PySem.W.TotalLe le) : ∀ ds : List D, (isoD le ds).Pairwise (fun a b => le a b = true)
  | [] => .nil
  | x :: xs => insD_sorted t (isoD_sorted t xs)
theorem isoD_filter {le : D → D → Bool} {c : D} (t : PySem.W.TotalLe le) : ∀ ds : List D, (isoD le ds).filter (PySem.W.sameRank le c) = ds.filter (PySem.W.sameRank le c)
  | [] => rfl
  | x :: xs => by
    show (insD le x (isoD le xs)).filter _ = _
    rw [insD_filter t (isoD_sorted t xs), List.filter_cons, List.filter_cons, isoD_filter t xs]
theorem sortD_eq (ds : List D) : ds.mergeSort (PySem.W.dataLe false id) = sortD ds :=
  (PySem.W.sort_unique (PySem.W.sortLe_total _ _ _) (isoD_sorted (PySem.W.sortLe_total _ _ _) ds) fun c => isoD_filter (PySem.W.sortLe_total _ _ _) ds).symm
def bSorted : List D → Option Ret
  | [.list ds] => if sortOk ds = true then some (.fl (sortD ds)) else none
  | _ => none
def minOk (ds : List D) : Bool := alikeOk ds && ds.all notNone && decide (PyData.depthAll ds ≤ 50)
def bMax : List D → Option Ret
  | [.int i, .int j] => some (.val (.int (if j > i then j else i)))
  | [.list (d :: ds)] => if minOk (d :: ds) = true then some (.val (PySem.W.maxD d ds)) else none
  | [.tuple (d :: ds)] => if minOk (d :: ds) = true then some (.val (PySem.W.maxD d ds)) else none
  | _ => none
def bMin : List D → Option Ret
  | [.int i, .int j] => some (.val (.int (if j < i then j else i)))
  | [.list (d :: ds)] => if minOk (d :: ds) = true then some (.val (PySem.W.minD d ds)) else none
  | [.tuple (d :: ds)] => if minOk (d :: ds) = true then some (.val (PySem.W.minD d ds)) else none
  | _ => none
def bRepr : List D → Option Ret
  | [d] => if d.plain = true ∧ d.showable = true ∧ d.depth ≤ 50 ∧ d.shown.length ≤ 16777216 then some (.val (.str d.shown)) else none
  | _ => none
section
variable {X : Cx}
theorem RRs.one {K : PySem.W.Frag} {H : Hp} {S : AS} {vs : List V} {d : D} (h : RRs K H S vs [d]) : ∃ v, vs = [v] ∧ RR K H S v d := by
  cases h with
  | cons h1 h2 => cases h2; exact ⟨_, rfl, h1⟩
theorem RRs.two {K : PySem.W.Frag} {H : Hp} {S : AS} {vs : List V} {d e : D} (h : RRs K H S vs [d, e]) : ∃ v u, vs = [v, u] ∧ RR K H S v d ∧ RR K H S u e := by
  cases h with
  | cons h1 h2 => obtain ⟨u, rfl, h3⟩ := h2.one; exact ⟨_, _, rfl, h1, h3⟩
theorem cb_len (hc : X.calm = true) : CallR X (.builtin "len") (rOps X.K bLen) := by
  intro pins s σ H xs us Q I rx ⟨S, ds, r, lv, hR, h3, q⟩
  unfold bLen at h3
  split at h3
  · split at h3
    · rename_i hl
      cases h3
      obtain ⟨v, rfl, h1⟩ := hR.one
      cases h1.str
      exact call_len pins s σ H _ us Q I rx ⟨_, _, rfl, ⟨by rw [line_eq]; exact hl, rfl⟩, q _ H (.flat (.int _))⟩
    · cases h3
  · cases h3
    obtain ⟨v, rfl, h1⟩ := hR.one
    obtain ⟨a, vs, rfl, hs, ha⟩ := h1.list
    exact call_len pins s σ H _ us Q I rx ⟨_, _, rfl, .inl ⟨vs, .inl (.inl hs), rfl⟩, by rw [ha.length]; exact q _ H (.flat (.int _))⟩
  · cases h3
    obtain ⟨v, rfl, h1⟩ := hR.one
    obtain ⟨a, vs, rfl, hs, ha⟩ := h1.tuple
    exact call_len pins s σ H _ us Q I rx ⟨_, _, rfl, .inr ⟨vs, hs, rfl⟩, by rw [ha.length]; exact q _ H (.flat (.int _))⟩
  · cases h3
    obtain ⟨v, rfl, h1⟩ := hR.one
    obtain ⟨a, vs, rfl, hs, ha⟩ := h1.dict
    rw [Vals.ref1 rx]
    exact d_len I hs fun t s' I' => ⟨.int vs.length, H, I', ⟨t, rfl⟩, by rw [ha.length]; exact q _ H (.flat (.int _))⟩
  · cases h3
theorem cb_tuple : CallR X (.type "tuple") (rOps X.K bTuple) := by
  intro pins s σ H xs us Q I rx ⟨S, ds, r, lv, hR, h3, q⟩
  unfold bTuple at h3
  split at h3
  · cases h3
    obtain ⟨v, rfl, h1⟩ := hR.one
    obtain ⟨a, vs, rfl, hs, ha⟩ := h1.list
    exact call_tuple_of pins s σ H _ us Q I rx ⟨_, _, rfl, .inl ⟨.inl (.inl hs), fun p hp => q _ _ (.tup hp lv ha)⟩⟩
  · cases h3
    obtain ⟨v, rfl, h1⟩ := hR.one
    cases h1 with
    | of h1 =>
      cases h1 with
      | tup hs hm ha => exact call_tuple_of pins s σ H _ us Q I rx ⟨_, _, rfl, .inr ⟨hs, q _ H (.flat (.tup hs hm ha))⟩⟩
  · cases h3
theorem keysR {K : PySem.W.Frag} {H : Hp} {S : AS} : ∀ {vs : List (Key × V)} {ds : List (D × D)}, RKv K H S vs ds → RAll K H S (vs.map fun kv => kV kv.1) (ds.map (·.1))
  | _, _, .nil => .nil
  | _, _, .cons (kd := kd) hk _ t => .cons (by
      cases kd <;> cases hk
      · exact .int _
      · exact .str _) (keysR t)
theorem cb_list (hc : X.calm = true) : CallR X (.type "list") (rOps X.K bList) := by
  intro pins s σ H xs us Q I rx ⟨S, ds, r, lv, hR, h3, q⟩
  unfold bList at h3
  split at h3
  · cases h3
    obtain ⟨v, rfl, h1⟩ := hR.one
    obtain ⟨a, vs, rfl, hs, ha⟩ := h1.list
    exact call_list_of pins s σ H _ us Q I rx ⟨_, _, rfl, .inl (.inl (.inl hs)), fun p hp => q _ _ (.lst hp lv ha)⟩
  · cases h3
    obtain ⟨v, rfl, h1⟩ := hR.one
    obtain ⟨a, vs, rfl, hs, ha⟩ := h1.tuple
    exact call_list_of pins s σ H _ us Q I rx ⟨_, _, rfl, .inr hs, fun p hp => q _ _ (.lst hp lv ha)⟩
  · cases h3
    obtain ⟨v, rfl, h1⟩ := hR.one
    obtain ⟨a, vs, rfl, hs, ha⟩ := h1.dict
    exact call_listD hc pins s σ H _ us Q I rx ⟨_, _, rfl, hs, fun p hp => q _ _ (.lst hp lv (keysR ha))⟩
  · cases h3
theorem cb_abs : CallR X (.builtin "abs") (rOps X.K bAbs) := by
  intro pins s σ H xs us Q I rx ⟨S, ds, r, lv, hR, h3, q⟩
  unfold bAbs at h3
  split at h3
  · cases h3
    obtain ⟨v, rfl, h1⟩ := hR.one
    cases h1.int
    exact call_abs pins s σ H _ us Q I rx ⟨_, rfl, q _ H (.flat (.int _))⟩
  · cases h3
theorem cb_int : CallR X (.type "int") (rOps X.K bInt) := by
  intro pins s σ H xs us Q I rx ⟨S, ds, r, lv, hR, h3, q⟩
  unfold bInt at h3
  split at h3
  · cases h3
    obtain ⟨v, rfl, h1⟩ := hR.one
    cases h1.int
    exact call_int1 pins s σ H _ us Q I rx (.inl ⟨_, rfl, q _ H (.flat (.int _))⟩)
  · cases h3
    obtain ⟨v, rfl, h1⟩ := hR.one
    cases h1.bool
    exact call_int1 pins s σ H _ us Q I rx (.inr ⟨_, rfl, q _ H (.flat (.int _))⟩)
  · cases h3
theorem intsOf_eq : ∀ {ds : List D} {is : List Int}, intsOf ds = some is → ds = is.map PyData.int
  | [], is, e => by cases e; rfl
  | d :: ds, is, e => by
    cases d <;> try cases e
    unfold intsOf at e
    cases h : intsOf ds with
    | none => rw [h] at e; cases e
    | some is' => rw [h] at e; cases e; rw [intsOf_eq h]; rfl
theorem boolsOf_eq : ∀ {ds : List D} {is : List Bool}, boolsOf ds = some is → ds = is.map PyData.bool
  | [], is, e => by cases e; rfl
  | d :: ds, is, e => by
    cases d <;> try cases e
    unfold boolsOf at e
    cases h : boolsOf ds with
    | none => rw [h] at e; cases e
    | some is' => rw [h] at e; cases e; rw [boolsOf_eq h]; rfl
theorem cb_sum (hc : X.calm = true) : CallR X (.builtin "sum") (rOps X.K bSum) := by
  intro pins s σ H xs us Q I rx ⟨S, ds, r, lv, hR, h3, q⟩
  unfold bSum at h3
  split at h3
  · rename_i ds
    cases e : intsOf ds with
    | none => rw [e] at h3; cases h3
    | some is =>
      rw [e] at h3
      cases h3
      obtain ⟨v, rfl, h1⟩ := hR.one
      obtain ⟨a, vs, rfl, hs, ha⟩ := h1.list
      rw [intsOf_eq e] at ha
      rw [ha.ints] at hs
      exact cr_sum hc pins s σ H _ us Q I rx ⟨_, _, rfl, .inl (.inl hs), q _ H (.flat (.int _))⟩
  · cases h3
theorem cb_any (hc : X.calm = true) : CallR X (.builtin "any") (rOps X.K bAny) := by
  intro pins s σ H xs us Q I rx ⟨S, ds, r, lv, hR, h3, q⟩
  unfold bAny at h3
  split at h3
  · rename_i ds
    cases e : boolsOf ds with
    | none => rw [e] at h3; cases h3
    | some is =>
      rw [e] at h3
      cases h3
      obtain ⟨v, rfl, h1⟩ := hR.one
      obtain ⟨a, vs, rfl, hs, ha⟩ := h1.list
      rw [boolsOf_eq e] at ha
      rw [ha.bools] at hs
      exact cr_any hc pins s σ H _ us Q I rx ⟨_, _, rfl, .inl (.inl hs), q _ H (.flat (.bl _))⟩
  · cases h3
theorem cb_all (hc : X.calm = true) : CallR X (.builtin "all") (rOps X.K bAll) := by
  intro pins s σ H xs us Q I rx ⟨S, ds, r, lv, hR, h3, q⟩
  unfold bAll at h3
  split at h3
  · rename_i ds
    cases e : boolsOf ds with
    | none => rw [e] at h3; cases h3
    | some is =>
      rw [e] at h3
      cases h3
      obtain ⟨v, rfl, h1⟩ := hR.one
      obtain ⟨a, vs, rfl, hs, ha⟩ := h1.list
      rw [boolsOf_eq e] at ha
      rw [ha.bools] at hs
      exact cr_all hc pins s σ H _ us Q I rx ⟨_, _, rfl, .inl (.inl hs), q _ H (.flat (.bl _))⟩
  · cases h3
mutual
theorem noDict_of_plain : ∀ d : D, d.plain = true → d.hasDict = false
  | .none, _ => rfl
  | .bool _, _ => rfl
  | .int _, _ => rfl
  | .str _, _ => rfl
  | .list xs, h => by
    simp only [PyData.hasDict]
    exact noDictAll_of_plain xs (by simpa [PyData.plain] using h)
  | .tuple xs, h => by
    simp only [PyData.hasDict]
    exact noDictAll_of_plain xs (by simpa [PyData.plain] using h)
  | .dict _, h => by simp [PyData.plain] at h
theorem noDictAll_of_plain : ∀ xs : List D, PyData.plainAll xs = true → PyData.hasDictAll xs = false
  | [], _ => rfl
  | x :: xs, h => by
    simp only [PyData.plainAll, Bool.and_eq_true] at h
    simp only [PyData.hasDictAll, noDict_of_plain x h.1, noDictAll_of_plain xs h.2, Bool.or_self]
end
theorem cb_repr (hg : X.A.guards = some []) (hu : X.A.units + 64 < cLine) : CallR X (.builtin "repr") (rOps X.K bRepr) := by
  intro pins s σ H xs us Q I rx ⟨S, ds, r, lv, hR, h3, q⟩
  unfold bRepr at h3
  split at h3
  · rename_i d
    split at h3
    · rename_i hp
      cases h3
      obtain ⟨v, rfl, h1⟩ := hR.one
      obtain ⟨u, rfl, ru⟩ := vals1 rx
      obtain ⟨as, rd⟩ := h1.reads I ru hp.1
      have hu2 : X.A.units + (d.depth + 1) < cLine := by have := hp.2.2.1; omega
      have hz : d.shown.length ≤ sizeLine := by rw [line_eq]; exact hp.2.2.2
      have hsm : d.hasDict = true → sysModules ∉ as := PyData.noDict_hsm (noDict_of_plain d hp.1)
      cases d with
      | none => cases h1.none; cases ru; exact PySem.P.repr_of_none ⟨.str _, H, I.tok _, ⟨_, rfl⟩, q _ H (.flat (.str _))⟩
      | bool b => cases h1.bool; cases ru; exact PySem.P.repr_of_bool ⟨.str _, H, I.tok _, ⟨_, rfl⟩, q _ H (.flat (.str _))⟩
      | int i =>
        cases h1.int
        obtain ⟨t, rfl⟩ := ru
        exact PySem.P.repr_of_int (by simpa [PyData.showable] using hp.2.1) ⟨.str _, H, I.tok _, ⟨_, rfl⟩, q _ H (.flat (.str _))⟩
      | str z =>
        cases h1.str
        obtain ⟨t, rfl⟩ := ru
        exact PySem.P.repr_of_str ⟨.str _, H, I.tok _, ⟨_, rfl⟩, q _ H (.flat (.str _))⟩ hz
      | list ds =>
        obtain ⟨a, vs, rfl, _, _⟩ := h1.list
        cases ru
        exact repr_of_reads' rd hp.2.1 hsm hg hu2 (fun _ _ e => e) (fun h' t tk hk => ⟨.str _, H, I.kept (t' := tk) hk, ⟨t, rfl⟩, q _ H (.flat (.str _))⟩) hz
      | tuple ds =>
        obtain ⟨a, vs, rfl, _, _⟩ := h1.tuple
        cases ru
        exact repr_of_reads' rd hp.2.1 hsm hg hu2 (fun _ _ e => e) (fun h' t tk hk => ⟨.str _, H, I.kept (t' := tk) hk, ⟨t, rfl⟩, q _ H (.flat (.str _))⟩) hz
      | dict ds => simp [PyData.plain] at hp
    · cases h3
  · cases h3
/-- the sorted values -/
theorem each_of {K : PySem.W.Frag} {H : Hp} {S : AS} : ∀ {vs : List V} {us : List Value} {ds : List D}, RAll K H S vs ds → Vals vs us → PySem.W.EachIs (fun u d => ∃ v, RelV v u ∧ R K H S v d) us ds
  | _, _, _, .nil, .nil => .nil
  | _, _, _, .cons h t, .cons r q => .cons ⟨_, r, h⟩ (each_of t q)
theorem of_each {K : PySem.W.Frag} {H : Hp} {S : AS} : ∀ {us : List Value} {ds : List D}, PySem.W.EachIs (fun u d => ∃ v, RelV v u ∧ R K H S v d) us ds → ∃ vs, RAll K H S vs ds ∧ Vals vs us
  | _, _, .nil => ⟨[], .nil, .nil⟩
  | _, _, .cons ⟨v, r, h⟩ t => let ⟨vs, h2, r2⟩ := of_each t; ⟨v :: vs, .cons h h2, .cons r r2⟩
theorem alikeOk_ok {ds : List D} (h : alikeOk ds = true) : PySem.W.AllAlike ds ∧ (∀ d ∈ ds, d.plain = true ∧ d.depth ≤ 50) := by
  unfold alikeOk at h
  simp only [List.all_eq_true, Bool.and_eq_true, Bool.or_eq_true, decide_eq_true_eq] at h
  refine ⟨fun d hd e he => ?_, h.1⟩
  rcases h.2 with h | h
  · exact oneSort_ok h d hd e he
  · exact h d hd e he
theorem plainAll_of : ∀ {ds : List D}, (∀ d ∈ ds, d.plain = true) → PyData.plainAll ds = true
  | [], _ => by simp [PyData.plainAll]
  | d :: ds, h => by
    simp only [PyData.plainAll, Bool.and_eq_true]
    exact ⟨h d (List.mem_cons_self ..), plainAll_of fun e he => h e (List.mem_cons_of_mem _ he)⟩
theorem cb_sorted (hu : X.A.units + 64 < cLine) : CallR X (.builtin "sorted") (rOps X.K bSorted) := by
  intro pins s σ H xs us Q I rx ⟨S, ds, r, lv, hR, h3, q⟩
  unfold bSorted at h3
  split at h3
  · rename_i ds
    split at h3
    · rename_i hp
      cases h3
      obtain ⟨v, rfl, h1⟩ := hR.one
      obtain ⟨a, vs, rfl, hs, ha⟩ := h1.list
      obtain ⟨its, rv, hl, hz⟩ := I.list (.inl (.inl hs))
      rw [Vals.ref1 rx]
      unfold sortOk at hp
      simp only [Bool.and_eq_true, Bool.or_eq_true, decide_eq_true_eq] at hp
      obtain ⟨⟨ho, hk⟩, hlen⟩ := hp
      obtain ⟨hal, hpl⟩ := alikeOk_ok ho
      have e := each_of ha rv
      have er : PySem.W.EachIs (fun v b => ∃ as, Reads s.heap v (id b) as) its ds := by
        refine (PySem.W.each_mem e).mono fun u d hh => ?_
        obtain ⟨⟨v, r, h⟩, hm⟩ := hh
        exact h.reads I d v u r (hpl d hm).1
      have hsk : PySem.W.Sortable (ds.map id) := by
        rw [List.map_id]
        rcases hk with hk | hk
        · refine .inl fun d hd => ?_
          have := List.all_eq_true.mp hk d hd
          cases d <;> try cases this
          rename_i xs
          cases xs with
          | nil => cases this
          | cons x r => exact ⟨x, r, rfl⟩
        · refine .inr fun d hd => ?_
          have := List.all_eq_true.mp hk d hd
          cases d <;> first | (cases this; done) | exact ⟨fun z => (nomatch z), fun _ z => (nomatch z)⟩
      refine PySem.W.sorted_data (enc := id) hl.isList e er (by rw [List.map_id]; exact hal) hsk (by rw [line_eq]; exact hlen) (fun b hb => by have := (hpl b hb).2; show X.A.units + 2 + b.depth < cLine; omega) fun out hlo hout => ?_
      rw [sortD_eq] at hout
      obtain ⟨ys, ra, ry⟩ := of_each hout
      obtain ⟨ep, he'⟩ := PyProof.Rows.sortedAll_at s.heap its out.toArray
      have hp : H (s.heap.objs.size + 1) = none := I.hok.fresh (Nat.le_succ _)
      exact ⟨.ref _, upd H (s.heap.objs.size + 1) (.lst ys), I.laid (t' := s.toks) (fun _ _ => PyProof.Rows.sortedAll_old) (Nat.le_succ _) ⟨by rw [ry.length, hlo, line_eq]; exact hlen, out, ep, ry, he'⟩, rfl, q _ _ (.lst hp lv ra)⟩
    · cases h3
  · cases h3
theorem minOk_ok {ds : List D} (h : minOk ds = true) : PySem.W.AlikeAll ds ∧ PyData.depthAll ds ≤ 50 ∧ (∀ d ∈ ds, d.plain = true) := by
  unfold minOk at h
  simp only [Bool.and_eq_true, decide_eq_true_eq] at h
  obtain ⟨hal, hpl⟩ := alikeOk_ok h.1.1
  refine ⟨⟨hal, fun d hd e => ?_⟩, h.2, fun d hd => (hpl d hd).1⟩
  have := List.all_eq_true.mp h.1.2 d hd
  subst e
  cases this
theorem reads_inj {h : Heap} {v : Value} : ∀ {d e : D} {as bs : List Addr}, d.plain = true → e.plain = true → Reads h v d as → Reads h v e bs → d = e := fun {d e as bs} p1 p2 r1 r2 => by
  rw [← PySem.SeqAt.readOf_plain p1 r1, PySem.SeqAt.readOf_plain p2 r2]
theorem maxD_mem : ∀ (ds : List D) (d : D), PySem.W.maxD d ds ∈ d :: ds
  | [], d => List.mem_cons_self ..
  | e :: ds, d => by
    have ih := maxD_mem ds (if PySem.W.dataLt d e = true then e else d)
    show PySem.W.maxD (if PySem.W.dataLt d e = true then e else d) ds ∈ d :: e :: ds
    rcases List.mem_cons.mp ih with h | h
    · rw [h]; split
      · exact List.mem_cons_of_mem _ (List.mem_cons_self ..)
      · exact List.mem_cons_self ..
    · exact List.mem_cons_of_mem _ (List.mem_cons_of_mem _ h)
theorem minD_mem : ∀ (ds : List D) (d : D), PySem.W.minD d ds ∈ d :: ds
  | [], d => List.mem_cons_self ..
  | e :: ds, d => by
    have ih := minD_mem ds (if PySem.W.dataLt e d = true then e else d)
    show PySem.W.minD (if PySem.W.dataLt e d = true then e else d) ds ∈ d :: e :: ds
    rcases List.mem_cons.mp ih with h | h
    · rw [h]; split
      · exact List.mem_cons_of_mem _ (List.mem_cons_self ..)
      · exact List.mem_cons_self ..
    · exact List.mem_cons_of_mem _ (List.mem_cons_of_mem _ h)
/-- an item of the list that reads as d stands for d -/
theorem item_of {pins : List (Addr × Obj)} {σ : L2.St} {H : Hp} {s : Shared} {h' : Heap} {S : AS} {K : PySem.W.Frag} (I : Inv X pins σ H s) (hk : ∀ b o, s.heap.get? b = some o → h'.get? b = some o) {vs : List V} {its : List Value} {ds : List D} (ha : RAll X.K H S vs ds) (rv : Vals vs its) (hp : ∀ d ∈ ds, d.plain = true)
    {i : Nat} {u : Value} {d : D} {bs : List Addr} (hu : its[i]? = some u) (hr : Reads h' u d bs) (hd : d.plain = true) : ∃ v, RelV v u ∧ R X.K H S v d := by
  have hi : i < its.length := (List.getElem?_eq_some_iff.mp hu).1
  have hv : i < vs.length := by rw [rv.length]; exact hi
  obtain ⟨u', h1, h2⟩ := rv.get (i := i) (x := vs[i]) (List.getElem?_eq_getElem hv)
  rw [hu] at h1
  cases h1
  obtain ⟨e, h3, h4⟩ := ha.getV (i := i) (v := vs[i]) (List.getElem?_eq_getElem hv)
  have pe := hp e (List.mem_of_getElem? h3)
  obtain ⟨as, re⟩ := h4.reads I e _ u h2 pe
  have : e = d := reads_inj pe hd (PyProof.Rows.Reads.keeps hk re) hr
  subst this
  exact ⟨_, h2, h4⟩
theorem cb_max (hc : X.calm = true) (hu : X.A.units + 64 < cLine) : CallR X (.builtin "max") (rOps X.K bMax) := by
  intro pins s σ H xs us Q I rx ⟨S, ds, r, lv, hR, h3, q⟩
  unfold bMax at h3
  split at h3
  · cases h3
    obtain ⟨v, u, rfl, h1, h2⟩ := hR.two
    cases h1.int; cases h2.int
    exact call_max2 hc pins s σ H _ us Q I rx ⟨_, _, rfl, q _ H (.flat (.int _))⟩
  · rename_i d ds
    split at h3
    · rename_i hp
      cases h3
      obtain ⟨v, rfl, h1⟩ := hR.one
      obtain ⟨a, vs, rfl, hs, ha⟩ := h1.list
      obtain ⟨its, rv, hl, hz⟩ := I.list (.inl (.inl hs))
      obtain ⟨hal, hdp, hpl⟩ := minOk_ok hp
      obtain ⟨as, hr⟩ := ha.reads I _ _ its rv (plainAll_of hpl)
      rw [Vals.ref1 rx]
      refine PySem.W.max_list_data (I.ok.hd hc) hl.isList hr hal (by omega) fun i u h' tk bs hi hrd hk => ?_
      obtain ⟨v', rv', rr⟩ := item_of (K := X.K) I hk ha rv hpl (by simpa using hi) hrd (hpl _ (maxD_mem ds d))
      exact ⟨v', H, I.kept (t' := tk) hk, rv', q _ H (.flat rr)⟩
    · cases h3
  · rename_i d ds
    split at h3
    · rename_i hp
      cases h3
      obtain ⟨v, rfl, h1⟩ := hR.one
      obtain ⟨a, vs, rfl, hs, ha⟩ := h1.tuple
      obtain ⟨its, rv, hl, hz⟩ := I.tuple hs
      obtain ⟨hal, hdp, hpl⟩ := minOk_ok hp
      obtain ⟨as, hr⟩ := ha.reads I _ _ its rv (plainAll_of hpl)
      rw [Vals.ref1 rx]
      refine PySem.W.max_tuple_data (I.ok.hd hc) hl hr hal (by omega) fun i u h' tk bs hi hrd hk => ?_
      obtain ⟨v', rv', rr⟩ := item_of (K := X.K) I hk ha rv hpl (by simpa using hi) hrd (hpl _ (maxD_mem ds d))
      exact ⟨v', H, I.kept (t' := tk) hk, rv', q _ H (.flat rr)⟩
    · cases h3
  · cases h3
theorem cb_min (hc : X.calm = true) (hu : X.A.units + 64 < cLine) : CallR X (.builtin "min") (rOps X.K bMin) := by
  intro pins s σ H xs us Q I rx ⟨S, ds, r, lv, hR, h3, q⟩
  unfold bMin at h3
  split at h3
  · cases h3
    obtain ⟨v, u, rfl, h1, h2⟩ := hR.two
    cases h1.int; cases h2.int
    exact call_min2 hc pins s σ H _ us Q I rx ⟨_, _, rfl, q _ H (.flat (.int _))⟩
  · rename_i d ds
    split at h3
    · rename_i hp
      cases h3
      obtain ⟨v, rfl, h1⟩ := hR.one
      obtain ⟨a, vs, rfl, hs, ha⟩ := h1.list
      obtain ⟨its, rv, hl, hz⟩ := I.list (.inl (.inl hs))
      obtain ⟨hal, hdp, hpl⟩ := minOk_ok hp
      obtain ⟨as, hr⟩ := ha.reads I _ _ its rv (plainAll_of hpl)
      rw [Vals.ref1 rx]
      refine PySem.W.min_list_data (I.ok.hd hc) hl.isList hr hal (by omega) fun i u h' tk bs hi hrd hk => ?_
      obtain ⟨v', rv', rr⟩ := item_of (K := X.K) I hk ha rv hpl (by simpa using hi) hrd (hpl _ (minD_mem ds d))
      exact ⟨v', H, I.kept (t' := tk) hk, rv', q _ H (.flat rr)⟩
    · cases h3
  · rename_i d ds
    split at h3
    · rename_i hp
      cases h3
      obtain ⟨v, rfl, h1⟩ := hR.one
      obtain ⟨a, vs, rfl, hs, ha⟩ := h1.tuple
      obtain ⟨its, rv, hl, hz⟩ := I.tuple hs
      obtain ⟨hal, hdp, hpl⟩ := minOk_ok hp
      obtain ⟨as, hr⟩ := ha.reads I _ _ its rv (plainAll_of hpl)
      rw [Vals.ref1 rx]
      refine PySem.W.min_tuple_data (I.ok.hd hc) hl hr hal (by omega) fun i u h' tk bs hi hrd hk => ?_
      obtain ⟨v', rv', rr⟩ := item_of (K := X.K) I hk ha rv hpl (by simpa using hi) hrd (hpl _ (minD_mem ds d))
      exact ⟨v', H, I.kept (t' := tk) hk, rv', q _ H (.flat rr)⟩
    · cases h3
  · cases h3
end
end Ev
namespace Ev
open PySem PySem.Spec PyProof.Rows L2
variable [Gh]
/-! ### targets -/
inductive Tgt where
  | nm (i : Nat)
  | tp (ts : List Tgt)
def Slot.free? : Option Slot → Bool
  | some s => match s.own? with
    | some false => false
    | _ => true
  | none => false
mutual
/-- a value is given to a target -/
def asgT : Tgt → D → Rho → Option Rho
  | .nm i, d, ρ => if Slot.free? ρ[i]? = true then some (ρ.set i (.dat d)) else none
  | .tp ts, d, ρ => match d with
    | .tuple ds => asgTs ts ds ρ
    | _ => none
def asgTs : List Tgt → List D → Rho → Option Rho
  | [], [], ρ => some ρ
  | t :: ts, d :: ds, ρ => match asgT t d ρ with
    | some ρ' => asgTs ts ds ρ'
    | none => none
  | _, _, _ => none
end
mutual
def Tgt.slots : Tgt → List Nat
  | .nm i => [i]
  | .tp ts => slotsAll ts
def slotsAll : List Tgt → List Nat
  | [] => []
  | t :: ts => t.slots ++ slotsAll ts
end
section
variable {K : PySem.W.Frag} {mg : Str → Option Value} {W : WX} {H H' H1 H2 H3 : Hp} {S S' S1 S2 S3 : AS} {ρ ρ' ρ1 ρ2 ρ3 : Rho} {σ σ' σ1 σ2 σ3 : L2.St}
theorem adr_set_ne {i j : Nat} {x : Option V} (h : j ≠ i) : adr (σ.set i x) j = adr σ j := by
  unfold adr
  rw [List.getElem?_set_ne (fun e => h e.symm)]
theorem free_of {i : Nat} (h : Slot.free? ρ[i]? = true) : ∃ s, ρ[i]? = some s ∧ s.own? ≠ some false := by
  cases e : ρ[i]? with
  | none => rw [e] at h; cases h
  | some s =>
    rw [e] at h
    refine ⟨s, rfl, fun z => ?_⟩
    unfold Slot.free? at h
    simp only [z] at h
    cases h
/-- slot i gets a new content -/
theorem Rel.put (r : Rel K S ρ σ H) {i : Nat} {s t : Slot} {v : V} (hs : ρ[i]? = some s) (hz : s.own? ≠ some false) (hq : SlotOk K S H (some v) t) (ht : t.own? = none ∨ (t.own? = some true ∧ ∀ a, v = .ref a → ¬ Own ρ σ a)) :
    Rel K S (ρ.set i t) (σ.set i (some v)) H := by
  have hl : i < ρ.length := (List.getElem?_eq_some_iff.mp hs).1
  have hl2 : i < σ.length := by rw [← r.len]; exact hl
  refine ⟨by rw [List.length_set, List.length_set]; exact r.len, fun j u h => ?_, fun j k u w y z b h1 h2 h3 h4 h5 h6 => ?_, r.live⟩
  · rcases getset h with ⟨rfl, rfl⟩ | ⟨hne, e⟩
    · rw [List.getElem?_set_self hl2]
      exact hq
    · rw [List.getElem?_set_ne (fun e => hne e.symm)]
      exact r.slot j u e
  · have new : ∀ {j : Nat} {u : Slot} {y : Bool} {b : Addr}, (ρ.set i t)[j]? = some u → u.own? = some y → Ter (σ.set i (some v)) j u b → (j = i ∧ v = .ref b ∧ ¬ Own ρ σ b) ∨ (j ≠ i ∧ ρ[j]? = some u ∧ Ter σ j u b) := fun {j u y b} e1 e2 e3 => by
      rcases getset e1 with ⟨rfl, rfl⟩ | ⟨hne, e⟩
      · rcases ht with ht | ht
        · rw [ht] at e2; cases e2
        · have hv : v = .ref b := by
            have := adr_get ((ter_plain (plain_of ht.1)).mp e3)
            rw [List.getElem?_set_self hl2] at this
            exact Option.some.inj (Option.some.inj this)
          exact .inl ⟨rfl, hv, ht.2 b hv⟩
      · exact .inr ⟨hne, e, (ter_at (adr_set_ne hne)).mp e3⟩
    rcases new h1 h3 h5 with ⟨e1, e2, e3⟩ | ⟨e1, e2, e3⟩
    · rcases new h2 h4 h6 with ⟨f1, f2, f3⟩ | ⟨f1, f2, f3⟩
      · rw [e1, f1]
      · exact absurd ⟨k, w, z, f2, h4, f3⟩ e3
    · rcases new h2 h4 h6 with ⟨f1, f2, f3⟩ | ⟨f1, f2, f3⟩
      · exact absurd ⟨j, u, y, e2, h3, e3⟩ f3
      · exact r.inj j k u w y z b e2 f2 h3 h4 e3 f3
theorem Step.put (r : Rel K S ρ σ H) {i : Nat} {s t : Slot} {v : V} (hs : ρ[i]? = some s) (hz : s.own? ≠ some false) (ht : t.own? = none) : Step S ρ σ H S (ρ.set i t) (σ.set i (some v)) H := by
  have keep : ∀ {j : Nat} {u : Slot} {y : Bool} {b : Addr}, (ρ.set i t)[j]? = some u → u.own? = some y → adr (σ.set i (some v)) j = some b → ρ[j]? = some u ∧ adr σ j = some b := fun {j u y b} e1 e2 e3 => by
    rcases getset e1 with ⟨rfl, rfl⟩ | ⟨hne, e⟩
    · rw [ht] at e2; cases e2
    · exact ⟨e, by rw [adr_set_ne hne] at e3; exact e3⟩
  refine ⟨fun _ h => h, fun _ _ => rfl, fun _ _ h _ => h, fun _ o h => ⟨o, h⟩, fun _ h => .inl h, fun b ⟨j, u, z, h1, h2, h3⟩ => ?_, fun b ⟨j, u, h1, h2, h3⟩ => ?_, fun j u h1 h2 => ?_⟩
  · rcases getset h1 with ⟨rfl, rfl⟩ | ⟨hne, e⟩
    · rw [ht] at h2; cases h2
    · exact .inl ⟨j, u, z, e, h2, (ter_at (adr_set_ne hne)).mp h3⟩
  · obtain ⟨e1, e2⟩ := keep h1 h2 h3
    exact .inl ⟨j, u, e1, h2, e2⟩
  · have hne : j ≠ i := fun e => by subst e; rw [hs] at h1; cases h1; exact hz h2
    exact ⟨u, by rw [List.getElem?_set_ne (fun e => hne e.symm)]; exact h1, h2, rfl, adr_set_ne hne⟩
/-- the reading of a target that gets a value -/
def tGt (K : PySem.W.Frag) (t : Tgt) : TG := fun v σ H Q => ∃ S ρ d ρ', Rel K S ρ σ H ∧ R K H S v d ∧ asgT t d ρ = some ρ' ∧
  ∀ σ', Rel K S ρ' σ' H → Step S ρ σ H S ρ' σ' H → σ'.length = σ.length → (∀ i, i ∉ t.slots → σ'[i]? = σ[i]?) → Q σ' H
def tGts (K : PySem.W.Frag) (ts : List Tgt) : TGs := fun vs σ H Q => ∃ S ρ ds ρ', Rel K S ρ σ H ∧ RAll K H S vs ds ∧ asgTs ts ds ρ = some ρ' ∧
  ∀ σ', Rel K S ρ' σ' H → Step S ρ σ H S ρ' σ' H → σ'.length = σ.length → (∀ i, i ∉ slotsAll ts → σ'[i]? = σ[i]?) → Q σ' H
end
section
variable {X : Cx} {e : Expr} {es : List Expr} {pos : Pos}
theorem pg_imp {t t' : TG} (h : PG X e t) (i : ∀ v σ H Q, t' v σ H Q → t v σ H Q) : PG X e t' := ⟨fun pins s σ H v u Q I r q => h.run pins s σ H v u Q I r (i v σ H Q q)⟩
theorem pgs_imp {t t' : TGs} (h : PGs X es t) (i : ∀ v σ H Q, t' v σ H Q → t v σ H Q) : PGs X es t' := ⟨fun pins s σ H v u Q I r q => h.run pins s σ H v u Q I r (i v σ H Q q)⟩
theorem pg_nm {i : Nat} (h : PG X e (gName i)) : PG X e (tGt X.K (.nm i)) := pg_imp h fun v σ H Q ⟨S, ρ, d, ρ', rel, hr, ha, q⟩ => by
  unfold asgT at ha
  split at ha
  · rename_i hf
    cases ha
    obtain ⟨s, hs, hz⟩ := free_of hf
    refine q _ (rel.put hs hz hr (.inl rfl)) (Step.put rel hs hz rfl) (List.length_set ..) fun j hj => ?_
    rw [List.getElem?_set_ne]
    intro e
    subst e
    exact hj (by simp [Tgt.slots])
  · cases ha
theorem pgs_nilE : PGs X [] (tGts X.K []) := pgs_imp pgs_nil fun vs σ H Q ⟨S, ρ, ds, ρ', rel, hr, ha, q⟩ => by
  cases hr with
  | nil => cases ha; exact ⟨rfl, q σ rel .refl rfl fun _ _ => rfl⟩
  | cons _ _ => cases ha
theorem pgs_consE {t : Tgt} {ts : List Tgt} (h1 : PG X e (tGt X.K t)) (h2 : PGs X es (tGts X.K ts)) (hs : (assignEach (e :: es) X.env).map (·.2) = assign e X.env :: (assignEach es X.env).map (·.2)) : PGs X (e :: es) (tGts X.K (t :: ts)) :=
  pgs_imp (pgs_cons h1 h2 hs) fun vs σ H Q ⟨S, ρ, ds, ρ', rel, hr, ha, q⟩ => by
    cases hr with
    | nil => cases ha
    | @cons v vs d ds r1 r2 =>
      unfold asgTs at ha
      cases e1 : asgT t d ρ with
      | none => simp only [e1] at ha; cases ha
      | some ρ1 =>
        simp only [e1] at ha
        refine ⟨v, vs, rfl, S, ρ, d, ρ1, rel, r1, e1, fun σ1 rel1 st1 hl1 hk1 => ?_⟩
        refine ⟨S, ρ1, ds, ρ', rel1, r2, ha, fun σ2 rel2 st2 hl2 hk2 => ?_⟩
        refine q σ2 rel2 (st1.trans st2) (hl2.trans hl1) fun i hi => ?_
        simp only [slotsAll, List.mem_append, not_or] at hi
        rw [hk2 i hi.2, hk1 i hi.1]
theorem asgTs_len : ∀ {ts : List Tgt} {ds : List D} {ρ ρ' : Rho}, asgTs ts ds ρ = some ρ' → ts.length = ds.length
  | [], [], _, _, _ => rfl
  | t :: ts, d :: ds, ρ, ρ', h => by
    unfold asgTs at h
    cases e1 : asgT t d ρ with
    | none => simp only [e1] at h; cases h
    | some ρ1 => simp only [e1] at h; simp [asgTs_len h]
  | [], _ :: _, _, _, h => by cases h
  | _ :: _, [], _, _, h => by cases h
theorem pg_tp {ts : List Tgt} {k : Nat} (hc : X.calm = true) (h : PGs X es (tGts X.K ts)) (hl : es.length = ts.length) (hn : (assignEach es X.env).length = es.length) (hst : (assignEach es X.env).findIdx? (·.1) = none) : PG X (.Tuple es k pos) (tGt X.K (.tp ts)) :=
  pg_imp (pg_tup (n := es.length) hc h hn hst) fun v σ H Q ⟨S, ρ, d, ρ', rel, hr, ha, q⟩ => by
    unfold asgT at ha
    cases d <;> try cases ha
    rename_i ds
    cases hr with
    | tup hs hm hall =>
      refine ⟨_, _, rfl, hs, ?_, S, ρ, ds, ρ', rel, hall, ha, fun σ' r' st hl hk => q σ' r' st hl fun i hi => hk i (by simpa [Tgt.slots] using hi)⟩
      rw [hall.length, hl, asgTs_len ha]
end
/-! ### what a loop walks -/
section
variable {K : PySem.W.Frag}
structure ItOk (K : PySem.W.Frag) (S0 : AS) (H0 : Hp) (ds : List D) (J : It) : Prop where
  go : ∀ S H i, Stay S0 S H0 H → Live S H → i < ds.length → J.go i H
  stop : ∀ S H i, Stay S0 S H0 H → Live S H → ds.length ≤ i → J.stop i H
  yld : ∀ S H i x H', Stay S0 S H0 H → Live S H → i < ds.length → J.yld i H x H' → ∃ S' d, ds[i]? = some d ∧ Ext S H S' H' ∧ R K H' S' x d
def tIt (K : PySem.W.Frag) (mg : Str → Option Value) (W : WX) (f : M (List D)) : TI := fun σ H Q => ∃ S ρ, Rel K S ρ σ H ∧ Post K mg W S ρ σ H (fun ds S' _ H' => ∀ J, ItOk K S' H' ds J → Q J H') (f ρ)
/-- the items of a list, a tuple -/
def itemsOf : D → Option (List D)
  | .list ds => some ds
  | .tuple ds => some ds
  | _ => none
def mItV (f : M Ret) : M (List D) := fun ρ => (f ρ).andThen fun r ρ' => match itemsOf r.toD with
  | some ds => .ok ds ρ'
  | none => .no
def rangeD (lo : Int) (n : Nat) : List D := (List.range n).map fun i => .int (lo + (i : Nat))
def mItR1 (f : M BV) : M (List D) := fun ρ => (f ρ).andThen fun b ρ' => match res ρ' b with
  | some (.int j) => if j.natAbs < 2 ^ 62 then .ok (rangeD 0 j.toNat) ρ' else .no
  | _ => .no
def mItR2 (f g : M BV) : M (List D) := fun ρ => (f ρ).andThen fun b ρ1 => (g ρ1).andThen fun c ρ2 => match res ρ2 b, res ρ2 c with
  | some (.int i), some (.int j) => if i.natAbs < 2 ^ 62 ∧ j.natAbs < 2 ^ 62 then .ok (rangeD i (j - i).toNat) ρ2 else .no
  | _, _ => .no
theorem itOk_list {S : AS} {H : Hp} {a : Addr} {vs : List V} {ds : List D} (h : H a = some (.lst vs)) (hs : S a) (ha : RAll K H S vs ds) : ItOk K S H ds (Itl K a) where
  go := fun S' H' i st l hi => by
    have := ha.length
    exact ⟨vs, vs[i]'(by omega), .inl (.inl ((st.at_ a hs).trans h)), List.getElem?_eq_getElem (by omega)⟩
  stop := fun S' H' i st l hi => ⟨vs, .inl (.inl ((st.at_ a hs).trans h)), by have := ha.length; omega⟩
  yld := fun S' H' i x H2 st l hi ⟨e, hx⟩ => by
    subst e
    have hv := hx vs (.inl (.inl ((st.at_ a hs).trans h)))
    obtain ⟨d, hd, hr⟩ := ha.getV hv
    exact ⟨S', d, hd, .refl, hr.stay st⟩
theorem itOk_tup {S : AS} {H : Hp} {a : Addr} {vs : List V} {ds : List D} (h : SqT K H a vs) (hs : S a ∨ ∀ H', SqT K H' a vs) (ha : RAll K H S vs ds) : ItOk K S H ds (Itt K a) := by
  have sq : ∀ S' H', Stay S S' H H' → SqT K H' a vs := fun S' H' st => by
    rcases hs with hs | hs
    · exact sqT_at (st.at_ a hs) h
    · exact hs _
  refine ⟨fun S' H' i st l hi => ?_, fun S' H' i st l hi => ?_, fun S' H' i x H2 st l hi ⟨e, hx⟩ => ?_⟩
  · have := ha.length
    exact ⟨vs, vs[i]'(by omega), sq S' H' st, List.getElem?_eq_getElem (by omega)⟩
  · exact ⟨vs, sq S' H' st, by have := ha.length; omega⟩
  · subst e
    have hv := hx vs (sq S' H2 st)
    obtain ⟨d, hd, hr⟩ := ha.getV hv
    exact ⟨S', d, hd, .refl, hr.stay st⟩
theorem itOk_range {S : AS} {H : Hp} {lo : Int} {n : Nat} : ItOk K S H (rangeD lo n) (Itr lo n) where
  go := fun S' H' i st l hi => by
    have : (rangeD lo n).length = n := by simp [rangeD]
    show i < n
    omega
  stop := fun S' H' i st l hi => by
    have : (rangeD lo n).length = n := by simp [rangeD]
    show n ≤ i
    omega
  yld := fun S' H' i x H2 st l hi ⟨e, hx⟩ => by
    subst e hx
    have : (rangeD lo n).length = n := by simp [rangeD]
    exact ⟨S', .int (lo + (i : Nat)), by unfold rangeD; rw [List.getElem?_map, List.getElem?_range (by omega)]; rfl, .refl, .int _⟩
end
section
variable {X : Cx} {mg : Str → Option Value} {W : WX} {e a b tg : Expr} {pos : Pos}
theorem pi_imp {t t' : TI} (h : PI X tg e t) (i : ∀ σ H Q, t' σ H Q → t σ H Q) : PI X tg e t' := ⟨fun pins s σ H R I q => h.run pins s σ H R I (i σ H R q)⟩
theorem pi_or {t t' : TI} (h : PI X tg e t) (h' : PI X tg e t') : PI X tg e (fun σ H Q => t σ H Q ∨ t' σ H Q) := ⟨fun pins s σ H R I q => q.elim (h.run pins s σ H R I) (h'.run pins s σ H R I)⟩
theorem pi_val {f : M Ret} (h : PE X e (tS X.K mg W f)) : PI X tg e (tIt X.K mg W (mItV f)) := pi_imp (pi_or (pi_list h) (pi_tup h)) fun σ H Q ⟨S, ρ, rel, p⟩ => by
  unfold mItV at p
  cases ef : f ρ with
  | no => rw [ef] at p; exact p.elim
  | exn x ρ1 => rw [ef] at p; exact .inl ⟨S, ρ, rel, by rw [ef]; exact p⟩
  | ok r ρ1 =>
    rw [ef] at p
    simp only [andThen_ok] at p
    cases r with
    | val d =>
      cases d <;> try (exact p.elim)
      · rename_i ds
        refine .inl ⟨S, ρ, rel, ?_⟩
        rw [ef]
        intro S1 H1 st r1 v hv hn
        cases hv with
        | lst h hs ha => exact ⟨_, rfl, ⟨_, .inl (.inl h)⟩, p S1 H1 st r1 _ (itOk_list h hs ha)⟩
      · rename_i ds
        refine .inr ⟨S, ρ, rel, ?_⟩
        rw [ef]
        intro S1 H1 st r1 v hv hn
        cases hv with
        | tup h hs ha => exact ⟨_, rfl, ⟨_, h⟩, p S1 H1 st r1 _ (itOk_tup h hs ha)⟩
    | fl ds =>
      refine .inl ⟨S, ρ, rel, ?_⟩
      rw [ef]
      intro S1 H1 st r1 v hv hn
      obtain ⟨S2, st2, r2, hr, hs⟩ := RRet.val st r1 hv hn
      cases hr with
      | lst h hs ha => exact ⟨_, rfl, ⟨_, .inl (.inl h)⟩, p S2 H1 st2 r2 _ (itOk_list h hs ha)⟩
    | fd kvs => exact p.elim
theorem pi_r1 {f : M BV} {p pos : Pos} (hg : Gl X "range") (hm : X.mg "range" = none) (ha : PE X a (tBo X.K mg W f)) (hs : starEach [a] X.env = [(false, eval a X.env)]) : PI X tg (.Call (.Name "range" p) [a] [] pos) (tIt X.K mg W (mItR1 f)) :=
  pi_imp (pi_range1 hg hm (pa_cons ha pa_nil hs) hs) fun σ H Q ⟨S, ρ, rel, p⟩ => by
    refine ⟨S, ρ, rel, Post.and p fun bv S1 ρ1 H1 st1 r1 p v hv => ?_⟩
    cases e1 : res ρ1 bv with
    | none => simp only [e1] at p; exact p.elim
    | some d =>
      simp only [e1] at p
      cases d <;> try (exact p.elim)
      rename_i j
      simp only at p
      split at p
      · rename_i hj
        exact ⟨j, by rw [(hv.read r1 e1).int], by omega, by omega, p S1 H1 st1 r1 _ itOk_range⟩
      · exact p.elim
theorem pi_r2 {f g : M BV} {p pos : Pos} (hg : Gl X "range") (hm : X.mg "range" = none) (ha : PE X a (tBo X.K mg W f)) (hb : PE X b (tBo X.K mg W g)) (hs : starEach [a, b] X.env = [(false, eval a X.env), (false, eval b X.env)]) (hs2 : starEach [b] X.env = [(false, eval b X.env)]) : PI X tg (.Call (.Name "range" p) [a, b] [] pos) (tIt X.K mg W (mItR2 f g)) :=
  pi_imp (pi_range2 hg hm (pa_cons ha (pa_cons hb pa_nil hs2) (by rw [hs, hs2])) hs hs2) fun σ H Q ⟨S, ρ, rel, p⟩ => by
    refine ⟨S, ρ, rel, Post.and p fun bv S1 ρ1 H1 st1 r1 p v hv => ?_⟩
    refine ⟨S1, ρ1, r1, Post.and (Post.from p st1) fun cv S2 ρ2 H2 st2 r2 p u hu => ?_⟩
    cases e1 : res ρ2 bv with
    | none => simp only [e1] at p; exact p.elim
    | some d =>
      cases e2 : res ρ2 cv with
      | none => simp only [e1, e2] at p; cases d <;> exact p.elim
      | some d2 =>
        simp only [e1, e2] at p
        cases d <;> try (exact p.elim)
        cases d2 <;> try (exact p.elim)
        rename_i i j
        simp only at p
        split at p
        · rename_i hj
          exact ⟨i, j, by rw [((hv.step st2).read r2 e1).int, (hu.read r2 e2).int], ⟨by omega, by omega, by omega, by omega⟩, p S2 H2 st2 r2 _ itOk_range⟩
        · exact p.elim
end
end Ev
namespace Ev
open PySem PySem.Spec PyProof.Rows L2
variable [Gh]
/-! ### a comprehension's block -/
def wipeR (ρ : Rho) : List Nat → Rho
  | [] => ρ
  | i :: is => (wipeR ρ is).set i .un
def keepDat : Option Slot → Slot
  | some (.dat d) => .dat d
  | _ => .un
def restR (ρ1 : Rho) : List Nat → Rho → Rho
  | [], ρ => ρ
  | i :: is, ρ => (restR ρ1 is ρ).set i (keepDat ρ1[i]?)
def freeAll (ρ : Rho) (own : List Nat) : Bool := own.all fun i => Slot.free? ρ[i]?
def lcLoop (own : List Nat) (tg : Tgt) (tt : M Bool) (te : M Ret) : List D → List D → Rho → Out (List D)
  | [], acc, ρ => .ok acc ρ
  | d :: ds, acc, ρ => match asgT tg d ρ with
    | none => .no
    | some ρ1 => (tt ρ1).andThen fun b ρ2 => if b = true then
        (te ρ2).andThen fun r ρ3 => if acc.length < 16777216 ∧ freeAll ρ3 own = true then lcLoop own tg tt te ds (acc ++ [r.toD]) (wipeR ρ3 own) else .no
      else if freeAll ρ2 own = true then lcLoop own tg tt te ds acc (wipeR ρ2 own) else .no
def lcFin (own : List Nat) (ρ1 : Rho) : Out (List D) → Out Ret
  | .ok acc ρ => .ok (.fl acc) (restR ρ1 own ρ)
  | _ => .no
def mLc (own : List Nat) (it : M (List D)) (tg : Tgt) (tt : M Bool) (te : M Ret) : M Ret := fun ρ => (it ρ).andThen fun ds ρ1 =>
  if freeAll ρ1 own = true then lcFin own ρ1 (lcLoop own tg tt te ds [] (wipeR ρ1 own)) else .no
section
variable {K : PySem.W.Frag} {mg : Str → Option Value} {W : WX} {H H' H1 H2 H3 : Hp} {S S' S1 S2 S3 : AS} {ρ ρ' ρ1 ρ2 ρ3 : Rho} {σ σ' σ1 σ2 σ3 : L2.St}
theorem wipeR_len (ρ : Rho) : ∀ own : List Nat, (wipeR ρ own).length = ρ.length
  | [] => rfl
  | i :: is => by unfold wipeR; rw [List.length_set, wipeR_len ρ is]
theorem wipeR_get {i : Nat} : ∀ {own : List Nat}, (wipeR ρ own)[i]? = if i ∈ own ∧ i < ρ.length then some .un else ρ[i]?
  | [] => by simp [wipeR]
  | j :: is => by
    unfold wipeR
    by_cases e : j = i
    · subst e
      by_cases h : j < ρ.length
      · rw [List.getElem?_set_self (by rw [wipeR_len]; exact h), if_pos ⟨List.mem_cons_self .., h⟩]
      · rw [List.getElem?_eq_none (by rw [List.length_set, wipeR_len]; omega), if_neg (fun z => h z.2), List.getElem?_eq_none (by omega)]
    · rw [List.getElem?_set_ne e, wipeR_get (own := is)]
      have : (i ∈ j :: is) ↔ i ∈ is := ⟨fun h => (List.mem_cons.mp h).resolve_left fun z => e z.symm, fun h => List.mem_cons_of_mem _ h⟩
      simp only [this]
theorem wipe_get {i : Nat} : ∀ {own : List Nat}, (L2.wipe σ own)[i]? = if i ∈ own ∧ i < σ.length then some none else σ[i]?
  | [] => by simp [L2.wipe]
  | j :: is => by
    unfold L2.wipe
    by_cases e : j = i
    · subst e
      by_cases h : j < σ.length
      · rw [List.getElem?_set_self (by rw [L2.wipe_length]; exact h), if_pos ⟨List.mem_cons_self .., h⟩]
      · rw [List.getElem?_eq_none (by rw [List.length_set, L2.wipe_length]; omega), if_neg (fun z => h z.2), List.getElem?_eq_none (by omega)]
    · rw [List.getElem?_set_ne e, wipe_get (own := is)]
      have : (i ∈ j :: is) ↔ i ∈ is := ⟨fun h => (List.mem_cons.mp h).resolve_left fun z => e z.symm, fun h => List.mem_cons_of_mem _ h⟩
      simp only [this]
theorem wipe_same {own : List Nat} (hl : σ'.length = σ.length) (h : ∀ i, i ∉ own → σ'[i]? = (L2.wipe σ own)[i]?) : L2.wipe σ' own = L2.wipe σ own := by
  apply List.ext_getElem?
  intro i
  rw [wipe_get, wipe_get]
  by_cases hi : i ∈ own
  · by_cases hlt : i < σ.length
    · rw [if_pos ⟨hi, by omega⟩, if_pos ⟨hi, hlt⟩]
    · rw [if_neg (fun z => hlt (by omega)), if_neg (fun z => hlt z.2), List.getElem?_eq_none (by omega), List.getElem?_eq_none (by omega)]
  · rw [if_neg (fun z => hi z.1), if_neg (fun z => hi z.1)]
    have := h i hi
    rw [wipe_get, if_neg (fun z => hi z.1)] at this
    exact this
theorem freeAll_of {own : List Nat} (h : freeAll ρ own = true) {i : Nat} (hi : i ∈ own) : ∃ s, ρ[i]? = some s ∧ s.own? ≠ some false := free_of (List.all_eq_true.mp h i hi)
theorem adr_wipe {own : List Nat} {i : Nat} (hi : i ∉ own) : adr (L2.wipe σ own) i = adr σ i := by
  unfold adr
  rw [wipe_get, if_neg (fun z => hi z.1)]
/-- a block begins (or a turn): its own names are forgotten -/
theorem Rel.wipe (r : Rel K S ρ σ H) {own : List Nat} (hf : ∀ i ∈ own, ∀ s, ρ[i]? = some s → s.own? ≠ some false) : Rel K S (wipeR ρ own) (L2.wipe σ own) H ∧ Step S ρ σ H S (wipeR ρ own) (L2.wipe σ own) H := by
  have keep : ∀ {i : Nat} {s : Slot} {z : Bool}, (wipeR ρ own)[i]? = some s → s.own? = some z → i ∉ own ∧ ρ[i]? = some s := fun {i s z} h1 h2 => by
    rw [wipeR_get] at h1
    split at h1
    · cases h1; cases h2
    · rename_i hn
      refine ⟨fun hi => hn ⟨hi, (List.getElem?_eq_some_iff.mp h1).1⟩, h1⟩
  refine ⟨⟨by rw [wipeR_len, L2.wipe_length]; exact r.len, fun i s h => ?_, fun i j s t y z a h1 h2 h3 h4 h5 h6 => ?_, r.live⟩, ⟨fun _ h => h, fun _ _ => rfl, fun _ _ h _ => h, fun _ o h => ⟨o, h⟩, fun _ h => .inl h, fun a ⟨i, s, z, h1, h2, h3⟩ => ?_, fun a ⟨i, s, h1, h2, h3⟩ => ?_, fun i s h1 h2 => ?_⟩⟩
  · rw [wipeR_get] at h
    split at h
    · cases h; exact trivial
    · rename_i hn
      have hl := (List.getElem?_eq_some_iff.mp h).1
      rw [wipe_get, if_neg (fun z => hn ⟨z.1, hl⟩)]
      exact r.slot i s h
  · obtain ⟨k1, e1⟩ := keep h1 h3
    obtain ⟨k2, e2⟩ := keep h2 h4
    exact r.inj i j s t y z a e1 e2 h3 h4 ((ter_at (adr_wipe k1)).mp h5) ((ter_at (adr_wipe k2)).mp h6)
  · obtain ⟨k1, e1⟩ := keep h1 h2
    exact .inl ⟨i, s, z, e1, h2, (ter_at (adr_wipe k1)).mp h3⟩
  · obtain ⟨k1, e1⟩ := keep h1 h2
    rw [adr_wipe k1] at h3
    exact .inl ⟨i, s, e1, h2, h3⟩
  · have hn : i ∉ own := fun hi => hf i hi s h1 h2
    exact ⟨s, by rw [wipeR_get, if_neg (fun z => hn z.1)]; exact h1, h2, rfl, adr_wipe hn⟩
theorem restR_len (ρ1 ρ : Rho) : ∀ own : List Nat, (restR ρ1 own ρ).length = ρ.length
  | [] => rfl
  | i :: is => by unfold restR; rw [List.length_set, restR_len ρ1 ρ is]
theorem restR_get {i : Nat} : ∀ {own : List Nat}, (restR ρ1 own ρ)[i]? = if i ∈ own ∧ i < ρ.length then some (keepDat ρ1[i]?) else ρ[i]?
  | [] => by simp [restR]
  | j :: is => by
    unfold restR
    by_cases e : j = i
    · subst e
      by_cases h : j < ρ.length
      · rw [List.getElem?_set_self (by rw [restR_len]; exact h), if_pos ⟨List.mem_cons_self .., h⟩]
      · rw [List.getElem?_eq_none (by rw [List.length_set, restR_len]; omega), if_neg (fun z => h z.2), List.getElem?_eq_none (by omega)]
    · rw [List.getElem?_set_ne e, restR_get (own := is)]
      have : (i ∈ j :: is) ↔ i ∈ is := ⟨fun h => (List.mem_cons.mp h).resolve_left fun z => e z.symm, fun h => List.mem_cons_of_mem _ h⟩
      simp only [this]
theorem keepDat_own (o : Option Slot) : (keepDat o).own? = none := by
  cases o with
  | none => rfl
  | some s => cases s <;> rfl
/-- the block is left: the names around stand as before -/
theorem Rel.rest (r1 : Rel K S1 ρ1 σ H1) {own : List Nat} (hf : freeAll ρ1 own = true) (r : Rel K S ρ (L2.wipe σ own) H) (st : Step S1 ρ1 σ H1 S ρ (L2.wipe σ own) H) :
    Rel K S (restR ρ1 own ρ) σ H ∧ Step S1 ρ1 σ H1 S (restR ρ1 own ρ) σ H := by
  have keep : ∀ {i : Nat} {s : Slot} {z : Bool}, (restR ρ1 own ρ)[i]? = some s → s.own? = some z → i ∉ own ∧ ρ[i]? = some s := fun {i s z} h1 h2 => by
    rw [restR_get] at h1
    split at h1
    · cases h1; rw [keepDat_own] at h2; cases h2
    · rename_i hn
      exact ⟨fun hi => hn ⟨hi, (List.getElem?_eq_some_iff.mp h1).1⟩, h1⟩
  have hl : ρ.length = σ.length := by rw [r.len, L2.wipe_length]
  refine ⟨⟨by rw [restR_len]; exact hl, fun i s h => ?_, fun i j s t y z a h1 h2 h3 h4 h5 h6 => ?_, r.live⟩, ⟨st.sub, st.at_, st.frame, st.there, st.new, fun a ⟨i, s, z, h1, h2, h3⟩ => ?_, fun a ⟨i, s, h1, h2, h3⟩ => ?_, fun i s h1 h2 => ?_⟩⟩
  · rw [restR_get] at h
    split at h
    · rename_i hi
      cases h
      obtain ⟨s1, e1, _⟩ := freeAll_of hf hi.1
      rw [e1]
      have q := r1.slot i s1 e1
      cases s1 with
      | dat d =>
        show SlotOk K S H σ[i]?.join (.dat d)
        cases ex : σ[i]?.join with
        | none => rw [ex] at q; exact q.elim
        | some v => rw [ex] at q; exact R.stay st.stay d v q
      | _ => exact trivial
    · rename_i hn
      have hlt := (List.getElem?_eq_some_iff.mp h).1
      have q := r.slot i s h
      rw [wipe_get, if_neg (fun z => hn ⟨z.1, hlt⟩)] at q
      exact q
  · obtain ⟨k1, e1⟩ := keep h1 h3
    obtain ⟨k2, e2⟩ := keep h2 h4
    exact r.inj i j s t y z a e1 e2 h3 h4 ((ter_at (adr_wipe k1)).mpr h5) ((ter_at (adr_wipe k2)).mpr h6)
  · obtain ⟨k1, e1⟩ := keep h1 h2
    exact st.own a ⟨i, s, z, e1, h2, (ter_at (adr_wipe k1)).mpr h3⟩
  · obtain ⟨k1, e1⟩ := keep h1 h2
    exact st.ownZ a ⟨i, s, e1, h2, by rw [adr_wipe k1]; exact h3⟩
  · obtain ⟨t, e1, e2, e0, e3⟩ := st.ino i s h1 h2
    have hn : i ∉ own := fun hi => by
      obtain ⟨s', e', n'⟩ := freeAll_of hf hi
      rw [h1] at e'
      cases e'
      exact n' h2
    have e4 : (restR ρ1 own ρ)[i]? = some t := by rw [restR_get, if_neg (fun z => hn z.1), e1]
    exact ⟨t, e4, e2, e0, (adr_wipe hn).symm.trans e3⟩
/-- an object that stands aside stays through a step -/
structure Aside (S : AS) (ρ : Rho) (σ : L2.St) (H : Hp) (p : Addr) (o : HO) : Prop where
  at_ : H p = some o
  nS : ¬ S p
  nO : ¬ Own ρ σ p
theorem Aside.step {p : Addr} {o : HO} (a : Aside S ρ σ H p o) (st : Step S ρ σ H S' ρ' σ' H') : Aside S' ρ' σ' H' p o where
  at_ := st.frame p o a.at_ a.nO
  nS := fun h => by
    rcases st.new p h with z | z | z
    · exact a.nS z
    · rw [a.at_] at z; cases z
    · exact a.nO z.own
  nO := fun h => by
    rcases st.own p h with z | z
    · exact a.nO z
    · rw [a.at_] at z; cases z
theorem Aside.set {p : Addr} {o o' : HO} (a : Aside S ρ σ H p o) (r : Rel K S ρ σ H) : Aside S ρ σ (upd H p o') p o' ∧ Rel K S ρ σ (upd H p o') ∧ Stay S S H (upd H p o') := by
  have ne : ∀ b, S b → b ≠ p := fun b h e => by subst e; exact a.nS h
  have st : Stay S S H (upd H p o') := ⟨fun _ h => h, fun b h => upd_ne (ne b h)⟩
  refine ⟨⟨upd_same, a.nS, a.nO⟩, ⟨r.len, fun i s h => ?_, r.inj, fun b h => ?_⟩, st⟩
  · have q := r.slot i s h
    cases s with
    | un => exact trivial
    | giv d => exact SlotOk.giv_stay st q
    | bag G M T => exact q.bagAt (q.bag.move fun b xs h1 n hb => ⟨by rw [upd_ne (fun e => a.nO ⟨i, _, false, h, rfl, by rw [← e]; exact q.bagTer hb⟩)]; exact h1, n⟩)
    | dat d =>
      cases e : σ[i]?.join with
      | none => rw [e] at q; exact q.elim
      | some v => rw [e] at q; exact R.stay st d v q
    | lst z ds =>
      obtain ⟨b, u, e1, e2, e3, e4⟩ := q.own_adr (z := z) rfl
      have hb : b ≠ p := fun e => a.nO ⟨i, _, z, h, rfl, by rw [← e]; exact .inl (join_adr e1)⟩
      rw [e1] at q ⊢
      obtain ⟨vs, q1, q2, q3⟩ := q
      exact ⟨vs, by rw [upd_ne hb]; exact q1, q2, RAll.stay st ds vs q3⟩
    | dic z ds =>
      obtain ⟨b, u, e1, e2, e3, e4⟩ := q.own_adr (z := z) rfl
      have hb : b ≠ p := fun e => a.nO ⟨i, _, z, h, rfl, by rw [← e]; exact .inl (join_adr e1)⟩
      rw [e1] at q ⊢
      obtain ⟨vs, q1, q2, q3⟩ := q
      exact ⟨vs, by rw [upd_ne hb]; exact q1, q2, RKv.stay st ds vs q3⟩
  · obtain ⟨u, e⟩ := r.live b h
    exact ⟨u, by rw [upd_ne (ne b h)]; exact e⟩
/-- .. seen from a start at which it was not there -/
theorem Step.side {p : Addr} {o : HO} (st : Step S1 ρ1 σ1 H1 S ρ σ H) (l : Live S1 H1) (hp : H1 p = none) : Step S1 ρ1 σ1 H1 S ρ σ (upd H p o) := by
  have ne : ∀ b u, H1 b = some u → b ≠ p := fun b u h e => by subst e; rw [hp] at h; cases h
  refine ⟨st.sub, fun b h => ?_, fun b u h n => ?_, fun b u h => ?_, st.new, st.own, st.ownZ, st.ino⟩
  · obtain ⟨u, e⟩ := l b h
    rw [upd_ne (ne b u e)]
    exact st.at_ b h
  · rw [upd_ne (ne b u h)]; exact st.frame b u h n
  · rw [upd_ne (ne b u h)]; exact st.there b u h
end
section
variable {X : Cx} {mg : Str → Option Value} {W : WX}
/-- a comprehension's loop -/
theorem lcIn_fwd {K : PySem.W.Frag} {own : List Nat} {tg : Tgt} {tt : M Bool} {te : M Ret} {σ : L2.St} {H1 : Hp} {Q : VK} {S1 : AS} {ρ1 : Rho} {ds : List D} {J : It} (hsub : ∀ i ∈ tg.slots, i ∈ own) (r1 : Rel K S1 ρ1 σ H1) (hJ : ItOk K S1 H1 ds J) (hf : freeAll ρ1 own = true)
    (p1 : Post K mg W S1 ρ1 σ H1 (fun r S' ρ' H' => ∀ v, RRet K S' ρ' σ H' v r → RNew ρ1 σ H1 v r → Q v H') (lcFin own ρ1 (lcLoop own tg tt te ds [] (wipeR ρ1 own)))) :
    tLc (fun _ H R => R J H) (tGt K tg) (tTe K mg (fun _ _ _ _ => False) tt) (tS K mg (fun _ _ _ _ => False) te) own σ H1 Q := by
  intro D hD
  -- the loop's invariant
  refine ⟨fun i m H2 => m = ds.length - i ∧ i ≤ ds.length ∧ ∃ S2 ρ2 acc vs, Rel K S2 ρ2 (L2.wipe σ own) H2 ∧ Step S1 ρ1 σ H1 S2 ρ2 (L2.wipe σ own) H2 ∧ Aside S2 ρ2 (L2.wipe σ own) H2 D (.lst vs) ∧ RAll K H2 S2 vs acc ∧
      Post K mg W S1 ρ1 σ H1 (fun r S' ρ' H' => ∀ v, RRet K S' ρ' σ H' v r → RNew ρ1 σ H1 v r → Q v H') (lcFin own ρ1 (lcLoop own tg tt te (ds.drop i) acc ρ2)), ⟨ds.length, by omega, Nat.zero_le _, ?_⟩, ?_⟩
  · obtain ⟨r2, st2⟩ := r1.wipe (own := own) fun i hi s hs => by
      obtain ⟨s', e', n'⟩ := freeAll_of hf hi
      rw [hs] at e'
      cases e'
      exact n'
    obtain ⟨r3, st3, nS, nO⟩ := r2.fresh (o := .lst []) hD
    exact ⟨S1, wipeR ρ1 own, [], [], r3, st2.trans st3, ⟨upd_same, nS, nO⟩, .nil, by rw [List.drop_zero]; exact p1⟩
  · rintro i m H2 ⟨rfl, hi, S2, ρ2, acc, vs, r2, st2, as2, ra, p2⟩
    by_cases hlt : i < ds.length
    · refine .inr ⟨hJ.go S2 H2 i st2.stay r2.live hlt, fun H' => ∃ S' ρ' acc vs, Rel K S' ρ' (L2.wipe σ own) H' ∧ Step S1 ρ1 σ H1 S' ρ' (L2.wipe σ own) H' ∧ Aside S' ρ' (L2.wipe σ own) H' D (.lst vs) ∧ RAll K H' S' vs acc ∧
        Post K mg W S1 ρ1 σ H1 (fun r S' ρ' H' => ∀ v, RRet K S' ρ' σ H' v r → RNew ρ1 σ H1 v r → Q v H') (lcFin own ρ1 (lcLoop own tg tt te (ds.drop (i + 1)) acc ρ')), fun H' h => ⟨ds.length - (i + 1), by omega, rfl, hlt, h⟩, fun x H3 hy => ?_⟩
      obtain ⟨S3, d, hd, ex, hr⟩ := hJ.yld S2 H2 i x H3 st2.stay r2.live hlt hy
      obtain ⟨r3, st3⟩ := r2.ext ex
      have as3 := as2.step st3
      rw [List.drop_eq_getElem_cons hlt] at p2
      have hd' : ds[i] = d := by rw [List.getElem?_eq_getElem hlt] at hd; exact Option.some.inj hd
      rw [hd'] at p2
      simp only [lcLoop] at p2
      cases e1 : asgT tg d ρ2 with
      | none => simp only [e1] at p2; exact p2.elim
      | some ρ4 =>
        simp only [e1] at p2
        refine ⟨S3, ρ2, d, ρ4, r3, hr, e1, fun σ4 r4 st4 hl4 hk4 => ?_⟩
        have hw : L2.wipe σ4 own = L2.wipe σ own := wipe_same (by rw [hl4, L2.wipe_length]) fun j hj => hk4 j fun z => hj (hsub j z)
        refine ⟨hw, ?_⟩
        have st24 := (st2.trans st3).trans st4
        have as4 := as3.step st4
        have ra4 := (RAll.stay st3.stay _ _ ra).stay st4.stay
        -- a turn's end: the own names are forgotten again
        have turn : ∀ {S5 : AS} {ρ5 : Rho} {H5 : Hp}, Rel K S5 ρ5 σ4 H5 → Step S1 ρ1 σ H1 S5 ρ5 σ4 H5 → ∀ {o : HO}, Aside S5 ρ5 σ4 H5 D o → freeAll ρ5 own = true →
            Rel K S5 (wipeR ρ5 own) (L2.wipe σ own) H5 ∧ Step S1 ρ1 σ H1 S5 (wipeR ρ5 own) (L2.wipe σ own) H5 ∧ Aside S5 (wipeR ρ5 own) (L2.wipe σ own) H5 D o := fun {S5 ρ5 H5} r5 st5 {o} as5 hfr => by
          obtain ⟨r6, st6⟩ := r5.wipe (own := own) fun i hi s hs => by
            obtain ⟨s', e', n'⟩ := freeAll_of hfr hi
            rw [hs] at e'
            cases e'
            exact n'
          rw [hw] at r6 st6
          exact ⟨r6, st5.trans st6, as5.step st6⟩
        refine ⟨S3, ρ4, r4, ?_⟩
        cases et : tt ρ4 with
        | no => rw [et] at p2; exact p2.elim
        | exn x ρ5 => rw [et] at p2; exact p2.elim
        | ok b ρ5 =>
          rw [et] at p2
          simp only [andThen_ok] at p2
          intro S5 H5 st5 r5
          have as5 := as4.step st5
          have ra5 := RAll.stay st5.stay _ _ ra4
          cases b with
          | false =>
            simp only [Bool.false_eq_true, if_false] at p2
            show if false = true then _ else _
            rw [if_neg Bool.false_ne_true]
            by_cases hfr : freeAll ρ5 own = true
            case neg => rw [if_neg hfr] at p2; exact p2.elim
            rw [if_pos hfr] at p2
            obtain ⟨r6, st6, as6⟩ := turn r5 (st24.trans st5) as5 hfr
            exact ⟨S5, _, acc, vs, r6, st6, as6, ra5, p2⟩
          | true =>
            simp only [if_true] at p2
            show if true = true then _ else _
            rw [if_pos rfl]
            refine ⟨S5, ρ5, r5, ?_⟩
            cases ee : te ρ5 with
            | no => rw [ee] at p2; exact p2.elim
            | exn x ρ6 => rw [ee] at p2; exact p2.elim
            | ok r ρ6 =>
              rw [ee] at p2
              simp only [andThen_ok] at p2
              intro S6 H6 st6 r6 v hv hn
              by_cases hfr : acc.length < 16777216 ∧ freeAll ρ6 own = true
              case neg => rw [if_neg hfr] at p2; exact p2.elim
              rw [if_pos hfr] at p2
              obtain ⟨S7, st7, r7, hr7, _⟩ := RRet.val st6 r6 hv hn
              have as7 := as5.step st7
              have ra7 := RAll.stay st7.stay _ _ ra5
              obtain ⟨r8, st8, as8⟩ := turn r7 ((st24.trans st5).trans st7) as7 hfr.2
              obtain ⟨as9, r9, sty⟩ := as8.set (o' := .lst (vs ++ [v])) r8
              refine ⟨vs, as7.at_, by rw [ra7.length, line_eq]; exact hfr.1, S7, _, acc ++ [r.toD], vs ++ [v], r9, st8.side r1.live hD, as9, RAll.stay sty _ _ (ra7.append (.cons hr7 .nil)), p2⟩
    · have hle : ds.length ≤ i := by omega
      refine .inl ⟨hJ.stop S2 H2 i st2.stay r2.live hle, ?_⟩
      rw [List.drop_eq_nil_of_le hle] at p2
      obtain ⟨r3, st3⟩ := r1.rest hf r2 st2
      refine p2 S2 H2 st3 r3 (.ref D) ⟨D, vs, rfl, as2.at_, as2.nS, ra, fun ho => ?_⟩ fun b eb => by cases eb; exact .inl hD
      obtain ⟨j, s, z, h1, h2, h3⟩ := ho
      rw [restR_get] at h1
      split at h1
      · cases h1; rw [keepDat_own] at h2; cases h2
      · rename_i hn
        have hlt2 := (List.getElem?_eq_some_iff.mp h1).1
        exact as2.nO ⟨j, s, z, h1, h2, (ter_at (adr_wipe (fun hj => hn ⟨hj, hlt2⟩))).mpr h3⟩
/-- a comprehension: its reading from the readings of its parts -/
theorem lc_fwd {K : PySem.W.Frag} {own : List Nat} {it : M (List D)} {tg : Tgt} {tt : M Bool} {te : M Ret} {σ : L2.St} {H : Hp} {Q : VK} {S : AS} {ρ : Rho} (hsub : ∀ i ∈ tg.slots, i ∈ own) (rel : Rel K S ρ σ H)
    (p : Post K mg W S ρ σ H (fun r S' ρ' H' => ∀ v, RRet K S' ρ' σ H' v r → RNew ρ σ H v r → Q v H') (mLc own it tg tt te ρ)) :
    tLc (tIt K mg W it) (tGt K tg) (tTe K mg (fun _ _ _ _ => False) tt) (tS K mg (fun _ _ _ _ => False) te) own σ H Q := by
  refine ⟨S, ρ, rel, Post.and p fun ds S1 ρ1 H1 st1 r1 p J hJ => ?_⟩
  by_cases hf : freeAll ρ1 own = true
  case neg => rw [if_neg hf] at p; exact p.elim
  rw [if_pos hf] at p
  exact lcIn_fwd hsub r1 hJ hf ((Post.from p st1).imp fun r S2 ρ2 H2 st2 r2 q v hv hn => q v hv (hn.back st1))
end
end Ev
namespace Ev
open PySem PySem.Spec PyProof.Rows L2
variable [Gh]
/-! ### statements -/
inductive OutS where
  | nx (ρ : Rho)
  | rt (r : Ret) (ρ : Rho)
  | bk (ρ : Rho)
  | ct (ρ : Rho)
  | exn (e : Exn) (ρ : Rho)
  | no
abbrev MS := Rho → OutS
def Out.thenS {α : Type} (o : Out α) (f : α → Rho → OutS) : OutS := match o with
  | .ok a ρ => f a ρ
  | .exn e ρ => .exn e ρ
  | .no => .no
@[simp] theorem thenS_ok {α : Type} (a : α) (ρ : Rho) (f : α → Rho → OutS) : (Out.ok a ρ).thenS f = f a ρ := rfl
@[simp] theorem thenS_exn {α : Type} (e : Exn) (ρ : Rho) (f : α → Rho → OutS) : (Out.exn e ρ : Out α).thenS f = .exn e ρ := rfl
@[simp] theorem thenS_no {α : Type} (f : α → Rho → OutS) : (Out.no : Out α).thenS f = .no := rfl
def Ret.slot : Ret → Slot
  | .val d => .dat d
  | .fl ds => .lst true ds
  | .fd kvs => .dic true kvs
def sNext : MS := fun ρ => .nx ρ
def sBreak : MS := fun ρ => .bk ρ
def sCont : MS := fun ρ => .ct ρ
def sSeq (f g : MS) : MS := fun ρ => match f ρ with
  | .nx ρ' => g ρ'
  | o => o
def sExpr (f : M Ret) : MS := fun ρ => (f ρ).thenS fun _ ρ' => .nx ρ'
def sRet (f : M Ret) : MS := fun ρ => (f ρ).thenS fun r ρ' => .rt r ρ'
def sRetN : MS := fun ρ => .rt (.val .none) ρ
def sIf (t : M Bool) (f g : MS) : MS := fun ρ => (t ρ).thenS fun k ρ' => if k = true then f ρ' else g ρ'
def sAsgN (i : Nat) (f : M Ret) : MS := fun ρ => (f ρ).thenS fun r ρ' => if Slot.free? ρ'[i]? = true then .nx (ρ'.set i r.slot) else .no
def sAsgT (t : Tgt) (f : M Ret) : MS := fun ρ => (f ρ).thenS fun r ρ' => match asgT t r.toD ρ' with
  | some ρ2 => .nx ρ2
  | none => .no
def forLoop (tg : Tgt) (body : MS) : List D → Rho → OutS
  | [], ρ => .nx ρ
  | d :: ds, ρ => match asgT tg d ρ with
    | none => .no
    | some ρ1 => match body ρ1 with
      | .nx ρ2 => forLoop tg body ds ρ2
      | .ct ρ2 => forLoop tg body ds ρ2
      | .bk ρ2 => .nx ρ2
      | .rt r ρ2 => .rt r ρ2
      | .exn e ρ2 => .exn e ρ2
      | .no => .no
def sFor (it : M (List D)) (tg : Tgt) (body : MS) : MS := fun ρ => (it ρ).thenS fun ds ρ1 => forLoop tg body ds ρ1
def whLoop (t : M Bool) (body : MS) : Nat → Rho → OutS
  | 0, _ => .no
  | n + 1, ρ => (t ρ).thenS fun k ρ1 => if k = true then (match body ρ1 with
      | .nx ρ2 => whLoop t body n ρ2
      | .ct ρ2 => whLoop t body n ρ2
      | .bk ρ2 => .nx ρ2
      | .rt r ρ2 => .rt r ρ2
      | .exn e ρ2 => .exn e ρ2
      | .no => .no)
    else .nx ρ1
def sWhile (n : Nat) (t : M Bool) (body : MS) : MS := whLoop t body n
section
variable (K : PySem.W.Frag) (mg : Str → Option Value) (W : WX)
def PostS (S : AS) (ρ : Rho) (σ : L2.St) (H : Hp) (D : Ends) : OutS → Prop
  | .nx ρ' => ∀ S' σ' H', Step S ρ σ H S' ρ' σ' H' → Rel K S' ρ' σ' H' → D.nx σ' H'
  | .bk ρ' => ∀ S' σ' H', Step S ρ σ H S' ρ' σ' H' → Rel K S' ρ' σ' H' → D.bk σ' H'
  | .ct ρ' => ∀ S' σ' H', Step S ρ σ H S' ρ' σ' H' → Rel K S' ρ' σ' H' → D.ct σ' H'
  | .rt r ρ' => ∀ S' σ' H' v, Step S ρ σ H S' ρ' σ' H' → Rel K S' ρ' σ' H' → RRet K S' ρ' σ' H' v r → RNew ρ σ H v r → D.rt v H'
  | .exn e ρ' => ∀ S' σ' H' cls dx, Step S ρ σ H S' ρ' σ' H' → Rel K S' ρ' σ' H' → XRel K mg S' H' e cls dx → W cls dx σ' H'
  | .no => False
def tSt (f : MS) : TS := fun D σ H => ∃ S ρ, Rel K S ρ σ H ∧ PostS K mg W S ρ σ H D (f ρ)
end
section
variable {K : PySem.W.Frag} {mg : Str → Option Value} {W : WX} {H H' H1 H2 H3 : Hp} {S S' S1 S2 S3 : AS} {ρ ρ' ρ1 ρ2 ρ3 : Rho} {σ σ' σ1 σ2 σ3 : L2.St}
theorem RNew.back' (st : Step S ρ σ H S1 ρ1 σ1 H1) {v : V} {r : Ret} (h : RNew ρ1 σ1 H1 v r) : RNew ρ σ H v r := by
  have go : (∀ a, v = .ref a → H1 a = none ∨ OwnZ ρ1 σ1 a) → ∀ a, v = .ref a → H a = none ∨ OwnZ ρ σ a := fun hn a ea => (hn a ea).elim (fun q => .inl (by
    cases e : H a with
    | none => rfl
    | some o => obtain ⟨o', e'⟩ := st.there a o e; rw [q] at e'; cases e')) fun q => (st.ownZ a q).symm
  cases r with
  | val _ => exact trivial
  | fl _ => exact go h
  | fd _ => exact go h
theorem PostS.from {D : Ends} {o : OutS} (p : PostS K mg W S ρ σ H D o) (st : Step S ρ σ H S1 ρ1 σ1 H1) : PostS K mg W S1 ρ1 σ1 H1 D o := by
  cases o with
  | nx ρ2 => exact fun S2 σ2 H2 st2 r2 => p S2 σ2 H2 (st.trans st2) r2
  | bk ρ2 => exact fun S2 σ2 H2 st2 r2 => p S2 σ2 H2 (st.trans st2) r2
  | ct ρ2 => exact fun S2 σ2 H2 st2 r2 => p S2 σ2 H2 (st.trans st2) r2
  | rt r ρ2 => exact fun S2 σ2 H2 v st2 r2 hv hn => p S2 σ2 H2 v (st.trans st2) r2 hv (hn.back' st)
  | exn x ρ2 => exact fun S2 σ2 H2 cls dx st2 r2 xr => p S2 σ2 H2 cls dx (st.trans st2) r2 xr
  | no => exact p
/-- an expression, then more -/
theorem PostS.and {α : Type} {D : Ends} {o : Out α} {f : α → Rho → OutS} {P' : α → AS → Rho → Hp → Prop} (p : PostS K mg W S ρ σ H D (o.thenS f))
    (h : ∀ a S1 ρ1 H1, Step S ρ σ H S1 ρ1 σ H1 → Rel K S1 ρ1 σ H1 → PostS K mg W S ρ σ H D (f a ρ1) → P' a S1 ρ1 H1) : Post K mg W S ρ σ H P' o := by
  cases o with
  | ok a ρ1 => exact fun S1 H1 st r => h a S1 ρ1 H1 st r p
  | exn x ρ1 => exact fun S1 H1 cls dx st r xr => p S1 σ H1 cls dx st r xr
  | no => exact p
/-- a block's post with another end -/
theorem PostS.ends {D D' : Ends} {o : OutS} (p : PostS K mg W S ρ σ H D o) (h1 : ∀ σ H, D.nx σ H → D'.nx σ H) (h2 : ∀ v H, D.rt v H → D'.rt v H) (h3 : ∀ σ H, D.bk σ H → D'.bk σ H) (h4 : ∀ σ H, D.ct σ H → D'.ct σ H) : PostS K mg W S ρ σ H D' o := by
  cases o with
  | nx ρ2 => exact fun S2 σ2 H2 st2 r2 => h1 _ _ (p S2 σ2 H2 st2 r2)
  | bk ρ2 => exact fun S2 σ2 H2 st2 r2 => h3 _ _ (p S2 σ2 H2 st2 r2)
  | ct ρ2 => exact fun S2 σ2 H2 st2 r2 => h4 _ _ (p S2 σ2 H2 st2 r2)
  | rt r ρ2 => exact fun S2 σ2 H2 v st2 r2 hv hn => h2 _ _ (p S2 σ2 H2 v st2 r2 hv hn)
  | exn x ρ2 => exact p
  | no => exact p
/-- a result, new or not, is stored -/
theorem store_ret (rel : Rel K S ρ σ H) (st : Step S ρ σ H S' ρ' σ' H') (r' : Rel K S' ρ' σ' H') {v : V} {r : Ret} (hv : RRet K S' ρ' σ' H' v r) (hn : RNew ρ σ H v r) {i : Nat} (hf : Slot.free? ρ'[i]? = true) :
    Rel K S' (ρ'.set i r.slot) (σ'.set i (some v)) H' ∧ Step S ρ σ H S' (ρ'.set i r.slot) (σ'.set i (some v)) H' := by
  obtain ⟨s, hs, hz⟩ := free_of hf
  cases r with
  | val d => exact ⟨r'.put hs hz hv (.inl rfl), st.trans (Step.put r' hs hz rfl)⟩
  | fl ds =>
    obtain ⟨a, vs, rfl, ha, nS, hr, nO⟩ := hv
    refine ⟨r'.put (t := .lst true ds) hs hz ⟨vs, ha, nS, hr⟩ (.inr ⟨rfl, fun b e => by cases e; exact nO⟩), ?_⟩
    have keep : ∀ {j : Nat} {u : Slot} {y : Bool} {b : Addr}, (ρ'.set i (.lst true ds))[j]? = some u → u.own? = some y → Ter (σ'.set i (some (.ref a))) j u b → (j = i ∧ b = a) ∨ (ρ'[j]? = some u ∧ Ter σ' j u b) := fun {j u y b} e1 e2 e3 => by
      rcases getset e1 with ⟨rfl, rfl⟩ | ⟨hne, e⟩
      · have hl2 : j < σ'.length := by rw [← r'.len]; exact (List.getElem?_eq_some_iff.mp hs).1
        have := adr_get ((ter_plain rfl).mp e3)
        rw [List.getElem?_set_self hl2] at this
        cases this
        exact .inl ⟨rfl, rfl⟩
      · exact .inr ⟨e, (ter_at (adr_set_ne hne)).mp e3⟩
    have na := hn a rfl
    refine ⟨st.sub, st.at_, st.frame, st.there, st.new, fun b ⟨j, u, z, h1, h2, h3⟩ => ?_, fun b ⟨j, u, h1, h2, h3⟩ => ?_, fun j u h1 h2 => ?_⟩
    · rcases keep h1 h2 h3 with ⟨_, rfl⟩ | ⟨e1, e2⟩
      · exact na.elim .inr fun q => .inl q.own
      · exact st.own b ⟨j, u, z, e1, h2, e2⟩
    · rcases keep h1 h2 (.inl h3) with ⟨_, rfl⟩ | ⟨e1, e2⟩
      · exact na.symm
      · exact st.ownZ b ⟨j, u, e1, h2, (ter_plain (plain_of h2)).mp e2⟩
    · obtain ⟨t, e1, e2, e0, e3⟩ := st.ino j u h1 h2
      have hne : j ≠ i := fun e => by subst e; rw [hs] at e1; cases e1; exact hz e2
      exact ⟨t, (List.getElem?_set_ne (fun e => hne e.symm)).trans e1, e2, e0, (adr_set_ne hne).trans e3⟩
  | fd ds =>
    obtain ⟨a, vs, rfl, ha, nS, hr, nO⟩ := hv
    refine ⟨r'.put (t := .dic true ds) hs hz ⟨vs, ha, nS, hr⟩ (.inr ⟨rfl, fun b e => by cases e; exact nO⟩), ?_⟩
    have keep : ∀ {j : Nat} {u : Slot} {y : Bool} {b : Addr}, (ρ'.set i (.dic true ds))[j]? = some u → u.own? = some y → Ter (σ'.set i (some (.ref a))) j u b → (j = i ∧ b = a) ∨ (ρ'[j]? = some u ∧ Ter σ' j u b) := fun {j u y b} e1 e2 e3 => by
      rcases getset e1 with ⟨rfl, rfl⟩ | ⟨hne, e⟩
      · have hl2 : j < σ'.length := by rw [← r'.len]; exact (List.getElem?_eq_some_iff.mp hs).1
        have := adr_get ((ter_plain rfl).mp e3)
        rw [List.getElem?_set_self hl2] at this
        cases this
        exact .inl ⟨rfl, rfl⟩
      · exact .inr ⟨e, (ter_at (adr_set_ne hne)).mp e3⟩
    have na := hn a rfl
    refine ⟨st.sub, st.at_, st.frame, st.there, st.new, fun b ⟨j, u, z, h1, h2, h3⟩ => ?_, fun b ⟨j, u, h1, h2, h3⟩ => ?_, fun j u h1 h2 => ?_⟩
    · rcases keep h1 h2 h3 with ⟨_, rfl⟩ | ⟨e1, e2⟩
      · exact na.elim .inr fun q => .inl q.own
      · exact st.own b ⟨j, u, z, e1, h2, e2⟩
    · rcases keep h1 h2 (.inl h3) with ⟨_, rfl⟩ | ⟨e1, e2⟩
      · exact na.symm
      · exact st.ownZ b ⟨j, u, e1, h2, (ter_plain (plain_of h2)).mp e2⟩
    · obtain ⟨t, e1, e2, e0, e3⟩ := st.ino j u h1 h2
      have hne : j ≠ i := fun e => by subst e; rw [hs] at e1; cases e1; exact hz e2
      exact ⟨t, (List.getElem?_set_ne (fun e => hne e.symm)).trans e1, e2, e0, (adr_set_ne hne).trans e3⟩
end
section
variable {X : Cx} {mg : Str → Option Value} {W : WX} {st : Stmt} {sts : List Stmt} {e c tg iter : Expr} {pos : Pos}
theorem ps_imp {t t' : TS} (h : PS X st t) (i : ∀ D σ H, t' D σ H → t D σ H) : PS X st t' := ⟨fun pins s σ H D I q => h.run pins s σ H D I (i D σ H q)⟩
theorem pss_imp {t t' : TS} (h : PSs X sts t) (i : ∀ D σ H, t' D σ H → t D σ H) : PSs X sts t' := ⟨fun pins s σ H D I q => h.run pins s σ H D I (i D σ H q)⟩
theorem ps_nextE (h : PS X st tNext) : PS X st (tSt X.K mg W sNext) := ps_imp h fun D σ H ⟨S, ρ, rel, p⟩ => p S σ H .refl rel
theorem pss_nilE : PSs X [] (tSt X.K mg W sNext) := pss_imp pss_nil fun D σ H ⟨S, ρ, rel, p⟩ => p S σ H .refl rel
theorem ps_breakE : PS X (.Break pos) (tSt X.K mg W sBreak) := ps_imp ps_break fun D σ H ⟨S, ρ, rel, p⟩ => p S σ H .refl rel
theorem ps_contE : PS X (.Continue pos) (tSt X.K mg W sCont) := ps_imp ps_continue fun D σ H ⟨S, ρ, rel, p⟩ => p S σ H .refl rel
theorem pss_consE {f g : MS} (h1 : PS X st (tSt X.K mg W f)) (h2 : PSs X sts (tSt X.K mg W g)) : PSs X (st :: sts) (tSt X.K mg W (sSeq f g)) := pss_imp (pss_cons h1 h2) fun D σ H ⟨S, ρ, rel, p⟩ => by
  refine ⟨S, ρ, rel, ?_⟩
  unfold sSeq at p
  cases e : f ρ with
  | nx ρ1 =>
    rw [e] at p
    exact fun S1 σ1 H1 st1 r1 => ⟨S1, ρ1, r1, PostS.from p st1⟩
  | bk ρ1 => rw [e] at p; exact p
  | ct ρ1 => rw [e] at p; exact p
  | rt r ρ1 => rw [e] at p; exact p
  | exn x ρ1 => rw [e] at p; exact p
  | no => rw [e] at p; exact p
theorem ps_exprE {f : M Ret} (h : PE X e (tS X.K mg W f)) (hs : swapsWith e none pos.line X.env = pure false) : PS X (.Expr e pos) (tSt X.K mg W (sExpr f)) := ps_imp (ps_expr h hs) fun D σ H ⟨S, ρ, rel, p⟩ =>
  ⟨S, ρ, rel, PostS.and p fun r S1 ρ1 H1 st1 r1 p v hv hn => p S1 σ H1 st1 r1⟩
theorem ps_retE {f : M Ret} (h : PE X e (tS X.K mg W f)) : PS X (.Return (some e) pos) (tSt X.K mg W (sRet f)) := ps_imp (ps_ret h) fun D σ H ⟨S, ρ, rel, p⟩ =>
  ⟨S, ρ, rel, PostS.and p fun r S1 ρ1 H1 st1 r1 p v hv hn => p S1 σ H1 v st1 r1 hv hn⟩
theorem ps_retNE : PS X (.Return none pos) (tSt X.K mg W sRetN) := ps_imp ps_retN fun D σ H ⟨S, ρ, rel, p⟩ => p S σ H .non .refl rel .non trivial
theorem ps_ifE {t : M Bool} {f g : MS} {a b : List Stmt} (hc : PT X c (tTe X.K mg W t)) (ha : PSs X a (tSt X.K mg W f)) (hb : PSs X b (tSt X.K mg W g)) : PS X (.If c a b pos) (tSt X.K mg W (sIf t f g)) := ps_imp (ps_if hc ha hb) fun D σ H ⟨S, ρ, rel, p⟩ =>
  ⟨S, ρ, rel, PostS.and p fun k S1 ρ1 H1 st1 r1 p => by
    cases k with
    | true => exact ⟨S1, ρ1, r1, PostS.from p st1⟩
    | false => exact ⟨S1, ρ1, r1, PostS.from p st1⟩⟩
/-- name = e, by its plain reading -/
theorem ps_asgNE {f : M Ret} {i : Nat} (h : ∀ te, PE X e te → PS X st (tAsg te (gName i))) (he : PE X e (tS X.K mg W f)) : PS X st (tSt X.K mg W (sAsgN i f)) := ps_imp (h _ he) fun D σ H ⟨S, ρ, rel, p⟩ =>
  ⟨S, ρ, rel, PostS.and p fun r S1 ρ1 H1 st1 r1 p v hv hn => by
    by_cases hf : Slot.free? ρ1[i]? = true
    · rw [if_pos hf] at p
      obtain ⟨r2, st2⟩ := store_ret rel st1 r1 hv hn hf
      exact p S1 _ H1 st2 r2
    · rw [if_neg hf] at p
      exact p.elim⟩
theorem ps_asgTE {f : M Ret} {t : Tgt} (h : ∀ te g, PE X e te → PG X tg g → PS X st (tAsg te g)) (he : PE X e (tS X.K mg W f)) (hg : PG X tg (tGt X.K t)) : PS X st (tSt X.K mg W (sAsgT t f)) := ps_imp (h _ _ he hg) fun D σ H ⟨S, ρ, rel, p⟩ => by
  refine ⟨S, ρ, rel, ?_⟩
  unfold sAsgT at p
  cases ef : f ρ with
  | no => rw [ef] at p; exact p
  | exn x ρ1 => rw [ef] at p; exact fun S1 H1 cls dx st r xr => p S1 σ H1 cls dx st r xr
  | ok r ρ1 =>
    rw [ef] at p
    simp only [thenS_ok] at p
    intro S1 H1 st1 r1 v hv hn
    obtain ⟨S2, st2, r2, hr, hs⟩ := RRet.val st1 r1 hv hn
    cases e1 : asgT t r.toD ρ1 with
    | none => simp only [e1] at p; exact p.elim
    | some ρ2 =>
      simp only [e1] at p
      exact ⟨S2, ρ1, r.toD, ρ2, r2, hr, e1, fun σ' r3 st3 _ _ => p S2 σ' H1 (st2.trans st3) r3⟩
theorem ps_forE {it : M (List D)} {t : Tgt} {f : MS} {body : List Stmt} (hp : PassesOwn (model X.prog X.w) X.A X.env X.xe) (hc : X.calm = true) (hi : PI X tg iter (tIt X.K mg W it)) (hg : PG X tg (tGt X.K t)) (hb : PSs X body (tSt X.K mg W f))
    (hx : ∀ (wi : TI) (g : TG) (tb : TS), PI X tg iter wi → PG X tg g → PSs X body tb → PS X (.For tg iter body [] pos) (tFor wi g tb)) : PS X (.For tg iter body [] pos) (tSt X.K mg W (sFor it t f)) :=
  ps_imp (hx _ _ _ hi hg hb) fun D σ H ⟨S, ρ, rel, p⟩ => by
    refine ⟨S, ρ, rel, PostS.and p fun ds S1 ρ1 H1 st1 r1 p J hJ => ?_⟩
    have p1 := PostS.from p st1
    refine ⟨fun i m σ2 H2 => m = ds.length - i ∧ i ≤ ds.length ∧ ∃ S2 ρ2, Rel X.K S2 ρ2 σ2 H2 ∧ Step S1 ρ1 σ H1 S2 ρ2 σ2 H2 ∧ PostS X.K mg W S1 ρ1 σ H1 D (forLoop t f (ds.drop i) ρ2), ⟨ds.length, by omega, Nat.zero_le _, S1, ρ1, r1, .refl, by rw [List.drop_zero]; exact p1⟩, ?_⟩
    rintro i m σ2 H2 ⟨rfl, hi, S2, ρ2, r2, st2, p2⟩
    by_cases hlt : i < ds.length
    · refine .inr ⟨hJ.go S2 H2 i st2.stay r2.live hlt, fun σ' H' => ∃ S' ρ', Rel X.K S' ρ' σ' H' ∧ Step S1 ρ1 σ H1 S' ρ' σ' H' ∧ PostS X.K mg W S1 ρ1 σ H1 D (forLoop t f (ds.drop (i + 1)) ρ'), fun σ' H' h => ⟨ds.length - (i + 1), by omega, rfl, hlt, h⟩, fun x H3 hy => ?_⟩
      obtain ⟨S3, d, hd, ex, hr⟩ := hJ.yld S2 H2 i x H3 st2.stay r2.live hlt hy
      obtain ⟨r3, st3⟩ := r2.ext ex
      rw [List.drop_eq_getElem_cons hlt] at p2
      have hd' : ds[i] = d := by rw [List.getElem?_eq_getElem hlt] at hd; exact Option.some.inj hd
      rw [hd'] at p2
      unfold forLoop at p2
      cases e1 : asgT t d ρ2 with
      | none => simp only [e1] at p2; exact p2.elim
      | some ρ4 =>
        simp only [e1] at p2
        refine ⟨S3, ρ2, d, ρ4, r3, hr, e1, fun σ4 r4 st4 _ _ => ⟨S3, ρ4, r4, ?_⟩⟩
        have st24 := (st2.trans st3).trans st4
        cases eb : f ρ4 with
        | nx ρ5 => simp only [eb] at p2; exact fun S5 σ5 H5 st5 r5 => ⟨S5, ρ5, r5, st24.trans st5, p2⟩
        | ct ρ5 => simp only [eb] at p2; exact fun S5 σ5 H5 st5 r5 => ⟨S5, ρ5, r5, st24.trans st5, p2⟩
        | bk ρ5 => simp only [eb] at p2; exact fun S5 σ5 H5 st5 r5 => p2 S5 σ5 H5 (st24.trans st5) r5
        | rt r ρ5 => simp only [eb] at p2; exact fun S5 σ5 H5 v st5 r5 hv hn => p2 S5 σ5 H5 v (st24.trans st5) r5 hv (hn.back' st24)
        | exn x ρ5 => simp only [eb] at p2; exact fun S5 σ5 H5 cls dx st5 r5 xr => p2 S5 σ5 H5 cls dx (st24.trans st5) r5 xr
        | no => simp only [eb] at p2; exact p2.elim
    · have hle : ds.length ≤ i := by omega
      rw [List.drop_eq_nil_of_le hle] at p2
      exact .inl ⟨hJ.stop S2 H2 i st2.stay r2.live hle, p2 S2 σ2 H2 st2 r2⟩
theorem ps_whileE {n : Nat} {t : M Bool} {f : MS} {body : List Stmt} (hp : PassesOwn (model X.prog X.w) X.A X.env X.xe) (hc : PT X c (tTe X.K mg W t)) (hb : PSs X body (tSt X.K mg W f)) : PS X (.While c body [] pos) (tSt X.K mg W (sWhile n t f)) :=
  ps_imp (ps_while hp hc hb) fun D σ H ⟨S, ρ, rel, p⟩ => by
    refine ⟨fun m σ2 H2 => ∃ S2 ρ2, Rel X.K S2 ρ2 σ2 H2 ∧ PostS X.K mg W S2 ρ2 σ2 H2 D (whLoop t f m ρ2), ⟨n, S, ρ, rel, p⟩, ?_⟩
    rintro m σ2 H2 ⟨S2, ρ2, r2, p2⟩
    cases m with
    | zero => exact p2.elim
    | succ m =>
      unfold whLoop at p2
      refine ⟨S2, ρ2, r2, PostS.and p2 fun k S3 ρ3 H3 st3 r3 p3 => ?_⟩
      have p3 := PostS.from p3 st3
      cases k with
      | false =>
        simp only [Bool.false_eq_true, if_false] at p3
        exact p3 S3 σ2 H3 .refl r3
      | true =>
        refine ⟨fun σ' H' => ∃ S' ρ', Rel X.K S' ρ' σ' H' ∧ PostS X.K mg W S' ρ' σ' H' D (whLoop t f m ρ'), fun σ' H' h => ⟨m, Nat.lt_succ_self m, h⟩, S3, ρ3, r3, ?_⟩
        simp only [if_true] at p3
        cases eb : f ρ3 with
        | nx ρ5 => simp only [eb] at p3; exact fun S5 σ5 H5 st5 r5 => ⟨S5, ρ5, r5, PostS.from p3 st5⟩
        | ct ρ5 => simp only [eb] at p3; exact fun S5 σ5 H5 st5 r5 => ⟨S5, ρ5, r5, PostS.from p3 st5⟩
        | bk ρ5 => simp only [eb] at p3; exact fun S5 σ5 H5 st5 r5 => p3 S5 σ5 H5 st5 r5
        | rt r ρ5 => simp only [eb] at p3; exact p3
        | exn x ρ5 => simp only [eb] at p3; exact p3
        | no => simp only [eb] at p3; exact p3.elim
end
end Ev
namespace Ev
open PySem PySem.Spec PyProof.Rows L2
variable [Gh]
/-! ### methods that change an own list -/
def mMt (k : Nat) (op : List D → List BV → List D → Option (D × List D)) (args : M (List BV)) : M Ret := fun ρ => match ρ[k]? with
  | some (.lst _ _) => (args ρ).andThen fun bs ρ1 => match ρ1[k]? with
    | some (.lst z ds) => match ress ρ1 bs with
      | some es => match op ds bs es with
        | some (d, ds') => .ok (.val d) (ρ1.set k (.lst z ds'))
        | none => .no
      | none => .no
    | _ => .no
  | _ => .no
def lApp : List D → List BV → List D → Option (D × List D)
  | ds, [.val d], _ => if ds.length < 16777216 then some (.none, ds ++ [d]) else none
  | _, _, _ => none
def lExt : List D → List BV → List D → Option (D × List D)
  | ds, [_], [.list es] => if ds.length + es.length ≤ 16777216 then some (.none, ds ++ es) else none
  | _, _, _ => none
def lPop : List D → List BV → List D → Option (D × List D)
  | ds, [], _ => match ds[ds.length - 1]? with
    | some d => some (d, ds.dropLast)
    | none => none
  | _, _, _ => none
def lPopAt : List D → List BV → List D → Option (D × List D)
  | ds, [_], [.int i] => if i.natAbs < 2 ^ 62 then match seqIndex? i ds.length with
      | some k => match ds[k]? with
        | some d => some (d, ds.eraseIdx k)
        | none => none
      | none => none
    else none
  | _, _, _ => none
def lIns : List D → List BV → List D → Option (D × List D)
  | ds, [_, .val d], .int i :: _ => if ds.length < 16777216 ∧ 0 ≤ i ∧ i.natAbs < 2 ^ 62 then some (.none, ds.take i.toNat ++ [d] ++ ds.drop i.toNat) else none
  | _, _, _ => none
section
variable {K : PySem.W.Frag} {mg : Str → Option Value} {W : WX} {H H' H1 H2 H3 : Hp} {S S' S1 S2 S3 : AS} {ρ ρ' ρ1 ρ2 ρ3 : Rho} {σ σ' σ1 σ2 σ3 : L2.St}
/-- an own list is rewritten -/
theorem Rel.lset (r : Rel K S ρ σ H) {k : Nat} {z : Bool} {ds ds' : List D} {a : Addr} {vs' : List V} (hs : ρ[k]? = some (.lst z ds)) (ha : adr σ k = some a) (hv : RAll K H S vs' ds') :
    Rel K S (ρ.set k (.lst z ds')) σ (upd H a (.lst vs')) ∧ Step S ρ σ H S (ρ.set k (.lst z ds')) σ (upd H a (.lst vs')) := by
  have q0 := r.slot k _ hs
  rw [adr_join ha] at q0
  obtain ⟨vs, q1, nS, _⟩ := q0
  have ne : ∀ b, S b → b ≠ a := fun b h e => by subst e; exact nS h
  have st : Stay S S H (upd H a (.lst vs')) := ⟨fun _ h => h, fun b h => upd_ne (ne b h)⟩
  have hO : Own ρ σ a := ⟨k, _, z, hs, rfl, .inl ha⟩
  have back : ∀ {j : Nat} {u : Slot} {y : Bool} {b : Addr}, (ρ.set k (.lst z ds'))[j]? = some u → u.own? = some y → Ter σ j u b → ∃ u', ρ[j]? = some u' ∧ u'.own? = some y ∧ Ter σ j u' b := fun {j u y b} e1 e2 e3 => by
    rcases getset e1 with ⟨rfl, rfl⟩ | ⟨hne, e⟩
    · exact ⟨_, hs, e2, (ter_bag rfl).mp e3⟩
    · exact ⟨u, e, e2, e3⟩
  refine ⟨⟨by rw [List.length_set]; exact r.len, fun j u h => ?_, fun i j s t y w b h1 h2 h3 h4 h5 h6 => ?_, fun b h => ?_⟩, ⟨fun _ h => h, st.at_, fun b o h n => ?_, fun b o h => ?_, fun _ h => .inl h, fun b ⟨j, u, y, h1, h2, h3⟩ => ?_, fun b ⟨j, u, h1, h2, h3⟩ => ?_, fun j u h1 h2 => ?_⟩⟩
  · rcases getset h with ⟨rfl, rfl⟩ | ⟨hne, e⟩
    · rw [adr_join ha]
      exact ⟨vs', upd_same, nS, RAll.stay st _ _ hv⟩
    · have q := r.slot j u e
      cases u with
      | un => exact trivial
      | giv d => exact SlotOk.giv_stay st q
      | bag G M T => exact q.bagAt (q.bag.move fun b xs h1 n hb => ⟨by rw [upd_ne (fun e' => hne (r.inj j k _ _ _ _ a e hs rfl rfl (by rw [← e']; exact q.bagTer hb) (.inl ha)))]; exact h1, n⟩)
      | dat d =>
        cases e' : σ[j]?.join with
        | none => rw [e'] at q; exact q.elim
        | some v => rw [e'] at q; exact R.stay st d v q
      | lst y es =>
        obtain ⟨b, w, e1, e2, e3, e4⟩ := q.own_adr (z := y) rfl
        have hb : b ≠ a := fun e' => hne (r.inj j k _ _ _ _ a e hs rfl rfl (by rw [← e']; exact .inl (join_adr e1)) (.inl ha))
        rw [e1] at q ⊢
        obtain ⟨us, q1, q2, q3⟩ := q
        exact ⟨us, by rw [upd_ne hb]; exact q1, q2, RAll.stay st _ _ q3⟩
      | dic y es =>
        obtain ⟨b, w, e1, e2, e3, e4⟩ := q.own_adr (z := y) rfl
        have hb : b ≠ a := fun e' => hne (r.inj j k _ _ _ _ a e hs rfl rfl (by rw [← e']; exact .inl (join_adr e1)) (.inl ha))
        rw [e1] at q ⊢
        obtain ⟨us, q1, q2, q3⟩ := q
        exact ⟨us, by rw [upd_ne hb]; exact q1, q2, RKv.stay st _ _ q3⟩
  · obtain ⟨s', e1, e2, g5⟩ := back h1 h3 h5
    obtain ⟨t', e3, e4, g6⟩ := back h2 h4 h6
    exact r.inj i j s' t' y w b e1 e3 e2 e4 g5 g6
  · obtain ⟨u, e⟩ := r.live b h
    exact ⟨u, by rw [upd_ne (ne b h)]; exact e⟩
  · rw [upd_ne (fun e => n (by rw [e]; exact hO))]; exact h
  · by_cases e : b = a
    · exact ⟨_, by rw [e]; exact upd_same⟩
    · exact ⟨o, by rw [upd_ne e]; exact h⟩
  · obtain ⟨u', e1, e2, g3⟩ := back h1 h2 h3
    exact .inl ⟨j, u', y, e1, e2, g3⟩
  · obtain ⟨u', e1, e2, g3⟩ := back h1 h2 (.inl h3)
    exact .inl ⟨j, u', e1, e2, h3⟩
  · by_cases e : j = k
    · subst e
      rw [hs] at h1
      cases h1
      exact ⟨_, List.getElem?_set_self (List.getElem?_eq_some_iff.mp hs).1, h2, rfl, rfl⟩
    · exact ⟨u, by rw [List.getElem?_set_ne (fun z => e z.symm)]; exact h1, h2, rfl, rfl⟩
/-- an own dict is rewritten -/
theorem Rel.dset (r : Rel K S ρ σ H) {k : Nat} {z : Bool} {ds ds' : List (D × D)} {a : Addr} {vs' : List (Key × V)} (hs : ρ[k]? = some (.dic z ds)) (ha : adr σ k = some a) (hv : RKv K H S vs' ds') :
    Rel K S (ρ.set k (.dic z ds')) σ (upd H a (.dK vs')) ∧ Step S ρ σ H S (ρ.set k (.dic z ds')) σ (upd H a (.dK vs')) := by
  have q0 := r.slot k _ hs
  rw [adr_join ha] at q0
  obtain ⟨vs, q1, nS, _⟩ := q0
  have ne : ∀ b, S b → b ≠ a := fun b h e => by subst e; exact nS h
  have st : Stay S S H (upd H a (.dK vs')) := ⟨fun _ h => h, fun b h => upd_ne (ne b h)⟩
  have hO : Own ρ σ a := ⟨k, _, z, hs, rfl, .inl ha⟩
  have back : ∀ {j : Nat} {u : Slot} {y : Bool} {b : Addr}, (ρ.set k (.dic z ds'))[j]? = some u → u.own? = some y → Ter σ j u b → ∃ u', ρ[j]? = some u' ∧ u'.own? = some y ∧ Ter σ j u' b := fun {j u y b} e1 e2 e3 => by
    rcases getset e1 with ⟨rfl, rfl⟩ | ⟨hne, e⟩
    · exact ⟨_, hs, e2, (ter_bag rfl).mp e3⟩
    · exact ⟨u, e, e2, e3⟩
  refine ⟨⟨by rw [List.length_set]; exact r.len, fun j u h => ?_, fun i j s t y w b h1 h2 h3 h4 h5 h6 => ?_, fun b h => ?_⟩, ⟨fun _ h => h, st.at_, fun b o h n => ?_, fun b o h => ?_, fun _ h => .inl h, fun b ⟨j, u, y, h1, h2, h3⟩ => ?_, fun b ⟨j, u, h1, h2, h3⟩ => ?_, fun j u h1 h2 => ?_⟩⟩
  · rcases getset h with ⟨rfl, rfl⟩ | ⟨hne, e⟩
    · rw [adr_join ha]
      exact ⟨vs', upd_same, nS, RKv.stay st _ _ hv⟩
    · have q := r.slot j u e
      cases u with
      | un => exact trivial
      | giv d => exact SlotOk.giv_stay st q
      | bag G M T => exact q.bagAt (q.bag.move fun b xs h1 n hb => ⟨by rw [upd_ne (fun e' => hne (r.inj j k _ _ _ _ a e hs rfl rfl (by rw [← e']; exact q.bagTer hb) (.inl ha)))]; exact h1, n⟩)
      | dat d =>
        cases e' : σ[j]?.join with
        | none => rw [e'] at q; exact q.elim
        | some v => rw [e'] at q; exact R.stay st d v q
      | lst y es =>
        obtain ⟨b, w, e1, e2, e3, e4⟩ := q.own_adr (z := y) rfl
        have hb : b ≠ a := fun e' => hne (r.inj j k _ _ _ _ a e hs rfl rfl (by rw [← e']; exact .inl (join_adr e1)) (.inl ha))
        rw [e1] at q ⊢
        obtain ⟨us, q1, q2, q3⟩ := q
        exact ⟨us, by rw [upd_ne hb]; exact q1, q2, RAll.stay st _ _ q3⟩
      | dic y es =>
        obtain ⟨b, w, e1, e2, e3, e4⟩ := q.own_adr (z := y) rfl
        have hb : b ≠ a := fun e' => hne (r.inj j k _ _ _ _ a e hs rfl rfl (by rw [← e']; exact .inl (join_adr e1)) (.inl ha))
        rw [e1] at q ⊢
        obtain ⟨us, q1, q2, q3⟩ := q
        exact ⟨us, by rw [upd_ne hb]; exact q1, q2, RKv.stay st _ _ q3⟩
  · obtain ⟨s', e1, e2, g5⟩ := back h1 h3 h5
    obtain ⟨t', e3, e4, g6⟩ := back h2 h4 h6
    exact r.inj i j s' t' y w b e1 e3 e2 e4 g5 g6
  · obtain ⟨u, e⟩ := r.live b h
    exact ⟨u, by rw [upd_ne (ne b h)]; exact e⟩
  · rw [upd_ne (fun e => n (by rw [e]; exact hO))]; exact h
  · by_cases e : b = a
    · exact ⟨_, by rw [e]; exact upd_same⟩
    · exact ⟨o, by rw [upd_ne e]; exact h⟩
  · obtain ⟨u', e1, e2, g3⟩ := back h1 h2 h3
    exact .inl ⟨j, u', y, e1, e2, g3⟩
  · obtain ⟨u', e1, e2, g3⟩ := back h1 h2 (.inl h3)
    exact .inl ⟨j, u', e1, e2, h3⟩
  · by_cases e : j = k
    · subst e
      rw [hs] at h1
      cases h1
      exact ⟨_, List.getElem?_set_self (List.getElem?_eq_some_iff.mp hs).1, h2, rfl, rfl⟩
    · exact ⟨u, by rw [List.getElem?_set_ne (fun z => e z.symm)]; exact h1, h2, rfl, rfl⟩
/-- a changing method's rule stands for an operation by data -/
def MutR (K : PySem.W.Frag) (r : V → List V → Hp → VK → Prop) (op : List D → List BV → List D → Option (D × List D)) : Prop :=
  ∀ {S : AS} {σ : L2.St} {H : Hp} {a : Addr} {vs : List V} {ds : List D} {xs : List V} {bs : List BV} {es : List D} {d : D} {ds' : List D} {Q : VK}, H a = some (.lst vs) → RAll K H S vs ds → RBs K S σ H xs bs → RRs K H S xs es →
    op ds bs es = some (d, ds') → (∀ v vs', R K H S v d → RAll K H S vs' ds' → Q v (upd H a (.lst vs'))) → r (.ref a) xs H Q
theorem mu_app : MutR K rAppend lApp := by
  intro S σ H a vs ds xs bs es d ds' Q ha hv hb he e q
  unfold lApp at e
  split at e
  · rename_i d1
    split at e
    · rename_i hl
      cases e
      match xs, hb with
      | [x], hb => exact ⟨a, vs, x, rfl, rfl, ha, by rw [hv.length, line_eq]; exact hl, q _ _ .non (hv.append (.cons hb.1 .nil))⟩
    · cases e
  · cases e
theorem mu_ext : MutR K rExtend lExt := by
  intro S σ H a vs ds xs bs es d ds' Q ha hv hb he e q
  unfold lExt at e
  split at e
  · rename_i b es
    split at e
    · rename_i hl
      cases e
      obtain ⟨x, rfl, hx⟩ := he.one
      obtain ⟨p, us, rfl, hp, hu⟩ := hx.list
      exact ⟨a, p, vs, us, rfl, rfl, ha, hp, by rw [hv.length, hu.length, line_eq]; exact hl, q _ _ .non (hv.append hu)⟩
    · cases e
  · cases e
theorem RAll.dropLast {vs : List V} {ds : List D} (h : RAll K H S vs ds) : RAll K H S vs.dropLast ds.dropLast := by
  rw [List.dropLast_eq_take, List.dropLast_eq_take, h.length]
  exact h.take _
theorem RAll.eraseIdx : ∀ {vs : List V} {ds : List D} (k : Nat), RAll K H S vs ds → RAll K H S (vs.eraseIdx k) (ds.eraseIdx k)
  | _, _, _, .nil => .nil
  | _, _, 0, .cons _ t => t
  | _, _, k + 1, .cons r t => .cons r (RAll.eraseIdx k t)
theorem mu_pop : MutR K rPop lPop := by
  intro S σ H a vs ds xs bs es d ds' Q ha hv hb he e q
  unfold lPop at e
  split at e
  · cases e1 : ds[ds.length - 1]? with
    | none => simp only [e1] at e; cases e
    | some d1 =>
      simp only [e1] at e
      cases e
      obtain ⟨y, hy, hr⟩ := hv.get e1
      match xs, hb with
      | [], _ => exact ⟨a, vs, y, rfl, rfl, ha, by rw [hv.length]; exact hy, q _ _ hr hv.dropLast⟩
  · cases e
theorem mu_popAt : MutR K rPopAt lPopAt := by
  intro S σ H a vs ds xs bs es d ds' Q ha hv hb he e q
  unfold lPopAt at e
  split at e
  · rename_i b i
    split at e
    · rename_i hi
      split at e
      · rename_i k hk
        split at e
        · rename_i d1 hd
          cases e
          obtain ⟨x, rfl, hx⟩ := he.one
          cases hx.int
          obtain ⟨y, hy, hr⟩ := hv.get hd
          exact ⟨a, vs, i, k, y, rfl, rfl, ha, by omega, by omega, by rw [hv.length]; exact hk, hy, q _ _ hr (hv.eraseIdx k)⟩
        · cases e
      · cases e
    · cases e
  · cases e
theorem mu_ins : MutR K (fun x vs H Q => ∃ (l : Addr) (xs : List V) (i : Int) (y : V), x = .ref l ∧ vs = [.int i, y] ∧ H l = some (.lst xs) ∧ xs.length < sizeLine ∧ 0 ≤ i ∧ i < 2 ^ 63 ∧ Q .non (upd H l (.lst (xs.take i.toNat ++ [y] ++ xs.drop i.toNat)))) lIns := by
  intro S σ H a vs ds xs bs es d ds' Q ha hv hb he e q
  unfold lIns at e
  split at e
  · rename_i b d1 i rest
    split at e
    · rename_i hi
      cases e
      match xs, hb, he with
      | [x, y], hb, he =>
        cases he with
        | cons hx hy =>
          cases hx.int
          exact ⟨a, vs, i, y, rfl, rfl, ha, by rw [hv.length, line_eq]; exact hi.1, hi.2.1, by omega, q _ _ .non (((hv.take _).append (.cons hb.2.1 .nil)).append (hv.drop _))⟩
    · cases e
  · cases e
end
section
variable {X : Cx} {mg : Str → Option Value} {W : WX} {o e : Expr} {es : List Expr} {name : Str} {apos cpos : Pos} {id : String} {r : V → List V → Hp → VK → Prop} {op : List D → List BV → List D → Option (D × List D)}
theorem mMt_start {K : PySem.W.Frag} {S : AS} {ρ : Rho} {σ : L2.St} {H : Hp} {k : Nat} {args : M (List BV)} {P : Ret → AS → Rho → Hp → Prop} (rel : Rel K S ρ σ H) (p : Post K mg W S ρ σ H P (mMt k op args ρ)) :
    ∃ a z ds vs, ρ[k]? = some (.lst z ds) ∧ adr σ k = some a ∧ H a = some (.lst vs) := by
  unfold mMt at p
  split at p
  · rename_i z ds hs
    have q := rel.slot k _ hs
    obtain ⟨a, o, e1, e2, e3, e4⟩ := q.own_adr (z := z) rfl
    rw [e1] at q
    obtain ⟨vs, q1, _⟩ := q
    exact ⟨a, z, ds, vs, hs, join_adr e1, q1⟩
  · exact p.elim
theorem mMt_fwd {K : PySem.W.Frag} {S : AS} {ρ : Rho} {σ : L2.St} {H : Hp} {k : Nat} {args : M (List BV)} {Q : VK} (hm : MutR K r op) (rel : Rel K S ρ σ H) {a : Addr} (ha : adr σ k = some a)
    (p : Post K mg W S ρ σ H (fun r S' ρ' H' => ∀ v, RRet K S' ρ' σ H' v r → RNew ρ σ H v r → Q v H') (mMt k op args ρ)) : tAr K mg W args σ H fun xs H2 => r (.ref a) xs H2 Q := by
  unfold mMt at p
  split at p
  · refine ⟨S, ρ, rel, Post.and p fun bs S1 ρ1 H1 st1 r1 p xs hxs => ?_⟩
    split at p
    · rename_i z ds hs
      cases e1 : ress ρ1 bs with
      | none => simp only [e1] at p; exact p.elim
      | some es =>
        simp only [e1] at p
        cases e2 : op ds bs es with
        | none => simp only [e2] at p; exact p.elim
        | some dd =>
          obtain ⟨d, ds'⟩ := dd
          simp only [e2] at p
          have q := r1.slot k _ hs
          rw [adr_join ha] at q
          obtain ⟨vs, q1, q2, q3⟩ := q
          refine hm q1 q3 hxs (hxs.read r1 e1) e2 fun v vs' hv hvs => ?_
          obtain ⟨r2, st2⟩ := r1.lset hs ha hvs
          exact p S1 _ (st1.trans st2) r2 v (hv.stay st2.stay) trivial
    · exact p.elim
  · exact p.elim
theorem pe_mt {k : Nat} {args : M (List BV)} (hm : MtR X id r) (hop : MutR X.K r op) (slot : PySem.Slot "list" name id) (hty : typeOf (.builtin id) = pure (.type "method_descriptor")) (ho : PE X o (tVar k)) (ha : PA X (e :: es) (tAr X.K mg W args))
    (hbase : attributeBase o name X.env (eval o X.env) = eval o X.env)
    (hfew : ((backTo cpos (starEach (e :: es) X.env)).all (fun x => !x.1) && (backToKw cpos (keywordEach [] X.env)).all (fun x => x.1.isSome)
      && decide ((e :: es).length + ([] : List Keyword).length + (if ([] : List Keyword).isEmpty then 0 else 1) < 30)) = true)
    (hline : (apos.endLine == cpos.line) = true) (hs : starEach (e :: es) X.env = (false, eval e X.env) :: starEach es X.env) (hplain : (backTo cpos (starEach es X.env)).any (·.1) = false) :
    PE X (.Call (.Attribute o name apos) (e :: es) [] cpos) (tS X.K mg W (mMt k op args)) :=
  pe_imp (pe_bm PySem.F.plainAttrs_list slot hty hm ho ha hbase hfew hline hs hplain) fun σ H Q ⟨S, ρ, rel, p⟩ => by
    obtain ⟨a, z, ds, vs, h1, h2, h3⟩ := mMt_start rel p
    exact ⟨.ref a, adr_get h2, .inl ⟨rfl, vs, .inl (.inl h3)⟩, mMt_fwd hop rel h2 p⟩
theorem pe_mt0 {k : Nat} (hm : MtR X id r) (hop : MutR X.K r op) (slot : PySem.Slot "list" name id) (hty : typeOf (.builtin id) = pure (.type "method_descriptor")) (ho : PE X o (tVar k))
    (hbase : attributeBase o name X.env (eval o X.env) = eval o X.env) (hline : (apos.endLine == cpos.line) = true) :
    PE X (.Call (.Attribute o name apos) [] [] cpos) (tS X.K mg W (mMt k op mNil)) :=
  pe_imp (pe_bm0 PySem.F.plainAttrs_list slot hty hm ho hbase hline) fun σ H Q ⟨S, ρ, rel, p⟩ => by
    obtain ⟨a, z, ds, vs, h1, h2, h3⟩ := mMt_start rel p
    refine ⟨.ref a, adr_get h2, .inl ⟨rfl, vs, .inl (.inl h3)⟩, ?_⟩
    obtain ⟨S', ρ', rel', p'⟩ := mMt_fwd hop rel h2 p
    exact Post.ok rel' p' [] trivial
end
end Ev
namespace Ev
open PySem PySem.Spec PyProof.Rows L2
variable [Gh]
/-! ### calls of defs -/
inductive FOut where
  | ret (r : Ret) (outs : List Slot)
  | no
/-- what a def makes of its arguments: its result, and what stands in the lists that it may change -/
abbrev FSem := List Slot → FOut
def argIn : Slot → Bool
  | .dat _ => true
  | .giv _ => true
  | .lst z _ => !z
  | .dic z _ => !z
  | .bag _ _ _ => true
  | .un => false
def outsOf : List Slot → List Slot → List Slot
  | [], _ => []
  | a :: as, s :: ss => (if a.own? = some false then s else .un) :: outsOf as ss
  | _ :: as, [] => .un :: outsOf as []
def fnSem (n : Nat) (m : Nat) (body : MS) : FSem := fun args => if args.length = m ∧ args.all argIn = true then match body (args ++ List.replicate (n - m) .un) with
  | .nx ρ => .ret (.val .none) (outsOf args ρ)
  | .rt r ρ => .ret r (outsOf args ρ)
  | _ => .no
  else .no
def argS : Option Slot → Option Slot
  | some (.dat d) => some (.dat d)
  | some (.lst _ ds) => some (.lst false ds)
  | some (.dic _ ds) => some (.dic false ds)
  | some (.giv ds) => some (.giv ds)
  | some (.bag G M T) => some (.bag G M T)
  | _ => none
def argSl (ρ : Rho) : BV → Option Slot
  | .val d => some (.dat d)
  | .slot i => argS ρ[i]?
def argSls (ρ : Rho) : List BV → Option (List Slot)
  | [] => some []
  | b :: bs => match argSl ρ b, argSls ρ bs with
    | some s, some ss => some (s :: ss)
    | _, _ => none
def isSl (i : Nat) : BV → Bool
  | .slot j => j == i
  | .val _ => false
def noTw : List BV → Bool
  | [] => true
  | .val _ :: bs => noTw bs
  | .slot i :: bs => !(bs.any (isSl i)) && noTw bs
def lookSl : List BV → List Slot → Nat → Option Slot
  | .slot j :: bs, o :: os, i => if j = i then some o else lookSl bs os i
  | .val _ :: bs, _ :: os, i => lookSl bs os i
  | _, _, _ => none
def reown (z : Bool) : Slot → Slot
  | .lst _ ds => .lst z ds
  | .dic _ ds => .dic z ds
  | s => s
def newS (bs : List BV) (outs : List Slot) (i : Nat) (s : Slot) : Slot := match s.own? with
  | some z => match lookSl bs outs i with
    | some o => reown z o
    | none => s
  | none => s
def putGo (bs : List BV) (outs : List Slot) : Nat → List Slot → List Slot
  | _, [] => []
  | i, s :: ss => newS bs outs i s :: putGo bs outs (i + 1) ss
def mCall (F : FSem) (args : M (List BV)) : M Ret := fun ρ => (args ρ).andThen fun bs ρ1 => match argSls ρ1 bs with
  | some as => if noTw bs = true then match F as with
      | .ret r outs => .ok r (putGo bs outs 0 ρ1)
      | .no => .no
    else .no
  | none => .no
section
variable {K : PySem.W.Frag} {H H' H1 H2 H3 : Hp} {S S' S1 S2 S3 : AS} {ρ ρ' ρ1 ρ2 ρ3 : Rho} {σ σ' σ1 σ2 σ3 : L2.St}
structure FEnd (K : PySem.W.Frag) (S : AS) (args : List Slot) (vs : List V) (H : Hp) (r : Ret) (outs : List Slot) (S' : AS) (v : V) (H' : Hp) : Prop where
  sub : ∀ a, S a → S' a
  at_ : ∀ a, S a → H' a = H a
  frame : ∀ a o, H a = some o → ¬ Own args (vs.map some) a → H' a = some o
  there : ∀ a o, H a = some o → ∃ o', H' a = some o'
  new : ∀ a, S' a → S a ∨ H a = none
  rel : Rel K S' outs (vs.map some) H'
  ino : ∀ (i : Nat) (s : Slot), args[i]? = some s → s.own? = some false → ∃ t : Slot, outs[i]? = some t ∧ t.own? = some false ∧ t.isBag = s.isBag
  ret : RRet K S' outs (vs.map some) H' v r
  fresh : match r with
    | .val _ => True
    | _ => ∀ a, v = .ref a → H a = none
theorem outsOf_get : ∀ (as ss : List Slot) (i : Nat), (outsOf as ss)[i]? = match as[i]? with
    | some a => some (if a.own? = some false then (match ss[i]? with | some s => s | none => .un) else .un)
    | none => none
  | [], _, _ => by simp [outsOf]
  | a :: as, s :: ss, 0 => by simp [outsOf]
  | a :: as, [], 0 => by simp [outsOf]
  | a :: as, s :: ss, i + 1 => by
    have := outsOf_get as ss i
    simp only [outsOf, List.getElem?_cons_succ]
    exact this
  | a :: as, [], i + 1 => by
    have := outsOf_get as [] i
    simp only [outsOf, List.getElem?_cons_succ, List.getElem?_nil] at this ⊢
    exact this
theorem putGo_get (bs : List BV) (outs : List Slot) : ∀ (ρ : List Slot) (k i : Nat), (putGo bs outs k ρ)[i]? = ρ[i]?.map (newS bs outs (k + i))
  | [], _, _ => by simp [putGo]
  | s :: ss, k, 0 => by simp [putGo]
  | s :: ss, k, i + 1 => by
    have := putGo_get bs outs ss (k + 1) i
    simp only [putGo, List.getElem?_cons_succ]
    rw [this, Nat.add_assoc, Nat.add_comm 1 i]
theorem putGo_len (bs : List BV) (outs : List Slot) : ∀ (ρ : List Slot) (k : Nat), (putGo bs outs k ρ).length = ρ.length
  | [], _ => rfl
  | s :: ss, k => by simp [putGo, putGo_len bs outs ss (k + 1)]
theorem argIn_own {s : Slot} (h : argIn s = true) {z : Bool} (e : s.own? = some z) : z = false := by
  cases s <;> simp [argIn, Slot.own?] at h e
  · rw [← e]; exact h
  · rw [← e]; exact h
  · exact e
/-- a def's entry -/
theorem Rel.entry {args : List Slot} {vs : List V} {n : Nat} (r : Rel K S args (vs.map some) H) : Rel K S (args ++ List.replicate n .un) (vs.map some ++ List.replicate n none) H ∧
    (∀ a, Own (args ++ List.replicate n .un) (vs.map some ++ List.replicate n none) a ↔ Own args (vs.map some) a) := by
  have hl := r.len
  have back : ∀ {i : Nat} {s : Slot} {z : Bool}, (args ++ List.replicate n .un)[i]? = some s → s.own? = some z → args[i]? = some s ∧ i < args.length := fun {i s z} h1 h2 => by
    by_cases hi : i < args.length
    · rw [List.getElem?_append_left hi] at h1; exact ⟨h1, hi⟩
    · rw [List.getElem?_append_right (by omega), List.getElem?_replicate] at h1
      split at h1
      · cases h1; cases h2
      · cases h1
  have adrE : ∀ {i : Nat}, i < args.length → adr (vs.map some ++ List.replicate n none) i = adr (vs.map some) i := fun {i} hi => by
    unfold adr
    rw [List.getElem?_append_left (by rw [← hl]; exact hi)]
  refine ⟨⟨by simp [hl], fun i s h => ?_, fun i j s t y z a h1 h2 h3 h4 h5 h6 => ?_, r.live⟩, fun a => ⟨fun ⟨i, s, z, h1, h2, h3⟩ => ?_, fun ⟨i, s, z, h1, h2, h3⟩ => ?_⟩⟩
  · by_cases hi : i < args.length
    · rw [List.getElem?_append_left hi] at h
      rw [List.getElem?_append_left (by rw [← hl]; exact hi)]
      exact r.slot i s h
    · rw [List.getElem?_append_right (by omega), List.getElem?_replicate] at h
      split at h
      · cases h; exact trivial
      · cases h
  · obtain ⟨e1, l1⟩ := back h1 h3
    obtain ⟨e2, l2⟩ := back h2 h4
    exact r.inj i j s t y z a e1 e2 h3 h4 ((ter_at (adrE l1)).mp h5) ((ter_at (adrE l2)).mp h6)
  · obtain ⟨e1, l1⟩ := back h1 h2
    exact ⟨i, s, z, e1, h2, (ter_at (adrE l1)).mp h3⟩
  · have hi := (List.getElem?_eq_some_iff.mp h1).1
    exact ⟨i, s, z, by rw [List.getElem?_append_left hi]; exact h1, h2, (ter_at (adrE hi)).mpr h3⟩
/-- .. and its end -/
theorem FEnd.of {args : List Slot} {vs : List V} {n : Nat} {v : V} {q : Ret} (r : Rel K S args (vs.map some) H) (hin : args.all argIn = true) (st : Step S (args ++ List.replicate n .un) (vs.map some ++ List.replicate n none) H S' ρ' σ' H') (r' : Rel K S' ρ' σ' H')
    (hv : RRet K S' ρ' σ' H' v q) (hn : RNew (args ++ List.replicate n .un) (vs.map some ++ List.replicate n none) H v q) : FEnd K S args vs H q (outsOf args ρ') S' v H' := by
  obtain ⟨r0, hO⟩ := r.entry (n := n)
  have noZ : ∀ a, ¬ OwnZ (args ++ List.replicate n .un) (vs.map some ++ List.replicate n none) a := fun a ⟨i, s, h1, h2, h3⟩ => by
    by_cases hi : i < args.length
    · rw [List.getElem?_append_left hi] at h1
      have := argIn_own (List.all_eq_true.mp hin s (List.mem_of_getElem? h1)) h2
      cases this
    · rw [List.getElem?_append_right (by omega), List.getElem?_replicate] at h1
      split at h1
      · cases h1; cases h2
      · cases h1
  have ino : ∀ (i : Nat) (s : Slot), args[i]? = some s → s.own? = some false → ∃ t : Slot, ρ'[i]? = some t ∧ t.own? = some false ∧ adr σ' i = adr (vs.map some) i ∧ (outsOf args ρ')[i]? = some t ∧ t.isBag = s.isBag := fun i s h1 h2 => by
    have hi := (List.getElem?_eq_some_iff.mp h1).1
    obtain ⟨t, e1, e2, e0, e3⟩ := st.ino i s (by rw [List.getElem?_append_left hi]; exact h1) h2
    refine ⟨t, e1, e2, ?_, ?_, e0⟩
    · rw [e3]
      unfold adr
      rw [List.getElem?_append_left (by rw [← r.len]; exact hi)]
    · rw [outsOf_get, h1, e1]
      simp only [h2, if_true]
  -- what an own slot of outs is
  have out : ∀ {i : Nat} {t : Slot} {z : Bool}, (outsOf args ρ')[i]? = some t → t.own? = some z → ρ'[i]? = some t ∧ adr σ' i = adr (vs.map some) i := fun {i t z} h1 h2 => by
    have h1' := h1
    rw [outsOf_get] at h1
    cases ea : args[i]? with
    | none => simp only [ea] at h1; cases h1
    | some a =>
      simp only [ea] at h1
      by_cases hz : a.own? = some false
      · obtain ⟨u, e1, e2, e3, e4, _⟩ := ino i a ea hz
        rw [e4] at h1'
        cases h1'
        exact ⟨e1, e3⟩
      · rw [if_neg hz] at h1
        cases h1
        cases h2
  have ownB : ∀ {a : Addr}, Own (outsOf args ρ') (vs.map some) a → Own ρ' σ' a := fun {a} ⟨i, t, z, h1, h2, h3⟩ => by
    obtain ⟨e1, e2⟩ := out h1 h2
    exact ⟨i, t, z, e1, h2, (ter_at e2).mpr h3⟩
  refine ⟨st.sub, st.at_, fun a o h n => st.frame a o h fun z => n ((hO a).mp z), st.there, fun a h => ?_, ⟨?_, fun i t h => ?_, fun i j s t y z a h1 h2 h3 h4 h5 h6 => ?_, r'.live⟩, fun i s h1 h2 => ?_, ?_, ?_⟩
  · rcases st.new a h with z | z | z
    · exact .inl z
    · exact .inr z
    · exact absurd z (noZ a)
  · have : ∀ (as ss : List Slot), (outsOf as ss).length = as.length := fun as => by
      induction as with
      | nil => intro ss; rfl
      | cons a as ih => intro ss; cases ss <;> simp [outsOf, ih]
    rw [this]; exact r.len
  · cases eo : t.own? with
    | none =>
      rw [outsOf_get] at h
      cases ea : args[i]? with
      | none => simp only [ea] at h; cases h
      | some a =>
        simp only [ea] at h
        by_cases hz : a.own? = some false
        · obtain ⟨u, e1, e2, e3, e4, _⟩ := ino i a ea hz
          rw [outsOf_get, ea] at e4
          simp only at e4
          rw [e4] at h
          cases h
          rw [e2] at eo; cases eo
        · rw [if_neg hz] at h
          cases h
          exact trivial
    | some z =>
      obtain ⟨e1, e2⟩ := out h eo
      have q := r'.slot i t e1
      obtain ⟨a, o, f1, f2, f3, f4⟩ := q.own_adr eo
      have := join_adr f1
      rw [e2] at this
      rw [adr_join this]
      rw [f1] at q
      exact q
  · obtain ⟨e1, e2⟩ := out h1 h3
    obtain ⟨e3, e4⟩ := out h2 h4
    exact r'.inj i j s t y z a e1 e3 h3 h4 ((ter_at e2).mpr h5) ((ter_at e4).mpr h6)
  · obtain ⟨t, e1, e2, e3, e4, e5⟩ := ino i s h1 h2
    exact ⟨t, e4, e2, e5⟩
  · cases q with
    | val d => exact hv
    | fl ds => obtain ⟨a, xs, e1, e2, e3, e4, e5⟩ := hv; exact ⟨a, xs, e1, e2, e3, e4, fun z => e5 (ownB z)⟩
    | fd ds => obtain ⟨a, xs, e1, e2, e3, e4, e5⟩ := hv; exact ⟨a, xs, e1, e2, e3, e4, fun z => e5 (ownB z)⟩
  · cases q with
    | val d => exact trivial
    | fl ds => exact fun a ea => (hn a ea).resolve_right (noZ a)
    | fd ds => exact fun a ea => (hn a ea).resolve_right (noZ a)
/-! ### the caller's side -/
theorem argSls_get : ∀ {bs : List BV} {as : List Slot} {i : Nat} {s : Slot}, argSls ρ bs = some as → as[i]? = some s → ∃ b, bs[i]? = some b ∧ argSl ρ b = some s
  | [], as, i, s, h, e => by cases h; simp at e
  | b :: bs, as, i, s, h, e => by
    unfold argSls at h
    cases e1 : argSl ρ b with
    | none => simp only [e1] at h; cases h
    | some t =>
      cases e2 : argSls ρ bs with
      | none => simp only [e1, e2] at h; cases h
      | some ts =>
        simp only [e1, e2] at h
        cases h
        cases i with
        | zero => simp at e; subst e; exact ⟨b, rfl, e1⟩
        | succ i =>
          obtain ⟨b', f1, f2⟩ := argSls_get (i := i) e2 (by simpa using e)
          exact ⟨b', by simpa using f1, f2⟩
theorem argSls_len : ∀ {bs : List BV} {as : List Slot}, argSls ρ bs = some as → as.length = bs.length
  | [], as, h => by cases h; rfl
  | b :: bs, as, h => by
    unfold argSls at h
    cases e1 : argSl ρ b with
    | none => simp only [e1] at h; cases h
    | some t =>
      cases e2 : argSls ρ bs with
      | none => simp only [e1, e2] at h; cases h
      | some ts =>
        simp only [e1, e2] at h
        cases h
        simp [argSls_len e2]
theorem RBs.get : ∀ {vs : List V} {bs : List BV} {i : Nat} {b : BV}, RBs K S σ H vs bs → bs[i]? = some b → ∃ v, vs[i]? = some v ∧ RB K S σ H v b
  | [], [], _, _, _, e => by simp at e
  | _ :: _, [], _, _, h, _ => h.elim
  | [], _ :: _, _, _, h, _ => h.elim
  | v :: vs, b :: bs, 0, _, h, e => by simp at e; subst e; exact ⟨v, rfl, h.1⟩
  | v :: vs, b :: bs, i + 1, _, h, e => by
    obtain ⟨u, h1, h2⟩ := RBs.get (i := i) h.2 (by simpa using e)
    exact ⟨u, by simpa using h1, h2⟩
theorem RBs.len : ∀ {vs : List V} {bs : List BV}, RBs K S σ H vs bs → vs.length = bs.length
  | [], [], _ => rfl
  | _ :: _, [], h => h.elim
  | [], _ :: _, h => h.elim
  | v :: vs, b :: bs, h => by simp [RBs.len h.2]
theorem argSl_own {b : BV} {s : Slot} {z : Bool} (h : argSl ρ b = some s) (e : s.own? = some z) : ∃ i t y, b = .slot i ∧ ρ[i]? = some t ∧ t.own? = some y ∧ t.isBag = s.isBag := by
  cases b with
  | val d => cases h; cases e
  | slot i =>
    change argS ρ[i]? = _ at h
    cases hs : ρ[i]? with
    | none => rw [hs] at h; cases h
    | some t =>
      rw [hs] at h
      cases t with
      | un => cases h
      | dat d => cases h; cases e
      | giv d => cases h; cases e
      | lst y ds => cases h; exact ⟨i, _, y, rfl, hs, rfl, rfl⟩
      | dic y ds => cases h; exact ⟨i, _, y, rfl, hs, rfl, rfl⟩
      | bag G M T => cases h; exact ⟨i, _, false, rfl, hs, rfl, rfl⟩
theorem argSl_in {b : BV} {s : Slot} (h : argSl ρ b = some s) : argIn s = true := by
  cases b with
  | val d => cases h; rfl
  | slot i =>
    change argS ρ[i]? = _ at h
    cases hs : ρ[i]? with
    | none => rw [hs] at h; cases h
    | some t => rw [hs] at h; cases t <;> cases h <;> rfl
theorem noTw_ne : ∀ {bs : List BV} {i j p : Nat}, noTw bs = true → bs[i]? = some (BV.slot p) → bs[j]? = some (BV.slot p) → i = j
  | [], i, j, p, _, h, _ => by simp at h
  | b :: bs, i, j, p, hn, hi, hj => by
    have hn2 : noTw bs = true := by
      cases b with
      | val d => exact hn
      | slot q => unfold noTw at hn; simp only [Bool.and_eq_true] at hn; exact hn.2
    have hd : ∀ {k : Nat}, bs[k]? = some (BV.slot p) → b = BV.slot p → False := fun {k} hk hb => by
      subst hb
      unfold noTw at hn
      simp only [Bool.and_eq_true] at hn
      have h1 := hn.1
      have h2 : bs.any (isSl p) = true := List.any_eq_true.mpr ⟨_, List.mem_of_getElem? hk, by simp [isSl]⟩
      rw [h2] at h1
      cases h1
    cases i with
    | zero =>
      simp at hi
      cases j with
      | zero => rfl
      | succ j => exact (hd (by simpa using hj) hi).elim
    | succ i =>
      cases j with
      | zero => simp at hj; exact (hd (by simpa using hi) hj).elim
      | succ j => exact congrArg (· + 1) (noTw_ne (p := p) hn2 (by simpa using hi) (by simpa using hj))
theorem args_ter {bs : List BV} {as : List Slot} {xs : List V} (hb : RBs K S σ H xs bs) (ha : argSls ρ bs = some as) {i : Nat} {s : Slot} {z : Bool} {a : Addr} (h1 : as[i]? = some s) (h2 : s.own? = some z) (h3 : Ter (xs.map some) i s a) :
    ∃ p t y, bs[i]? = some (.slot p) ∧ ρ[p]? = some t ∧ t.own? = some y ∧ t.isBag = s.isBag ∧ Ter σ p t a := by
  obtain ⟨b, e1, e2⟩ := argSls_get ha h1
  obtain ⟨p, t, y, rfl, e3, e4, e0⟩ := argSl_own e2 h2
  obtain ⟨v, e5, e6⟩ := hb.get e1
  have e6 : σ[p]? = some (some v) := e6
  refine ⟨p, t, y, e1, e3, e4, e0, ?_⟩
  have e7 : adr σ p = adr (xs.map some) i := by unfold adr; rw [e6, List.getElem?_map, e5]; rfl
  exact (ter_bag e0).mpr ((ter_at e7).mpr h3)
/-- the arguments stand -/
theorem Rel.args (r : Rel K S ρ σ H) {bs : List BV} {as : List Slot} {xs : List V} (hb : RBs K S σ H xs bs) (ha : argSls ρ bs = some as) (hn : noTw bs = true) : Rel K S as (xs.map some) H := by
  refine ⟨by rw [argSls_len ha, List.length_map, hb.len], fun i s h => ?_, fun i j s t y z a h1 h2 h3 h4 h5 h6 => ?_, r.live⟩
  · obtain ⟨b, e1, e2⟩ := argSls_get ha h
    obtain ⟨v, e5, e6⟩ := hb.get e1
    rw [List.getElem?_map, e5]
    show SlotOk K S H (some v) s
    cases b with
    | val d => cases e2; exact e6
    | slot p =>
      have e6 : σ[p]? = some (some v) := e6
      change argS ρ[p]? = _ at e2
      cases hs : ρ[p]? with
      | none => rw [hs] at e2; cases e2
      | some t =>
        rw [hs] at e2
        have q := r.slot p _ hs
        rw [e6] at q
        have q : SlotOk K S H (some v) t := q
        cases t with
        | un => cases e2
        | dat d => cases e2; exact q
        | giv d => cases e2; exact q
        | lst y ds => cases e2; cases v <;> exact q
        | dic y ds => cases e2; cases v <;> exact q
        | bag G M T => cases e2; exact q
  · obtain ⟨p, t1, y1, a1, a2, a3, _, a4⟩ := args_ter hb ha h1 h3 h5
    obtain ⟨q, t2, y2, b1, b2, b3, _, b4⟩ := args_ter hb ha h2 h4 h6
    have := r.inj p q t1 t2 y1 y2 a a2 b2 a3 b3 a4 b4
    subst this
    exact noTw_ne hn a1 b1
theorem lookSl_get : ∀ {bs : List BV} {outs : List Slot} {i : Nat} {o : Slot}, lookSl bs outs i = some o → ∃ j : Nat, bs[j]? = some (BV.slot i) ∧ outs[j]? = some o
  | [], _, _, _, h => by simp [lookSl] at h
  | .val d :: bs, [], _, _, h => by simp [lookSl] at h
  | .slot p :: bs, [], _, _, h => by simp [lookSl] at h
  | .val d :: bs, o :: os, i, _, h => by
    obtain ⟨j, h1, h2⟩ := lookSl_get (bs := bs) (outs := os) (by simpa [lookSl] using h)
    exact ⟨j + 1, by simpa using h1, by simpa using h2⟩
  | .slot p :: bs, o :: os, i, _, h => by
    unfold lookSl at h
    split at h
    · rename_i e; subst e; cases h; exact ⟨0, rfl, rfl⟩
    · obtain ⟨j, h1, h2⟩ := lookSl_get (bs := bs) (outs := os) h
      exact ⟨j + 1, by simpa using h1, by simpa using h2⟩
theorem lookSl_none : ∀ {bs : List BV} {outs : List Slot} {i j : Nat}, outs.length = bs.length → lookSl bs outs i = none → bs[j]? ≠ some (BV.slot i)
  | [], _, _, j, _, _ => by simp
  | .val d :: bs, [], _, _, hl, _ => by simp at hl
  | .slot p :: bs, [], _, _, hl, _ => by simp at hl
  | .val d :: bs, o :: os, i, j, hl, h => by
    cases j with
    | zero => simp
    | succ j => simpa using lookSl_none (j := j) (by simpa using hl) (show lookSl bs os i = none by simpa [lookSl] using h)
  | .slot p :: bs, o :: os, i, j, hl, h => by
    unfold lookSl at h
    split at h
    · cases h
    · rename_i hne
      cases j with
      | zero => simpa using hne
      | succ j => simpa using lookSl_none (j := j) (by simpa using hl) h
theorem reown_own {z y : Bool} {o : Slot} (h : o.own? = some y) (hb : o.isBag = true → z = false) : (reown z o).own? = some z := by
  cases o <;> simp [Slot.own?] at h <;> first | rfl | (rw [hb rfl]; rfl)
theorem reown_bag {z : Bool} {o : Slot} : (reown z o).isBag = o.isBag := by cases o <;> rfl
theorem bag_own {s : Slot} {z : Bool} (h : s.own? = some z) (hb : s.isBag = true) : z = false := by
  cases s <;> first | cases hb | skip
  cases h; rfl
theorem reown_ok {z y : Bool} {o : Slot} {x : Option V} (h : o.own? = some y) (q : SlotOk K S H x o) : SlotOk K S H x (reown z o) := by
  cases o <;> simp [Slot.own?] at h
  · cases x with
    | none => exact q
    | some v => cases v <;> exact q
  · cases x with
    | none => exact q
    | some v => cases v <;> exact q
  · exact q
/-- behind a call -/
theorem Rel.back (r : Rel K S ρ σ H) {bs : List BV} {as outs : List Slot} {xs : List V} {v : V} {q : Ret} (hb : RBs K S σ H xs bs) (ha : argSls ρ bs = some as) (hn : noTw bs = true) (e : FEnd K S as xs H q outs S' v H') :
    Rel K S' (putGo bs outs 0 ρ) σ H' ∧ Step S ρ σ H S' (putGo bs outs 0 ρ) σ H' ∧ RRet K S' (putGo bs outs 0 ρ) σ H' v q ∧ RNew ρ σ H v q := by
  have ra := r.args hb ha hn
  have lo : outs.length = bs.length := by rw [e.rel.len, List.length_map, hb.len]
  have sty : Stay S S' H H' := ⟨e.sub, e.at_⟩
  -- an own slot that is handed over
  have given : ∀ {i j : Nat} {s : Slot} {z : Bool} {a : Addr}, ρ[i]? = some s → s.own? = some z → adr σ i = some a → bs[j]? = some (BV.slot i) → adr (xs.map some) j = some a ∧ ∃ t, outs[j]? = some t ∧ t.own? = some false ∧ t.isBag = s.isBag := fun {i j s z a} h1 h2 h3 h4 => by
    obtain ⟨v', e1, e2⟩ := hb.get h4
    have e2 : σ[i]? = some (some v') := e2
    have e3 := adr_get h3
    rw [e2] at e3
    have e4 : v' = .ref a := by simpa using e3
    refine ⟨by unfold adr; rw [List.getElem?_map, e1, e4]; rfl, ?_⟩
    have hlj : j < as.length := by rw [argSls_len ha]; exact (List.getElem?_eq_some_iff.mp h4).1
    obtain ⟨b, f1, f2⟩ := argSls_get ha (List.getElem?_eq_getElem hlj)
    rw [h4] at f1
    cases f1
    change argS ρ[i]? = _ at f2
    rw [h1] at f2
    obtain ⟨u, u1, u2, u3⟩ := e.ino j _ (List.getElem?_eq_getElem hlj) (by cases s <;> simp [Slot.own?] at h2 <;> (rw [← Option.some.inj f2]; rfl))
    refine ⟨u, u1, u2, u3.trans ?_⟩
    cases s <;> simp [Slot.own?] at h2 <;> (rw [← Option.some.inj f2] <;> rfl)
  -- an own slot that is not
  have apart : ∀ {i : Nat} {s : Slot} {z : Bool} {a : Addr}, ρ[i]? = some s → s.own? = some z → Ter σ i s a → (∀ j : Nat, bs[j]? ≠ some (BV.slot i)) → ¬ Own as (xs.map some) a := fun {i s z a} h1 h2 h3 h4 ⟨j, t, y, g1, g2, g3⟩ => by
    obtain ⟨p, u, y2, f1, f3, f4, _, e5⟩ := args_ter hb ha g1 g2 g3
    have := r.inj i p s u z y2 a h1 f3 h2 f4 h3 e5
    subst this
    exact h4 j f1
  have ownO : ∀ {a : Addr}, Own as (xs.map some) a → Own ρ σ a := fun {a} ⟨j, t, y, g1, g2, g3⟩ => by
    obtain ⟨p, u, y2, f1, f3, f4, _, e5⟩ := args_ter hb ha g1 g2 g3
    exact ⟨p, u, y2, f3, f4, e5⟩
  -- the new slots
  have get : ∀ {i : Nat} {t : Slot}, (putGo bs outs 0 ρ)[i]? = some t → ∃ s, ρ[i]? = some s ∧ t = newS bs outs i s := fun {i t} h => by
    rw [putGo_get, Nat.zero_add] at h
    cases es : ρ[i]? with
    | none => rw [es] at h; cases h
    | some s => rw [es] at h; cases h; exact ⟨s, rfl, rfl⟩
  have newO : ∀ {i : Nat} {s : Slot} {y : Bool}, ρ[i]? = some s → (newS bs outs i s).own? = some y → s.own? = some y := fun {i s y} h1 h2 => by
    unfold newS at h2
    cases es : s.own? with
    | none => simp only [es] at h2; cases h2
    | some z =>
      simp only [es] at h2
      cases el : lookSl bs outs i with
      | none => simp only [el] at h2; rw [es] at h2; exact h2
      | some o =>
        simp only [el] at h2
        obtain ⟨j, g1, g2⟩ := lookSl_get el
        obtain ⟨b, o2, e1, e2, e3, e4⟩ := (r.slot i s h1).own_adr es
        obtain ⟨_, t, f1, f2, f3⟩ := given h1 es (join_adr e1) g1
        rw [g2] at f1
        cases f1
        rw [reown_own f2 (fun hb => bag_own es (f3 ▸ hb))] at h2
        exact h2
  have newB : ∀ {i : Nat} {s : Slot}, ρ[i]? = some s → (newS bs outs i s).isBag = s.isBag := fun {i s} h1 => by
    unfold newS
    cases es : s.own? with
    | none => rfl
    | some z =>
      simp only
      cases el : lookSl bs outs i with
      | none => rfl
      | some o =>
        simp only
        obtain ⟨j, g1, g2⟩ := lookSl_get el
        obtain ⟨b, o2, e1, e2, e3, e4⟩ := (r.slot i s h1).own_adr es
        obtain ⟨_, t, f1, f2, f3⟩ := given h1 es (join_adr e1) g1
        rw [g2] at f1
        cases f1
        rw [reown_bag]
        exact f3
  have slot : ∀ (i : Nat) (s : Slot), ρ[i]? = some s → SlotOk K S' H' σ[i]?.join (newS bs outs i s) := fun i s h1 => by
    unfold newS
    have q := r.slot i s h1
    cases es : s.own? with
    | none =>
      simp only
      cases s with
      | un => exact trivial
      | giv d => exact SlotOk.giv_stay sty q
      | dat d =>
        cases e' : σ[i]?.join with
        | none => rw [e'] at q; exact q.elim
        | some v => rw [e'] at q; exact R.stay sty d v q
      | lst z ds => cases es
      | dic z ds => cases es
      | bag G M T => cases es
    | some z =>
      simp only
      obtain ⟨a, o2, e1, e2, e3, e4⟩ := q.own_adr es
      cases el : lookSl bs outs i with
      | some o =>
        simp only
        obtain ⟨j, g1, g2⟩ := lookSl_get el
        obtain ⟨f0, t, f1, f2, f3⟩ := given h1 es (join_adr e1) g1
        rw [g2] at f1
        cases f1
        have q' := e.rel.slot j o g2
        rw [adr_join f0] at q'
        rw [e1]
        exact reown_ok f2 q'
      | none =>
        simp only
        have nO := apart h1 es (.inl (join_adr e1)) fun j => lookSl_none lo el
        have hH := e.frame a o2 e2 nO
        have nS' : ¬ S' a := fun z => by
          rcases e.new a z with z | z
          · exact e3 z
          · rw [e2] at z; cases z
        cases s with
        | bag G M T =>
          refine q.bagAt (q.bag.move fun b xs k1 n hb => ⟨e.frame _ _ k1 (apart h1 es (q.bagTer hb) fun j => lookSl_none lo el), fun z => ?_⟩)
          rcases e.new _ z with z | z
          · exact n z
          · rw [k1] at z; cases z
        | lst z ds =>
          rw [e1] at q ⊢
          obtain ⟨vs, q1, q2, q3⟩ := q
          rw [q1] at e2
          cases e2
          exact ⟨vs, hH, nS', RAll.stay sty _ _ q3⟩
        | dic z ds =>
          rw [e1] at q ⊢
          obtain ⟨vs, q1, q2, q3⟩ := q
          rw [q1] at e2
          cases e2
          exact ⟨vs, hH, nS', RKv.stay sty _ _ q3⟩
        | _ => cases es
  have ownB : ∀ {a : Addr}, Own (putGo bs outs 0 ρ) σ a → Own ρ σ a := fun {a} ⟨i, t, z, h1, h2, h3⟩ => by
    obtain ⟨s, g1, rfl⟩ := get h1
    exact ⟨i, s, z, g1, newO g1 h2, (ter_bag (newB g1)).mp h3⟩
  have nOwn : ∀ {a : Addr}, (∀ b, H a = none → b = a → True) → H a = none → ¬ Own (putGo bs outs 0 ρ) σ a := fun {a} _ hn z => by
    obtain ⟨o, h, _⟩ := r.own (ownB z)
    rw [hn] at h; cases h
  refine ⟨⟨by rw [putGo_len]; exact r.len, fun i t h => ?_, fun i j s t y z a h1 h2 h3 h4 h5 h6 => ?_, e.rel.live⟩, ⟨e.sub, e.at_, fun a o h n => e.frame a o h fun z => n (ownO z), e.there, fun a h => ?_, fun a h => .inl (ownB h), fun a ⟨i, t, h1, h2, h3⟩ => ?_, fun i s h1 h2 => ?_⟩, ?_, ?_⟩
  · obtain ⟨s, g1, rfl⟩ := get h
    exact slot i s g1
  · obtain ⟨s', g1, rfl⟩ := get h1
    obtain ⟨t', g2, rfl⟩ := get h2
    exact r.inj i j s' t' y z a g1 g2 (newO g1 h3) (newO g2 h4) ((ter_bag (newB g1)).mp h5) ((ter_bag (newB g2)).mp h6)
  · rcases e.new a h with z | z
    · exact .inl z
    · exact .inr (.inl z)
  · obtain ⟨s, g1, rfl⟩ := get h1
    exact .inl ⟨i, s, g1, newO g1 h2, h3⟩
  · refine ⟨newS bs outs i s, by rw [putGo_get, Nat.zero_add, h1]; rfl, ?_, newB h1, rfl⟩
    unfold newS
    simp only [h2]
    cases el : lookSl bs outs i with
    | none => exact h2
    | some o =>
      simp only
      obtain ⟨j, g1, g2⟩ := lookSl_get el
      obtain ⟨b, o2, e1, e2, e3, e4⟩ := (r.slot i s h1).own_adr h2
      obtain ⟨_, t, f1, f2, f3⟩ := given h1 h2 (join_adr e1) g1
      rw [g2] at f1
      cases f1
      exact reown_own f2 fun _ => rfl
  · have hf := e.fresh
    have hr := e.ret
    cases q with
    | val d => exact hr
    | fl ds => obtain ⟨a, ys, rfl, f2, f3, f4, f5⟩ := hr; exact ⟨a, ys, rfl, f2, f3, f4, nOwn (fun _ _ _ => trivial) (hf a rfl)⟩
    | fd ds => obtain ⟨a, ys, rfl, f2, f3, f4, f5⟩ := hr; exact ⟨a, ys, rfl, f2, f3, f4, nOwn (fun _ _ _ => trivial) (hf a rfl)⟩
  · have hf := e.fresh
    cases q with
    | val d => exact trivial
    | fl ds => exact fun a ea => .inl (hf a ea)
    | fd ds => exact fun a ea => .inl (hf a ea)
end
end Ev
namespace Ev
open PySem PySem.Spec PyProof.Rows L2
variable [Gh]
/-! ### a def's promise -/
/-- the promise: from the arguments as they stand, to what the def makes of them -/
def SpF (K : PySem.W.Frag) (F : FSem) (vs : List V) (H : Hp) (Q : VK) : Prop :=
  ∃ S args, Rel K S args (vs.map some) H ∧ args.all argIn = true ∧ match F args with
    | .ret r outs => ∀ S' v H', FEnd K S args vs H r outs S' v H' → Q v H'
    | .no => False
structure FnG (P : Program) (w : World) (K : PySem.W.Frag) (mg : Str → Option Value) (base : Heap) (k : Nat) (f : Addr) (fd : FuncData) (ps : List Str) (F : FSem) : Prop where
  len : ∀ args r outs, F args = .ret r outs → args.length = ps.length
  run : ∀ (B : Around) (out : List Env) (s : Shared) (H : Hp) (given : Args) (us : List Value) (vs : List V) (Q : VK), Room k B → B.guards = some [] → Env0 P w K mg base B out s H → BindsTo s fd given (ps.zip us) → Vals vs us →
    SpF K F vs H Q → codeAny (model P w) B (.call (.ref f) given) (CR L2.CX0 out P w H s Q L2.E0) s
theorem FnG.mono {P : Program} {w : World} {K : PySem.W.Frag} {mg : Str → Option Value} {base : Heap} {j k : Nat} {f : Addr} {fd : FuncData} {ps : List Str} {F : FSem} (G : FnG P w K mg base j f fd ps F) (h : j ≤ k) : FnG P w K mg base k f fd ps F :=
  ⟨G.len, fun B out s H given us vs Q hr => G.run B out s H given us vs Q (hr.mono h)⟩
theorem SpF.len {K : PySem.W.Frag} {F : FSem} {ps : List Str} {vs : List V} {H : Hp} {Q : VK} (hl : ∀ args r outs, F args = .ret r outs → args.length = ps.length) (h : SpF K F vs H Q) : vs.length = ps.length := by
  obtain ⟨S, args, r, _, q⟩ := h
  cases e : F args with
  | no => rw [e] at q; exact q.elim
  | ret x outs =>
    have := r.len
    rw [List.length_map] at this
    rw [← this]
    exact hl args x outs e
theorem SpF.imp {K : PySem.W.Frag} {F : FSem} {vs : List V} {H : Hp} {Q Q' : VK} (h : SpF K F vs H Q) (i : ∀ v H', Q v H' → Q' v H') : SpF K F vs H Q' := by
  obtain ⟨S, args, r, hin, q⟩ := h
  refine ⟨S, args, r, hin, ?_⟩
  cases e : F args with
  | no => rw [e] at q; exact q
  | ret x outs => rw [e] at q; exact fun S' v H' z => i _ _ (q S' v H' z)
theorem fnSem_len {n m : Nat} {body : MS} {args : List Slot} {r : Ret} {outs : List Slot} (h : fnSem n m body args = .ret r outs) : args.length = m := by
  unfold fnSem at h
  split at h
  · rename_i hc; exact hc.1
  · cases h
/-- the body's end is the promise's end -/
theorem body_end {K : PySem.W.Frag} {mg : Str → Option Value} {N ps : List Str} {body : MS} {vs : List V} {H : Hp} {Q : VK} (hN : ps.length ≤ N.length) (h : SpF K (fnSem N.length ps.length body) vs H Q) :
    tSt K mg (fun _ _ _ _ => False) body { nx := fun _ H' => Q .non H', rt := Q } (L2.start N vs) H := by
  obtain ⟨S, args, r, hin, q⟩ := h
  have hl : args.length = vs.length := by rw [r.len, List.length_map]
  unfold fnSem at q
  by_cases hc : args.length = ps.length ∧ args.all argIn = true
  case neg => rw [if_neg hc] at q; exact q.elim
  rw [if_pos hc] at q
  obtain ⟨r0, hO⟩ := r.entry (n := N.length - ps.length)
  have es : L2.start N vs = vs.map some ++ List.replicate (N.length - ps.length) none := by unfold L2.start; rw [← hl, hc.1]
  rw [es]
  refine ⟨S, _, r0, ?_⟩
  cases eb : body (args ++ List.replicate (N.length - ps.length) .un) with
  | nx ρ =>
    rw [eb] at q
    exact fun S' σ' H' st r' => q S' .non H' (FEnd.of r hin st r' (q := .val .none) .non trivial)
  | rt x ρ =>
    rw [eb] at q
    exact fun S' σ' H' v st r' hv hn => q S' v H' (FEnd.of r hin st r' hv hn)
  | bk ρ => rw [eb] at q; exact q.elim
  | ct ρ => rw [eb] at q; exact q.elim
  | exn x ρ => rw [eb] at q; exact q.elim
  | no => rw [eb] at q; exact q.elim
/-- the context of a body in which nothing is raised -/
abbrev bodyX (P : Program) (w : World) (K : PySem.W.Frag) (mg : Str → Option Value) (base : Heap) (N : List Str) (qual : Str) (scope : Scope) (f : Addr) (cd : Value) (B : Around) (out : List Env) (s : Shared) (H : Hp) : Cx :=
  (cxOf L2.CX0 P w K mg base N qual scope f cd B out s H L2.E0).nox
/-- a def keeps its promise, by its body's reading -/
theorem fnG_of {P : Program} {w : World} {K : PySem.W.Frag} {mg : Str → Option Value} {base : Heap} {k : Nat} {f : Addr} {x qual : Str} {st : Stmt} {fd : FuncData} {N ps : List Str} {body : MS} (F : L2.Fun K x qual st f fd) (Sc : FnScope N ps (defScope st))
    (hb : ∀ (cd : Value) (B : Around) (out : List Env) (s : Shared) (H : Hp), Room k (B.deeper (envOfC qual (defScope st) s.heap.objs.size f cd)) → B.guards = some [] →
      PSs (bodyX P w K mg base N qual (defScope st) f cd B out s H) (defBody st) (tSt K mg (fun _ _ _ _ => False) body)) :
    FnG P w K mg base (k + 1) f fd ps (fnSem N.length ps.length body) := by
  refine ⟨fun args r outs h => fnSem_len h, fun B out s H given us vs Q room gd e0 bnd rv h => ?_⟩
  obtain ⟨oc, od, kV, doc, pm, an, cdv, ct, osl, rfl, lk, hcd⟩ := F.ex
  have hl : vs.length = ps.length := h.len fun args r outs h => fnSem_len h
  have inK : K.In s.heap := e0.mod.kin.keeps fun b o z => (e0.bs b o z).1
  have free : s.heap.NoLimit := e0.mod.nolimit.keeps fun b o z => (e0.bs b o z).1
  have kinds : ∀ y ∈ ps.zip us, (defScope st).names.lookup y.1 = some .local ∨ ((defScope st).names.lookup y.1 = some .cell ∧ ((cellsFrom (s.heap.objs.size + 1) (defScope st).names []).lookup y.1).isSome = true) := fun y hy => by
    rcases Sc.par y.1 (List.of_mem_zip (a := y.1) (b := y.2) hy).1 with z | z
    · exact .inl z
    · exact .inr ⟨z, PySem.W.cellsFrom_some _ _ _ (.inl z)⟩
  have hN : ps.length ≤ N.length := by
    have := congrArg List.length Sc.pre
    rw [List.length_take] at this
    omega
  refine codeAny_call_function room.depth (inK _ _ lk) rfl Sc.co Sc.gen rfl (PySem.W.codeRec_of inK hcd) (bnd _ _ _ _ ?_)
  refine wpAny_newFunctionEnv_cells Sc.kind kinds fun env ee s1 ic => ?_
  subst ee
  refine ⟨free.keeps ic.toInCall.keep, codeAny_func ?_⟩
  have I := inv_start (CX := L2.CX0) (N := N) (qual := qual) (f := f) (cd := cdv) (E := L2.E0) Sc room.hd e0 hl rv ic
  have rd := ((hb cdv B out s H (room.deeper _) gd).nox).run [] s1 (L2.start N vs) H _ I (body_end hN h)
  refine wpAny_mono rd (fun fl s' hs => ?_) fun e s' hs => hs
  cases fl with
  | ret u =>
    obtain ⟨v, σ', H', J, r', q⟩ := hs
    exact ⟨v, H', J.os, J.bare, J.base, J.hok, r', q⟩
  | next =>
    obtain ⟨σ', H', J, q⟩ := hs
    exact ⟨V.non, H', J.os, J.bare, J.base, J.hok, rfl, q⟩
  | brk => obtain ⟨_, _, _, q⟩ := hs; exact q.elim
  | cont => obtain ⟨_, _, _, q⟩ := hs; exact q.elim
/-! ### its calls -/
def pick {α : Type} (perm : List Nat) (xs : List α) : List α := perm.filterMap fun i => xs[i]?
/-- how a call with n positional arguments and the keywords ks binds: perm gives for each parameter the argument's place -/
def KB (K : PySem.W.Frag) (fd : FuncData) (ps : List Str) (n : Nat) (ks : List Str) (perm : List Nat) : Prop :=
  ∀ (s : Shared) (us ws : List Value), K.In s.heap → us.length = n → ws.length = ks.length → BindsTo s fd ⟨us, ks.zip ws⟩ (ps.zip (pick perm (us ++ ws)))
theorem pick_vals {perm : List Nat} {xs : List V} {us : List Value} (h : Vals xs us) : Vals (pick perm xs) (pick perm us) := by
  unfold pick
  induction perm with
  | nil => exact .nil
  | cons i is ih =>
    cases e : xs[i]? with
    | none =>
      have e2 : us[i]? = none := by
        rw [List.getElem?_eq_none_iff] at e ⊢
        rw [← h.length]; exact e
      rw [List.filterMap_cons_none e, List.filterMap_cons_none e2]
      exact ih
    | some v =>
      obtain ⟨u, e2, r⟩ := h.get e
      rw [List.filterMap_cons_some e, List.filterMap_cons_some e2]
      exact .cons r ih
theorem pick_rbs {K : PySem.W.Frag} {S : AS} {σ : L2.St} {H : Hp} {perm : List Nat} {xs : List V} {bs : List BV} (h : RBs K S σ H xs bs) : RBs K S σ H (pick perm xs) (pick perm bs) := by
  unfold pick
  induction perm with
  | nil => exact trivial
  | cons i is ih =>
    cases e : bs[i]? with
    | none =>
      have e2 : xs[i]? = none := by
        rw [List.getElem?_eq_none_iff] at e ⊢
        rw [h.len]; exact e
      rw [List.filterMap_cons_none e, List.filterMap_cons_none e2]
      exact ih
    | some b =>
      obtain ⟨v, e2, r⟩ := h.get e
      rw [List.filterMap_cons_some e, List.filterMap_cons_some e2]
      exact ⟨r, ih⟩
def callB (F : FSem) (perm : List Nat) (bs : List BV) (ρ1 : Rho) : Out Ret := match argSls ρ1 (pick perm bs) with
  | some as => if noTw (pick perm bs) = true then match F as with
      | .ret r outs => .ok r (putGo (pick perm bs) outs 0 ρ1)
      | .no => .no
    else .no
  | none => .no
def mCallK (F : FSem) (perm : List Nat) (n m : Nat) (f g : M (List BV)) : M Ret := fun ρ => (f ρ).andThen fun bs ρ1 => (g ρ1).andThen fun cs ρ2 => if bs.length = n ∧ cs.length = m then callB F perm (bs ++ cs) ρ2 else .no
section
variable {X : Cx} {mg : Str → Option Value} {W : WX} {k : Nat} {f : Addr} {fd : FuncData} {ps : List Str} {F : FSem} {x : Str} {p pos : Pos} {e : Expr} {es : List Expr} {kws : List Keyword} {perm : List Nat} {ks : List Str} {n : Nat}
theorem RBs.app {K : PySem.W.Frag} {S : AS} {σ : L2.St} {H : Hp} : ∀ {xs : List V} {bs : List BV} {ys : List V} {cs : List BV}, RBs K S σ H xs bs → RBs K S σ H ys cs → RBs K S σ H (xs ++ ys) (bs ++ cs)
  | [], [], _, _, _, h => h
  | _ :: _, [], _, _, h, _ => h.elim
  | [], _ :: _, _, _, h, _ => h.elim
  | x :: xs, b :: bs, _, _, h, h2 => ⟨h.1, RBs.app h.2 h2⟩
theorem callK_fwd {K : PySem.W.Frag} {S : AS} {ρ : Rho} {σ : L2.St} {H : Hp} {Q : VK} {fa ga : M (List BV)} {m : Nat} (rel : Rel K S ρ σ H)
    (p : Post K mg W S ρ σ H (fun r S' ρ' H' => ∀ v, RRet K S' ρ' σ H' v r → RNew ρ σ H v r → Q v H') (mCallK F perm n m fa ga ρ)) :
    tAr K mg W fa σ H fun xs H1 => tAr K mg W ga σ H1 fun zs H2 => xs.length = n ∧ zs.length = m ∧ SpF K F (pick perm (xs ++ zs)) H2 Q := by
  refine ⟨S, ρ, rel, ?_⟩
  unfold mCallK at p
  refine Post.and p fun bs S1 ρ1 H1 st1 r1 p xs hxs => ?_
  refine ⟨S1, ρ1, r1, Post.and (Post.from p st1) fun cs S2 ρ2 H2 st2 r2 p zs hzs => ?_⟩
  by_cases hl : bs.length = n ∧ cs.length = m
  case neg => rw [if_neg hl] at p; exact p.elim
  rw [if_pos hl] at p
  refine ⟨by rw [hxs.len]; exact hl.1, by rw [hzs.len]; exact hl.2, ?_⟩
  unfold callB at p
  cases e1 : argSls ρ2 (pick perm (bs ++ cs)) with
  | none => simp only [e1] at p; exact p.elim
  | some as =>
    simp only [e1] at p
    by_cases hn : noTw (pick perm (bs ++ cs)) = true
    case neg => rw [if_neg hn] at p; exact p.elim
    rw [if_pos hn] at p
    have hb := pick_rbs (perm := perm) ((hxs.step st2).app hzs)
    refine ⟨S2, as, r2.args hb e1 hn, ?_, ?_⟩
    · refine List.all_eq_true.mpr fun s hs => ?_
      obtain ⟨i, hi, rfl⟩ := List.mem_iff_getElem.mp hs
      obtain ⟨b, f1, f2⟩ := argSls_get e1 (List.getElem?_eq_getElem hi)
      exact argSl_in f2
    · cases eF : F as with
      | no => simp only [eF] at p; exact p
      | ret r outs =>
        simp only [eF] at p
        intro S' v H' fe
        obtain ⟨r3, st3, hr, hnw⟩ := r2.back hb e1 hn fe
        exact p S' H' (st2.trans st3) r3 v hr ((hnw.back st2).back st1)
/-- the callee runs -/
theorem run_G {pins : List (Addr × Obj)} {σ : L2.St} {H : Hp} {s : Shared} {Q : VK} {us ws : List Value} {xs zs : List V} (G : FnG X.prog X.w X.K X.mg X.base k f fd ps F) (hr : Room k X.A) (hg : X.A.guards = some []) (hb : KB X.K fd ps n ks perm) (I : Inv X pins σ H s)
    (r : Vals xs us) (rz : Vals zs ws) (h1 : us.length = n) (h2 : ws.length = ks.length) (h : SpF X.K F (pick perm (xs ++ zs)) H Q) : wpAny (model X.prog X.w) X.A (call (.ref f) us (ks.zip ws)) (EP X pins σ Q) X.xe s := by
  have rr : Vals (pick perm (xs ++ zs)) (pick perm (us ++ ws)) := pick_vals (r.append rz)
  refine wpAny_call (codeAny_mono (G.run X.A X.stack s H ⟨us, ks.zip ws⟩ _ _ Q hr hg I.env0 (hb s us ws I.kIn h1 h2) rr h) fun res s' hq => ?_)
  cases res with
  | error er => exact False.elim hq
  | ok fl =>
    cases fl with
    | ret u => exact I.after hq
    | next => exact False.elim hq
    | brk => exact False.elim hq
    | cont => exact False.elim hq
theorem pk_imp {t t' : TA} (h : PK X kws t) (i : ∀ σ H Q, t' σ H Q → t σ H Q) : PK X kws t' := ⟨fun ps' pins s σ H Q I q => h.run ps' pins s σ H Q I (i σ H Q q)⟩
theorem pk_nilE : PK X [] (tAr X.K mg W mNil) := pk_imp pk_nil fun σ H Q ⟨S, ρ, rel, p⟩ => Post.ok rel p [] trivial
theorem pk_consE {a : M BV} {g : M (List BV)} {nm : Option Str} {kp : Pos} (ha : PE X e (tBo X.K mg W a)) (hr : PK X kws (tAr X.K mg W g)) : PK X (⟨nm, e, kp⟩ :: kws) (tAr X.K mg W (mCons a g)) :=
  pk_imp (pk_cons ha hr) fun σ H Q ⟨S, ρ, rel, p⟩ => by
    refine ⟨S, ρ, rel, ?_⟩
    unfold mCons at p
    refine Post.and p fun b S1 ρ1 H1 st1 r1 p v hv => ⟨S1, ρ1, r1, Post.and (Post.from p st1) fun cs S2 ρ2 H2 st2 r2 p vs hvs => p S2 H2 st2 r2 (v :: vs) ⟨hv.step st2, hvs⟩⟩
/-- a call of a def, in its four forms -/
structure Callee (X : Cx) (x : Str) (F : FSem) (n : Nat) (ks : List Str) (perm : List Nat) : Prop where
  ex : ∃ k f fd ps, FnG X.prog X.w X.K X.mg X.base k f fd ps F ∧ Room k X.A ∧ X.mg x = some (.ref f) ∧ PySem.W.keepIn X.K (.ref f) = true ∧ KB X.K fd ps n ks perm
  gd : X.A.guards = some []
theorem pe_callG {fa ga : M (List BV)} (C : Callee X x F n ks perm) (hnil : es = [] → fa = mNil) (hg : Gl X x) (hd : (x == ("__debug__" : Str)) = false) (ha : PA X es (tAr X.K mg W fa)) (hk : PK X kws (tAr X.K mg W ga))
    (hall : (backToKw pos (keywordEach kws X.env)).all (·.1.isSome) = true) (hks : (backToKw pos (keywordEach kws X.env)).filterMap (·.1) = ks)
    (hst : ∀ e' es', es = e' :: es' → starEach es X.env = (false, eval e' X.env) :: starEach es' X.env)
    (hpl : ((backTo pos (starEach es X.env)).any (·.1) || (backToKw pos (keywordEach kws X.env)).any (·.1.isNone)) = false) :
    PE X (.Call (.Name x p) es kws pos) (tS X.K mg W (mCallK F perm n ks.length fa ga)) := by
  obtain ⟨k, f, fd, ps, G, hr, hm, hkp, hb⟩ := C.ex
  refine ⟨fun pins s σ H Q I ⟨S, ρ, rel, q⟩ => ?_⟩
  have h := callK_fwd rel q
  refine wpAny_Call_Name_kw (ld_glob I hg hm ?_ hd)
  have fin : ∀ {xs zs : List V} {us ws : List Value} {s2 : Shared} {H2 : Hp}, Inv X pins σ H2 s2 → Vals xs us → Vals zs ws → xs.length = n → zs.length = ks.length → SpF X.K F (pick perm (xs ++ zs)) H2 Q → wpAny (model X.prog X.w) X.A (call (.ref f) us (ks.zip ws)) (EP X pins σ Q) X.xe s2 :=
    fun {xs zs us ws s2 H2} I2 r rz h1 h2 hq => run_G G hr C.gd hb I2 r rz (by rw [← r.length]; exact h1) (by rw [← rz.length]; exact h2) hq
  cases es with
  | nil =>
    refine PySem.W.callWith_KW0 (h₀ := X.base) I.ok.mod.kin hkp hall ?_ hpl
    have q1 : tAr X.K mg W ga σ H fun zs H2 => ([] : List V).length = n ∧ zs.length = ks.length ∧ SpF X.K F (pick perm ([] ++ zs)) H2 Q := by
      rw [hnil rfl] at h
      obtain ⟨S2, ρ2, rel2, p2⟩ := h
      exact Post.ok rel2 p2 [] trivial
    refine thn (hk.run pos pins s σ H _ I q1) fun ws s2 ⟨zs, H2, I2, rz, h1, h2, q2⟩ => ⟨I2.kIn, ?_⟩
    rw [hks]
    exact fin (us := []) I2 .nil rz h1 h2 q2
  | cons e' es' =>
    refine PySem.W.callWith_KW (h₀ := X.base) I.ok.mod.kin hkp hall (thn (ha.run pos pins s σ H _ I h) fun us s1 ⟨vs, H1, I1, r, q1⟩ => ?_) hpl (hst e' es' rfl)
    refine thn (hk.run pos pins s1 σ H1 _ I1 q1) fun ws s2 ⟨zs, H2, I2, rz, h1, h2, q2⟩ => ⟨I2.kIn, ?_⟩
    rw [hks]
    exact fin I2 r rz h1 h2 q2
end
end Ev
namespace Ev
open PySem PySem.Spec PyProof.Rows L2 PySem.W PySem.Calls
variable [Gh]
/-! ### sorting tuples the first of which is empty -/
section
variable {prog : Program} {w : World} {A : Around} {E : Value → Shared → Prop} {s : Shared}
/-- one tuple against another, by its own word for less -/
theorem less_tup {xs ys : List D} {a b : Value} {as bs : List Addr} {Q : Bool → Shared → Prop} (ra : Reads s.heap a (.tuple xs) as) (rb : Reads s.heap b (.tuple ys) bs) (hal : alikeAll xs ys = true)
    (room : A.units + min (PyData.tuple xs).depth (PyData.tuple ys).depth < cLine) (hq : Q (dataLt (.tuple xs) (.tuple ys)) s) : wpAny (model prog w) A (oneLt' true a b) Q E s := by
  cases ra with
  | @tuple p o vs n _ u1 g1 g2 g3 g4 =>
    cases rb with
    | @tuple q o' ws m _ u2 k1 k2 k3 k4 =>
      have z1 : vs.size = xs.length := by simpa using SeqAt.ReadsAll.length _ _ _ g4
      have z2 : ws.size = ys.length := by simpa using SeqAt.ReadsAll.length _ _ _ k4
      rw [dataLt_tuple, ← firstLt_toks xs ys hal, ← z1, ← z2] at hq
      rw [oneLt'_eq]
      simp only [if_true]
      have go : wpAny (model prog w) A (call (.builtin "tuple.__lt__") [.ref p, .ref q]) (fun v s' => v = .bool (SeqAt.firstLt (SeqAt.pairEq xs ys) (fun j => dataLt (xs.getD j .none) (ys.getD j .none)) (decide (vs.size < ws.size)) (List.range (min vs.size ws.size))) ∧ s' = s) E s := by
        obtain ⟨⟨c1, d1, t1, l1⟩, h1, h2, n1, h3⟩ : s.heap.IsTuple p vs := ⟨_, g1, g2, _, g3⟩
        obtain ⟨⟨c2, d2, t2, l2⟩, j1, j2, n2, j3⟩ : s.heap.IsTuple q ws := ⟨_, k1, k2, _, k3⟩
        simp only at h2 h3 j2 j3
        subst h2 h3 j2 j3
        refine call_meets F.slot_tuple_lt ⟨_, h1, rfl⟩ F.entry_tuple_lt (F.args_tuple_lt_2 _ _) (SeqAt.tuple_ltAt p q vs ws n1 n2 d1 d2 l1 l2 (SeqAt.pairEq xs ys) fun j => dataLt (xs.getD j .none) (ys.getD j .none)) ⟨h1, j1, fun j f1 f2 => ?_, fun j f1 f2 f3 => ?_, rfl, rfl⟩
        · have := eqAt_alikeAll xs ys A.in1 s vs.toList ws.toList _ _ g4 k4 hal (SeqAt.room_in room) j (by simpa using f1) (by simpa using f2)
          simpa using this
        · have := rcLt_alikeAll xs ys A.in1 s vs.toList ws.toList _ _ g4 k4 hal (SeqAt.room_in room) j (by simpa using f1) (by simpa using f2) f3
          simpa using this
      refine wpAny_bind (wpAny_cRoomFor (SeqAt.room_here room) ?_)
      refine wpAny_bind (wpAny_callSpecialIfBound?_slot (T := "tuple") ⟨_, g1, g2⟩ F.slot_tuple_lt (wpAny_mono go (fun v s' hv => ?_) fun _ _ x => x))
      obtain ⟨rfl, rfl⟩ := hv
      exact wpAny_truthy_bool hq
end
section
variable {M : Model} {A : Around} {E : Value → Shared → Prop} {s : Shared}
/-- what a first look at tuples finds -/
def firstsAt (h : Heap) : List Value → List (Option Value) → Prop
  | [], [] => True
  | v :: vs, f :: fs => (∃ a o xs n, v = .ref a ∧ h.get? a = some o ∧ o.cls = .type "tuple" ∧ o.data = .seq xs n ∧ xs[0]? = f) ∧ firstsAt h vs fs
  | _, _ => False
theorem firsts_go : ∀ (vs : List Value) (fs : List (Option Value)) {Q : List (Option Value) → Shared → Prop}, firstsAt s.heap vs fs → Q fs s → wpAny M A (vs.mapM firstOfTuple') Q E s
  | [], [], _, _, h => by rw [List.mapM_nil]; exact wpAny_pure h
  | [], _ :: _, _, t, _ => t.elim
  | _ :: _, [], _, t, _ => t.elim
  | v :: vs, f :: fs, Q, t, h => by
    obtain ⟨⟨p, o, xs, n, rfl, g1, g2, g3, g4⟩, t2⟩ := t
    rw [List.mapM_cons]
    have lk : Looks M s.heap (typeOf (.ref p)) o.cls := (Looks.ld g1).andThen .now
    refine wpAny_bind ?_
    rw [kas_first_eq]
    refine wpAny_bind (Looks.here lk ?_)
    rw [g2, if_neg (by decide)]
    refine wpAny_bind (listItems_at g1 g3 (wpAny_pure ?_))
    rw [g4]
    exact wpAny_bind (firsts_go vs fs (Q := fun bs s' => wpAny M A (pure (f :: bs)) Q E s') t2 (wpAny_pure h))
theorem kind_first0 {vs : List Value} {fs : List (Option Value)} {Q : SortKind → Shared → Prop} (t : firstsAt s.heap vs (none :: fs)) (h : Q oneType' s) : wpAny M A (keyKind' vs.toArray) Q E s := by
  rw [kat_kind_eq, List.mapM_toArray, map_eq_pure_bind]
  refine wpAny_bind (wpAny_bind (firsts_go vs _ t (wpAny_pure ?_)))
  have e1 : ((none :: fs).toArray.all fun x => x.isSome) = false := by simp
  rw [e1, if_neg Bool.false_ne_true]
  have e2 : (((none :: fs).toArray[0]?.bind id).isSome) = false := by simp
  rw [e2, if_neg Bool.false_ne_true]
  have ty : ∀ (ws : List Value) (gs : List (Option Value)), firstsAt s.heap ws gs → ∀ v ∈ ws, Looks M s.heap (typeOf v) (.type "tuple") := fun ws => by
    induction ws with
    | nil => intro gs _ v hv; exact absurd hv (by simp)
    | cons w ws ih =>
      intro gs t v hv
      cases gs with
      | nil => exact t.elim
      | cons g gs =>
        obtain ⟨⟨p, o, xs, n, rfl, g1, g2, g3, g4⟩, t2⟩ := t
        rcases List.mem_cons.mp hv with rfl | hv
        · have lk : Looks M s.heap (typeOf (.ref p)) o.cls := (Looks.ld g1).andThen .now
          rw [g2] at lk
          exact lk
        · exact ih gs t2 v hv
  have tv := ty vs _ t
  cases vs with
  | nil => exact t.elim
  | cons v₀ vs =>
    rw [oneTypeOnly'_eq, List.mapM_toArray, map_eq_pure_bind]
    refine wpAny_bind (wpAny_bind (wpAny_bind (kas_mapM (r := Value.type "tuple") _ (fun v hv Q' hq => (tv v hv).here hq) (wpAny_pure ?_))))
    have al : ((List.map (fun _ => Value.type "tuple") (v₀ :: vs)).toArray.all fun x => x == Value.type "tuple") = true := by
      simp only [List.all_toArray, List.all_map, List.all_eq_true]
      intro _ _
      exact beq_self_eq_true _
    have a0 : (List.map (fun _ => Value.type "tuple") (v₀ :: vs)).toArray[0]? = some (Value.type "tuple") := by simp
    rw [a0]
    simp only [al, if_true]
    exact wpAny_pure (wpAny_pure h)
end
def tup0 : List D → Bool
  | .tuple [] :: ds => ds.all fun d => match d with
    | .tuple _ => true
    | _ => false
  | _ => false
theorem firsts_of {h : Heap} : ∀ {vs : List Value} {ds : List D}, EachIs (fun v d => ∃ as, Reads h v d as) vs ds → (∀ d ∈ ds, ∃ xs, d = .tuple xs) → ∃ fs, firstsAt h vs fs ∧ (∀ ds', ds = .tuple [] :: ds' → ∃ fs', fs = none :: fs')
  | _, _, .nil, _ => ⟨[], trivial, fun _ e => nomatch e⟩
  | _, _, .cons (b := d) ⟨as, r⟩ t, ht => by
    obtain ⟨fs, h1, _⟩ := firsts_of t fun e he => ht e (List.mem_cons_of_mem _ he)
    obtain ⟨xs, rfl⟩ := ht d (List.mem_cons_self ..)
    cases r with
    | @tuple p o vs n _ _ g1 g2 g3 g4 =>
      refine ⟨vs[0]? :: fs, ⟨⟨p, o, vs, n, rfl, g1, g2, g3, rfl⟩, h1⟩, fun ds' e => ?_⟩
      cases e
      have z : vs.size = 0 := by simpa using SeqAt.ReadsAll.length _ _ _ g4
      exact ⟨fs, by rw [show vs[0]? = none by simp [z]]⟩
theorem sorts_tup0 {prog : Program} {w : World} {A : Around} {s : Shared} {vs : List Value} {ds : List D} (e : EachIs (fun v d => ∃ as, Reads s.heap v d as) vs ds) (hal : AllAlike ds) (h0 : tup0 ds = true) (hu : ∀ d, d ∈ ds → A.units + d.depth < cLine) : SortsAt prog w A s (dataKind s.heap ds) vs := by
  have tup : ∀ d ∈ ds, ∃ xs, d = .tuple xs := by
    unfold tup0 at h0
    split at h0
    · intro d hd
      rcases List.mem_cons.mp hd with rfl | hd
      · exact ⟨[], rfl⟩
      · have := List.all_eq_true.mp h0 d hd
        cases d <;> first | (cases this; done) | exact ⟨_, rfl⟩
    · cases h0
  obtain ⟨fs, f1, f2⟩ := firsts_of e tup
  obtain ⟨fs', rfl⟩ : ∃ fs', fs = none :: fs' := by
    unfold tup0 at h0
    split at h0
    · exact f2 _ rfl
    · cases h0
  refine ⟨fun v hv => ?_, oneType', fun E x y a b Q ha hb hq => ?_, fun h2 E Q hq => kind_first0 f1 hq⟩
  · obtain ⟨d, hd, as, r⟩ := e.left v hv
    exact ⟨_, dataKind_some hal hd r⟩
  · obtain ⟨d, as, hd, ra, rfl⟩ := dataKind_inv ha
    obtain ⟨d', as', hd', rb, rfl⟩ := dataKind_inv hb
    obtain ⟨xs, rfl⟩ := tup d hd
    obtain ⟨ys, rfl⟩ := tup d' hd'
    have hxy := hal _ hd _ hd'
    rw [keyLt'_oneType]
    exact less_tup ra rb (by simpa [alike] using hxy) (Nat.lt_of_le_of_lt (Nat.add_le_add_left (Nat.min_le_left _ _) _) (hu _ hd)) hq
theorem sorted_tup0 {prog : Program} {w : World} {A : Around} {E : Value → Shared → Prop} {s : Shared} {vs : List Value} {bs : List D} {R : Value → D → Prop} {l : Addr} {Q : Value → Shared → Prop} (hl : s.heap.IsList l vs.toArray) (e : EachIs R vs bs) (er : EachIs (fun v b => ∃ as, Reads s.heap v b as) vs bs) (hal : AllAlike bs) (h0 : tup0 bs = true) (hL : bs.length ≤ sizeLine)
    (hu : ∀ b, b ∈ bs → A.units + 2 + b.depth < cLine) (h : ∀ out, out.length = bs.length → EachIs R out (bs.mergeSort (dataLe false id)) → Q (.ref (s.heap.objs.size + 1)) { s with heap := PyProof.Rows.sortedAll s.heap vs (List.toArray out) }) :
    wpAny (model prog w) A (call (.builtin "sorted") [.ref l]) Q E s := by
  have er2 : EachIs (fun v b => ∃ as, Reads (sortingHeap (copyHeap s.heap vs) (s.heap.objs.size + 1) vs) v b as) vs bs := er.mono fun _ _ ⟨as, r⟩ => ⟨as, PyProof.Rows.Reads.keeps (fun _ _ => sorting_copy_old) r⟩
  have S0 : SortsAt prog w A.in1.in1 { s with heap := sortingHeap (copyHeap s.heap vs) (s.heap.objs.size + 1) vs } (dataKind (sortingHeap (copyHeap s.heap vs) (s.heap.objs.size + 1) vs) bs) vs :=
    sorts_tup0 (s := { s with heap := sortingHeap (copyHeap s.heap vs) (s.heap.objs.size + 1) vs }) er2 hal h0 fun d hd => hu d hd
  refine sorted_vals hl S0 (by rw [e.length]; exact hL) (h _ (by rw [sortVals_length false rfl]; exact e.length) ?_)
  have := sortVals_data (h' := sortingHeap (copyHeap s.heap vs) (s.heap.objs.size + 1) vs) (enc := id) (bs := bs) false e er2 (by rw [List.map_id]; exact hal)
  rw [List.map_id] at this
  exact this
def sortOk0 (ds : List D) : Bool := alikeOk ds && tup0 ds && decide (ds.length ≤ 16777216)
def bSort : List D → Option Ret
  | [.list ds] => if sortOk ds = true then some (.fl (sortD ds)) else if sortOk0 ds = true then some (.fl (sortD ds)) else none
  | _ => none
section
variable {X : Cx}
theorem cb_sort0 (hu : X.A.units + 64 < cLine) : CallR X (.builtin "sorted") fun xs H Q => ∃ S ds, Live S H ∧ RRs X.K H S xs [.list ds] ∧ sortOk0 ds = true ∧ ∀ v H', PPost X.K S H v H' (.fl (sortD ds)) → Q v H' := by
  intro pins s σ H xs us Q I rx ⟨S, ds, lv, hR, hp, q⟩
  obtain ⟨v, rfl, h1⟩ := hR.one
  obtain ⟨a, vs, rfl, hs, ha⟩ := h1.list
  obtain ⟨its, rv, hl, hz⟩ := I.list (.inl (.inl hs))
  rw [Vals.ref1 rx]
  unfold sortOk0 at hp
  simp only [Bool.and_eq_true, decide_eq_true_eq] at hp
  obtain ⟨⟨ho, hk⟩, hlen⟩ := hp
  obtain ⟨hal, hpl⟩ := alikeOk_ok ho
  have e := each_of ha rv
  have er : PySem.W.EachIs (fun v b => ∃ as, Reads s.heap v b as) its ds := by
    refine (PySem.W.each_mem e).mono fun u d hh => ?_
    obtain ⟨⟨v, r, h⟩, hm⟩ := hh
    exact h.reads I d v u r (hpl d hm).1
  refine sorted_tup0 hl.isList e er hal hk (by rw [line_eq]; exact hlen) (fun b hb => by have := (hpl b hb).2; show X.A.units + 2 + b.depth < cLine; omega) fun out hlo hout => ?_
  rw [sortD_eq] at hout
  obtain ⟨ys, ra, ry⟩ := of_each hout
  obtain ⟨ep, he'⟩ := PyProof.Rows.sortedAll_at s.heap its out.toArray
  have hp : H (s.heap.objs.size + 1) = none := I.hok.fresh (Nat.le_succ _)
  exact ⟨.ref _, upd H (s.heap.objs.size + 1) (.lst ys), I.laid (t' := s.toks) (fun _ _ => PyProof.Rows.sortedAll_old) (Nat.le_succ _) ⟨by rw [ry.length, hlo, line_eq]; exact hlen, out, ep, ry, he'⟩, rfl, q _ _ (.lst hp lv ra)⟩
theorem cb_sort (hu : X.A.units + 64 < cLine) : CallR X (.builtin "sorted") (rOps X.K bSort) := by
  intro pins s σ H xs us Q I rx ⟨S, ds, r, lv, hR, h3, q⟩
  unfold bSort at h3
  split at h3
  · rename_i ds
    split at h3
    · rename_i hp
      refine cb_sorted hu pins s σ H xs us Q I rx ⟨S, _, r, lv, hR, ?_, q⟩
      unfold bSorted
      simp only [if_pos hp]
      exact h3
    · split at h3
      · rename_i hp
        cases h3
        exact cb_sort0 hu pins s σ H xs us Q I rx ⟨S, ds, lv, hR, hp, q⟩
      · cases h3
  · cases h3
end
end Ev
namespace Ev
open PySem PySem.Spec PyProof.Rows L2
variable [Gh]
/-! ### comprehensions as expressions, as assignments -/
def mYes : M Bool := fun ρ => .ok true ρ
abbrev W0 : WX := fun _ _ _ _ => False
section
variable {X : Cx} {mg : Str → Option Value} {W : WX} {st : Stmt} {e elt tg iter : Expr} {ifs : List Expr} {scope : Scope} {own : List (Str × Nat)} {pos : Pos} {it : M (List D)} {t : Tgt} {tt : M Bool} {te : M Ret}
theorem pts_yes : PTs X [] (tTe X.K mg W mYes) := ⟨fun pins s σ H Q I ⟨S, ρ, rel, p⟩ => pts_nil.run pins s σ H Q I (Post.ok rel p)⟩
theorem asgN_imp {ta : TE} {i : Nat} {f : M Ret} (h : PS X st (tAsg ta (gName i))) (im : ∀ σ H Q, tS X.K mg W f σ H Q → ta σ H Q) : PS X st (tSt X.K mg W (sAsgN i f)) := ps_imp h fun D σ H ⟨S, ρ, rel, p⟩ =>
  im σ H _ ⟨S, ρ, rel, PostS.and p fun r S1 ρ1 H1 st1 r1 p v hv hn => by
    by_cases hf : Slot.free? ρ1[i]? = true
    · rw [if_pos hf] at p
      obtain ⟨r2, st2⟩ := store_ret rel st1 r1 hv hn hf
      exact p S1 _ H1 st2 r2
    · rw [if_neg hf] at p
      exact p.elim⟩
structure LcParts (X : Cx) (mg : Str → Option Value) (W : WX) (elt tg iter : Expr) (ifs : List Expr) (scope : Scope) (own : List (Str × Nat)) (it : M (List D)) (t : Tgt) (tt : M Bool) (te : M Ret) : Prop where
  calm : X.calm = true
  nd : X.N.Nodup
  src : PI X tg iter (tIt X.K mg W it)
  ok : BlkOk X.N X.env.scope scope own
  sub : ∀ i ∈ t.slots, i ∈ own.map (·.2)
  tgt : ∀ (s : Shared) (H : Hp) (C : Addr) (cl : List (Str × Addr)) (fp : List Addr), PG (X.blk s H scope (compEnvC scope cl C X.env) fp) tg (tGt X.K t)
  test : ∀ (s : Shared) (H : Hp) (C : Addr) (cl : List (Str × Addr)) (fp : List Addr), PTs (X.blk s H scope (compEnvC scope cl C X.env) fp) ifs (tTe X.K mg W0 tt)
  val : ∀ (s : Shared) (H : Hp) (C : Addr) (cl : List (Str × Addr)) (fp : List Addr), PE (X.blk s H scope (compEnvC scope cl C X.env) fp) elt (tS X.K mg W0 te)
  fold : ∀ x, foldedSetIterable iter X.env x = pure x
theorem pe_lcE (p : LcParts X mg W elt tg iter ifs scope own it t tt te) : PE X (.ListComp elt [⟨tg, iter, ifs, 0⟩] scope pos) (tS X.K mg W (mLc (own.map (·.2)) it t tt te)) :=
  pe_imp (pe_lc p.calm p.nd p.src p.ok p.tgt p.test p.val p.fold) fun _ _ _ ⟨_, _, rel, q⟩ => lc_fwd p.sub rel q
theorem ps_lcE {i : Nat} {y : Str} {py spos : Pos} (p : LcParts X mg W elt tg iter ifs scope own it t tt te) (hy : X.N[i]? = some y) (hyl : X.env.scope.names.lookup y = some .local)
    (hsw : swapsWith (.ListComp elt [⟨tg, iter, ifs, 0⟩] scope pos) (some (.Name y py)) spos.line X.env = pure true) : PS X (.Assign [.Name y py] (.ListComp elt [⟨tg, iter, ifs, 0⟩] scope pos) spos) (tSt X.K mg W (sAsgN i (mLc (own.map (·.2)) it t tt te))) :=
  asgN_imp (ps_setLc p.calm p.nd hy hyl hsw p.src p.ok p.tgt p.test p.val p.fold) fun _ _ _ ⟨_, _, rel, q⟩ => lc_fwd p.sub rel q
end
/-! ### the script -/
def mLenG (k : Nat) : M Ret := fun ρ => match ρ[k]? with
  | some (.giv ds) => .ok (.val (.int ds.length)) ρ
  | _ => .no
def mIxG (k : Nat) (f : M BV) : M Ret := fun ρ => match ρ[k]? with
  | some (.giv ds) => (f ρ).andThen fun b ρ1 => match res ρ1 b with
    | some (.int i) => match L2.atI ds i with
      | some d => .ok (.val d) ρ1
      | none => .no
    | _ => .no
  | _ => .no
def mSlG (k : Nat) (lo hi : Option (M BV)) : M Ret := fun ρ => match ρ[k]? with
  | some (.giv ds) => (mPart lo ρ).andThen fun l ρ1 => (mPart hi ρ1).andThen fun u ρ2 => .ok (.fl (cutD ds l u)) ρ2
  | _ => .no
section
variable {X : Cx} {mg : Str → Option Value} {W : WX} {e a b : Expr} {lo hi : Option Expr} {pos p2 : Pos}
theorem Rel.giv {K : PySem.W.Frag} {S : AS} {ρ : Rho} {σ : L2.St} {H : Hp} (rel : Rel K S ρ σ H) {k : Nat} {ds : List D} (h : ρ[k]? = some (.giv ds)) : ∃ a vs, σ[k]? = some (some (.ref a)) ∧ SqL K H a vs ∧ (S a ∨ ∀ H', SqL K H' a vs) ∧ RAll K H S vs ds := by
  have q := rel.slot k _ h
  cases e : σ[k]? with
  | none => rw [e] at q; exact q.elim
  | some x =>
    rw [e] at q
    cases x with
    | none => exact q.elim
    | some v =>
      have q : SlotOk K S H (some v) (.giv ds) := q
      cases v <;> first | exact False.elim q | skip
      obtain ⟨vs, h1, h2, h3⟩ := q
      exact ⟨_, vs, rfl, h1, h2, h3⟩
theorem givKeep {K : PySem.W.Frag} {S S1 : AS} {ρ ρ1 : Rho} {σ : L2.St} {H H1 : Hp} {a : Addr} {vs : List V} {ds : List D} (st : Step S ρ σ H S1 ρ1 σ H1) (h : SqL K H a vs) (hs : S a ∨ ∀ H', SqL K H' a vs) (hr : RAll K H S vs ds) : SqL K H1 a vs ∧ RAll K H1 S1 vs ds := by
  refine ⟨?_, hr.stay st.stay⟩
  rcases hs with hs | hs
  · exact sqL_at (st.at_ a hs) h
  · exact hs H1
theorem pe_lenG {k : Nat} {np p : Pos} (hx : PE X e (tVar k)) (hg : Gl X "len") (hm : X.mg "len" = none) (he : starEach [e] X.env = [(false, eval e X.env)]) : PE X (.Call (.Name "len" np) [e] [] p) (tS X.K mg W (mLenG k)) :=
  pe_imp (pe_callB call_len hg hm PySem.boot_len (pa_cons hx pa_nil he) (by decide) (by decide) he) fun σ H Q ⟨S, ρ, rel, p⟩ => by
    unfold mLenG at p
    split at p
    · rename_i ds hs
      obtain ⟨a, vs, e1, e2, e3, e4⟩ := rel.giv hs
      exact ⟨.ref a, e1, _, _, rfl, .inl ⟨vs, e2, rfl⟩, by rw [e4.length]; exact Post.ok rel p _ (.int _) trivial⟩
    · exact p.elim
theorem pe_ixG {k : Nat} {f : M BV} (hx : PE X a (tVar k)) (hb : PE X b (tBo X.K mg W f)) (hp : PlainIx b) : PE X (.Subscript a b pos) (tS X.K mg W (mIxG k f)) :=
  pe_imp (pe_ix ix_list hx hb hp) fun σ H Q ⟨S, ρ, rel, p⟩ => by
    unfold mIxG at p
    split at p
    · rename_i ds hs
      obtain ⟨a, vs, e1, e2, e3, e4⟩ := rel.giv hs
      refine ⟨.ref a, e1, S, ρ, rel, Post.and p fun bv S1 ρ1 H1 st1 r1 p v hv => ?_⟩
      cases e5 : res ρ1 bv with
      | none => simp only [e5] at p; exact p.elim
      | some d =>
        simp only [e5] at p
        cases d <;> try (exact p.elim)
        rename_i i
        simp only at p
        cases e6 : L2.atI ds i with
        | none => simp only [e6] at p; exact p.elim
        | some d =>
          simp only [e6] at p
          obtain ⟨k1, k2⟩ := givKeep st1 e2 e3 e4
          obtain ⟨u, hu, hr⟩ := k2.atI e6
          exact ⟨a, vs, i, u, rfl, (hv.read r1 e5).int, k1, hu, p S1 H1 st1 r1 _ hr trivial⟩
    · exact p.elim
theorem pe_slG {k : Nat} {l h : Option (M BV)} (hx : PE X e (tVar k)) (hl : PO X lo (tPt X.K mg W (mPart l))) (hh : PO X hi (tPt X.K mg W (mPart h))) : PE X (.Subscript e (.Slice lo hi none p2) pos) (tS X.K mg W (mSlG k l h)) :=
  pe_imp (pe_slice sl_list hx hl hh) fun σ H Q ⟨S, ρ, rel, p⟩ => by
    unfold mSlG at p
    split at p
    · rename_i ds hs
      obtain ⟨a, vs, e1, e2, e3, e4⟩ := rel.giv hs
      refine ⟨.ref a, e1, S, ρ, rel, Post.and p fun o S1 ρ1 H1 st1 r1 p => ?_⟩
      refine ⟨S1, ρ1, r1, Post.and (Post.from p st1) fun o2 S2 ρ2 H2 st2 r2 p => ?_⟩
      obtain ⟨k1, k2⟩ := givKeep (st1.trans st2) e2 e3 e4
      refine ⟨a, vs, rfl, k1, fun q hq => ?_⟩
      obtain ⟨S', st', r', hr, hn⟩ := r2.pure (q := .fl (cutD ds o o2)) (.lst hq r2.live (k2.cut o o2))
      exact p S' _ (st2.trans st') r' _ hr ((hn.back st2).back st1)
    · exact p.elim
end
/-! ### o[i] = v for an own list -/
def sSetIx (k : Nat) (fi : M BV) (fv : M Ret) : MS := fun ρ => (fv ρ).thenS fun r ρ1 => match ρ1[k]? with
  | some (.lst _ _) => (fi ρ1).thenS fun b ρ2 => match ρ2[k]?, res ρ2 b with
    | some (.lst z ds), some (.int i) => match L2.ixN ds.length i with
      | some j => .nx (ρ2.set k (.lst z (ds.set j r.toD)))
      | none => .no
    | _, _ => .no
  | _ => .no
def augI : Operator → Option (Int → Int → Int)
  | .Add => some fun i j => i + j
  | .Sub => some fun i j => i - j
  | _ => none
def sAug (k : Nat) (op : Int → Int → Int) (f : M BV) : MS := fun ρ => match ρ[k]? with
  | some (.dat (.int i)) => (f ρ).thenS fun b ρ1 => match res ρ1 b with
    | some (.int j) => if Slot.free? ρ1[k]? = true then .nx (ρ1.set k (.dat (.int (op i j)))) else .no
    | _ => .no
  | _ => .no
def Ret.isNew : Ret → Bool
  | .val _ => false
  | _ => true
def sPar (i j : Nat) (f g : M Ret) : MS := fun ρ => (f ρ).thenS fun r ρ1 => (g ρ1).thenS fun q ρ2 => if Slot.free? ρ2[i]? = true ∧ Slot.free? (ρ2.set i r.slot)[j]? = true then .nx ((ρ2.set i r.slot).set j q.slot) else .no
section
variable {X : Cx} {mg : Str → Option Value} {W : WX} {st : Stmt} {e a b tg : Expr} {pos : Pos}
theorem PostS.thenI {K : PySem.W.Frag} {S S1 : AS} {ρ ρ1 : Rho} {σ σ1 : L2.St} {H H1 : Hp} {D : Ends} {α : Type} {o : Out α} {f : α → Rho → OutS} {P' : α → AS → Rho → Hp → Prop} (p : PostS K mg W S ρ σ H D (o.thenS f)) (st : Step S ρ σ H S1 ρ1 σ1 H1)
    (h : ∀ a S2 ρ2 H2, Step S1 ρ1 σ1 H1 S2 ρ2 σ1 H2 → Rel K S2 ρ2 σ1 H2 → PostS K mg W S1 ρ1 σ1 H1 D (f a ρ2) → P' a S2 ρ2 H2) : Post K mg W S1 ρ1 σ1 H1 P' o := PostS.and (PostS.from p st) h
theorem PostS.thenJ {K : PySem.W.Frag} {S S1 : AS} {ρ ρ1 : Rho} {σ σ1 : L2.St} {H H1 : Hp} {D : Ends} {α : Type} {o : Out α} {f : α → Rho → OutS} {P' : α → AS → Rho → Hp → Prop} (p : PostS K mg W S ρ σ H D (o.thenS f)) (st : Step S ρ σ H S1 ρ1 σ1 H1)
    (h : ∀ a S2 ρ2 H2, Step S1 ρ1 σ1 H1 S2 ρ2 σ1 H2 → Rel K S2 ρ2 σ1 H2 → PostS K mg W S ρ σ H D (f a ρ2) → P' a S2 ρ2 H2) : Post K mg W S1 ρ1 σ1 H1 P' o := by
  cases o with
  | ok a ρ2 => exact fun S2 H2 st2 r2 => h a S2 ρ2 H2 st2 r2 p
  | exn x ρ2 => exact fun S2 H2 cls dx st2 r2 xr => p S2 σ1 H2 cls dx (st.trans st2) r2 xr
  | no => exact p
theorem ps_setIxE {k : Nat} {fi : M BV} {fv : M Ret} {ob ix : Expr} {sp : Pos} (h : ∀ te g, PE X e te → PG X (.Subscript ob ix sp) g → PS X st (tAsg te g)) (ho : PE X ob (tVar k)) (hi : PE X ix (tBo X.K mg W fi)) (he : PE X e (tS X.K mg W fv))
    (ha : ∀ v, assign (.Subscript ob ix sp) X.env v = (do
      let ov ← holding [v] (eval ob X.env)
      let iv ← holding [v, ov] (eval ix X.env)
      standAt sp
      holding [v, ov, iv] (setItem ov iv v)
      release [v, ov, iv] [])) : PS X st (tSt X.K mg W (sSetIx k fi fv)) :=
  ps_imp (h _ _ he (pg_sub ho hi set_list ha)) fun D σ H ⟨S, ρ, rel, p⟩ => by
    refine ⟨S, ρ, rel, ?_⟩
    unfold sSetIx at p
    refine PostS.and p fun r S0 ρ0 H0 st0 r0 p v hv hn => ?_
    obtain ⟨S1, st1, r1, hr, _⟩ := RRet.val st0 r0 hv hn
    split at p
    · rename_i z0 ds0 hs0
      obtain ⟨aa, o, f1, f2, f3, f4⟩ := (r1.slot k _ hs0).own_adr (z := z0) rfl
      have hadr := join_adr f1
      refine ⟨.ref aa, adr_get hadr, S1, ρ0, r1, PostS.thenI p st1 fun bv S2 ρ2 H2 st2 r2 p u hu => ?_⟩
      split at p
      · rename_i z ds i hs hi
        cases e3 : L2.ixN ds.length i with
        | none => simp only [e3] at p; exact p.elim
        | some j =>
          simp only [e3] at p
          have q := r2.slot k _ hs
          rw [adr_join hadr] at q
          obtain ⟨vs, q1, q2, q3⟩ := q
          refine ⟨aa, vs, i, j, rfl, (hu.read r2 hi).int, q1, by rw [q3.length]; exact e3, ?_⟩
          obtain ⟨r3, st3⟩ := r2.lset hs hadr (q3.set (hr.stay st2.stay) j)
          exact p S2 σ _ (st2.trans st3) r3
      · exact p.elim
    · exact p.elim
theorem ps_augE {k : Nat} {op : Operator} {fo : Int → Int → Int} {f : M BV} {x : Str} {xp : Pos} (hop : augI op = some fo) (hN : X.N.Nodup) (hi : X.N[k]? = some x) (hx : Loc X.env.scope x) (hf : X.fn x = true ∨ X.env.scope.names.lookup x = some .local) (he : PE X e (tBo X.K mg W f)) :
    PS X (.AugAssign (.Name x xp) op e pos) (tSt X.K mg W (sAug k fo f)) := by
  have base : ∀ {ti : TIp}, PIp X op ti → (∀ i j H Q, Q (.int (fo i j)) H → ti (.int i) (.int j) H Q) → PS X (.AugAssign (.Name x xp) op e pos) (tSt X.K mg W (sAug k fo f)) := fun {ti} hp hti =>
    ps_imp (ps_aug hN hi hx he hp hf) fun D σ H ⟨S, ρ, rel, p⟩ => by
      unfold sAug at p
      split at p
      · rename_i i hs
        have q := rel.slot k _ hs
        cases e1 : σ[k]? with
        | none => rw [e1] at q; exact q.elim
        | some y =>
          rw [e1] at q
          cases y with
          | none => exact q.elim
          | some v =>
            have q : R X.K H S v (.int i) := q
            cases q
            refine ⟨.int i, e1, S, ρ, rel, PostS.and p fun bv S1 ρ1 H1 st1 r1 p u hu => ?_⟩
            split at p
            · rename_i j hj
              have hu' := (hu.read r1 hj).int
              subst hu'
              by_cases hfr : Slot.free? ρ1[k]? = true
              case neg => rw [if_neg hfr] at p; exact p.elim
              rw [if_pos hfr] at p
              refine hti i j H1 _ ?_
              obtain ⟨r2, st2⟩ := store_ret rel st1 r1 (v := .int (fo i j)) (r := .val (.int (fo i j))) (.int _) trivial hfr
              exact p S1 _ H1 st2 r2
            · exact p.elim
      · exact p.elim
  cases op <;> try (cases hop; done)
  · cases hop
    exact base ip_add fun i j H Q q => ⟨i, j, rfl, rfl, q⟩
  · cases hop
    exact base ip_sub fun i j H Q q => ⟨i, j, rfl, rfl, q⟩
theorem ps_parE {i j : Nat} {f g : M Ret} (h : ∀ ta, PA X [a, b] ta → PS X st (tPar i j ta)) (ha : PE X a (tS X.K mg W f)) (hb : PE X b (tS X.K mg W g)) (hs : starEach [a, b] X.env = (false, eval a X.env) :: starEach [b] X.env) (hs2 : starEach [b] X.env = (false, eval b X.env) :: starEach [] X.env) :
    PS X st (tSt X.K mg W (sPar i j f g)) := ps_imp (h _ (pa_cons ha (pa_cons hb pa_nil hs2) hs)) fun D σ H ⟨S, ρ, rel, p⟩ => by
  refine ⟨S, ρ, rel, ?_⟩
  unfold sPar at p
  refine PostS.and p fun r S1 ρ1 H1 st1 r1 p v hv hn => ?_
  refine ⟨S1, ρ1, r1, PostS.thenJ p st1 fun q S2 ρ2 H2 st2 r2 p u hu hnu => ?_⟩
  by_cases hf : Slot.free? ρ2[i]? = true ∧ Slot.free? (ρ2.set i r.slot)[j]? = true
  case neg => rw [if_neg hf] at p; exact p.elim
  rw [if_pos hf] at p
  refine ⟨v, u, rfl, ?_⟩
  -- the first value behind the second one
  have hv2 : RRet X.K S2 ρ2 σ H2 v r := by
    cases r with
    | val d => exact R.stay st2.stay d v hv
    | fl ds =>
      obtain ⟨c, vs, rfl, h1, h2, h3, h4⟩ := hv
      have as : Aside S1 ρ1 σ H1 c (.lst vs) := ⟨h1, h2, h4⟩
      have as2 := as.step st2
      exact ⟨c, vs, rfl, as2.at_, as2.nS, h3.stay st2.stay, as2.nO⟩
    | fd ds =>
      obtain ⟨c, vs, rfl, h1, h2, h3, h4⟩ := hv
      have as : Aside S1 ρ1 σ H1 c (.dK vs) := ⟨h1, h2, h4⟩
      have as2 := as.step st2
      exact ⟨c, vs, rfl, as2.at_, as2.nS, h3.stay st2.stay, as2.nO⟩
  obtain ⟨r3, st3⟩ := store_ret rel (st1.trans st2) r2 hv2 hn hf.1
  -- the second one is not the first
  have apart : ∀ c o, v = .ref c → H1 c = some o → ¬ Own ρ1 σ c → u = .ref c → q.isNew = false := fun c o ev h1 h4 eu => by
    cases q with
    | val d => rfl
    | fl ds =>
      rcases hnu c eu with z | z
      · rw [h1] at z; cases z
      · exact (h4 z.own).elim
    | fd ds =>
      rcases hnu c eu with z | z
      · rw [h1] at z; cases z
      · exact (h4 z.own).elim
  have own3 : ∀ c, Own (ρ2.set i r.slot) (σ.set i (some v)) c → Own ρ2 σ c ∨ (v = .ref c ∧ r.isNew = true) := fun c ⟨l, s, z, g1, g2, g3⟩ => by
    rcases getset g1 with ⟨rfl, rfl⟩ | ⟨hne, g1⟩
    · have hl : l < σ.length := by
        have := (List.getElem?_eq_some_iff.mp g1).1
        rw [List.length_set, r2.len] at this
        exact this
      have := adr_get (g3.resolve_right fun z => by cases r <;> cases z.1)
      rw [List.getElem?_set_self hl] at this
      cases this
      refine .inr ⟨rfl, ?_⟩
      cases r with
      | val d => cases g2
      | fl d => rfl
      | fd d => rfl
    · rw [ter_at (adr_set_ne hne)] at g3
      exact .inl ⟨l, s, z, g1, g2, g3⟩
  have hu3 : RRet X.K S2 (ρ2.set i r.slot) (σ.set i (some v)) H2 u q := by
    have key : ∀ c, u = .ref c → q.isNew = true → ¬ Own ρ2 σ c → ¬ Own (ρ2.set i r.slot) (σ.set i (some v)) c := fun c eu hq h4 ho => by
      rcases own3 c ho with z | ⟨ev, hr⟩
      · exact h4 z
      · cases r with
        | val d => cases hr
        | fl ds =>
          obtain ⟨c', vs, ec, h1, h2, h3, h4⟩ := hv
          rw [ev] at ec
          cases ec
          have := apart c _ ev h1 h4 eu
          rw [this] at hq; cases hq
        | fd ds =>
          obtain ⟨c', vs, ec, h1, h2, h3, h4⟩ := hv
          rw [ev] at ec
          cases ec
          have := apart c _ ev h1 h4 eu
          rw [this] at hq; cases hq
    cases q with
    | val d => exact hu
    | fl ds => obtain ⟨c, vs, rfl, h1, h2, h3, h4⟩ := hu; exact ⟨c, vs, rfl, h1, h2, h3, key c rfl rfl h4⟩
    | fd ds => obtain ⟨c, vs, rfl, h1, h2, h3, h4⟩ := hu; exact ⟨c, vs, rfl, h1, h2, h3, key c rfl rfl h4⟩
  obtain ⟨s4, hs4, hz4⟩ := free_of hf.2
  have nw : RNew ρ σ H u q := hnu.back st1
  -- the second store, at a state that has other slots
  have fin := store_ret rel st3 r3 hu3 nw hf.2
  exact p S2 _ H2 fin.2 fin.1
end
end Ev
namespace Ev
open PySem PySem.Spec PyProof.Rows L2
variable [Gh]
/-! ### enumerate over a tuple -/
section
variable {prog : Program} {w : World} {A : Around} {E : Value → Shared → Prop} {s : Shared}
theorem draws_tup (hh : A.handled = none) (it l : Addr) (hne : l ≠ it) (items : Array Value) :
    Draws prog w A it [it, l] items.size (fun i v => items[i]? = some v) (fun i h => h.IsTupleIter it l i ∧ h.IsTuple l items) where
  live := fun _ _ q => let ⟨o, ho, _⟩ := q.1; ⟨o, ho⟩
  frame := fun _ _ _ q hk => ⟨q.1.at fun o e => hk it (by simp) o e, let ⟨o, ho, r⟩ := q.2; ⟨o, hk l (by simp) o ho, r⟩⟩
  item := fun i s Q E hi q hQ => RZ.nextOf_tuple_item q.1 q.2 (x := items[i]) (by simp [hi]) fun h' hit' hs' => hQ _ h' s.toks (by simp [hi]) ⟨hit', q.2.extBut hs'.extBut hne⟩ hs'
  done := fun s Q E q hE => RZ.nextOf_tuple_end hh q.1 q.2 (by simp) hE
theorem new_enum_tup (l : Addr) (items : Array Value) (n : Nat) (dct : Option Addr) (sl : Array (Option Value)) :
    Meets (Builtin.«enumerate.__new__» ⟨[.type "enumerate", .ref l], []⟩) (fun _ R s => s.heap.get? l = some { cls := .type "tuple", dict := dct, data := .seq items n, slots := sl } ∧
      R (.ok (.ret (.ref (s.heap.push { cls := .type "tuple_iterator", data := .fields #[.ref l, .int 0 0] }).objs.size)))
        { s with heap := (s.heap.push { cls := .type "tuple_iterator", data := .fields #[.ref l, .int 0 0] }).push { cls := .type "enumerate", data := .fields #[.none, .bool false, .ref s.heap.objs.size, rawInt 0, .none, .none] } }) :=
  .of_wp fun prog w A R s h => by
    obtain ⟨hp, g, d, tk, os⟩ := s
    obtain ⟨hl, h⟩ := h
    have su := PySem.sub_enumerate
    have tl : Heap.IsTuple (Shared.heap ⟨hp, g, d, tk, os⟩) l items := ⟨_, hl, rfl, n, rfl⟩
    wp_walk using AutoSeq1.wpAny_loadPart' hl
    refine wpAny_stack_any fun st => wpAny_pure ?_
    split
    · rename_i c _ _ _ _ _
      cases (c == Value.type "enumerate")
      · wp_walk using AutoSeq1.wpAny_loadPart' hl, wpAny_pyIter_tuple tl
        exact ⟨_, rfl, h⟩
      · wp_walk using AutoSeq1.wpAny_loadPart' hl, wpAny_pyIter_tuple tl
        exact ⟨_, rfl, h⟩
    · wp_walk using AutoSeq1.wpAny_loadPart' hl, wpAny_pyIter_tuple tl
      exact ⟨_, rfl, h⟩
theorem call_enum_tup {l : Addr} {items : Array Value} {Q : Value → Shared → Prop} (tl : s.heap.IsTuple l items)
    (h : ∀ h', IsEnum h' (s.heap.objs.size + 1) s.heap.objs.size 0 .none → h'.IsTupleIter s.heap.objs.size l 0 → h'.objs.size = s.heap.objs.size + 2 →
      (∀ b o, s.heap.get? b = some o → h'.get? b = some o) → Q (.ref (s.heap.objs.size + 1)) { s with heap := h' }) : wpAny (model prog w) A (call (.type "enumerate") [.ref l]) Q E s := by
  obtain ⟨⟨c, dct, dt, sl⟩, hl, hc, n, hd⟩ := tl
  replace hc : c = .type "tuple" := hc
  replace hd : dt = .seq items n := hd
  subst hc hd
  refine callType_new F.called_enumerate (by decide) (F.typeCall_enumerate_1 _) (F.newCall_enumerate_1 _) (fun obj => F.args_object_init_2 obj _) F.entry_enumerate_new (new_enum_tup l items n dct sl) ⟨hl, ?_⟩
  have z1 : (s.heap.push { cls := .type "tuple_iterator", data := .fields #[.ref l, .int 0 0] }).objs.size = s.heap.objs.size + 1 := Heap.size_push ..
  show _ ∧ _
  rw [z1]
  have en : IsEnum ((s.heap.push { cls := .type "tuple_iterator", data := .fields #[.ref l, .int 0 0] }).push { cls := .type "enumerate", data := .fields #[.none, .bool false, .ref s.heap.objs.size, rawInt 0, .none, .none] }) (s.heap.objs.size + 1) s.heap.objs.size 0 .none := by
    have q := Heap.get?_push_size (s.heap.push { cls := .type "tuple_iterator", data := .fields #[.ref l, .int 0 0] }) (o := { cls := .type "enumerate", data := .fields #[.none, .bool false, .ref s.heap.objs.size, rawInt 0, .none, .none] }) rfl
    rw [z1] at q
    exact q
  exact ⟨⟨_, en, rfl⟩, h _ en ⟨_, Heap.get?_push_of_some _ (Heap.get?_push_size _ rfl), rfl, rfl⟩ (by rw [Heap.size_push, z1]) fun b o x => Heap.get?_push_of_some _ (Heap.get?_push_of_some _ x)⟩
end
section
variable {prog : Program} {w : World} {A : Around} {E : Value → Shared → Prop} {s : Shared}
theorem enum_tup_over {e it l : Addr} {k : Nat} {items : Array Value} {i : Int} {old : Value} {Q : Option Value → Shared → Prop} (hh : A.handled = none) (en : IsEnum s.heap e it i old) (hi : s.heap.IsTupleIter it l k) (tl : s.heap.IsTuple l items) (hx : items[k]? = none)
    (hQ : ∀ h', Heap.ExtBut it s.heap h' → Q none { s with heap := h' }) : wpAny (model prog w) A (pyNext (.ref e)) Q E s := by
  have ty : s.TypeIs (.ref e) "enumerate" := ⟨_, en, rfl⟩
  unfold pyNext
  have body : wpAny (model prog w) A.in1 (Builtin.«enumerate.__next__» ⟨[.ref e], []⟩) (fun fin s' => ∃ v, fin = .done (.ret v) ∧ False) (fun x s' => (∃ o, s'.heap.get? (match x with | .ref a => a | _ => 0) = some o ∧ o.cls = .type "StopIteration") ∧ (∃ a, x = .ref a) ∧ ∃ h', s' = { s with heap := h' } ∧ Heap.ExtBut it s.heap h') s := by
    show wpAny _ _ (field (.ref e) 2 >>= _) _ _ _
    refine wpAny_bind (wpAny_field en rfl (x := .ref it) rfl ?_)
    refine wpAny_bind (RZ.nextOf_tuple_end hh hi tl hx fun h' x eb hc => ?_)
    exact ⟨hc, ⟨x, rfl⟩, h', rfl, eb⟩
  refine wpAny_bind (wpAny_attempt (wpAny_callSpecial?_slot (name := Str.ofString "__next__") ty F.slot_enumerate_next (wpAny_call_entry F.slot_enumerate_next ty F.entry_enumerate_next
    (wpAny_mono body (fun fin s' hf => hf.elim fun v hv => hv.2.elim) fun x s' hx => ?_) (F.args_enumerate_next_1 _))))
  obtain ⟨⟨o, ho, hc⟩, ⟨a, rfl⟩, h', rfl, eb⟩ := hx
  refine wpAny_bind (wpAny_isInstance (T := "StopIteration") (b := true) ⟨o, ho, hc⟩ isSubtype_stop ?_)
  exact wpAny_pure (hQ _ eb)
end
/-- the pairs of a tuple's items with their places -/
def Iet (K : PySem.W.Frag) (a : Addr) : It :=
  ⟨fun i H => ∃ (xs : List V) (x : V), SqT K H a xs ∧ xs[i]? = some x, fun i H v H' => ∃ p x, v = .ref p ∧ H p = none ∧ H' = upd H p (.tup [.int (i : Nat), x]) ∧ ∀ xs, SqT K H a xs → xs[i]? = some x, fun i H => ∃ xs : List V, SqT K H a xs ∧ xs.length ≤ i⟩
theorem turn_enumT {P : Program} {w : World} {K : PySem.W.Frag} {elts : List Expr} {kk : Nat} {tpos : Pos} (a e it : Addr) :
    Turn P w K (.Tuple elts kk tpos) (Iet K a) [e, it] e (fun i h => (∃ old, IsEnum h e it ((i : Nat) : Int) old) ∧ h.IsTupleIter it a i ∧ e ≠ it) where
  mem := by simp
  obj := fun i h q b hb => by
    obtain ⟨⟨old, he⟩, ⟨o, ho, hc, hd⟩, _⟩ := q
    rcases List.mem_cons.mp hb with rfl | hb
    · exact ⟨_, he, fun v z => nomatch z⟩
    · rcases List.mem_cons.mp hb with rfl | hb
      · exact ⟨o, ho, fun v z => by rw [hd] at z; cases z⟩
      · cases hb
  keep := fun i h h' q k => let ⟨⟨old, he⟩, hi, hne⟩ := q; ⟨⟨old, k e (by simp) _ he⟩, hi.at fun o z => k it (by simp) o z, hne⟩
  item := by
    intro X hP hw hK hc i pins s σ H E I hf q hg
    subst hP hw hK
    obtain ⟨⟨old, he⟩, hit, hne⟩ := q
    obtain ⟨xs, x, hq, hx⟩ := hg
    obtain ⟨its, rv, p, hz⟩ := I.tuple hq
    obtain ⟨u, hu, ru⟩ := rv.get hx
    have tl : s.heap.IsTuple a its.toArray := p
    have hel : e < s.heap.objs.size := Heap.lt_size he
    have hil : it < s.heap.objs.size := by obtain ⟨_, z, _⟩ := hit; exact Heap.lt_size z
    have ae : a ≠ e := fun z => by
      subst z
      obtain ⟨o, ho, c, _⟩ := tl
      rw [he] at ho
      cases ho
      injection c with c
      exact absurd c (by decide)
    have ai : a ≠ it := fun z => by
      subst z
      obtain ⟨o, ho, c, _⟩ := tl
      obtain ⟨o', ho', c', _⟩ := hit
      rw [ho'] at ho
      cases ho
      rw [c'] at c
      injection c with c
      exact absurd c (by decide)
    have hi : i < its.toArray.size := by
      have := (List.getElem?_eq_some_iff.mp hu).1
      simpa using this
    refine wpAny_pyNext_enum_itemD (draws_tup (A := X.A.in1) (I.ok.hd hc) it a ai its.toArray) he ⟨hit, tl⟩ hi hne (by simp [hne, Ne.symm ae]) fun v h' tk hv ho st' hT hsz hk => ?_
    have hv' : v = u := by
      have : its.toArray[i]? = some u := by simpa using hu
      rw [this] at hv
      exact (Option.some.inj hv).symm
    subst hv'
    refine ⟨_, rfl, wpAny_letOwnedTupleGo_enum (s := { s with heap := h', toks := tk + 1 }) ho fun h'' he' sb => ?_⟩
    have hT2 : h''.get? s.heap.objs.size = some { cls := .type "tuple", data := .seq #[.int i tk, v] } := (sb.2 _ (Nat.ne_of_gt hel)).trans hT
    have nw : ObjOk X.prog X.w (upd H s.heap.objs.size (.tup [.int (i : Nat), x])) h'' s.heap.objs.size (.tup [.int (i : Nat), x]) :=
      ⟨by show 2 ≤ sizeLine; decide, [.int i tk, v], .cons ⟨_, rfl⟩ (.cons ru .nil), ⟨_, hT2, rfl, _, rfl⟩⟩
    have I1 : Inv X pins σ (upd H s.heap.objs.size (.tup [.int (i : Nat), x])) { s with heap := h'', toks := tk + 1 } :=
      I.turnedNew (ch := [e, it]) (fun b ob hb z => (sb.2 b (fun y => hb (by simp [y]))).trans (hk b ob (fun y => hb (by simp [y])) (fun y => hb (by simp [y])) z)) hf (Nat.le_refl _) nw
    refine ⟨.ref s.heap.objs.size, _, I1, rfl, ⟨_, x, rfl, I.hok.fresh (Nat.le_refl _), rfl, fun ys hy => by rw [I.tuple_inj hy hq]; exact hx⟩, ⟨⟨v, ?_⟩, st'.1.at fun o z => (sb.2 it (Ne.symm hne)).trans z, hne⟩, fun b hb => ?_⟩
    · have e1 : ((i + 1 : Nat) : Int) = (i : Int) + 1 := by omega
      rw [e1]
      exact he'
    · have hb' : b < s.heap.objs.size := by
        rcases List.mem_cons.mp hb with rfl | hb
        · exact hel
        · rcases List.mem_cons.mp hb with rfl | hb
          · exact hil
          · cases hb
      rw [upd_ne (Nat.ne_of_lt hb')]
      exact (hf b hb).1
  done := by
    intro X hP hw hK hc i pins s σ H E I hf q hg
    subst hP hw hK
    obtain ⟨⟨old, he⟩, hit, hne⟩ := q
    obtain ⟨xs, hq, hx⟩ := hg
    obtain ⟨its, rv, p, hz⟩ := I.tuple hq
    have tl : s.heap.IsTuple a its.toArray := p
    obtain ⟨f0, f1, f2, f3, f4, f5⟩ := hf it (by simp)
    have hl := rv.length
    have ai : a ≠ it := fun z => by
      subst z
      obtain ⟨o, ho, c, _⟩ := tl
      obtain ⟨o', ho', c', _⟩ := hit
      rw [ho'] at ho
      cases ho
      rw [c'] at c
      injection c with c
      exact absurd c (by decide)
    exact enum_tup_over (I.ok.hd hc) he hit tl (by simp; omega) fun h' eb => ⟨rfl, I.turned (t' := s.toks) (fun b o hb z => eb b o hb z) f0 f1 f3 f4 f5⟩
  self := fun A i s Q E q h => let ⟨⟨_, he⟩, _⟩ := q; wpAny_pyIter_enum he h
section
variable {X : Cx} {mg : Str → Option Value} {W : WX} {e : Expr} {pos p tpos : Pos} {elts : List Expr} {kk : Nat}
def iEnumT (K : PySem.W.Frag) (ta : TA) : TI := fun σ H R => ta σ H fun vs H1 => ∃ a xs, vs = [.ref a] ∧ SqT K H1 a xs ∧ R (Iet K a) H1
theorem pi_enumT {ta : TA} (hg : Gl X "enumerate") (hm : X.mg "enumerate" = none) (ha : PA X [e] ta) (hs : starEach [e] X.env = [(false, eval e X.env)]) : PI X (.Tuple elts kk tpos) (.Call (.Name "enumerate" p) [e] [] pos) (iEnumT X.K ta) := by
  refine ⟨fun pins s σ H R I h => ?_⟩
  refine Call_ (ld_blt I hg hm boot_enumerate (PyProof.Rows.callWith_type1 (thn (ha.run pos pins s σ H _ I h) fun us s1 ⟨vs, H1, I1, r1, q1⟩ => ?_) hs rfl))
  obtain ⟨a, xs, rfl, hq, q⟩ := q1
  obtain ⟨u, rfl, rr⟩ := r1.one
  cases rr
  obtain ⟨its, rv, tl, hz⟩ := I1.tuple hq
  refine call_enum_tup (items := its.toArray) tl fun h' he hit hsz hk => wpAny_pyIter_enum he ?_
  have I2 : Inv X pins σ H1 { s1 with heap := h' } := I1.kept (t' := s1.toks) hk
  refine ⟨s1.heap.objs.size + 1, [s1.heap.objs.size + 1, s1.heap.objs.size], _, _, H1, rfl, I2, turn_enumT a (s1.heap.objs.size + 1) s1.heap.objs.size, ⟨⟨.none, he⟩, hit, Nat.succ_ne_self _⟩, fun b hb => ?_, q⟩
  have hle : s1.heap.objs.size ≤ b := by
    rcases List.mem_cons.mp hb with rfl | hb
    · exact Nat.le_succ _
    · rcases List.mem_cons.mp hb with rfl | hb
      · exact Nat.le_refl _
      · cases hb
  exact I1.fpOk hle (I1.hok.fresh hle)
end
/-! ### as data -/
def enumD : Nat → List D → List D
  | _, [] => []
  | i, d :: ds => .tuple [.int (i : Nat), d] :: enumD (i + 1) ds
theorem enumD_get : ∀ (ds : List D) (k i : Nat), (enumD k ds)[i]? = ds[i]?.map fun d => PyData.tuple [.int ((k + i : Nat) : Int), d]
  | [], _, _ => by simp [enumD]
  | d :: ds, k, 0 => by simp [enumD]
  | d :: ds, k, i + 1 => by
    have := enumD_get ds (k + 1) i
    simp only [enumD, List.getElem?_cons_succ]
    rw [this, Nat.add_assoc, Nat.add_comm 1 i]
theorem enumD_len : ∀ (ds : List D) (k : Nat), (enumD k ds).length = ds.length
  | [], _ => rfl
  | d :: ds, k => by simp [enumD, enumD_len ds (k + 1)]
def mItEn (f : M Ret) : M (List D) := fun ρ => (f ρ).andThen fun r ρ' => match itemsOf r.toD with
  | some ds => .ok (enumD 0 ds) ρ'
  | none => .no
section
variable {K : PySem.W.Frag}
theorem pair_ext {S : AS} {H : Hp} {p : Addr} {x y : V} {d e : D} (l : Live S H) (hp : H p = none) (h1 : R K H S x d) (h2 : R K H S y e) : Ext S H (fun a => S a ∨ a = p) (upd H p (.tup [x, y])) ∧ R K (upd H p (.tup [x, y])) (fun a => S a ∨ a = p) (.ref p) (.tuple [d, e]) := by
  have ex : Ext S H (fun a => S a ∨ a = p) (upd H p (.tup [x, y])) := Ext.one hp
  have st := ex.stay l
  exact ⟨ex, .tup (.inl (.inl upd_same)) (.inl (.inr rfl)) (.cons (R.stay st _ _ h1) (.cons (R.stay st _ _ h2) .nil))⟩
theorem itOk_enL {S : AS} {H : Hp} {a : Addr} {vs : List V} {ds : List D} (h : H a = some (.lst vs)) (hs : S a) (ha : RAll K H S vs ds) : ItOk K S H (enumD 0 ds) (Ite K a) := by
  have sq : ∀ S' H', Stay S S' H H' → SqL K H' a vs := fun S' H' st => .inl (.inl ((st.at_ a hs).trans h))
  have hl := ha.length
  refine ⟨fun S' H' i st l hi => ?_, fun S' H' i st l hi => ?_, fun S' H' i x H2 st l hi hy => ?_⟩
  · rw [enumD_len] at hi
    exact ⟨vs, vs[i]'(by omega), sq S' H' st, List.getElem?_eq_getElem (by omega)⟩
  · rw [enumD_len] at hi
    exact ⟨vs, sq S' H' st, by omega⟩
  · obtain ⟨p, v, rfl, hp, rfl, hx⟩ := hy
    obtain ⟨d, hd, hr⟩ := ha.getV (hx vs (sq S' H' st))
    obtain ⟨e1, e2⟩ := pair_ext l hp (.int (i : Nat)) (R.stay st _ _ hr)
    exact ⟨_, _, by rw [enumD_get, hd, Nat.zero_add]; rfl, e1, e2⟩
theorem itOk_enT {S : AS} {H : Hp} {a : Addr} {vs : List V} {ds : List D} (h : SqT K H a vs) (hs : S a ∨ ∀ H', SqT K H' a vs) (ha : RAll K H S vs ds) : ItOk K S H (enumD 0 ds) (Iet K a) := by
  have sq : ∀ S' H', Stay S S' H H' → SqT K H' a vs := fun S' H' st => by
    rcases hs with hs | hs
    · exact sqT_at (st.at_ a hs) h
    · exact hs _
  have hl := ha.length
  refine ⟨fun S' H' i st l hi => ?_, fun S' H' i st l hi => ?_, fun S' H' i x H2 st l hi hy => ?_⟩
  · rw [enumD_len] at hi
    exact ⟨vs, vs[i]'(by omega), sq S' H' st, List.getElem?_eq_getElem (by omega)⟩
  · rw [enumD_len] at hi
    exact ⟨vs, sq S' H' st, by omega⟩
  · obtain ⟨p, v, rfl, hp, rfl, hx⟩ := hy
    obtain ⟨d, hd, hr⟩ := ha.getV (hx vs (sq S' H' st))
    obtain ⟨e1, e2⟩ := pair_ext l hp (.int (i : Nat)) (R.stay st _ _ hr)
    exact ⟨_, _, by rw [enumD_get, hd, Nat.zero_add]; rfl, e1, e2⟩
end
section
variable {X : Cx} {mg : Str → Option Value} {W : WX} {e : Expr} {pos p tpos : Pos} {elts : List Expr} {kk : Nat}
theorem pi_en {f : M Ret} (hg : Gl X "enumerate") (hm : X.mg "enumerate" = none) (h : PE X e (tS X.K mg W f)) (hs : starEach [e] X.env = [(false, eval e X.env)]) : PI X (.Tuple elts kk tpos) (.Call (.Name "enumerate" p) [e] [] pos) (tIt X.K mg W (mItEn f)) :=
  pi_imp (pi_or (pi_enum hg hm (pa_cons h pa_nil hs) hs) (pi_enumT hg hm (pa_cons h pa_nil hs) hs)) fun σ H Q ⟨S, ρ, rel, p⟩ => by
    unfold mItEn at p
    cases ef : f ρ with
    | no => rw [ef] at p; exact p.elim
    | exn x ρ1 => rw [ef] at p; exact .inl ⟨S, ρ, rel, by rw [ef]; exact p⟩
    | ok r ρ1 =>
      rw [ef] at p
      simp only [andThen_ok] at p
      cases r with
      | val d =>
        cases d <;> try (exact p.elim)
        · rename_i ds
          refine .inl ⟨S, ρ, rel, ?_⟩
          rw [ef]
          intro S1 H1 st r1 v hv hn
          cases hv with
          | lst h hs ha => exact ⟨_, _, rfl, .inl (.inl h), p S1 H1 st r1 _ (itOk_enL h hs ha)⟩
        · rename_i ds
          refine .inr ⟨S, ρ, rel, ?_⟩
          rw [ef]
          intro S1 H1 st r1 v hv hn
          cases hv with
          | tup h hs ha => exact ⟨_, _, rfl, h, p S1 H1 st r1 _ (itOk_enT h hs ha)⟩
      | fl ds =>
        refine .inl ⟨S, ρ, rel, ?_⟩
        rw [ef]
        intro S1 H1 st r1 v hv hn
        obtain ⟨S2, st2, r2, hr, hs⟩ := RRet.val st r1 hv hn
        cases hr with
        | lst h hs ha => exact ⟨_, _, rfl, .inl (.inl h), p S2 H1 st2 r2 _ (itOk_enL h hs ha)⟩
      | fd kvs => exact p.elim
end
end Ev
namespace Ev
open PySem PySem.Spec PyProof.Rows L2
variable [Gh]
/-! ### zip of two lists, of two tuples -/
def zipD : List D → List D → List D
  | d :: ds, e :: es => .tuple [d, e] :: zipD ds es
  | _, _ => []
def twoItems : D → D → Option (List D)
  | .list ds, .list es => some (zipD ds es)
  | .tuple ds, .tuple es => some (zipD ds es)
  | _, _ => none
def mItZ (f g : M Ret) : M (List D) := fun ρ => (f ρ).andThen fun r ρ1 => (g ρ1).andThen fun q ρ2 => match twoItems r.toD q.toD with
  | some ds => .ok ds ρ2
  | none => .no
theorem zipD_get : ∀ (ds es : List D) (i : Nat), (zipD ds es)[i]? = match ds[i]?, es[i]? with
    | some d, some e => some (PyData.tuple [d, e])
    | _, _ => none
  | [], es, i => by simp [zipD]
  | d :: ds, [], i => by
    simp only [zipD, List.getElem?_nil]
    cases (d :: ds)[i]? <;> rfl
  | d :: ds, e :: es, 0 => by simp [zipD]
  | d :: ds, e :: es, i + 1 => by
    have := zipD_get ds es i
    simpa [zipD] using this
theorem zipD_lt {ds es : List D} {i : Nat} : i < (zipD ds es).length ↔ i < ds.length ∧ i < es.length := by
  induction ds generalizing es i with
  | nil => simp [zipD]
  | cons d ds ih =>
    cases es with
    | nil => simp [zipD]
    | cons e es =>
      cases i with
      | zero => simp [zipD]
      | succ i =>
        have := ih (es := es) (i := i)
        simpa [zipD] using this
section
variable {K : PySem.W.Frag}
theorem itOk_zL {S : AS} {H : Hp} {a b : Addr} {vs us : List V} {ds es : List D} (h : H a = some (.lst vs)) (hs : S a) (ha : RAll K H S vs ds) (h' : H b = some (.lst us)) (hs' : S b) (hb : RAll K H S us es) : ItOk K S H (zipD ds es) (Itz K a b) := by
  have sa : ∀ S' H', Stay S S' H H' → SqL K H' a vs := fun S' H' st => .inl (.inl ((st.at_ a hs).trans h))
  have sb : ∀ S' H', Stay S S' H H' → SqL K H' b us := fun S' H' st => .inl (.inl ((st.at_ b hs').trans h'))
  have l1 := ha.length
  have l2 := hb.length
  refine ⟨fun S' H' i st l hi => ?_, fun S' H' i st l hi => ?_, fun S' H' i x H2 st l hi hy => ?_⟩
  · obtain ⟨h1, h2⟩ := zipD_lt.mp hi
    exact ⟨vs, us, vs[i]'(by omega), us[i]'(by omega), sa S' H' st, sb S' H' st, List.getElem?_eq_getElem (by omega), List.getElem?_eq_getElem (by omega)⟩
  · refine ⟨vs, us, sa S' H' st, sb S' H' st, ?_⟩
    have : ¬ (i < ds.length ∧ i < es.length) := fun z => by
      have := zipD_lt.mpr z
      omega
    omega
  · obtain ⟨p, v, u, rfl, hp, rfl, hx, hz⟩ := hy
    obtain ⟨d, hd, hr⟩ := ha.getV (hx vs (sa S' H' st))
    obtain ⟨e, he, hq⟩ := hb.getV (hz us (sb S' H' st))
    obtain ⟨e1, e2⟩ := pair_ext l hp (R.stay st _ _ hr) (R.stay st _ _ hq)
    exact ⟨_, _, by rw [zipD_get, hd, he], e1, e2⟩
theorem itOk_zT {S : AS} {H : Hp} {a b : Addr} {vs us : List V} {ds es : List D} (h : SqT K H a vs) (hs : S a ∨ ∀ H', SqT K H' a vs) (ha : RAll K H S vs ds) (h' : SqT K H b us) (hs' : S b ∨ ∀ H', SqT K H' b us) (hb : RAll K H S us es) : ItOk K S H (zipD ds es) (RZ.ItzT K a b) := by
  have sa : ∀ S' H', Stay S S' H H' → SqT K H' a vs := fun S' H' st => by
    rcases hs with hs | hs
    · exact sqT_at (st.at_ a hs) h
    · exact hs _
  have sb : ∀ S' H', Stay S S' H H' → SqT K H' b us := fun S' H' st => by
    rcases hs' with hs' | hs'
    · exact sqT_at (st.at_ b hs') h'
    · exact hs' _
  have l1 := ha.length
  have l2 := hb.length
  refine ⟨fun S' H' i st l hi => ?_, fun S' H' i st l hi => ?_, fun S' H' i x H2 st l hi hy => ?_⟩
  · obtain ⟨h1, h2⟩ := zipD_lt.mp hi
    exact ⟨vs, us, vs[i]'(by omega), us[i]'(by omega), sa S' H' st, sb S' H' st, List.getElem?_eq_getElem (by omega), List.getElem?_eq_getElem (by omega)⟩
  · refine ⟨vs, us, sa S' H' st, sb S' H' st, ?_⟩
    have : ¬ (i < ds.length ∧ i < es.length) := fun z => by
      have := zipD_lt.mpr z
      omega
    omega
  · obtain ⟨p, v, u, rfl, hp, rfl, hx, hz⟩ := hy
    obtain ⟨d, hd, hr⟩ := ha.getV (hx vs (sa S' H' st))
    obtain ⟨e, he, hq⟩ := hb.getV (hz us (sb S' H' st))
    obtain ⟨e1, e2⟩ := pair_ext l hp (R.stay st _ _ hr) (R.stay st _ _ hq)
    exact ⟨_, _, by rw [zipD_get, hd, he], e1, e2⟩
end
section
variable {X : Cx} {mg : Str → Option Value} {W : WX} {e e2 : Expr} {pos p tpos : Pos} {elts : List Expr} {kk : Nat}
theorem pi_z {f g : M Ret} (hg : Gl X "zip") (hm : X.mg "zip" = none) (h : PE X e (tS X.K mg W f)) (h2 : PE X e2 (tS X.K mg W g)) (hs : starEach [e, e2] X.env = [(false, eval e X.env), (false, eval e2 X.env)]) (hs2 : starEach [e2] X.env = [(false, eval e2 X.env)]) :
    PI X (.Tuple elts kk tpos) (.Call (.Name "zip" p) [e, e2] [] pos) (tIt X.K mg W (mItZ f g)) :=
  pi_imp (RZ.pi_zipA hg hm (pa_cons h (pa_cons h2 pa_nil hs2) (by rw [hs, hs2])) (by rw [hs, hs2]) (by rw [hs2]; rfl)) fun σ H Q ⟨S, ρ, rel, p⟩ => by
    unfold mItZ at p
    refine ⟨S, ρ, rel, Post.and p fun r S1 ρ1 H1 st1 r1 p v hv hn => ?_⟩
    obtain ⟨S1', st1', r1', hr, _⟩ := RRet.val st1 r1 hv hn
    refine ⟨S1', ρ1, r1', Post.and (Post.from p st1') fun q S2 ρ2 H2 st2 r2 p u hu hnu => ?_⟩
    obtain ⟨S3, st3, r3, hq, _⟩ := RRet.val st2 r2 hu hnu
    cases ei : twoItems r.toD q.toD with
    | none => simp only [ei] at p; exact p.elim
    | some ds =>
      simp only [ei] at p
      have hr3 := R.stay st3.stay _ _ hr
      have p3 := p S3 H2 st3 r3
      unfold twoItems at ei
      split at ei
      · rename_i d1 e1 hd1 he1
        cases ei
        rw [hd1] at hr3
        rw [he1] at hq
        cases hr3 with
        | lst a1 a2 a3 =>
          cases hq with
          | lst b1 b2 b3 => exact ⟨_, _, _, _, rfl, .inl ⟨.inl (.inl a1), .inl (.inl b1), p3 _ (itOk_zL a1 a2 a3 b1 b2 b3)⟩⟩
      · rename_i d1 e1 hd1 he1
        cases ei
        rw [hd1] at hr3
        rw [he1] at hq
        cases hr3 with
        | tup a1 a2 a3 =>
          cases hq with
          | tup b1 b2 b3 => exact ⟨_, _, _, _, rfl, .inr ⟨a1, b1, p3 _ (itOk_zT a1 a2 a3 b1 b2 b3)⟩⟩
      · cases ei
end
end Ev
namespace Ev
open PySem PySem.Spec PyProof.Rows L2
variable [Gh]
/-! ### comprehensions of two clauses -/
def lcLoop2 (own vs1 : List Nat) (tg : Tgt) (tt : M Bool) (it1 : M (List D)) (tg1 : Tgt) (tt1 : M Bool) (te : M Ret) : List D → List D → Rho → Out (List D)
  | [], acc, ρ => .ok acc ρ
  | d :: ds, acc, ρ => match asgT tg d ρ with
    | none => .no
    | some ρ1 => (tt ρ1).andThen fun b ρ2 => if b = true then
        (it1 ρ2).andThen fun ds1 ρ3 => if freeAll ρ3 vs1 = true then
          (lcLoop vs1 tg1 tt1 te ds1 acc (wipeR ρ3 vs1)).andThen fun acc' ρ4 => if freeAll ρ4 own = true then lcLoop2 own vs1 tg tt it1 tg1 tt1 te ds acc' (wipeR ρ4 own) else .no
        else .no
      else if freeAll ρ2 own = true then lcLoop2 own vs1 tg tt it1 tg1 tt1 te ds acc (wipeR ρ2 own) else .no
def mLc2 (own vs1 : List Nat) (it : M (List D)) (tg : Tgt) (tt : M Bool) (it1 : M (List D)) (tg1 : Tgt) (tt1 : M Bool) (te : M Ret) : M Ret := fun ρ => (it ρ).andThen fun ds ρ1 =>
  if freeAll ρ1 own = true then lcFin own ρ1 (lcLoop2 own vs1 tg tt it1 tg1 tt1 te ds [] (wipeR ρ1 own)) else .no
theorem wipe_twice {σ : L2.St} {own vs1 : List Nat} (h : ∀ i ∈ vs1, i ∈ own) : L2.wipe (L2.wipe σ vs1) own = L2.wipe σ own := by
  apply List.ext_getElem?
  intro i
  rw [wipe_get, wipe_get, wipe_get, L2.wipe_length]
  by_cases h1 : i ∈ own ∧ i < σ.length
  · rw [if_pos h1, if_pos h1]
  · rw [if_neg h1, if_neg h1]
    by_cases h2 : i ∈ vs1 ∧ i < σ.length
    · exact absurd ⟨h i h2.1, h2.2⟩ h1
    · rw [if_neg h2]
section
variable {mg : Str → Option Value} {W : WX}
theorem lc2_fwd {K : PySem.W.Frag} {own vs1 : List Nat} {it it1 : M (List D)} {tg tg1 : Tgt} {tt tt1 : M Bool} {te : M Ret} {σ : L2.St} {H : Hp} {Q : VK} {S : AS} {ρ : Rho} (hsub : ∀ i ∈ tg.slots, i ∈ own) (hsub1 : ∀ i ∈ tg1.slots, i ∈ vs1) (hv : ∀ i ∈ vs1, i ∈ own) (rel : Rel K S ρ σ H)
    (p : Post K mg W S ρ σ H (fun r S' ρ' H' => ∀ v, RRet K S' ρ' σ H' v r → RNew ρ σ H v r → Q v H') (mLc2 own vs1 it tg tt it1 tg1 tt1 te ρ)) :
    tLc2 (tIt K mg W it) (tGt K tg) (tTe K mg W0 tt) (tIt K mg W0 it1) (tGt K tg1) (tTe K mg W0 tt1) (tS K mg W0 te) own vs1 σ H Q := by
  refine ⟨S, ρ, rel, Post.and p fun ds S1 ρ1 H1 st1 r1 p J hJ D hD => ?_⟩
  by_cases hf : freeAll ρ1 own = true
  case neg => rw [if_neg hf] at p; exact p.elim
  rw [if_pos hf] at p
  have p1 := Post.from p st1
  clear p
  have hD0 : H D = none := by
    cases e : H D with
    | none => rfl
    | some o => obtain ⟨o', e'⟩ := st1.there D o e; rw [hD] at e'; cases e'
  have freeS : ∀ {vs : List Nat} {ρ5 : Rho}, freeAll ρ5 vs = true → ∀ i ∈ vs, ∀ s, ρ5[i]? = some s → s.own? ≠ some false := fun {vs ρ5} hfr i hi s hs => by
    obtain ⟨s', e', n'⟩ := freeAll_of hfr hi
    rw [hs] at e'
    cases e'
    exact n'
  -- the outer loop's state
  refine ⟨fun i m H2 => m = ds.length - i ∧ i ≤ ds.length ∧ ∃ S2 ρ2 acc vs, Rel K S2 ρ2 (L2.wipe σ own) H2 ∧ Step S1 ρ1 σ H1 S2 ρ2 (L2.wipe σ own) H2 ∧ Aside S2 ρ2 (L2.wipe σ own) H2 D (.lst vs) ∧ RAll K H2 S2 vs acc ∧
      Post K mg W S1 ρ1 σ H1 (fun r S' ρ' H' => ∀ v, RRet K S' ρ' σ H' v r → RNew ρ σ H v r → Q v H') (lcFin own ρ1 (lcLoop2 own vs1 tg tt it1 tg1 tt1 te (ds.drop i) acc ρ2)), ⟨ds.length, by omega, Nat.zero_le _, ?_⟩, ?_⟩
  · obtain ⟨r2, st2⟩ := r1.wipe (own := own) (freeS hf)
    obtain ⟨r3, st3, nS, nO⟩ := r2.fresh (o := .lst []) hD
    exact ⟨S1, wipeR ρ1 own, [], [], r3, st2.trans st3, ⟨upd_same, nS, nO⟩, .nil, by rw [List.drop_zero]; exact p1⟩
  · rintro i m H2 ⟨rfl, hi, S2, ρ2, acc, vs, r2, st2, as2, ra, p2⟩
    by_cases hlt : i < ds.length
    · refine .inr ⟨hJ.go S2 H2 i st2.stay r2.live hlt, fun H' => ∃ S' ρ' acc vs, Rel K S' ρ' (L2.wipe σ own) H' ∧ Step S1 ρ1 σ H1 S' ρ' (L2.wipe σ own) H' ∧ Aside S' ρ' (L2.wipe σ own) H' D (.lst vs) ∧ RAll K H' S' vs acc ∧
        Post K mg W S1 ρ1 σ H1 (fun r S' ρ' H' => ∀ v, RRet K S' ρ' σ H' v r → RNew ρ σ H v r → Q v H') (lcFin own ρ1 (lcLoop2 own vs1 tg tt it1 tg1 tt1 te (ds.drop (i + 1)) acc ρ')), fun H' h => ⟨ds.length - (i + 1), by omega, rfl, hlt, h⟩, fun x H3 hy => ?_⟩
      obtain ⟨S3, d, hd, ex, hr⟩ := hJ.yld S2 H2 i x H3 st2.stay r2.live hlt hy
      obtain ⟨r3, st3⟩ := r2.ext ex
      have as3 := as2.step st3
      rw [List.drop_eq_getElem_cons hlt] at p2
      have hd' : ds[i] = d := by rw [List.getElem?_eq_getElem hlt] at hd; exact Option.some.inj hd
      rw [hd'] at p2
      simp only [lcLoop2] at p2
      cases e1 : asgT tg d ρ2 with
      | none => simp only [e1] at p2; exact p2.elim
      | some ρ4 =>
        simp only [e1] at p2
        refine ⟨S3, ρ2, d, ρ4, r3, hr, e1, fun σ4 r4 st4 hl4 hk4 => ?_⟩
        have hw : L2.wipe σ4 own = L2.wipe σ own := wipe_same (by rw [hl4, L2.wipe_length]) fun j hj => hk4 j fun z => hj (hsub j z)
        refine ⟨hw, ?_⟩
        have st24 := (st2.trans st3).trans st4
        have as4 := as3.step st4
        have ra4 := (RAll.stay st3.stay _ _ ra).stay st4.stay
        refine ⟨S3, ρ4, r4, ?_⟩
        cases et : tt ρ4 with
        | no => rw [et] at p2; exact p2.elim
        | exn x ρ5 => rw [et] at p2; exact p2.elim
        | ok b ρ5 =>
          rw [et] at p2
          simp only [andThen_ok] at p2
          intro S5 H5 st5 r5
          have as5 := as4.step st5
          have ra5 := RAll.stay st5.stay _ _ ra4
          have st25 := st24.trans st5
          cases b with
          | false =>
            simp only [Bool.false_eq_true, if_false] at p2
            show if false = true then _ else _
            rw [if_neg Bool.false_ne_true]
            by_cases hfr : freeAll ρ5 own = true
            case neg => rw [if_neg hfr] at p2; exact p2.elim
            rw [if_pos hfr] at p2
            obtain ⟨r6, st6⟩ := r5.wipe (own := own) (freeS hfr)
            rw [hw] at r6 st6
            exact ⟨S5, _, acc, vs, r6, st25.trans st6, as5.step st6, ra5, p2⟩
          | true =>
            simp only [if_true] at p2
            show if true = true then _ else _
            rw [if_pos rfl]
            -- the second clause
            refine ⟨S5, ρ5, r5, ?_⟩
            cases e1 : it1 ρ5 with
            | no => rw [e1] at p2; exact p2.elim
            | exn x ρ6 => rw [e1] at p2; exact p2.elim
            | ok ds1 ρ6 =>
              rw [e1] at p2
              simp only [andThen_ok] at p2
              intro S6 H6 st6 r6 J1 hJ1
              by_cases hf1 : freeAll ρ6 vs1 = true
              case neg => rw [if_neg hf1] at p2; exact p2.elim
              rw [if_pos hf1] at p2
              have as6 := as5.step st6
              have ra6 := RAll.stay st6.stay _ _ ra5
              have st26 := st25.trans st6
              refine ⟨fun j k H7 => k = ds1.length - j ∧ j ≤ ds1.length ∧ ∃ S7 ρ7 acc7 vs7, Rel K S7 ρ7 (L2.wipe σ4 vs1) H7 ∧ Step S1 ρ1 σ H1 S7 ρ7 (L2.wipe σ4 vs1) H7 ∧ Stay S6 S7 H6 H7 ∧ Aside S7 ρ7 (L2.wipe σ4 vs1) H7 D (.lst vs7) ∧ RAll K H7 S7 vs7 acc7 ∧
                  Post K mg W S1 ρ1 σ H1 (fun r S' ρ' H' => ∀ v, RRet K S' ρ' σ H' v r → RNew ρ σ H v r → Q v H') (lcFin own ρ1 ((lcLoop vs1 tg1 tt1 te (ds1.drop j) acc7 ρ7).andThen fun acc' ρ4 => if freeAll ρ4 own = true then lcLoop2 own vs1 tg tt it1 tg1 tt1 te (ds.drop (i + 1)) acc' (wipeR ρ4 own) else .no)), ⟨ds1.length, by omega, Nat.zero_le _, ?_⟩, ?_⟩
              · obtain ⟨r7, st7⟩ := r6.wipe (own := vs1) (freeS hf1)
                exact ⟨S6, _, acc, vs, r7, st26.trans st7, .refl _ _, as6.step st7, ra6, by rw [List.drop_zero]; exact p2⟩
              · rintro j k H7 ⟨rfl, hj, S7, ρ7, acc7, vs7, r7, st7, sy7, as7, ra7, p7⟩
                by_cases hlj : j < ds1.length
                · refine .inr ⟨hJ1.go S7 H7 j sy7 r7.live hlj, fun H' => ∃ S' ρ' acc' vs', Rel K S' ρ' (L2.wipe σ4 vs1) H' ∧ Step S1 ρ1 σ H1 S' ρ' (L2.wipe σ4 vs1) H' ∧ Stay S6 S' H6 H' ∧ Aside S' ρ' (L2.wipe σ4 vs1) H' D (.lst vs') ∧ RAll K H' S' vs' acc' ∧
                    Post K mg W S1 ρ1 σ H1 (fun r S' ρ' H' => ∀ v, RRet K S' ρ' σ H' v r → RNew ρ σ H v r → Q v H') (lcFin own ρ1 ((lcLoop vs1 tg1 tt1 te (ds1.drop (j + 1)) acc' ρ').andThen fun acc' ρ4 => if freeAll ρ4 own = true then lcLoop2 own vs1 tg tt it1 tg1 tt1 te (ds.drop (i + 1)) acc' (wipeR ρ4 own) else .no)), fun H' h => ⟨ds1.length - (j + 1), by omega, rfl, hlj, h⟩, fun y H8 hy8 => ?_⟩
                  obtain ⟨S8, d8, hd8, ex8, hr8⟩ := hJ1.yld S7 H7 j y H8 sy7 r7.live hlj hy8
                  obtain ⟨r8, st8⟩ := r7.ext ex8
                  have as8 := as7.step st8
                  have ra8 := RAll.stay st8.stay _ _ ra7
                  have sy8 := sy7.trans st8.stay
                  rw [List.drop_eq_getElem_cons hlj] at p7
                  have hd8' : ds1[j] = d8 := by rw [List.getElem?_eq_getElem hlj] at hd8; exact Option.some.inj hd8
                  rw [hd8'] at p7
                  simp only [lcLoop] at p7
                  cases e9 : asgT tg1 d8 ρ7 with
                  | none => simp only [e9] at p7; exact p7.elim
                  | some ρ9 =>
                    simp only [e9] at p7
                    refine ⟨S8, ρ7, d8, ρ9, r8, hr8, e9, fun σ9 r9 st9 hl9 hk9 => ?_⟩
                    have hw9 : L2.wipe σ9 vs1 = L2.wipe σ4 vs1 := wipe_same (by rw [hl9, L2.wipe_length]) fun l hl => hk9 l fun z => hl (hsub1 l z)
                    refine ⟨hw9, ?_⟩
                    have st19 := (st7.trans st8).trans st9
                    have as9 := as8.step st9
                    have ra9 := RAll.stay st9.stay _ _ ra8
                    have sy9 := sy8.trans st9.stay
                    refine ⟨S8, ρ9, r9, ?_⟩
                    cases et9 : tt1 ρ9 with
                    | no => rw [et9] at p7; exact p7.elim
                    | exn x ρ' => rw [et9] at p7; exact p7.elim
                    | ok b ρa =>
                      rw [et9] at p7
                      simp only [andThen_ok] at p7
                      intro Sa Ha sta ra_
                      have asa := as9.step sta
                      have raa := RAll.stay sta.stay _ _ ra9
                      have sya := sy9.trans sta.stay
                      cases b with
                      | false =>
                        simp only [Bool.false_eq_true, if_false] at p7
                        show if false = true then _ else _
                        rw [if_neg Bool.false_ne_true]
                        by_cases hfr : freeAll ρa vs1 = true
                        case neg => rw [if_neg hfr] at p7; exact p7.elim
                        rw [if_pos hfr] at p7
                        obtain ⟨rb, stb⟩ := ra_.wipe (own := vs1) (freeS hfr)
                        rw [hw9] at rb stb
                        exact ⟨Sa, _, acc7, vs7, rb, (st19.trans sta).trans stb, sya, asa.step stb, raa, p7⟩
                      | true =>
                        simp only [if_true] at p7
                        show if true = true then _ else _
                        rw [if_pos rfl]
                        refine ⟨Sa, ρa, ra_, ?_⟩
                        cases ee : te ρa with
                        | no => rw [ee] at p7; exact p7.elim
                        | exn x ρ' => rw [ee] at p7; exact p7.elim
                        | ok r ρb =>
                          rw [ee] at p7
                          simp only [andThen_ok] at p7
                          intro Sb Hb stb rb v hv hn
                          by_cases hfr : acc7.length < 16777216 ∧ freeAll ρb vs1 = true
                          case neg => rw [if_neg hfr] at p7; exact p7.elim
                          rw [if_pos hfr] at p7
                          obtain ⟨Sc, stc, rc, hrc, _⟩ := RRet.val stb rb hv hn
                          have asc := asa.step stc
                          have rac := RAll.stay stc.stay _ _ raa
                          have syc := sya.trans stc.stay
                          obtain ⟨rd, std⟩ := rc.wipe (own := vs1) (freeS hfr.2)
                          rw [hw9] at rd std
                          have asd := asc.step std
                          obtain ⟨ase, re, sty⟩ := asd.set (o' := .lst (vs7 ++ [v])) rd
                          exact ⟨vs7, asc.at_, by rw [rac.length, line_eq]; exact hfr.1, Sc, _, acc7 ++ [r.toD], vs7 ++ [v], re, (((st19.trans sta).trans stc).trans std).side r1.live hD, syc.trans sty, ase, RAll.stay sty _ _ (rac.append (.cons hrc .nil)), p7⟩
                · -- the inner loop is over
                  have hle : ds1.length ≤ j := by omega
                  refine .inl ⟨hJ1.stop S7 H7 j sy7 r7.live hle, ?_⟩
                  rw [List.drop_eq_nil_of_le hle] at p7
                  simp only [lcLoop, andThen_ok] at p7
                  by_cases hfr : freeAll ρ7 own = true
                  case neg => rw [if_neg hfr] at p7; exact p7.elim
                  rw [if_pos hfr] at p7
                  obtain ⟨r9, st9⟩ := r7.wipe (own := own) (freeS hfr)
                  rw [wipe_twice hv, hw] at r9 st9
                  exact ⟨S7, _, acc7, vs7, r9, st7.trans st9, as7.step st9, ra7, p7⟩
    · have hle : ds.length ≤ i := by omega
      refine .inl ⟨hJ.stop S2 H2 i st2.stay r2.live hle, ?_⟩
      rw [List.drop_eq_nil_of_le hle] at p2
      obtain ⟨r3, st3⟩ := r1.rest hf r2 st2
      refine p2 S2 H2 st3 r3 (.ref D) ⟨D, vs, rfl, as2.at_, as2.nS, ra, fun ho => ?_⟩ fun b eb => by cases eb; exact .inl hD0
      obtain ⟨j, s, z, h1, h2, h3⟩ := ho
      rw [restR_get] at h1
      split at h1
      · cases h1; rw [keepDat_own] at h2; cases h2
      · rename_i hn
        have hlt2 := (List.getElem?_eq_some_iff.mp h1).1
        exact as2.nO ⟨j, s, z, h1, h2, (ter_at (adr_wipe (fun hj => hn ⟨hj, hlt2⟩))).mpr h3⟩
end
section
variable {X : Cx} {mg : Str → Option Value} {W : WX} {st : Stmt} {elt tg iter tg1 iter1 : Expr} {ifs ifs1 : List Expr} {scope : Scope} {own : List (Str × Nat)} {pos : Pos} {it it1 : M (List D)} {t t1 : Tgt} {tt tt1 : M Bool} {te : M Ret} {vs1 : List Nat}
structure LcParts2 (X : Cx) (mg : Str → Option Value) (W : WX) (elt tg iter tg1 iter1 : Expr) (ifs ifs1 : List Expr) (scope : Scope) (own : List (Str × Nat)) (vs1 : List Nat) (it it1 : M (List D)) (t t1 : Tgt) (tt tt1 : M Bool) (te : M Ret) : Prop where
  one : LcParts X mg W elt tg iter ifs scope own it t tt te
  sub1 : ∀ i ∈ t1.slots, i ∈ vs1
  vs : ∀ i ∈ vs1, i ∈ own.map (·.2)
  src1 : ∀ (s : Shared) (H : Hp) (C : Addr) (cl : List (Str × Addr)) (fp : List Addr), PI (X.blk s H scope (compEnvC scope cl C X.env) fp) tg1 iter1 (tIt X.K mg W0 it1)
  tgt1 : ∀ (s : Shared) (H : Hp) (C : Addr) (cl : List (Str × Addr)) (fp : List Addr), PG (X.blk s H scope (compEnvC scope cl C X.env) fp) tg1 (tGt X.K t1)
  test1 : ∀ (s : Shared) (H : Hp) (C : Addr) (cl : List (Str × Addr)) (fp : List Addr), PTs (X.blk s H scope (compEnvC scope cl C X.env) fp) ifs1 (tTe X.K mg W0 tt1)
  fold1 : ∀ env x, foldedSetIterable iter1 env x = pure x
theorem pe_lc2E (p : LcParts2 X mg W elt tg iter tg1 iter1 ifs ifs1 scope own vs1 it it1 t t1 tt tt1 te) : PE X (.ListComp elt [⟨tg, iter, ifs, 0⟩, ⟨tg1, iter1, ifs1, 0⟩] scope pos) (tS X.K mg W (mLc2 (own.map (·.2)) vs1 it t tt it1 t1 tt1 te)) :=
  pe_imp (L2.pe_lc2 p.one.calm p.one.nd p.one.src p.one.ok p.vs p.one.tgt p.one.test p.src1 p.tgt1 p.test1 p.one.val p.one.fold p.fold1) fun _ _ _ ⟨_, _, rel, q⟩ => lc2_fwd p.one.sub p.sub1 p.vs rel q
theorem ps_lc2E {i : Nat} {y : Str} {py spos : Pos} (p : LcParts2 X mg W elt tg iter tg1 iter1 ifs ifs1 scope own vs1 it it1 t t1 tt tt1 te) (hy : X.N[i]? = some y) (hyl : X.env.scope.names.lookup y = some .local)
    (hsw : swapsWith (.ListComp elt [⟨tg, iter, ifs, 0⟩, ⟨tg1, iter1, ifs1, 0⟩] scope pos) (some (.Name y py)) spos.line X.env = pure true) : PS X (.Assign [.Name y py] (.ListComp elt [⟨tg, iter, ifs, 0⟩, ⟨tg1, iter1, ifs1, 0⟩] scope pos) spos) (tSt X.K mg W (sAsgN i (mLc2 (own.map (·.2)) vs1 it t tt it1 t1 tt1 te))) :=
  asgN_imp (L2.ps_setLc2 p.one.calm p.one.nd hy hyl hsw p.one.src p.one.ok p.vs p.one.tgt p.one.test p.src1 p.tgt1 p.test1 p.one.val p.one.fold p.fold1) fun _ _ _ ⟨_, _, rel, q⟩ => lc2_fwd p.one.sub p.sub1 p.vs rel q
end
end Ev
namespace Ev
open PySem PySem.Spec PyProof.Rows L2
variable [Gh]
/-! ### list(range(..)), tuple(range(..)) -/
def rgRet (tup : Bool) (lo : Int) (n : Nat) : Ret := if tup = true then .val (.tuple (rangeD lo n)) else .fl (rangeD lo n)
def rgOk (i j : Int) : Bool := decide (i.natAbs < 2 ^ 62) && decide (j.natAbs < 2 ^ 62) && decide ((j - i).toNat ≤ 2 ^ 24)
def mRg1 (tup : Bool) (f : M BV) : M Ret := fun ρ => (f ρ).andThen fun b ρ' => match res ρ' b with
  | some (.int j) => if rgOk 0 j = true then .ok (rgRet tup 0 (j - 0).toNat) ρ' else .no
  | _ => .no
def mRg2 (tup : Bool) (f g : M BV) : M Ret := fun ρ => (f ρ).andThen fun b ρ1 => (g ρ1).andThen fun c ρ2 => match res ρ2 b, res ρ2 c with
  | some (.int i), some (.int j) => if rgOk i j = true then .ok (rgRet tup i (j - i).toNat) ρ2 else .no
  | _, _ => .no
theorem rg_all {K : PySem.W.Frag} {H : Hp} {S : AS} (i : Int) : ∀ ns : List Nat, RAll K H S (ns.map fun k : Nat => V.int (i + (k : Nat))) (ns.map fun k : Nat => PyData.int (i + (k : Nat)))
  | [] => .nil
  | _ :: ns => .cons (.int _) (rg_all i ns)
theorem rgOk_ok {i j : Int} (h : rgOk i j = true) : RgOk i j := by
  unfold rgOk at h
  simp only [Bool.and_eq_true, decide_eq_true_eq] at h
  obtain ⟨⟨h1, h2⟩, h5⟩ := h
  exact ⟨by omega, by omega, by omega, by omega, h5⟩
section
variable {K : PySem.W.Frag} {mg : Str → Option Value} {W : WX}
theorem rgL_fwd {S : AS} {ρ : Rho} {σ : L2.St} {H : Hp} {Q : VK} {i j : Int} (rel : Rel K S ρ σ H) (p : Post K mg W S ρ σ H (fun r S' ρ' H' => ∀ v, RRet K S' ρ' σ H' v r → RNew ρ σ H v r → Q v H') (.ok (rgRet false i (j - i).toNat) ρ)) : ∀ q, H q = none → Q (.ref q) (upd H q (.lst (rgV i j))) := fun q hq =>
  Post.pure rel p (.lst hq rel.live (rg_all i _))
theorem rgT_fwd {S : AS} {ρ : Rho} {σ : L2.St} {H : Hp} {Q : VK} {i j : Int} (rel : Rel K S ρ σ H) (p : Post K mg W S ρ σ H (fun r S' ρ' H' => ∀ v, RRet K S' ρ' σ H' v r → RNew ρ σ H v r → Q v H') (.ok (rgRet true i (j - i).toNat) ρ)) : ∀ q, H q = none → Q (.ref q) (upd H q (.tup (rgV i j))) := fun q hq =>
  Post.pure rel p (.tup hq rel.live (rg_all i _))
theorem Post.start {S S1 : AS} {ρ ρ1 : Rho} {σ : L2.St} {H H1 : Hp} {Q : VK} {o : Out Ret} (st : Step S ρ σ H S1 ρ1 σ H1) (p : Post K mg W S ρ σ H (fun r S' ρ' H' => ∀ v, RRet K S' ρ' σ H' v r → RNew ρ σ H v r → Q v H') o) :
    Post K mg W S1 ρ1 σ H1 (fun r S' ρ' H' => ∀ v, RRet K S' ρ' σ H' v r → RNew ρ1 σ H1 v r → Q v H') o :=
  (Post.from p st).imp fun r S2 ρ2 H2 st2 r2 q v hv hn => q v hv (hn.back st)
end
section
variable {X : Cx} {mg : Str → Option Value} {W : WX} {a b : Expr} {pos p p2 pos2 : Pos}
theorem pe_rgL1 {f : M BV} (hl : Gl X "list") (ml : X.mg "list" = none) (hg : Gl X "range") (hm : X.mg "range" = none) (hc : X.calm = true) (h : PE X a (tBo X.K mg W f)) (na : starEach [a] X.env = (false, eval a X.env) :: starEach [] X.env) :
    PE X (.Call (.Name "list" p) [.Call (.Name "range" p2) [a] [] pos2] [] pos) (tS X.K mg W (mRg1 false f)) :=
  pe_imp (pe_listRg hc hl ml (prg_1 hg hm h na) rfl) fun σ H Q ⟨S, ρ, rel, p⟩ => by
    refine ⟨S, ρ, rel, Post.and p fun bv S1 ρ1 H1 st1 r1 p v hv => ?_⟩
    split at p
    · rename_i j hj
      by_cases ho : rgOk 0 j = true
      case neg => rw [if_neg ho] at p; exact p.elim
      rw [if_pos ho] at p
      exact ⟨j, (hv.read r1 hj).int, rgOk_ok ho, rgL_fwd r1 (Post.start st1 p)⟩
    · exact p.elim
theorem pe_rgT1 {f : M BV} (hl : Gl X "tuple") (ml : X.mg "tuple" = none) (hg : Gl X "range") (hm : X.mg "range" = none) (hc : X.calm = true) (h : PE X a (tBo X.K mg W f)) (na : starEach [a] X.env = (false, eval a X.env) :: starEach [] X.env) :
    PE X (.Call (.Name "tuple" p) [.Call (.Name "range" p2) [a] [] pos2] [] pos) (tS X.K mg W (mRg1 true f)) :=
  pe_imp (pe_tupRg hc hl ml (prg_1 hg hm h na) rfl) fun σ H Q ⟨S, ρ, rel, p⟩ => by
    refine ⟨S, ρ, rel, Post.and p fun bv S1 ρ1 H1 st1 r1 p v hv => ?_⟩
    split at p
    · rename_i j hj
      by_cases ho : rgOk 0 j = true
      case neg => rw [if_neg ho] at p; exact p.elim
      rw [if_pos ho] at p
      exact ⟨j, (hv.read r1 hj).int, rgOk_ok ho, rgT_fwd r1 (Post.start st1 p)⟩
    · exact p.elim
theorem rg2_fwd {tup : Bool} {f g : M BV} {σ : L2.St} {H : Hp} {Q : VK} {T : V → V → Hp → Prop} (hT : ∀ {S : AS} {ρ : Rho} {H : Hp} {i j : Int}, Rel X.K S ρ σ H → rgOk i j = true → Post X.K mg W S ρ σ H (fun r S' ρ' H' => ∀ v, RRet X.K S' ρ' σ H' v r → RNew ρ σ H v r → Q v H') (.ok (rgRet tup i (j - i).toNat) ρ) → T (.int i) (.int j) H)
    (h : tS X.K mg W (mRg2 tup f g) σ H Q) : tBo X.K mg W f σ H fun x H1 => tBo X.K mg W g σ H1 fun y H2 => T x y H2 := by
  obtain ⟨S, ρ, rel, p⟩ := h
  refine ⟨S, ρ, rel, Post.and p fun bv S1 ρ1 H1 st1 r1 p v hv => ?_⟩
  refine ⟨S1, ρ1, r1, Post.and (Post.from p st1) fun cv S2 ρ2 H2 st2 r2 p u hu => ?_⟩
  split at p
  · rename_i i j hi hj
    by_cases ho : rgOk i j = true
    case neg => rw [if_neg ho] at p; exact p.elim
    rw [if_pos ho] at p
    rw [((hv.step st2).read r2 hi).int, (hu.read r2 hj).int]
    refine hT r2 ho ?_
    exact (Post.from p st2).imp fun r S' ρ' H' st' r' q v hv hn => q v hv ((hn.back st2).back st1)
  · exact p.elim
theorem pe_rgL2 {f g : M BV} (hl : Gl X "list") (ml : X.mg "list" = none) (hg : Gl X "range") (hm : X.mg "range" = none) (hc : X.calm = true) (h : PE X a (tBo X.K mg W f)) (h2 : PE X b (tBo X.K mg W g)) (na : starEach [a, b] X.env = (false, eval a X.env) :: starEach [b] X.env) (nb : starEach [b] X.env = (false, eval b X.env) :: starEach [] X.env) :
    PE X (.Call (.Name "list" p) [.Call (.Name "range" p2) [a, b] [] pos2] [] pos) (tS X.K mg W (mRg2 false f g)) :=
  pe_imp (pe_listRg hc hl ml (prg_2 hg hm h h2 na nb (by rw [nb]; rfl)) rfl) fun σ H Q q =>
    rg2_fwd (T := fun x y H => ∃ i j, x = .int i ∧ y = .int j ∧ RgOk i j ∧ ∀ q, H q = none → Q (.ref q) (upd H q (.lst (rgV i j)))) (fun rel ho p => ⟨_, _, rfl, rfl, rgOk_ok ho, rgL_fwd rel p⟩) q
theorem pe_rgT2 {f g : M BV} (hl : Gl X "tuple") (ml : X.mg "tuple" = none) (hg : Gl X "range") (hm : X.mg "range" = none) (hc : X.calm = true) (h : PE X a (tBo X.K mg W f)) (h2 : PE X b (tBo X.K mg W g)) (na : starEach [a, b] X.env = (false, eval a X.env) :: starEach [b] X.env) (nb : starEach [b] X.env = (false, eval b X.env) :: starEach [] X.env) :
    PE X (.Call (.Name "tuple" p) [.Call (.Name "range" p2) [a, b] [] pos2] [] pos) (tS X.K mg W (mRg2 true f g)) :=
  pe_imp (pe_tupRg hc hl ml (prg_2 hg hm h h2 na nb (by rw [nb]; rfl)) rfl) fun σ H Q q =>
    rg2_fwd (T := fun x y H => ∃ i j, x = .int i ∧ y = .int j ∧ RgOk i j ∧ ∀ q, H q = none → Q (.ref q) (upd H q (.tup (rgV i j)))) (fun rel ho p => ⟨_, _, rfl, rfl, rgOk_ok ho, rgT_fwd rel p⟩) q
end
end Ev
namespace Ev
open PySem PySem.Spec PyProof.Rows L2
variable [Gh]
/-! ### l.index(x) -/
def firstIx (x : D) : List D → Option Nat
  | [] => none
  | z :: zs => if PyData.eqv z x = true then some 0 else match firstIx x zs with
    | some j => some (j + 1)
    | none => none
theorem firstIx_ok {x : D} : ∀ {ds : List D} {j : Nat}, firstIx x ds = some j → ∃ z, ds[j]? = some z ∧ PyData.eqv z x = true ∧ ∀ (m : Nat) (y : D), m < j → ds[m]? = some y → PyData.eqv y x = false
  | [], _, h => by cases h
  | z :: zs, j, h => by
    unfold firstIx at h
    split at h
    · rename_i e
      cases h
      exact ⟨z, rfl, e, fun m _ hm => absurd hm (Nat.not_lt_zero m)⟩
    · rename_i e
      split at h
      · rename_i i hi
        cases h
        obtain ⟨w, h1, h2, h3⟩ := firstIx_ok hi
        refine ⟨w, by simpa using h1, h2, fun m y hm hy => ?_⟩
        cases m with
        | zero =>
          simp at hy
          subst hy
          simpa using e
        | succ m => exact h3 m y (by omega) (by simpa using hy)
      · cases h
def mIdx (f g : M BV) : M Ret := fun ρ => (f ρ).andThen fun b ρ1 => match res ρ1 b with
  | some (.list _) => (g ρ1).andThen fun c ρ2 => match res ρ2 b, res ρ2 c with
    | some (.list ds), some x => if SeqAt.shaped (.list ds) = true ∧ SeqAt.shaped x = true then (match firstIx x ds with
        | some j => .ok (.val (.int (j : Nat))) ρ2
        | none => .no)
      else .no
    | _, _ => .no
  | _ => .no
section
variable {X : Cx} {mg : Str → Option Value} {W : WX} {o e : Expr} {apos cpos : Pos}
theorem pe_idx {f g : M BV} (hu : X.A.units + 65 < cLine) (ho : PE X o (tBo X.K mg W f)) (he : PE X e (tBo X.K mg W g)) (hbase : attributeBase o "index" X.env (eval o X.env) = eval o X.env) (hline : (apos.endLine == cpos.line) = true) (hs : starEach [e] X.env = (false, eval e X.env) :: starEach [] X.env)
    (hfew : ((backTo cpos (starEach [e] X.env)).all (fun x => !x.1) && (backToKw cpos (keywordEach [] X.env)).all (fun x => x.1.isSome) && decide (([e] : List Expr).length + ([] : List Keyword).length + (if ([] : List Keyword).isEmpty then 0 else 1) < 30)) = true) :
    PE X (.Call (.Attribute o "index" apos) [e] [] cpos) (tS X.K mg W (mIdx f g)) :=
  pe_imp (pe_bm PySem.F.plainAttrs_list PySem.F.slot_list_index PySem.F.type_list_index (mt_indexD hu) ho (pa_cons he pa_nil hs) hbase hfew hline hs rfl) fun σ H Q ⟨S, ρ, rel, p⟩ => by
    unfold mIdx at p
    refine ⟨S, ρ, rel, Post.and p fun b S1 ρ1 H1 st1 r1 p v hv => ?_⟩
    split at p
    · rename_i ds0 h0
      obtain ⟨a, vs, rfl, ha, _⟩ := (hv.read r1 h0).list
      refine ⟨.inl ⟨rfl, vs, .inl (.inl ha)⟩, S1, ρ1, r1, Post.and (Post.from p st1) fun c S2 ρ2 H2 st2 r2 p u hu2 => ?_⟩
      split at p
      · rename_i ds x hb hc
        by_cases hsh : SeqAt.shaped (.list ds) = true ∧ SeqAt.shaped x = true
        case neg => rw [if_neg hsh] at p; exact p.elim
        rw [if_pos hsh] at p
        cases hf : firstIx x ds with
        | none => simp only [hf] at p; exact p.elim
        | some j =>
          simp only [hf] at p
          obtain ⟨z, z1, z2, z3⟩ := firstIx_ok hf
          have d1 := ((hv.step st2).read r2 hb).dp (SeqAt.canLay_of_shaped hsh.1)
          have d2 := (hu2.read r2 hc).dp (SeqAt.canLay_of_shaped hsh.2)
          exact ⟨a, u, x, ds, j, z, rfl, rfl, d1, d2, hsh.1, hsh.2, z1, z2, fun m y hm hy => z3 m y hm hy, p S2 H2 st2 r2 _ (.int _) trivial⟩
      · exact p.elim
    · exact p.elim
end
end Ev
namespace Ev
open PySem PySem.Spec PyProof.Rows L2
variable [Gh]
/-! ### dicts: {} and d[k] = v -/
def putD (kvs : List (D × D)) (k : Key) (kd d : D) : List (D × D) := if hasKey kvs k = true then kvs.map (fun p => if keyOf p.1 = some k then (p.1, d) else p) else kvs ++ [(kd, d)]
section
variable {K : PySem.W.Frag} {H : Hp} {S : AS}
theorem RKv.app : ∀ {xs ys : List (Key × V)} {us ws : List (D × D)}, RKv K H S xs us → RKv K H S ys ws → RKv K H S (xs ++ ys) (us ++ ws)
  | _, _, _, _, .nil, s => s
  | _, _, _, _, .cons k r t, s => .cons k r (RKv.app t s)
theorem RKv.mapK {k : Key} {v : V} {d : D} (r : R K H S v d) : ∀ {xs : List (Key × V)} {us : List (D × D)}, RKv K H S xs us → RKv K H S (xs.map fun kv => if kv.1 = k then (kv.1, v) else kv) (us.map fun p => if keyOf p.1 = some k then (p.1, d) else p)
  | _, _, .nil => .nil
  | _, _, .cons (k := k') (kd := kd') hk hr t => by
    rw [List.map_cons, List.map_cons]
    by_cases e : k' = k
    · subst e
      rw [if_pos rfl, if_pos hk]
      exact .cons hk r (RKv.mapK r t)
    · have e2 : ¬ keyOf kd' = some k := fun z => by rw [hk] at z; exact e (Option.some.inj z)
      rw [if_neg e, if_neg e2]
      exact .cons hk hr (RKv.mapK r t)
theorem RKv.put {k : Key} {v : V} {kd d : D} (hk : keyOf kd = some k) (r : R K H S v d) {xs : List (Key × V)} {us : List (D × D)} (h : RKv K H S xs us) : RKv K H S (putK xs k v) (putD us k kd d) := by
  have e : (xs.any fun kv => decide (kv.1 = k)) = hasKey us k := by rw [valV_any, hasKey_valV h]
  unfold putK putD
  rw [e]
  split
  · exact RKv.mapK r h
  · exact h.app (.cons hk r .nil)
end
def mDNew : M Ret := fun ρ => .ok (.fd []) ρ
def sSetD (k : Nat) (fi : M BV) (fv : M Ret) : MS := fun ρ => (fv ρ).thenS fun r ρ1 => match ρ1[k]? with
  | some (.dic _ _) => (fi ρ1).thenS fun b ρ2 => match ρ2[k]?, res ρ2 b with
    | some (.dic z ds), some kd => match keyOf kd with
      | some key => if ds.length < 16777216 then .nx (ρ2.set k (.dic z (putD ds key kd r.toD))) else .no
      | none => .no
    | _, _ => .no
  | _ => .no
section
variable {X : Cx} {mg : Str → Option Value} {W : WX} {st : Stmt} {e : Expr} {pos : Pos}
theorem pe_dnewE : PE X (.Dict [] [] pos) (tS X.K mg W mDNew) := pe_imp pe_dnewK fun σ H Q ⟨S, ρ, rel, p⟩ q hq =>
  Post.pure rel p ⟨S, q, [], .lay hq, rfl, hq, upd_same, not_live rel.live hq, .nil⟩
theorem ps_setDE {k : Nat} {fi : M BV} {fv : M Ret} {ob ix : Expr} {sp : Pos} (hu : X.A.units + 1 < cLine) (h : ∀ te g, PE X e te → PG X (.Subscript ob ix sp) g → PS X st (tAsg te g)) (ho : PE X ob (tVar k)) (hi : PE X ix (tBo X.K mg W fi)) (he : PE X e (tS X.K mg W fv))
    (ha : ∀ v, assign (.Subscript ob ix sp) X.env v = (do
      let ov ← holding [v] (eval ob X.env)
      let iv ← holding [v, ov] (eval ix X.env)
      standAt sp
      holding [v, ov, iv] (setItem ov iv v)
      release [v, ov, iv] [])) : PS X st (tSt X.K mg W (sSetD k fi fv)) :=
  ps_imp (h _ _ he (pg_sub ho hi (set_dict hu) ha)) fun D σ H ⟨S, ρ, rel, p⟩ => by
    refine ⟨S, ρ, rel, ?_⟩
    unfold sSetD at p
    refine PostS.and p fun r S0 ρ0 H0 st0 r0 p v hv hn => ?_
    obtain ⟨S1, st1, r1, hr, _⟩ := RRet.val st0 r0 hv hn
    split at p
    · rename_i z0 ds0 hs0
      obtain ⟨aa, o, f1, f2, f3, f4⟩ := (r1.slot k _ hs0).own_adr (z := z0) rfl
      have hadr := join_adr f1
      refine ⟨.ref aa, adr_get hadr, S1, ρ0, r1, PostS.thenI p st1 fun bv S2 ρ2 H2 st2 r2 p u hu2 => ?_⟩
      split at p
      · rename_i z ds kd hs hi
        cases e3 : keyOf kd with
        | none => simp only [e3] at p; exact p.elim
        | some key =>
          simp only [e3] at p
          by_cases hl : ds.length < 16777216
          case neg => rw [if_neg hl] at p; exact p.elim
          rw [if_pos hl] at p
          have q := r2.slot k _ hs
          rw [adr_join hadr] at q
          obtain ⟨vs, q1, q2, q3⟩ := q
          have ev := keyOf_V (hu2.read r2 hi) e3
          subst ev
          obtain ⟨r3, st3⟩ := r2.dset hs hadr (q3.put e3 (hr.stay st2.stay))
          exact ⟨aa, _, rfl, .k q1 (by rw [q3.length, line_eq]; exact hl), p S2 σ _ (st2.trans st3) r3⟩
      · exact p.elim
    · exact p.elim
end
def isDicS : Option Slot → Bool
  | some (.dic _ _) => true
  | _ => false
/-- o[i] = v, a list or a dict -/
def sStore (k : Nat) (fi : M BV) (fv : M Ret) : MS := fun ρ => if isDicS ρ[k]? = true then sSetD k fi fv ρ else sSetIx k fi fv ρ
theorem ps_either {X : Cx} {mg : Str → Option Value} {W : WX} {st : Stmt} {f g : MS} {c : Rho → Bool} (h1 : PS X st (tSt X.K mg W f)) (h2 : PS X st (tSt X.K mg W g)) : PS X st (tSt X.K mg W fun ρ => if c ρ = true then f ρ else g ρ) :=
  ⟨fun pins s σ H D I ⟨S, ρ, rel, p⟩ => by
    by_cases h : c ρ = true
    · simp only [h, if_true] at p
      exact h1.run pins s σ H D I ⟨S, ρ, rel, p⟩
    · simp only [h] at p
      exact h2.run pins s σ H D I ⟨S, ρ, rel, p⟩⟩
end Ev
namespace Ev
open PySem PySem.Spec PyProof.Rows L2
variable [Gh]
/-! ### a dict is locked while a loop walks it -/
section
variable {K : PySem.W.Frag} {mg : Str → Option Value} {W : WX} {H H' Hl Hl' H1 : Hp} {S S' S1 : AS} {ρ ρ' ρ1 : Rho} {σ σ' σ1 : L2.St} {a : Addr} {vs : List (Key × V)}
/-- the same heap, but that the dict at a is locked in one of them -/
structure Lk (a : Addr) (vs : List (Key × V)) (H H' : Hp) : Prop where
  ne : ∀ b, b ≠ a → H' b = H b
  rd : Rd H a (.dK vs)
  rd' : Rd H' a (.dK vs)
theorem Lk.ne_lst (l : Lk a vs H H') {b : Addr} {xs : List V} (h : H b = some (.lst xs)) : b ≠ a := fun e => by
  subst e
  rcases l.rd with q | ⟨o, q⟩
  · rw [h] at q; cases q
  · rw [h] at q; cases q
theorem Lk.tup (l : Lk a vs H H') {b : Addr} {xs : List V} (h : SqT K H b xs) : SqT K H' b xs := by
  rcases h with h | h
  · refine .inl (rd_at (l.ne b fun e => ?_) h)
    subst e
    rcases l.rd with q | ⟨o, q⟩ <;> rcases h with h | ⟨o', h⟩
    · rw [h] at q; cases q
    · rw [h] at q; cases q
    · rw [h] at q; cases q
    · rw [h] at q; cases q
  · exact .inr h
theorem Lk.dct (l : Lk a vs H H') {b : Addr} {ws : List (Key × V)} (h : Rd H b (.dK ws)) : Rd H' b (.dK ws) := by
  by_cases e : b = a
  · subst e
    have : ws = vs := by
      rcases l.rd with q | ⟨o, q⟩ <;> rcases h with h | ⟨o', h⟩ <;> (rw [h] at q; cases q; try rfl)
    rw [this]
    exact l.rd'
  · exact rd_at (l.ne b e) h
mutual
theorem R.lk (l : Lk a vs H H') : ∀ (d : D) (v : V), R K H S v d → R K H' S v d
  | .none, _, h => by cases h; exact .non
  | .bool b, _, h => by cases h; exact .bl b
  | .int i, _, h => by cases h; exact .int i
  | .str x, _, h => by cases h; exact .str x
  | .list ds, _, h => by
    cases h with
    | lst hs hm ha => exact .lst ((l.ne _ (l.ne_lst hs)).trans hs) hm (RAll.lk l ds _ ha)
  | .tuple ds, _, h => by
    cases h with
    | tup hs hm ha => exact .tup (l.tup hs) hm (RAll.lk l ds _ ha)
  | .dict ds, _, h => by
    cases h with
    | dct hs hm ha => exact .dct (l.dct hs) hm (RKv.lk l ds _ ha)
theorem RAll.lk (l : Lk a vs H H') : ∀ (ds : List D) (us : List V), RAll K H S us ds → RAll K H' S us ds
  | [], _, h => by cases h; exact .nil
  | d :: ds, _, h => by
    cases h with
    | cons h1 h2 => exact .cons (R.lk l d _ h1) (RAll.lk l ds _ h2)
theorem RKv.lk (l : Lk a vs H H') : ∀ (ds : List (D × D)) (us : List (Key × V)), RKv K H S us ds → RKv K H' S us ds
  | [], _, h => by cases h; exact .nil
  | (kd, d) :: ds, _, h => by
    cases h with
    | cons hk h1 h2 => exact .cons hk (R.lk l d _ h1) (RKv.lk l ds _ h2)
end
theorem Rel.lk (r : Rel K S ρ σ H) (l : Lk a vs H H') (ha : S a) : Rel K S ρ σ H' := by
  refine ⟨r.len, fun i s h => ?_, r.inj, fun b h => ?_⟩
  · have q := r.slot i s h
    cases s with
    | un => exact trivial
    | dat d =>
      cases e : σ[i]?.join with
      | none => rw [e] at q; exact q.elim
      | some v => rw [e] at q; exact R.lk l d v q
    | giv d =>
      cases e : σ[i]?.join with
      | none => rw [e] at q; exact q.elim
      | some v =>
        rw [e] at q
        cases v <;> first | exact False.elim q | skip
        obtain ⟨us, h1, h2, h3⟩ := q
        refine ⟨us, ?_, h2, RAll.lk l _ _ h3⟩
        rcases h1 with h1 | h1
        · refine .inl (rd_at (l.ne _ fun e => ?_) h1)
          subst e
          rcases l.rd with q | ⟨o, q⟩ <;> rcases h1 with h | ⟨o', h⟩ <;> (rw [h] at q; cases q)
        · exact .inr h1
    | bag G M T => exact q.bagAt (q.bag.move fun b xs h1 n hb => ⟨(l.ne b fun e => n (e ▸ ha)).trans h1, n⟩)
    | lst z ds =>
      obtain ⟨b, u, e1, e2, e3, e4⟩ := q.own_adr (z := z) rfl
      rw [e1] at q ⊢
      obtain ⟨us, q1, q2, q3⟩ := q
      exact ⟨us, (l.ne b fun e => q2 (e ▸ ha)).trans q1, q2, RAll.lk l _ _ q3⟩
    | dic z ds =>
      obtain ⟨b, u, e1, e2, e3, e4⟩ := q.own_adr (z := z) rfl
      rw [e1] at q ⊢
      obtain ⟨us, q1, q2, q3⟩ := q
      exact ⟨us, (l.ne b fun e => q2 (e ▸ ha)).trans q1, q2, RKv.lk l _ _ q3⟩
  · by_cases e : b = a
    · subst e
      rcases l.rd' with q | ⟨o, q⟩
      · exact ⟨_, q⟩
      · exact ⟨_, q⟩
    · obtain ⟨o, q⟩ := r.live b h
      exact ⟨o, (l.ne b e).trans q⟩
theorem RRet.lk (l : Lk a vs H H') (ha : S a) {v : V} {r : Ret} (h : RRet K S ρ σ H v r) : RRet K S ρ σ H' v r := by
  cases r with
  | val d => exact R.lk l d v h
  | fl ds =>
    obtain ⟨b, us, e, h1, h2, h3, h4⟩ := h
    exact ⟨b, us, e, (l.ne b fun z => h2 (z ▸ ha)).trans h1, h2, RAll.lk l _ _ h3, h4⟩
  | fd ds =>
    obtain ⟨b, us, e, h1, h2, h3, h4⟩ := h
    exact ⟨b, us, e, (l.ne b fun z => h2 (z ▸ ha)).trans h1, h2, RKv.lk l _ _ h3, h4⟩
theorem Step.lk (st : Step S ρ σ Hl S' ρ' σ' Hl') (h1 : ∀ b, b ≠ a → Hl b = H b) (h2 : ∀ b, b ≠ a → H' b = Hl' b) (e : H' a = H a) (el : Hl a ≠ none) : Step S ρ σ H S' ρ' σ' H' := by
  have no : ∀ b, Hl b = none → H b = none := fun b hb => by
    rw [← h1 b fun z => el (z ▸ hb)]; exact hb
  refine ⟨st.sub, fun b hb => ?_, fun b o hb n => ?_, fun b o hb => ?_, fun b hb => ?_, fun b hb => ?_, fun b hb => ?_, st.ino⟩
  · by_cases z : b = a
    · subst z; exact e
    · rw [h2 b z, st.at_ b hb, h1 b z]
  · by_cases z : b = a
    · subst z; rw [e]; exact hb
    · rw [h2 b z]; exact st.frame b o (by rw [h1 b z]; exact hb) n
  · by_cases z : b = a
    · subst z; rw [e]; exact ⟨o, hb⟩
    · rw [h2 b z]; exact st.there b o (by rw [h1 b z]; exact hb)
  · rcases st.new b hb with q | q | q
    · exact .inl q
    · exact .inr (.inl (no b q))
    · exact .inr (.inr q)
  · exact (st.own b hb).imp id (no b)
  · exact (st.ownZ b hb).imp id (no b)
theorem RNew.lk (h1 : ∀ b, b ≠ a → Hl b = H b) (el : Hl a ≠ none) {v : V} {r : Ret} (h : RNew ρ σ Hl v r) : RNew ρ σ H v r := by
  have no : ∀ b, Hl b = none → H b = none := fun b hb => by
    rw [← h1 b fun z => el (z ▸ hb)]; exact hb
  cases r with
  | val d => exact trivial
  | fl ds => exact fun b e => (h b e).imp (no b) id
  | fd ds => exact fun b e => (h b e).imp (no b) id
end
def noX (o : OutS) : OutS := match o with
  | .exn _ _ => .no
  | o => o
def noXE {α : Type} (o : Out α) : Out α := match o with
  | .exn _ _ => .no
  | o => o
/-- the items of a dict that a name has: it is frozen from now on -/
def mItK (k : Nat) (F : List (D × D) → List D) : M (List D) := fun ρ => match ρ[k]? with
  | some (.dic true kvs) => .ok (F kvs) (ρ.set k (.dat (.dict kvs)))
  | some (.dat (.dict kvs)) => .ok (F kvs) ρ
  | _ => .no
def dKeys (kvs : List (D × D)) : List D := kvs.map (·.1)
def dItems (kvs : List (D × D)) : List D := kvs.map fun p => .tuple [p.1, p.2]
def sForK (k : Nat) (F : List (D × D) → List D) (t : Tgt) (body : MS) : MS := fun ρ => noX (sFor (mItK k F) t body ρ)
def mLcK (own : List Nat) (k : Nat) (F : List (D × D) → List D) (t : Tgt) (tt : M Bool) (te : M Ret) : M Ret := fun ρ => noXE (mLc own (mItK k F) t tt te ρ)
def isDatDic : Option Slot → Bool
  | some (.dic true _) => true
  | some (.dat (.dict _)) => true
  | _ => false
section
variable {K : PySem.W.Frag} {mg : Str → Option Value} {W : WX} {H H' : Hp} {S S' : AS} {ρ ρ' : Rho} {σ σ' : L2.St}
theorem RKv.len {vs : List (Key × V)} {ds : List (D × D)} (h : RKv K H S vs ds) : vs.length = ds.length := h.length
theorem RKv.get : ∀ {vs : List (Key × V)} {ds : List (D × D)} {i : Nat} {k : Key} {v : V}, RKv K H S vs ds → vs[i]? = some (k, v) → ∃ kd d, ds[i]? = some (kd, d) ∧ keyOf kd = some k ∧ R K H S v d
  | _, _, _, _, _, .nil, e => by simp at e
  | _, _, 0, _, _, .cons hk hr t, e => by simp at e; obtain ⟨rfl, rfl⟩ := e; exact ⟨_, _, rfl, hk, hr⟩
  | _, _, i + 1, _, _, .cons hk hr t, e => by
    obtain ⟨kd, d, h1, h2⟩ := RKv.get (i := i) t (by simpa using e)
    exact ⟨kd, d, by simpa using h1, h2⟩
theorem keyR {kd : D} {k : Key} (h : keyOf kd = some k) : R K H S (kV k) kd := by
  cases kd <;> cases h
  · exact .int _
  · exact .str _
/-- what walks a locked dict -/
structure DWalk (K : PySem.W.Frag) (F : List (D × D) → List D) (J : Addr → Obj → List (Key × V) → It) : Prop where
  ok : ∀ {S : AS} {H : Hp} {a : Addr} {o : Obj} {vs : List (Key × V)} {ds : List (D × D)}, H a = some (.frz o (.dK vs)) → S a → RKv K H S vs ds → ItOk K S H (F ds) (J a o vs)
theorem dw_keys : DWalk K dKeys Itk := ⟨fun {S H a o vs ds} h hs hr => by
  have hl := hr.length
  have fl : (dKeys ds).length = ds.length := by simp [dKeys]
  refine ⟨fun S' H' i st l hi => ⟨(st.at_ a hs).trans h, by omega⟩, fun S' H' i st l hi => ⟨(st.at_ a hs).trans h, by omega⟩, fun S' H' i x H2 st l hi hy => ?_⟩
  obtain ⟨rfl, k, v, hk, rfl⟩ := hy
  obtain ⟨kd, d, h1, h2, h3⟩ := hr.get hk
  exact ⟨S', kd, by simp [dKeys, h1], .refl, keyR h2⟩⟩
theorem dw_items : DWalk K dItems Iti := ⟨fun {S H a o vs ds} h hs hr => by
  have hl := hr.length
  have fl : (dItems ds).length = ds.length := by simp [dItems]
  refine ⟨fun S' H' i st l hi => ⟨(st.at_ a hs).trans h, by omega⟩, fun S' H' i st l hi => ⟨(st.at_ a hs).trans h, by omega⟩, fun S' H' i x H2 st l hi hy => ?_⟩
  obtain ⟨p, k, v, hk, rfl, hp, rfl⟩ := hy
  obtain ⟨kd, d, h1, h2, h3⟩ := hr.get hk
  obtain ⟨e1, e2⟩ := pair_ext l hp (keyR h2) (R.stay st _ _ h3)
  exact ⟨_, _, by simp [dItems, h1], e1, e2⟩⟩
end
section
variable {X : Cx} {mg : Str → Option Value} {W : WX} {st : Stmt} {e c tg iter : Expr} {pos : Pos}
theorem ps_or {t t' : TS} (h : PS X st t) (h' : PS X st t') : PS X st (fun D σ H => t D σ H ∨ t' D σ H) := ⟨fun pins s σ H D I q => q.elim (h.run pins s σ H D I) (h'.run pins s σ H D I)⟩
theorem pe_or2 {t t' : TE} (h : PE X e t) (h' : PE X e t') : PE X e (fun σ H Q => t σ H Q ∨ t' σ H Q) := ⟨fun pins s σ H Q I q => q.elim (h.run pins s σ H Q I) (h'.run pins s σ H Q I)⟩
/-- a loop, from its iterator on -/
theorem for_fwd {K : PySem.W.Frag} {t : Tgt} {f : MS} {D : Ends} {σ : L2.St} {H1 : Hp} {S1 : AS} {ρ1 : Rho} {ds : List PyData} {J : It} (r1 : Rel K S1 ρ1 σ H1) (hJ : ItOk K S1 H1 ds J) (p1 : PostS K mg W S1 ρ1 σ H1 D (forLoop t f ds ρ1)) :
    tFor (fun _ H R => R J H) (tGt K t) (tSt K mg W f) D σ H1 := by
  refine ⟨fun i m σ2 H2 => m = ds.length - i ∧ i ≤ ds.length ∧ ∃ S2 ρ2, Rel K S2 ρ2 σ2 H2 ∧ Step S1 ρ1 σ H1 S2 ρ2 σ2 H2 ∧ PostS K mg W S1 ρ1 σ H1 D (forLoop t f (ds.drop i) ρ2), ⟨ds.length, by omega, Nat.zero_le _, S1, ρ1, r1, .refl, by rw [List.drop_zero]; exact p1⟩, ?_⟩
  rintro i m σ2 H2 ⟨rfl, hi, S2, ρ2, r2, st2, p2⟩
  by_cases hlt : i < ds.length
  · refine .inr ⟨hJ.go S2 H2 i st2.stay r2.live hlt, fun σ' H' => ∃ S' ρ', Rel K S' ρ' σ' H' ∧ Step S1 ρ1 σ H1 S' ρ' σ' H' ∧ PostS K mg W S1 ρ1 σ H1 D (forLoop t f (ds.drop (i + 1)) ρ'), fun σ' H' h => ⟨ds.length - (i + 1), by omega, rfl, hlt, h⟩, fun x H3 hy => ?_⟩
    obtain ⟨S3, d, hd, ex, hr⟩ := hJ.yld S2 H2 i x H3 st2.stay r2.live hlt hy
    obtain ⟨r3, st3⟩ := r2.ext ex
    rw [List.drop_eq_getElem_cons hlt] at p2
    have hd' : ds[i] = d := by rw [List.getElem?_eq_getElem hlt] at hd; exact Option.some.inj hd
    rw [hd'] at p2
    unfold forLoop at p2
    cases e1 : asgT t d ρ2 with
    | none => simp only [e1] at p2; exact p2.elim
    | some ρ4 =>
      simp only [e1] at p2
      refine ⟨S3, ρ2, d, ρ4, r3, hr, e1, fun σ4 r4 st4 _ _ => ⟨S3, ρ4, r4, ?_⟩⟩
      have st24 := (st2.trans st3).trans st4
      cases eb : f ρ4 with
      | nx ρ5 => simp only [eb] at p2; exact fun S5 σ5 H5 st5 r5 => ⟨S5, ρ5, r5, st24.trans st5, p2⟩
      | ct ρ5 => simp only [eb] at p2; exact fun S5 σ5 H5 st5 r5 => ⟨S5, ρ5, r5, st24.trans st5, p2⟩
      | bk ρ5 => simp only [eb] at p2; exact fun S5 σ5 H5 st5 r5 => p2 S5 σ5 H5 (st24.trans st5) r5
      | rt r ρ5 => simp only [eb] at p2; exact fun S5 σ5 H5 v st5 r5 hv hn => p2 S5 σ5 H5 v (st24.trans st5) r5 hv (hn.back' st24)
      | exn x ρ5 => simp only [eb] at p2; exact fun S5 σ5 H5 cls dx st5 r5 xr => p2 S5 σ5 H5 cls dx (st24.trans st5) r5 xr
      | no => simp only [eb] at p2; exact p2.elim
  · have hle : ds.length ≤ i := by omega
    rw [List.drop_eq_nil_of_le hle] at p2
    exact .inl ⟨hJ.stop S2 H2 i st2.stay r2.live hle, p2 S2 σ2 H2 st2 r2⟩
/-- the name's dict, frozen -/
theorem itK_start {K : PySem.W.Frag} {S : AS} {ρ : Rho} {σ : L2.St} {H : Hp} {k : Nat} {F : List (PyData × PyData) → List PyData} {ds : List PyData} {ρ1 : Rho} (rel : Rel K S ρ σ H) (h : mItK k F ρ = .ok ds ρ1) :
    ∃ S1 a vs kvs, Step S ρ σ H S1 ρ1 σ H ∧ Rel K S1 ρ1 σ H ∧ σ[k]? = some (some (.ref a)) ∧ S1 a ∧ Rd H a (.dK vs) ∧ RKv K H S1 vs kvs ∧ ds = F kvs := by
  unfold mItK at h
  split at h
  · rename_i kvs hs
    cases h
    have q := rel.slot k _ hs
    obtain ⟨a, o, e1, e2, e3, e4⟩ := q.own_adr (z := true) rfl
    have ha := join_adr e1
    rw [e1] at q
    obtain ⟨vs, q1, q2, q3⟩ := q
    have hkv : RKv K H (fun b => S b ∨ b = a) vs kvs := RKv.stay ⟨fun _ h => .inl h, fun _ _ => rfl⟩ kvs vs q3
    have hR : R K H (fun b => S b ∨ b = a) (.ref a) (.dict kvs) := .dct (.inl q1) (.inr rfl) hkv
    obtain ⟨r2, s2⟩ := rel.drop (t := .dat (.dict kvs)) (S' := fun b => S b ∨ b = a) hs rfl ha rfl (fun _ h => .inl h) (fun _ h => h) (by rw [e1]; exact hR)
    exact ⟨_, a, vs, kvs, s2, r2, adr_get ha, .inr rfl, .inl q1, hkv, rfl⟩
  · rename_i kvs hs
    cases h
    have q := rel.slot k _ hs
    cases e : σ[k]?.join with
    | none => rw [e] at q; exact q.elim
    | some v =>
      rw [e] at q
      have q : R K H S v (.dict kvs) := q
      cases q with
      | dct h1 h2 h3 => exact ⟨S, _, _, kvs, .refl, rel, adr_get (join_adr e), h2, h1, h3, rfl⟩
  · cases h
/-- the reading of a walk over a name's locked dict -/
def tWk (k : Nat) (J : Addr → Obj → List (Key × V) → It) : TI := fun σ H R => ∃ a o vs, σ[k]? = some (some (.ref a)) ∧ H a = some (.frz o (.dK vs)) ∧ R (J a o vs) H
theorem lk_on {H : Hp} {a : Addr} {vs : List (Key × V)} (h : H a = some (.dK vs)) (od : Obj) : Lk a vs H (upd H a (.frz od (.dK vs))) := ⟨fun b hb => upd_ne hb, .inl h, .inr ⟨od, upd_same⟩⟩
theorem lk_off {H : Hp} {a : Addr} {vs : List (Key × V)} {od : Obj} (h : H a = some (.frz od (.dK vs))) : Lk a vs H (upd H a (.dK vs)) := ⟨fun b hb => upd_ne hb, .inr ⟨od, h⟩, .inl upd_same⟩
theorem ps_forK {k : Nat} {F : List (PyData × PyData) → List PyData} {J : Addr → Obj → List (Key × V) → It} {t : Tgt} {f : MS} {body : List Stmt} (hW : DWalk X.K F J) (hi : PI X tg iter (tWk k J)) (hg : PG X tg (tGt X.K t)) (hb : PSs X body (tSt X.K mg W f))
    (hx : ∀ (wi : TI) (g : TG) (tb : TS), PI X tg iter wi → PG X tg g → PSs X body tb → PS X (.For tg iter body [] pos) (tFor wi g tb)) : PS X (.For tg iter body [] pos) (tSt X.K mg W (sForK k F t f)) :=
  ps_imp (ps_or (ps_lock (hx _ _ _ hi hg hb)) (hx _ _ _ hi hg hb)) fun D σ H ⟨S, ρ, rel, p⟩ => by
    unfold sForK sFor at p
    cases e0 : mItK k F ρ with
    | no => rw [e0] at p; exact p.elim
    | exn x ρ1 => rw [e0] at p; exact p.elim
    | ok ds ρ1 =>
      rw [e0] at p
      simp only [thenS_ok] at p
      obtain ⟨S1, a, vs, kvs, st1, r1, hσ, hSa, hrd, hkv, rfl⟩ := itK_start rel e0
      have p1 := PostS.from p st1
      rcases hrd with hd | ⟨od, hd⟩
      · refine .inl ⟨a, .dK vs, hd, trivial, fun od => ?_⟩
        have l := lk_on hd od
        have rl := r1.lk l hSa
        refine ⟨a, od, vs, hσ, upd_same, for_fwd rl (hW.ok upd_same hSa (hkv.lk l)) ?_⟩
        have el : (upd H a (.frz od (.dK vs))) a ≠ none := by rw [upd_same]; simp
        have fz : ∀ {S' ρ' σ' H'}, Step S1 ρ1 σ (upd H a (.frz od (.dK vs))) S' ρ' σ' H' → H' a = some (.frz od (.dK vs)) := fun {S' ρ' σ' H'} st => by
          rw [st.at_ a hSa, upd_same]
        have back : ∀ {S' ρ' σ' H'}, Step S1 ρ1 σ (upd H a (.frz od (.dK vs))) S' ρ' σ' H' → Step S1 ρ1 σ H S' ρ' σ' (upd H' a (.dK vs)) := fun {S' ρ' σ' H'} st =>
          st.lk (a := a) (fun b hb => upd_ne hb) (fun b hb => upd_ne hb) (by rw [upd_same, hd]) el
        cases ef : forLoop t f (F kvs) ρ1 with
        | nx ρ2 =>
          rw [ef] at p1
          exact fun S' σ' H' st r' => ⟨fz st, p1 S' σ' _ (back st) (r'.lk (lk_off (fz st)) (st.sub a hSa))⟩
        | bk ρ2 =>
          rw [ef] at p1
          exact fun S' σ' H' st r' => ⟨fz st, p1 S' σ' _ (back st) (r'.lk (lk_off (fz st)) (st.sub a hSa))⟩
        | ct ρ2 =>
          rw [ef] at p1
          exact fun S' σ' H' st r' => ⟨fz st, p1 S' σ' _ (back st) (r'.lk (lk_off (fz st)) (st.sub a hSa))⟩
        | rt r ρ2 =>
          rw [ef] at p1
          exact fun S' σ' H' v st r' hv hn => ⟨fz st, p1 S' σ' _ v (back st) (r'.lk (lk_off (fz st)) (st.sub a hSa)) (hv.lk (lk_off (fz st)) (st.sub a hSa)) (hn.lk (fun b hb => upd_ne hb) el)⟩
        | exn x ρ2 => rw [ef] at p1; exact p1.elim
        | no => rw [ef] at p1; exact p1.elim
      · refine .inr ⟨a, od, vs, hσ, hd, for_fwd r1 (hW.ok hd hSa hkv) ?_⟩
        cases ef : forLoop t f (F kvs) ρ1 with
        | exn x ρ2 => rw [ef] at p1; exact p1.elim
        | no => rw [ef] at p1; exact p1.elim
        | nx ρ2 => rw [ef] at p1; exact p1
        | bk ρ2 => rw [ef] at p1; exact p1
        | ct ρ2 => rw [ef] at p1; exact p1
        | rt r ρ2 => rw [ef] at p1; exact p1
/-- .. and of a comprehension over it -/
theorem lcK_fwd {own : List Nat} {k : Nat} {F : List (PyData × PyData) → List PyData} {J : Addr → Obj → List (Key × V) → It} {t : Tgt} {tt : M Bool} {te : M Ret} {σ : L2.St} {H : Hp} {Q : VK} {S : AS} {ρ : Rho} {K : PySem.W.Frag} (hW : DWalk K F J) (hsub : ∀ i ∈ t.slots, i ∈ own) (rel : Rel K S ρ σ H)
    (p : Post K mg W S ρ σ H (fun r S' ρ' H' => ∀ v, RRet K S' ρ' σ H' v r → RNew ρ σ H v r → Q v H') (mLcK own k F t tt te ρ)) :
    tLockE (tLc (tWk k J) (tGt K t) (tTe K mg (fun _ _ _ _ => False) tt) (tS K mg (fun _ _ _ _ => False) te) own) σ H Q ∨ tLc (tWk k J) (tGt K t) (tTe K mg (fun _ _ _ _ => False) tt) (tS K mg (fun _ _ _ _ => False) te) own σ H Q := by
  unfold mLcK mLc at p
  cases e0 : mItK k F ρ with
  | no => rw [e0] at p; exact p.elim
  | exn x ρ1 => rw [e0] at p; exact p.elim
  | ok ds ρ1 =>
    rw [e0] at p
    simp only [andThen_ok] at p
    by_cases hf : freeAll ρ1 own = true
    case neg => rw [if_neg hf] at p; exact p.elim
    rw [if_pos hf] at p
    obtain ⟨S1, a, vs, kvs, st1, r1, hσ, hSa, hrd, hkv, rfl⟩ := itK_start rel e0
    have p1 := (Post.from p st1).imp (P' := fun r S' ρ' H' => ∀ v, RRet K S' ρ' σ H' v r → RNew ρ1 σ H v r → Q v H') fun r S2 ρ2 H2 st2 r2 q v hv hn => q v hv (hn.back st1)
    rcases hrd with hd | ⟨od, hd⟩
    · refine .inl ⟨a, .dK vs, hd, trivial, fun od => ?_⟩
      have l := lk_on hd od
      have rl := r1.lk l hSa
      have el : (upd H a (.frz od (.dK vs))) a ≠ none := by rw [upd_same]; simp
      refine ⟨a, od, vs, hσ, upd_same, lcIn_fwd (W := fun _ _ _ _ => False) (mg := mg) (tt := tt) (te := te) (Q := fun v H' => H' a = some (.frz od (.dK vs)) ∧ Q v (upd H' a (.dK vs))) hsub rl (hW.ok upd_same hSa (hkv.lk l)) hf ?_⟩
      cases ef : lcFin own ρ1 (lcLoop own t tt te (F kvs) [] (wipeR ρ1 own)) with
      | ok r ρ2 =>
        rw [ef] at p1
        intro S' H' st r' v hv hn
        have fz : H' a = some (.frz od (.dK vs)) := by rw [st.at_ a hSa, upd_same]
        exact ⟨fz, p1 S' _ (st.lk (a := a) (fun b hb => upd_ne hb) (fun b hb => upd_ne hb) (by rw [upd_same, hd]) el) (r'.lk (lk_off fz) (st.sub a hSa)) v (hv.lk (lk_off fz) (st.sub a hSa)) (hn.lk (fun b hb => upd_ne hb) el)⟩
      | exn x ρ2 => rw [ef] at p1; exact p1.elim
      | no => rw [ef] at p1; exact p1.elim
    · refine .inr ⟨a, od, vs, hσ, hd, lcIn_fwd (W := fun _ _ _ _ => False) (mg := mg) (tt := tt) (te := te) (Q := Q) hsub r1 (hW.ok hd hSa hkv) hf ?_⟩
      cases ef : lcFin own ρ1 (lcLoop own t tt te (F kvs) [] (wipeR ρ1 own)) with
      | ok r ρ2 => rw [ef] at p1; exact p1
      | exn x ρ2 => rw [ef] at p1; exact p1.elim
      | no => rw [ef] at p1; exact p1.elim
theorem pi_wkeys {k : Nat} (h : PE X e (tVar k)) : PI X tg e (tWk k Itk) := pi_imp (pi_keys h) fun σ H R ⟨a, o, vs, h1, h2, q⟩ => ⟨.ref a, h1, a, o, rfl, .inl ⟨vs, h2, q⟩⟩
theorem pi_witems {k : Nat} {elts : List Expr} {kk : Nat} {tpos apos cpos : Pos} (h : PE X e (tVar k)) (hbase : attributeBase e "items" X.env (eval e X.env) = eval e X.env) (hline : (apos.endLine == cpos.line) = true) :
    PI X (.Tuple elts kk tpos) (.Call (.Attribute e "items" apos) [] [] cpos) (tWk k Iti) := pi_imp (pi_items h hbase hline) fun σ H R ⟨a, o, vs, h1, h2, q⟩ => ⟨.ref a, h1, a, o, vs, rfl, h2, q⟩
end
end Ev
namespace Ev
open PySem PySem.Spec PyProof.Rows L2
variable [Gh]
/-! ### dicts: d.get, d.setdefault, displays, dict comprehensions -/
def mGet1 (f g : M BV) : M Ret := fun ρ => (f ρ).andThen fun b ρ1 => match res ρ1 b with
  | some (.dict _) => (g ρ1).andThen fun c ρ2 => match res ρ2 b, res ρ2 c with
    | some (.dict kvs), some k => match keyOf k with
      | some key => .ok (.val ((valD kvs key).getD .none)) ρ2
      | none => .no
    | _, _ => .no
  | _ => .no
def mGet2 (f g h : M BV) : M Ret := fun ρ => (f ρ).andThen fun b ρ1 => match res ρ1 b with
  | some (.dict _) => (g ρ1).andThen fun c ρ2 => (h ρ2).andThen fun x ρ3 => match res ρ3 b, res ρ3 c, x with
    | some (.dict kvs), some k, .val d => match keyOf k with
      | some key => .ok (.val ((valD kvs key).getD d)) ρ3
      | none => .no
    | _, _, _ => .no
  | _ => .no
def mSetd (k : Nat) (g h : M BV) : M Ret := fun ρ => match ρ[k]? with
  | some (.dic _ _) => (g ρ).andThen fun c ρ1 => (h ρ1).andThen fun x ρ2 => match ρ2[k]?, res ρ2 c, x with
    | some (.dic z kvs), some kd, .val d => match keyOf kd with
      | some key => if kvs.length < 16777216 then (match valD kvs key with
          | some v => .ok (.val v) ρ2
          | none => .ok (.val d) (ρ2.set k (.dic z (putD kvs key kd d)))) else .no
      | none => .no
    | _, _, _ => .no
  | _ => .no
def mPairs : List (M BV × M BV) → M (List (BV × BV))
  | [] => fun ρ => .ok [] ρ
  | (f, g) :: ps => fun ρ => (f ρ).andThen fun b ρ1 => (g ρ1).andThen fun c ρ2 => (mPairs ps ρ2).andThen fun r ρ3 => .ok ((b, c) :: r) ρ3
def keyed : List (BV × BV) → Option (List (D × D))
  | [] => some []
  | (.val kd, .val d) :: ps => match keyOf kd, keyed ps with
    | some _, some r => some ((kd, d) :: r)
    | _, _ => none
  | _ => none
def putAll (acc : List (D × D)) : List (D × D) → List (D × D)
  | [] => acc
  | (kd, d) :: ps => match keyOf kd with
    | some key => putAll (putD acc key kd d) ps
    | none => putAll acc ps
def mDisp (ps : List (M BV × M BV)) : M Ret := fun ρ => (mPairs ps ρ).andThen fun r ρ' => match keyed r with
  | some kvs => if kvs.length ≤ 15 then .ok (.fd (putAll [] kvs)) ρ' else .no
  | none => .no
def dcLoop (own : List Nat) (tg : Tgt) (tt : M Bool) (tk tv : M Ret) : List D → List (D × D) → Rho → Out (List (D × D))
  | [], acc, ρ => .ok acc ρ
  | d :: ds, acc, ρ => match asgT tg d ρ with
    | none => .no
    | some ρ1 => (tt ρ1).andThen fun b ρ2 => if b = true then
        (tk ρ2).andThen fun rk ρ3 => (tv ρ3).andThen fun r ρ4 => match keyOf rk.toD with
          | some key => if acc.length < 16777216 ∧ freeAll ρ4 own = true then dcLoop own tg tt tk tv ds (putD acc key rk.toD r.toD) (wipeR ρ4 own) else .no
          | none => .no
      else if freeAll ρ2 own = true then dcLoop own tg tt tk tv ds acc (wipeR ρ2 own) else .no
def dcFin (own : List Nat) (ρ1 : Rho) : Out (List (D × D)) → Out Ret
  | .ok acc ρ => .ok (.fd acc) (restR ρ1 own ρ)
  | _ => .no
def mDc (own : List Nat) (it : M (List D)) (tg : Tgt) (tt : M Bool) (tk tv : M Ret) : M Ret := fun ρ => (it ρ).andThen fun ds ρ1 =>
  if freeAll ρ1 own = true then dcFin own ρ1 (dcLoop own tg tt tk tv ds [] (wipeR ρ1 own)) else .no
section
variable {K : PySem.W.Frag} {mg : Str → Option Value} {W : WX} {H H' H1 H2 H3 : Hp} {S S' S1 S2 S3 : AS} {ρ ρ' ρ1 ρ2 ρ3 : Rho} {σ σ' σ1 σ2 σ3 : L2.St}
theorem RKv.valN {k : Key} : ∀ {vs : List (Key × V)} {ds : List (D × D)}, RKv K H S vs ds → valD ds k = none → valV vs k = none
  | _, _, .nil, _ => rfl
  | _, _, .cons (k := k') (kd := kd) (d := d) (ds := ds') hk hr t, e => by
    unfold valD at e
    by_cases ek : k' = k
    · rw [List.find?_cons, hk, ek] at e
      simp at e
    · rw [List.find?_cons, hk] at e
      have : decide (some k' = some k) = false := decide_eq_false fun q => ek (Option.some.inj q)
      rw [this] at e
      rw [valV_neg ek]
      exact RKv.valN t e
theorem RKv.getD {k : Key} {vs : List (Key × V)} {ds : List (D × D)} {v : V} {d : D} (h : RKv K H S vs ds) (r : R K H S v d) : R K H S ((valV vs k).getD v) ((valD ds k).getD d) := by
  cases e : valD ds k with
  | none => rw [h.valN e]; exact r
  | some x =>
    obtain ⟨y, h1, h2⟩ := h.val e
    rw [h1]; exact h2
theorem RKv.putAll : ∀ {us : List (Key × V)} {ps : List (D × D)} {xs : List (Key × V)} {ds : List (D × D)}, RKv K H S us ps → RKv K H S xs ds → RKv K H S (mergeK xs us) (Ev.putAll ds ps)
  | _, _, xs, ds, .nil, h => h
  | _, _, xs, ds, .cons (k := k) (kd := kd) (v := v) (d := d) (vs := us) (ds := ps) hk hr t, h => by
    have ih := RKv.putAll t (h.put hk hr)
    unfold Ev.putAll
    simp only [hk]
    exact ih
/-- a dict comprehension's loop -/
theorem dcIn_fwd {K : PySem.W.Frag} {own : List Nat} {tg : Tgt} {tt : M Bool} {tk tv : M Ret} {σ : L2.St} {H1 : Hp} {Q : VK} {S1 : AS} {ρ1 : Rho} {ds : List D} {J : It} (hsub : ∀ i ∈ tg.slots, i ∈ own) (r1 : Rel K S1 ρ1 σ H1) (hJ : ItOk K S1 H1 ds J) (hf : freeAll ρ1 own = true)
    (p1 : Post K mg W S1 ρ1 σ H1 (fun r S' ρ' H' => ∀ v, RRet K S' ρ' σ H' v r → RNew ρ1 σ H1 v r → Q v H') (dcFin own ρ1 (dcLoop own tg tt tk tv ds [] (wipeR ρ1 own)))) :
    tDc (fun _ H R => R J H) (tGt K tg) (tTe K mg (fun _ _ _ _ => False) tt) (tS K mg (fun _ _ _ _ => False) tk) (tS K mg (fun _ _ _ _ => False) tv) own σ H1 Q := by
  intro D hD
  -- the loop's invariant
  refine ⟨fun i m H2 => m = ds.length - i ∧ i ≤ ds.length ∧ ∃ S2 ρ2 acc vs, Rel K S2 ρ2 (L2.wipe σ own) H2 ∧ Step S1 ρ1 σ H1 S2 ρ2 (L2.wipe σ own) H2 ∧ Aside S2 ρ2 (L2.wipe σ own) H2 D (.dK vs) ∧ RKv K H2 S2 vs acc ∧
      Post K mg W S1 ρ1 σ H1 (fun r S' ρ' H' => ∀ v, RRet K S' ρ' σ H' v r → RNew ρ1 σ H1 v r → Q v H') (dcFin own ρ1 (dcLoop own tg tt tk tv (ds.drop i) acc ρ2)), ⟨ds.length, by omega, Nat.zero_le _, ?_⟩, ?_⟩
  · obtain ⟨r2, st2⟩ := r1.wipe (own := own) fun i hi s hs => by
      obtain ⟨s', e', n'⟩ := freeAll_of hf hi
      rw [hs] at e'
      cases e'
      exact n'
    obtain ⟨r3, st3, nS, nO⟩ := r2.fresh (o := .dK []) hD
    exact ⟨S1, wipeR ρ1 own, [], [], r3, st2.trans st3, ⟨upd_same, nS, nO⟩, .nil, by rw [List.drop_zero]; exact p1⟩
  · rintro i m H2 ⟨rfl, hi, S2, ρ2, acc, vs, r2, st2, as2, ra, p2⟩
    by_cases hlt : i < ds.length
    · refine .inr ⟨hJ.go S2 H2 i st2.stay r2.live hlt, fun H' => ∃ S' ρ' acc vs, Rel K S' ρ' (L2.wipe σ own) H' ∧ Step S1 ρ1 σ H1 S' ρ' (L2.wipe σ own) H' ∧ Aside S' ρ' (L2.wipe σ own) H' D (.dK vs) ∧ RKv K H' S' vs acc ∧
        Post K mg W S1 ρ1 σ H1 (fun r S' ρ' H' => ∀ v, RRet K S' ρ' σ H' v r → RNew ρ1 σ H1 v r → Q v H') (dcFin own ρ1 (dcLoop own tg tt tk tv (ds.drop (i + 1)) acc ρ')), fun H' h => ⟨ds.length - (i + 1), by omega, rfl, hlt, h⟩, fun x H3 hy => ?_⟩
      obtain ⟨S3, d, hd, ex, hr⟩ := hJ.yld S2 H2 i x H3 st2.stay r2.live hlt hy
      obtain ⟨r3, st3⟩ := r2.ext ex
      have as3 := as2.step st3
      rw [List.drop_eq_getElem_cons hlt] at p2
      have hd' : ds[i] = d := by rw [List.getElem?_eq_getElem hlt] at hd; exact Option.some.inj hd
      rw [hd'] at p2
      simp only [dcLoop] at p2
      cases e1 : asgT tg d ρ2 with
      | none => simp only [e1] at p2; exact p2.elim
      | some ρ4 =>
        simp only [e1] at p2
        refine ⟨S3, ρ2, d, ρ4, r3, hr, e1, fun σ4 r4 st4 hl4 hk4 => ?_⟩
        have hw : L2.wipe σ4 own = L2.wipe σ own := wipe_same (by rw [hl4, L2.wipe_length]) fun j hj => hk4 j fun z => hj (hsub j z)
        refine ⟨hw, ?_⟩
        have st24 := (st2.trans st3).trans st4
        have as4 := as3.step st4
        have ra4 := (RKv.stay st3.stay _ _ ra).stay st4.stay
        -- a turn's end: the own names are forgotten again
        have turn : ∀ {S5 : AS} {ρ5 : Rho} {H5 : Hp}, Rel K S5 ρ5 σ4 H5 → Step S1 ρ1 σ H1 S5 ρ5 σ4 H5 → ∀ {o : HO}, Aside S5 ρ5 σ4 H5 D o → freeAll ρ5 own = true →
            Rel K S5 (wipeR ρ5 own) (L2.wipe σ own) H5 ∧ Step S1 ρ1 σ H1 S5 (wipeR ρ5 own) (L2.wipe σ own) H5 ∧ Aside S5 (wipeR ρ5 own) (L2.wipe σ own) H5 D o := fun {S5 ρ5 H5} r5 st5 {o} as5 hfr => by
          obtain ⟨r6, st6⟩ := r5.wipe (own := own) fun i hi s hs => by
            obtain ⟨s', e', n'⟩ := freeAll_of hfr hi
            rw [hs] at e'
            cases e'
            exact n'
          rw [hw] at r6 st6
          exact ⟨r6, st5.trans st6, as5.step st6⟩
        refine ⟨S3, ρ4, r4, ?_⟩
        cases et : tt ρ4 with
        | no => rw [et] at p2; exact p2.elim
        | exn x ρ5 => rw [et] at p2; exact p2.elim
        | ok b ρ5 =>
          rw [et] at p2
          simp only [andThen_ok] at p2
          intro S5 H5 st5 r5
          have as5 := as4.step st5
          have ra5 := RKv.stay st5.stay _ _ ra4
          cases b with
          | false =>
            simp only [Bool.false_eq_true, if_false] at p2
            show if false = true then _ else _
            rw [if_neg Bool.false_ne_true]
            by_cases hfr : freeAll ρ5 own = true
            case neg => rw [if_neg hfr] at p2; exact p2.elim
            rw [if_pos hfr] at p2
            obtain ⟨r6, st6, as6⟩ := turn r5 (st24.trans st5) as5 hfr
            exact ⟨S5, _, acc, vs, r6, st6, as6, ra5, p2⟩
          | true =>
            simp only [if_true] at p2
            show if true = true then _ else _
            rw [if_pos rfl]
            refine ⟨S5, ρ5, r5, ?_⟩
            cases ek : tk ρ5 with
            | no => rw [ek] at p2; exact p2.elim
            | exn x ρ6 => rw [ek] at p2; exact p2.elim
            | ok rk ρ6 =>
              rw [ek] at p2
              simp only [andThen_ok] at p2
              intro S6 H6 st6 r6 y hy2 hn6
              obtain ⟨S7, st7, r7, hr7, _⟩ := RRet.val st6 r6 hy2 hn6
              have as7 := as5.step st7
              have ra7 := RKv.stay st7.stay _ _ ra5
              refine ⟨S7, ρ6, r7, ?_⟩
              cases ee : tv ρ6 with
              | no => rw [ee] at p2; exact p2.elim
              | exn x ρ8 => rw [ee] at p2; exact p2.elim
              | ok r ρ8 =>
                rw [ee] at p2
                simp only [andThen_ok] at p2
                intro S8 H8 st8 r8 v hv hn
                cases hk : keyOf rk.toD with
                | none => simp only [hk] at p2; exact p2.elim
                | some key =>
                  simp only [hk] at p2
                  by_cases hfr : acc.length < 16777216 ∧ freeAll ρ8 own = true
                  case neg => rw [if_neg hfr] at p2; exact p2.elim
                  rw [if_pos hfr] at p2
                  obtain ⟨S9, st9, r9, hr9, _⟩ := RRet.val st8 r8 hv hn
                  have as9 := as7.step st9
                  have ra9 := RKv.stay st9.stay _ _ ra7
                  have hy9 : y = kV key := keyOf_V (.of hr7) hk
                  obtain ⟨r10, st10, as10⟩ := turn r9 (((st24.trans st5).trans st7).trans st9) as9 hfr.2
                  obtain ⟨as11, r11, sty⟩ := as10.set (o' := .dK (putK vs key v)) r10
                  refine ⟨vs, key, hy9, as9.at_, by rw [ra9.length, line_eq]; exact hfr.1, S9, _, putD acc key rk.toD r.toD, putK vs key v, r11, st10.side r1.live hD, as11, RKv.stay sty _ _ (ra9.put hk hr9), p2⟩
    · have hle : ds.length ≤ i := by omega
      refine .inl ⟨hJ.stop S2 H2 i st2.stay r2.live hle, ?_⟩
      rw [List.drop_eq_nil_of_le hle] at p2
      obtain ⟨r3, st3⟩ := r1.rest hf r2 st2
      refine p2 S2 H2 st3 r3 (.ref D) ⟨D, vs, rfl, as2.at_, as2.nS, ra, fun ho => ?_⟩ fun b eb => by cases eb; exact .inl hD
      obtain ⟨j, s, z, h1, h2, h3⟩ := ho
      rw [restR_get] at h1
      split at h1
      · cases h1; rw [keepDat_own] at h2; cases h2
      · rename_i hn
        have hlt2 := (List.getElem?_eq_some_iff.mp h1).1
        exact as2.nO ⟨j, s, z, h1, h2, (ter_at (adr_wipe (fun hj => hn ⟨hj, hlt2⟩))).mpr h3⟩
end
section
variable {X : Cx} {mg : Str → Option Value} {W : WX} {e f o : Expr} {apos cpos pos : Pos}
theorem m1_of {m : Str} (hbase : attributeBase o m X.env (eval o X.env) = eval o X.env) (hline : (apos.endLine == cpos.line) = true) (hs : starEach [e] X.env = (false, eval e X.env) :: starEach [] X.env) : M1 X o m apos e cpos := by
  refine ⟨hbase, ?_, hline, ?_⟩
  · rw [hs]; rfl
  · rw [hs]; rfl
theorem m2_of {m : Str} (hbase : attributeBase o m X.env (eval o X.env) = eval o X.env) (hline : (apos.endLine == cpos.line) = true) (hs : starEach [e, f] X.env = (false, eval e X.env) :: starEach [f] X.env) (hs2 : starEach [f] X.env = (false, eval f X.env) :: starEach [] X.env) : M2 X o m apos e f cpos := by
  refine ⟨hbase, ?_, hline, ?_⟩
  · rw [hs, hs2]; rfl
  · rw [hs, hs2]; rfl
theorem pe_get1E {fo fe : M BV} (hu : X.A.units + 1 < cLine) (ho : PE X o (tBo X.K mg W fo)) (he : PE X e (tBo X.K mg W fe)) (m : M1 X o "get" apos e cpos) : PE X (.Call (.Attribute o "get" apos) [e] [] cpos) (tS X.K mg W (mGet1 fo fe)) :=
  pe_imp (pe_dget1 hu ho he m) fun σ H Q ⟨S, ρ, rel, p⟩ => by
    unfold mGet1 at p
    refine ⟨S, ρ, rel, Post.and p fun b S1 ρ1 H1 st1 r1 p v hv => ?_⟩
    split at p
    · rename_i kv0 h0
      obtain ⟨a, vs, rfl, ha, _⟩ := (hv.read r1 h0).dict
      refine ⟨a, rfl, .inl ⟨vs, ha⟩, S1, ρ1, r1, Post.and (Post.from p st1) fun c S2 ρ2 H2 st2 r2 p u hu2 => ?_⟩
      split at p
      · rename_i kvs k hb hc
        cases hk : keyOf k with
        | none => simp only [hk] at p; exact p.elim
        | some key =>
          simp only [hk] at p
          obtain ⟨a', vs', ea, ha', hkv⟩ := ((hv.step st2).read r2 hb).dict
          cases ea
          have eu := keyOf_V (hu2.read r2 hc) hk
          subst eu
          exact ⟨valV vs' key, .inl ⟨vs', key, ha', rfl, rfl⟩, p S2 H2 st2 r2 _ (hkv.getD .non) trivial⟩
      · exact p.elim
    · exact p.elim
theorem pe_get2E {fo fe ff : M BV} (hu : X.A.units + 1 < cLine) (ho : PE X o (tBo X.K mg W fo)) (he : PE X e (tBo X.K mg W fe)) (hf : PE X f (tBo X.K mg W ff)) (m : M2 X o "get" apos e f cpos) : PE X (.Call (.Attribute o "get" apos) [e, f] [] cpos) (tS X.K mg W (mGet2 fo fe ff)) :=
  pe_imp (pe_dget2 hu ho he hf m) fun σ H Q ⟨S, ρ, rel, p⟩ => by
    unfold mGet2 at p
    refine ⟨S, ρ, rel, Post.and p fun b S1 ρ1 H1 st1 r1 p v hv => ?_⟩
    split at p
    · rename_i kv0 h0
      obtain ⟨a, vs, rfl, ha, _⟩ := (hv.read r1 h0).dict
      refine ⟨a, rfl, .inl ⟨vs, ha⟩, S1, ρ1, r1, Post.and (Post.from p st1) fun c S2 ρ2 H2 st2 r2 p u hu2 => ?_⟩
      refine ⟨S2, ρ2, r2, Post.and (Post.from p st2) fun x S3 ρ3 H3 st3 r3 p z hz => ?_⟩
      split at p
      · rename_i kvs k d hb hc
        cases hk : keyOf k with
        | none => simp only [hk] at p; exact p.elim
        | some key =>
          simp only [hk] at p
          obtain ⟨a', vs', ea, ha', hkv⟩ := (((hv.step st2).step st3).read r3 hb).dict
          cases ea
          have eu := keyOf_V ((hu2.step st3).read r3 hc) hk
          subst eu
          exact ⟨valV vs' key, .inl ⟨vs', key, ha', rfl, rfl⟩, p S3 H3 st3 r3 _ (hkv.getD hz) trivial⟩
      · exact p.elim
    · exact p.elim
theorem pe_setdE {k : Nat} {fe ff : M BV} (ho : PE X o (tVar k)) (he : PE X e (tBo X.K mg W fe)) (hf : PE X f (tBo X.K mg W ff)) (m : M2 X o "setdefault" apos e f cpos) : PE X (.Call (.Attribute o "setdefault" apos) [e, f] [] cpos) (tS X.K mg W (mSetd k fe ff)) :=
  pe_imp (pe_dsetd ho he hf m) fun σ H Q ⟨S, ρ, rel, p⟩ => by
    unfold mSetd at p
    split at p
    · rename_i z0 kv0 h0
      have q0 := rel.slot k _ h0
      obtain ⟨a, u0, e1, e2, e3, e4⟩ := q0.own_adr (z := z0) rfl
      have ha := join_adr e1
      rw [e1] at q0
      obtain ⟨vs0, q1, _, _⟩ := q0
      refine ⟨.ref a, adr_get ha, a, rfl, .inl ⟨vs0, .inl q1⟩, S, ρ, rel, Post.and p fun c S1 ρ1 H1 st1 r1 p u hu2 => ?_⟩
      refine ⟨S1, ρ1, r1, Post.and (Post.from p st1) fun x S2 ρ2 H2 st2 r2 p y hy => ?_⟩
      split at p
      · rename_i z kvs kd d hs hc
        cases hk : keyOf kd with
        | none => simp only [hk] at p; exact p.elim
        | some key =>
          simp only [hk] at p
          by_cases hl : kvs.length < 16777216
          case neg => rw [if_neg hl] at p; exact p.elim
          rw [if_pos hl] at p
          have q := r2.slot k _ hs
          rw [adr_join ha] at q
          obtain ⟨vs, q1, q2, q3⟩ := q
          have eu := keyOf_V ((hu2.step st2).read r2 hc) hk
          subst eu
          refine ⟨vs, key, q1, rfl, by rw [q3.length, line_eq]; exact hl, fun v hv => ?_, fun hn => ?_⟩
          · cases e5 : valD kvs key with
            | none => rw [q3.valN e5] at hv; cases hv
            | some dv =>
              obtain ⟨v', h1, h2⟩ := q3.val e5
              rw [hv] at h1
              cases h1
              simp only [e5] at p
              exact p S2 H2 st2 r2 v h2 trivial
          · cases e5 : valD kvs key with
            | some dv =>
              obtain ⟨v', h1, h2⟩ := q3.val e5
              rw [hn] at h1
              cases h1
            | none =>
              simp only [e5] at p
              have hy' : R X.K H2 S2 y d := hy
              obtain ⟨r3, st3⟩ := r2.dset hs ha (q3.put hk hy')
              exact p S2 _ (st2.trans st3) r3 y (R.stay st3.stay d y hy') trivial
      · exact p.elim
    · exact p.elim
/-- a display's pairs -/
def PPrs (X : Cx) (mg : Str → Option Value) (W : WX) : List (Option Expr) → List Expr → List (M BV × M BV) → Prop
  | [], [], [] => True
  | some k :: ks, v :: vs, (f, g) :: ps => PE X k (tBo X.K mg W f) ∧ PE X v (tBo X.K mg W g) ∧ PPrs X mg W ks vs ps
  | _, _, _ => False
def trsOf (K : PySem.W.Frag) (mg : Str → Option Value) (W : WX) (ps : List (M BV × M BV)) : List (TE × TE) := ps.map fun p => (tBo K mg W p.1, tBo K mg W p.2)
theorem pps_of : ∀ {ks : List (Option Expr)} {vs : List Expr} {ps : List (M BV × M BV)}, PPrs X mg W ks vs ps → PPs X pos ks vs (trsOf X.K mg W ps)
  | [], [], [], _ => pps_nil
  | some k :: ks, v :: vs, (f, g) :: ps, h => pps_cons h.1 h.2.1 (pps_of h.2.2)
  | none :: _, _, _, h => by cases ‹List Expr› <;> cases ‹List (M BV × M BV)› <;> exact h.elim
  | [], _ :: _, _, h => h.elim
  | [], [], _ :: _, h => h.elim
  | some _ :: _, [], _, h => h.elim
  | some _ :: _, _ :: _, [], h => h.elim
theorem PPrs.len : ∀ {ks : List (Option Expr)} {vs : List Expr} {ps : List (M BV × M BV)}, PPrs X mg W ks vs ps → ks.length = vs.length ∧ ks.all (·.isSome) = true
  | [], [], [], _ => ⟨rfl, rfl⟩
  | some k :: ks, v :: vs, (f, g) :: ps, h => by
    obtain ⟨h1, h2⟩ := PPrs.len h.2.2
    exact ⟨by simp [h1], by simpa using h2⟩
  | none :: _, _, _, h => by cases ‹List Expr› <;> cases ‹List (M BV × M BV)› <;> exact h.elim
  | [], _ :: _, _, h => h.elim
  | [], [], _ :: _, h => h.elim
  | some _ :: _, [], _, h => h.elim
  | some _ :: _, _ :: _, [], h => h.elim
def RBp (K : PySem.W.Frag) (S : AS) (σ : L2.St) (H : Hp) : List (V × V) → List (BV × BV) → Prop
  | [], [] => True
  | (x, y) :: vs, (b, c) :: bs => RB K S σ H x b ∧ RB K S σ H y c ∧ RBp K S σ H vs bs
  | _, _ => False
theorem RBp.step {K : PySem.W.Frag} {S S' : AS} {σ : L2.St} {H H' : Hp} {ρ ρ' : Rho} (t : Step S ρ σ H S' ρ' σ H') : ∀ {vs : List (V × V)} {bs : List (BV × BV)}, RBp K S σ H vs bs → RBp K S' σ H' vs bs
  | [], [], _ => trivial
  | (x, y) :: vs, (b, c) :: bs, h => ⟨h.1.step t, h.2.1.step t, RBp.step t h.2.2⟩
  | [], _ :: _, h => h.elim
  | _ :: _, [], h => h.elim
theorem keyed_R {K : PySem.W.Frag} {S : AS} {σ : L2.St} {H : Hp} : ∀ {vs : List (V × V)} {bs : List (BV × BV)} {kvs : List (PyData × PyData)}, RBp K S σ H vs bs → keyed bs = some kvs → ∃ us : List (Key × V), vs = us.map (fun kv => (kV kv.1, kv.2)) ∧ RKv K H S us kvs
  | [], [], kvs, _, h => by cases h; exact ⟨[], rfl, .nil⟩
  | (x, y) :: vs, (b, c) :: bs, kvs, hb, h => by
    cases b with
    | slot i => cases h
    | val kd =>
      cases c with
      | slot i => cases h
      | val d =>
        unfold keyed at h
        cases hk : keyOf kd with
        | none => simp only [hk] at h; cases h
        | some key =>
          cases hr : keyed bs with
          | none => simp only [hk, hr] at h; cases h
          | some r =>
            simp only [hk, hr] at h
            cases h
            obtain ⟨us, h1, h2⟩ := keyed_R hb.2.2 hr
            have ex : x = kV key := keyOf_V (.of hb.1) hk
            exact ⟨(key, y) :: us, by rw [List.map_cons, ← h1, ex], .cons hk hb.2.1 h2⟩
  | [], _ :: _, _, h, _ => h.elim
  | _ :: _, [], _, h, _ => h.elim
theorem pairs_fwd {K : PySem.W.Frag} {σ : L2.St} {Q : List (V × V) → Hp → Prop} : ∀ {ps : List (M BV × M BV)} {S : AS} {ρ : Rho} {H : Hp}, Rel K S ρ σ H → Post K mg W S ρ σ H (fun bs S' ρ' H' => ∀ vs, RBp K S' σ H' vs bs → Q vs H') (mPairs ps ρ) → tPairs (trsOf K mg W ps) σ H Q
  | [], S, ρ, H, rel, p => Post.ok rel p [] trivial
  | (f, g) :: ps, S, ρ, H, rel, p => by
    refine ⟨S, ρ, rel, Post.and p fun b S1 ρ1 H1 st1 r1 p x hx => ?_⟩
    refine ⟨S1, ρ1, r1, Post.and (Post.from p st1) fun c S2 ρ2 H2 st2 r2 p y hy => ?_⟩
    refine pairs_fwd r2 (Post.and (Post.from p st2) fun r S3 ρ3 H3 st3 r3 p vs hvs => ?_)
    exact p S3 H3 st3 r3 ((x, y) :: vs) ⟨(hx.step st2).step st3, hy.step st3, hvs⟩
theorem pe_dispE {ks : List (Option Expr)} {vs : List Expr} {ps : List (M BV × M BV)} (h : PPrs X mg W ks vs ps) (h0 : ks ≠ []) (h15 : ks.length ≤ 15) : PE X (.Dict ks vs pos) (tS X.K mg W (mDisp ps)) :=
  pe_imp (pe_disp (pps_of h) h.len.2 h.len.1 h0 h15) fun σ H Q ⟨S, ρ, rel, p⟩ => by
    intro q hq
    obtain ⟨r1, st1, nS, nO⟩ := rel.fresh (o := .dK []) hq
    have as1 : Aside S ρ σ (upd H q (.dK [])) q (.dK []) := ⟨upd_same, nS, nO⟩
    unfold mDisp at p
    have P1 := Post.and p (P' := fun bs S2 ρ2 H2 => Post X.K mg W S ρ σ H (fun r S' ρ' H' => ∀ v, RRet X.K S' ρ' σ H' v r → RNew ρ σ H v r → Q v H') (match keyed bs with
      | some kvs => if kvs.length ≤ 15 then .ok (.fd (putAll [] kvs)) ρ2 else .no
      | none => .no)) fun bs S2 ρ2 H2 st2 r2 p2 => p2
    refine pairs_fwd r1 ((Post.at (Post.from P1 st1)).imp fun bs S2 ρ2 H2 _ _ hh vs2 hvs => ?_)
    obtain ⟨st2, r2, p2, _⟩ := hh
    cases hk : keyed bs with
    | none => simp only [hk] at p2; exact p2.elim
    | some kvs =>
      simp only [hk] at p2
      by_cases hl : kvs.length ≤ 15
      case neg => rw [if_neg hl] at p2; exact p2.elim
      rw [if_pos hl] at p2
      obtain ⟨us, e1, e2⟩ := keyed_R hvs hk
      have as2 := as1.step st2
      obtain ⟨as3, r3, sty⟩ := as2.set (o' := .dK (mergeK [] us)) r2
      refine ⟨as2.at_, us, e1, by rw [e2.length]; exact hl, ?_⟩
      exact p2 S2 _ ((st1.trans st2).side rel.live hq) r3 _ ⟨q, _, rfl, upd_same, as3.nS, RKv.stay sty _ _ (e2.putAll .nil), as3.nO⟩ fun b eb => by cases eb; exact .inl hq
end
end Ev
namespace Ev
open PySem PySem.Spec PyProof.Rows L2
variable [Gh]
/-! ### a dict comprehension as an expression -/
section
variable {X : Cx} {mg : Str → Option Value} {W : WX} {kx vx tg iter : Expr} {ifs : List Expr} {scope : Scope} {own : List (Str × Nat)} {pos : Pos} {it : M (List D)} {t : Tgt} {tt : M Bool} {tk tv : M Ret}
theorem dc_fwd {K : PySem.W.Frag} {own : List Nat} {it : M (List PyData)} {tg : Tgt} {tt : M Bool} {tk tv : M Ret} {σ : L2.St} {H : Hp} {Q : VK} {S : AS} {ρ : Rho} (hsub : ∀ i ∈ tg.slots, i ∈ own) (rel : Rel K S ρ σ H)
    (p : Post K mg W S ρ σ H (fun r S' ρ' H' => ∀ v, RRet K S' ρ' σ H' v r → RNew ρ σ H v r → Q v H') (mDc own it tg tt tk tv ρ)) :
    tDc (tIt K mg W it) (tGt K tg) (tTe K mg (fun _ _ _ _ => False) tt) (tS K mg (fun _ _ _ _ => False) tk) (tS K mg (fun _ _ _ _ => False) tv) own σ H Q := by
  refine ⟨S, ρ, rel, Post.and p fun ds S1 ρ1 H1 st1 r1 p J hJ => ?_⟩
  by_cases hf : freeAll ρ1 own = true
  case neg => rw [if_neg hf] at p; exact p.elim
  rw [if_pos hf] at p
  exact dcIn_fwd hsub r1 hJ hf ((Post.from p st1).imp fun r S2 ρ2 H2 st2 r2 q v hv hn => q v hv (hn.back st1))
theorem pe_dcE (p : LcParts X mg W kx tg iter ifs scope own it t tt tk) (p2 : LcParts X mg W vx tg iter ifs scope own it t tt tv) : PE X (.DictComp kx vx [⟨tg, iter, ifs, 0⟩] scope pos) (tS X.K mg W (mDc (own.map (·.2)) it t tt tk tv)) :=
  pe_imp (pe_dc p.calm p.nd p.src p.ok p.tgt p.test p.val p2.val p.fold) fun _ _ _ ⟨_, _, rel, q⟩ => dc_fwd p.sub rel q
end
/-! ### dict(zip(xs, ys)) of two lists -/
def zipK : List D → List D → Option (List (D × D))
  | [], _ => some []
  | _ :: _, [] => some []
  | k :: ks, d :: ds => match keyOf k, zipK ks ds with
    | some _, some r => some ((k, d) :: r)
    | _, _ => none
def mDZ (f g : M BV) : M Ret := fun ρ => (f ρ).andThen fun b ρ1 => (g ρ1).andThen fun c ρ2 => match res ρ2 b, res ρ2 c with
  | some (.list ks), some (.list ds) => match zipK ks ds with
    | some kvs => if kvs.length ≤ 16777216 then .ok (.fd (putAll [] kvs)) ρ2 else .no
    | none => .no
  | _, _ => .no
section
variable {K : PySem.W.Frag} {H : Hp} {S : AS}
theorem zipK_R : ∀ {xs ys : List V} {ks ds : List D} {kvs : List (D × D)}, RAll K H S xs ks → RAll K H S ys ds → zipK ks ds = some kvs → ∃ us : List (Key × V), RKv K H S us kvs ∧ us.length = min xs.length ys.length ∧
    ∀ (i : Nat) (x y : V), xs[i]? = some x → ys[i]? = some y → ∃ k, us[i]? = some (k, y) ∧ x = kV k
  | _, _, _, _, kvs, .nil, _, h => by cases h; exact ⟨[], .nil, by simp, fun i x y e => by simp at e⟩
  | _, _, _, _, kvs, .cons _ _, .nil, h => by cases h; exact ⟨[], .nil, by simp, fun i x y _ e => by simp at e⟩
  | _, _, k :: ks, d :: ds, kvs, .cons rk tk, .cons rd td, h => by
    unfold zipK at h
    cases hk : keyOf k with
    | none => simp only [hk] at h; cases h
    | some key =>
      cases hr : zipK ks ds with
      | none => simp only [hk, hr] at h; cases h
      | some r =>
        simp only [hk, hr] at h
        cases h
        obtain ⟨us, h1, h2, h3⟩ := zipK_R tk td hr
        refine ⟨(key, _) :: us, .cons hk rd h1, by simp [h2, Nat.succ_min_succ], fun i x y e1 e2 => ?_⟩
        cases i with
        | zero => simp at e1 e2; subst e1 e2; exact ⟨key, rfl, keyOf_V (.of rk) hk⟩
        | succ i => exact h3 i x y (by simpa using e1) (by simpa using e2)
end
section
variable {X : Cx} {mg : Str → Option Value} {W : WX} {a b : Expr} {ta : TA} {p p2 q pos : Pos}
theorem dk_new {P : Program} {w : World} {H : Hp} {h : Heap} {d : Addr} {kvs : List (Key × V)} {vs : List (Key × Value)} (z : kvs.length ≤ sizeLine) (hd : (d == sysModules) = false) (kv : KV kvs vs) (m : h.DictOf (mixKind P w) d vs) : ObjOk P w H h d (.dK kvs) := ⟨z, hd, vs, kv, m⟩
def tDZ (K : PySem.W.Frag) (ta : TA) : TE := fun σ H Q => ta σ H fun vs H1 => ∃ (l1 l2 : Addr) (xs ys : List V) (us : List (Key × V)), vs = [.ref l1, .ref l2] ∧ SqL K H1 l1 xs ∧ SqL K H1 l2 ys ∧ us.length = min xs.length ys.length ∧ us.length ≤ sizeLine ∧
  (∀ (i : Nat) (x y : V), xs[i]? = some x → ys[i]? = some y → ∃ k, us[i]? = some (k, y) ∧ x = kV k) ∧ ∀ p, H1 p = none → Q (.ref p) (upd H1 p (.dK (mergeK [] us)))
theorem vals_zip {xs ys : List V} {its its2 : List Value} (h1 : Vals xs its) (h2 : Vals ys its2) : ∀ {us : List (Key × V)}, us.length = min xs.length ys.length → (∀ (i : Nat) (x y : V), xs[i]? = some x → ys[i]? = some y → ∃ k, us[i]? = some (k, y) ∧ x = kV k) →
    ∃ vs : List (Key × Value), KV us vs ∧ vs.length = min its.length its2.length ∧ ∀ (i : Nat) (u w : Value), its[i]? = some u → its2[i]? = some w → ∃ k, vs[i]? = some (k, w) ∧ RelV (kV k) u := by
  induction h1 generalizing ys its2 with
  | nil =>
    intro us hl _
    have : us = [] := List.eq_nil_of_length_eq_zero (by simpa using hl)
    subst this
    exact ⟨[], .nil, by simp, fun i u w e => by simp at e⟩
  | @cons x u xs us' r t ih =>
    cases h2 with
    | nil =>
      intro us hl _
      have : us = [] := List.eq_nil_of_length_eq_zero (by simpa using hl)
      subst this
      exact ⟨[], .nil, by simp, fun i u w _ e => by simp at e⟩
    | @cons y w ys ws r2 t2 =>
      intro us hl h
      obtain ⟨k, e, ex⟩ := h 0 x y rfl rfl
      cases us with
      | nil => simp at e
      | cons q us =>
        simp at e
        subst e
        obtain ⟨vs, v1, v2, v3⟩ := ih t2 (us := us) (by simpa [Nat.succ_min_succ] using hl) fun i x' y' e1 e2 => by
          obtain ⟨k', f1, f2⟩ := h (i + 1) x' y' (by simpa using e1) (by simpa using e2)
          exact ⟨k', by simpa using f1, f2⟩
        refine ⟨(k, w) :: vs, .cons ⟨rfl, r2⟩ v1, by simp [v2, Nat.succ_min_succ], fun i u' w' e1 e2 => ?_⟩
        cases i with
        | zero => simp at e1 e2; subst e1 e2; exact ⟨k, rfl, by rw [← ex]; exact r⟩
        | succ i => exact v3 i u' w' (by simpa using e1) (by simpa using e2)
theorem boot_dict' : bootBuiltins "dict" = some (.type "dict") := by decide +kernel
theorem pe_dz (hg : Gl X "dict") (hm : X.mg "dict" = none) (hg2 : Gl X "zip") (hm2 : X.mg "zip" = none) (ha : PA X [a, b] ta) (hc : X.calm = true)
    (na : starEach [a, b] X.env = (false, eval a X.env) :: starEach [b] X.env) (hpl : (backTo q (starEach [b] X.env)).any (·.1) = false) : PE X (.Call (.Name "dict" p) [.Call (.Name "zip" p2) [a, b] [] q] [] pos) (tDZ X.K ta) := by
  refine ⟨fun pins s σ H Q I h => ?_⟩
  refine Call_ (ld_blt I hg hm boot_dict' ?_)
  refine PyProof.Rows.callWith_type1 (PyProof.Rows.args_cons ?_ rfl) rfl rfl
  refine Call_ (ld_blt I hg2 hm2 PyProof.Rows.boot_zip (PyProof.Rows.callWith_type1 (thn (ha.run q pins s σ H _ I h) fun us s1 ⟨vs, H1, I1, r1, q1⟩ => ?_) na hpl))
  obtain ⟨l1, l2, xs, ys, ks, rfl, hq1, hq2, hl, hz, hk, q1⟩ := q1
  cases r1 with
  | cons r rr =>
    cases rr with
    | cons r' rr =>
      cases rr
      cases r
      cases r'
      obtain ⟨its, rv, pl1, _⟩ := I1.list hq1
      obtain ⟨its2, rv2, pl2, _⟩ := I1.list hq2
      obtain ⟨kvs, v1, v2, v3⟩ := vals_zip rv rv2 hl hk
      refine call_zip_2 pl1.isList pl2.isList fun h' hz' hTI hTO h1 h2 hsz hkk => ?_
      have I2 : Inv X pins σ H1 { s1 with heap := h' } := I1.kept (t' := s1.toks) hkk
      refine PyProof.Rows.args_nil ?_
      have ap := PySem.W.ktu_apart s1.heap.objs.size l1 l2 pl1.lt pl2.lt
      refine call_dict_pairs (knd := mixKind X.prog X.w) (kvs := kvs) (PairArg.zip _ _ _ _ _ _ _ ap its.toArray its2.toArray) (I1.ok.hd hc) ⟨hz', hTI, ⟨_, _, hTO⟩, h1, h2, pl1.isList.at fun o e => hkk _ o e, pl2.isList.at fun o e => hkk _ o e⟩ ⟨?_, ?_⟩ ?_ fun h'' tk hd' hk'' => ?_
      · simpa using v2
      · intro i key v hh
        obtain ⟨k, e1, e2⟩ := v3 i key v (by simpa using hh.1) (by simpa using hh.2)
        exact ⟨k, e1, kV_is e2⟩
      · have e1 : ks.length = kvs.length := Paired.length v1
        simp only [List.size_toArray]
        exact Nat.le_trans (Nat.le_of_eq (by rw [← v2, ← e1])) hz
      · have hle : s1.heap.objs.size ≤ h'.objs.size := by omega
        have kp : ∀ c o, s1.heap.get? c = some o → h''.get? c = some o := fun c o e => by
          have hlt := Heap.lt_size e
          refine hk'' c o (fun hm => ?_) (hkk c o e)
          have e' : c = s1.heap.objs.size + 4 ∨ c = s1.heap.objs.size + 3 ∨ c = s1.heap.objs.size ∨ c = s1.heap.objs.size + 1 := by simpa using hm
          have hlt' : c < s1.heap.objs.size := hlt
          rcases e' with e' | e' | e' | e'
          · rw [e'] at hlt'; exact absurd hlt' (Nat.not_lt.mpr (Nat.le_add_right _ _))
          · rw [e'] at hlt'; exact absurd hlt' (Nat.not_lt.mpr (Nat.le_add_right _ _))
          · rw [e'] at hlt'; exact absurd hlt' (Nat.lt_irrefl _)
          · rw [e'] at hlt'; exact absurd hlt' (Nat.not_lt.mpr (Nat.le_add_right _ _))
        have hbig : sysModules < s1.heap.objs.size := I1.big
        have hd : (h'.objs.size == sysModules) = false := beq_eq_false_iff_ne.mpr (Nat.ne_of_gt (Nat.lt_of_lt_of_le hbig hle))
        have I3 := I1.laid (a := h'.objs.size) (o := .dK (mergeK [] ks)) (h' := h'') (t' := tk) kp hle (dk_new (by have := length_mergeK ks []; simp at this; omega) hd (v1.merge .nil) hd')
        exact ⟨.ref h'.objs.size, _, I3, rfl, q1 _ (I1.hok.fresh hle)⟩
end
end Ev
namespace Ev
open PySem PySem.Spec PyProof.Rows L2
variable [Gh]
/-! ### a, b, c = x, y, z -/
section
variable {K : PySem.W.Frag} {mg : Str → Option Value} {W : WX} {H H' H1 H2 H3 : Hp} {S S' S1 S2 S3 : AS} {ρ ρ' ρ1 ρ2 ρ3 : Rho} {σ σ' σ1 σ2 σ3 : L2.St}
theorem RRet.carry (st : Step S1 ρ1 σ H1 S2 ρ2 σ H2) {v : V} {r : Ret} (hv : RRet K S1 ρ1 σ H1 v r) : RRet K S2 ρ2 σ H2 v r := by
  cases r with
  | val d => exact R.stay st.stay d v hv
  | fl ds =>
    obtain ⟨c, vs, rfl, h1, h2, h3, h4⟩ := hv
    have as : Aside S1 ρ1 σ H1 c (.lst vs) := ⟨h1, h2, h4⟩
    have as2 := as.step st
    exact ⟨c, vs, rfl, as2.at_, as2.nS, h3.stay st.stay, as2.nO⟩
  | fd ds =>
    obtain ⟨c, vs, rfl, h1, h2, h3, h4⟩ := hv
    have as : Aside S1 ρ1 σ H1 c (.dK vs) := ⟨h1, h2, h4⟩
    have as2 := as.step st
    exact ⟨c, vs, rfl, as2.at_, as2.nS, h3.stay st.stay, as2.nO⟩
theorem RRet.apart {v u : V} {r q : Ret} (hv : RRet K S1 ρ1 σ H1 v r) (hn : RNew ρ1 σ H1 u q) (hr : r.isNew = true) (hq : q.isNew = true) : v ≠ u := fun e => by
  subst e
  have go : ∀ c o, v = .ref c → H1 c = some o → ¬ Own ρ1 σ c → False := fun c o ev h1 h4 => by
    have := (show ∀ a, v = .ref a → H1 a = none ∨ OwnZ ρ1 σ a by
      cases q with
      | val d => cases hq
      | fl ds => exact hn
      | fd ds => exact hn) c ev
    rcases this with z | z
    · rw [h1] at z; cases z
    · exact h4 z.own
  cases r with
  | val d => cases hr
  | fl ds => obtain ⟨c, vs, ev, h1, _, _, h4⟩ := hv; exact go c _ ev h1 h4
  | fd ds => obtain ⟨c, vs, ev, h1, _, _, h4⟩ := hv; exact go c _ ev h1 h4
theorem RRet.aft (rel : Rel K S ρ σ H) {v u : V} {r q : Ret} {i : Nat} (hu : RRet K S ρ σ H u q) (ap : r.isNew = true → q.isNew = true → v ≠ u) : RRet K S (ρ.set i r.slot) (σ.set i (some v)) H u q := by
  have own3 : ∀ c, Own (ρ.set i r.slot) (σ.set i (some v)) c → Own ρ σ c ∨ (v = .ref c ∧ r.isNew = true) := fun c ⟨l, s, z, g1, g2, g3⟩ => by
    rcases getset g1 with ⟨rfl, rfl⟩ | ⟨hne, g1⟩
    · have hl : l < σ.length := by
        have := (List.getElem?_eq_some_iff.mp g1).1
        rw [List.length_set, rel.len] at this
        exact this
      have := adr_get (g3.resolve_right fun z => by cases r <;> cases z.1)
      rw [List.getElem?_set_self hl] at this
      cases this
      refine .inr ⟨rfl, ?_⟩
      cases r with
      | val d => cases g2
      | fl d => rfl
      | fd d => rfl
    · rw [ter_at (adr_set_ne hne)] at g3
      exact .inl ⟨l, s, z, g1, g2, g3⟩
  have key : ∀ c, u = .ref c → q.isNew = true → ¬ Own ρ σ c → ¬ Own (ρ.set i r.slot) (σ.set i (some v)) c := fun c eu hq h4 ho => by
    rcases own3 c ho with z | ⟨ev, hr⟩
    · exact h4 z
    · exact ap hr hq (by rw [ev, eu])
  cases q with
  | val d => exact hu
  | fl ds => obtain ⟨c, vs, rfl, h1, h2, h3, h4⟩ := hu; exact ⟨c, vs, rfl, h1, h2, h3, key c rfl rfl h4⟩
  | fd ds => obtain ⟨c, vs, rfl, h1, h2, h3, h4⟩ := hu; exact ⟨c, vs, rfl, h1, h2, h3, key c rfl rfl h4⟩
end
def sPar3 (i j l : Nat) (f g h : M Ret) : MS := fun ρ => (f ρ).thenS fun r ρ1 => (g ρ1).thenS fun q ρ2 => (h ρ2).thenS fun t ρ3 =>
  if Slot.free? ρ3[i]? = true then (if Slot.free? (ρ3.set i r.slot)[j]? = true then (if Slot.free? ((ρ3.set i r.slot).set j q.slot)[l]? = true then .nx (((ρ3.set i r.slot).set j q.slot).set l t.slot) else .no) else .no) else .no
section
variable {X : Cx} {mg : Str → Option Value} {W : WX} {st : Stmt} {e a b c tg : Expr} {pos : Pos}
theorem ps_par3E {i j l : Nat} {f g h : M Ret} (hx : ∀ ta, PA X [a, b, c] ta → PS X st (tPar3 i j l ta)) (ha : PE X a (tS X.K mg W f)) (hb : PE X b (tS X.K mg W g)) (hcc : PE X c (tS X.K mg W h)) (hs : starEach [a, b, c] X.env = (false, eval a X.env) :: starEach [b, c] X.env)
    (hs2 : starEach [b, c] X.env = (false, eval b X.env) :: starEach [c] X.env) (hs3 : starEach [c] X.env = (false, eval c X.env) :: starEach [] X.env) :
    PS X st (tSt X.K mg W (sPar3 i j l f g h)) := ps_imp (hx _ (pa_cons ha (pa_cons hb (pa_cons hcc pa_nil hs3) hs2) hs)) fun D σ H ⟨S, ρ, rel, p⟩ => by
  refine ⟨S, ρ, rel, ?_⟩
  unfold sPar3 at p
  refine PostS.and p fun r S1 ρ1 H1 st1 r1 p v hv hn => ?_
  refine ⟨S1, ρ1, r1, PostS.thenJ p st1 fun q S2 ρ2 H2 st2 r2 p u hu hnu => ?_⟩
  refine ⟨S2, ρ2, r2, PostS.thenJ p (st1.trans st2) fun t S3 ρ3 H3 st3 r3 p w hw hnw => ?_⟩
  by_cases hf1 : Slot.free? ρ3[i]? = true
  case neg => rw [if_neg hf1] at p; exact p.elim
  rw [if_pos hf1] at p
  by_cases hf2 : Slot.free? (ρ3.set i r.slot)[j]? = true
  case neg => rw [if_neg hf2] at p; exact p.elim
  rw [if_pos hf2] at p
  by_cases hf3 : Slot.free? ((ρ3.set i r.slot).set j q.slot)[l]? = true
  case neg => rw [if_neg hf3] at p; exact p.elim
  rw [if_pos hf3] at p
  refine ⟨v, u, w, rfl, ?_⟩
  have hu3 := RRet.carry st3 hu
  have hv2 := RRet.carry st2 hv
  have hv3 := RRet.carry st3 hv2
  have st123 := (st1.trans st2).trans st3
  obtain ⟨r4, st4⟩ := store_ret rel st123 r3 hv3 hn hf1
  have hu4 := RRet.aft (i := i) (v := v) (r := r) r3 hu3 (RRet.apart hv hnu)
  have hw4 := RRet.aft (i := i) (v := v) (r := r) r3 hw (RRet.apart hv2 hnw)
  obtain ⟨r5, st5⟩ := store_ret rel st4 r4 hu4 (hnu.back st1) hf2
  have hw5 := RRet.aft (i := j) (v := u) (r := q) r4 hw4 (RRet.apart hu hnw)
  have fin := store_ret rel st5 r5 hw5 ((hnw.back st2).back st1) hf3
  exact p S3 _ H3 fin.2 fin.1
end
end Ev
namespace Ev
open PySem PySem.Spec PyProof.Rows L2
variable [Gh]
/-! ### what the code means, read off the code -/
/-- a call's meaning: the def, where its parameters stand, which of them it may change -/
structure CallSem where
  F : FSem
  perm : List Nat
  io : List Bool
structure Ctx where
  N : List Str
  sc : Scope
  blk : Bool
  bsc : Scope
  bl : List Str
  fns : Str → Nat → List Str → Option CallSem
  giv : List Str
  keep : List Str
  wh : Nat
  dct : List Str := []
def mNo {α : Type} : M α := fun _ => .no
def sNo : MS := fun _ => .no
/-- the slot of a name that is seen -/
def vix (c : Ctx) (x : Str) : Option Nat := match c.N.findIdx? (fun y => decide (y = x)) with
  | some i => if decide (c.N[i]? = some x) && (decide (c.sc.names.lookup x = some .local) || decide (c.sc.names.lookup x = some .cell) || decide (c.sc.names.lookup x = some .free)) && !(x == ("__debug__" : Str)) && !(x == ("__classdict__" : Str)) then some i else none
  | none => none
/-- the slot of a name that is stored -/
def lix (c : Ctx) (x : Str) : Option Nat := match c.N.findIdx? (fun y => decide (y = x)) with
  | some i => if decide (c.N[i]? = some x) && (decide (c.sc.names.lookup x = some .local) || (decide (c.sc.names.lookup x = some .cell) && (!c.blk || (c.bsc.names.lookup x == some .cell)))) then some i else none
  | none => none
def glb (c : Ctx) (x : Str) : Bool := decide (c.sc.names.lookup x = some .globalImplicit)
def bltn (c : Ctx) (x : Str) : Bool := glb c x && c.bl.contains x && !(x == ("__debug__" : Str)) && !(x == ("__name__" : Str))
def notStar : Expr → Bool
  | .Starred .. => false
  | _ => true
def notSlice : Expr → Bool
  | .Slice .. => false
  | _ => true
def notSet : Expr → Bool
  | .Set .. => false
  | _ => true
def notComp : Expr → Bool
  | .ListComp .. => false
  | .SetComp .. => false
  | .DictComp .. => false
  | _ => true
def binD : Operator → Option (D → D → Option Ret)
  | .Add => some opAdd
  | .Sub => some opSub
  | .Mult => some opMul
  | .FloorDiv => some opDiv
  | .Mod => some opMod
  | .Pow => some opPow
  | _ => none
def cmpD : CmpOp → Option (D → D → Option Bool)
  | .Eq => some cEq
  | .NotEq => some cNe
  | .Lt => some cLt
  | .Gt => some cGt
  | .LtE => some cLe
  | .GtE => some cGe
  | .In => some cIn
  | .NotIn => some cNotIn
  | .Is => some cIsNone
  | .IsNot => some cNotNone
/-- the built-in functions, types that are called with values -/
def bltF (x : Str) : Option (List D → Option Ret) :=
  if x = "len" then some bLen else if x = "abs" then some bAbs else if x = "sum" then some bSum else if x = "any" then some bAny else if x = "all" then some bAll
  else if x = "sorted" then some bSort else if x = "max" then some bMax else if x = "min" then some bMin else if x = "repr" then some bRepr else none
def bltT (x : Str) : Option (List D → Option Ret) :=
  if x = "tuple" then some bTuple else if x = "list" then some bList else if x = "int" then some bInt else none
structure Rc where
  E : Ctx → Expr → M Ret
  T : Ctx → Expr → M Bool
def mTst (f : M Ret) : M Bool := fun ρ => (f ρ).andThen fun r ρ' => match r with
  | .val (.bool k) => .ok k ρ'
  | _ => .no
def mArg (i : Nat) : M BV := fun ρ => match argS ρ[i]? with
  | some _ => .ok (.slot i) ρ
  | none => .no
section
variable (r : Rc) (c : Ctx)
def bE (e : Expr) : M BV := match e with
  | .Name x _ => match vix c x with
    | some i => mBor i
    | none => toB (r.E c e)
  | _ => toB (r.E c e)
/-- arguments by value -/
def aV : List Expr → M (List BV)
  | [] => mNil
  | e :: es => if notStar e = true then mCons (toB (r.E c e)) (aV es) else mNo
/-- arguments that are looked at -/
def aB : List Expr → M (List BV)
  | [] => mNil
  | e :: es => if notStar e = true then mCons (bE r c e) (aB es) else mNo
def argE (io : Bool) (e : Expr) : M BV := match io, e with
  | true, .Name x _ => match vix c x with
    | some i => mArg i
    | none => toB (r.E c e)
  | _, _ => toB (r.E c e)
def aF : List Bool → List Expr → M (List BV)
  | _, [] => mNil
  | io :: ios, e :: es => if notStar e = true then mCons (argE r c io e) (aF ios es) else mNo
  | [], e :: es => if notStar e = true then mCons (argE r c false e) (aF [] es) else mNo
def aK : List Bool → List Keyword → M (List BV)
  | _, [] => mNil
  | io :: ios, ⟨_, e, _⟩ :: es => mCons (argE r c io e) (aK ios es)
  | [], ⟨_, e, _⟩ :: es => mCons (argE r c false e) (aK [] es)
def kwNames : List Keyword → Option (List Str)
  | [] => some []
  | ⟨some x, _, _⟩ :: ks => match kwNames ks with
    | some xs => some (x :: xs)
    | none => none
  | _ => none
mutual
def tgE : Expr → Option Tgt
  | .Name x _ => match lix c x with
    | some i => some (.nm i)
    | none => none
  | .Tuple es _ _ => match tgEs es with
    | some ts => some (.tp ts)
    | none => none
  | _ => none
def tgEs : List Expr → Option (List Tgt)
  | [] => some []
  | e :: es => match tgE e, tgEs es with
    | some t, some ts => some (t :: ts)
    | _, _ => none
end
def itE (tg e : Expr) : M (List D) := match e with
  | .Call (.Name x _) [a] [] _ => if x = "range" then (if bltn c x && notStar a then mItR1 (bE r c a) else mNo)
    else if x = "enumerate" then (match tg with
      | .Tuple _ _ _ => if bltn c x && notStar a then mItEn (r.E c a) else mNo
      | _ => mNo)
    else mItV (r.E c e)
  | .Call (.Name x _) [a, b] [] _ => if x = "range" then (if bltn c x && notStar a && notStar b then mItR2 (bE r c a) (bE r c b) else mNo)
    else if x = "zip" then (match tg with
      | .Tuple _ _ _ => if bltn c x && notStar a && notStar b then mItZ (r.E c a) (r.E c b) else mNo
      | _ => mNo)
    else mItV (r.E c e)
  | _ => mItV (r.E c e)
def ownOf (scope : Scope) : List (Str × Nat) := scope.names.filterMap fun y => match y.2 with
  | .local => (c.N.findIdx? (fun z => decide (z = y.1))).map fun i => (y.1, i)
  | .cell => (c.N.findIdx? (fun z => decide (z = y.1))).map fun i => (y.1, i)
  | _ => none
def inBlk (scope : Scope) : Ctx := { c with sc := relS scope c.sc, blk := true, bsc := scope }
def lcE (elt tg iter : Expr) (ifs : List Expr) (scope : Scope) : M Ret := match tgE (inBlk c scope) tg with
  | some t => if blkC c.N c.sc scope (ownOf c scope) && (t.slots.all fun i => (ownOf c scope).any fun p => decide (p.2 = i)) && notSet iter then
      (match ifs with
      | [] => mLc ((ownOf c scope).map (·.2)) (itE r c tg iter) t mYes (r.E (inBlk c scope) elt)
      | [q] => mLc ((ownOf c scope).map (·.2)) (itE r c tg iter) t (r.T (inBlk c scope) q) (r.E (inBlk c scope) elt)
      | _ => mNo)
    else mNo
  | none => mNo
def tsE (ifs : List Expr) : Option (M Bool) := match ifs with
  | [] => some mYes
  | [q] => some (r.T c q)
  | _ => none
def lc2E (elt tg iter tg1 iter1 : Expr) (ifs ifs1 : List Expr) (scope : Scope) : M Ret := match tgE (inBlk c scope) tg, tgE (inBlk c scope) tg1, tsE r (inBlk c scope) ifs, tsE r (inBlk c scope) ifs1 with
  | some t, some t1, some tt, some tt1 => if blkC c.N c.sc scope (ownOf c scope) && (t.slots.all fun i => (ownOf c scope).any fun p => decide (p.2 = i)) && notSet iter && (t1.slots.all fun i => (ownOf c scope).any fun p => decide (p.2 = i)) && notSet iter1 then
      mLc2 ((ownOf c scope).map (·.2)) t1.slots (itE r c tg iter) t tt (itE r (inBlk c scope) tg1 iter1) t1 tt1 (r.E (inBlk c scope) elt)
    else mNo
  | _, _, _, _ => mNo
def partE : Option Expr → Option (M BV)
  | none => none
  | some e => some (bE r c e)
def isGiv (e : Expr) : Option Nat := match e with
  | .Name x _ => if c.giv.contains x then vix c x else none
  | _ => none
/-- a method of an own list -/
def mtE (x : Str) (name : Str) (args : List Expr) : M Ret := match vix c x with
  | none => mNo
  | some k => if name = "append" then (match args with
      | [_] => mMt k lApp (aV r c args)
      | _ => mNo)
    else if name = "extend" then (match args with
      | [_] => mMt k lExt (aB r c args)
      | _ => mNo)
    else if name = "pop" then (match args with
      | [] => mMt k lPop mNil
      | [_] => mMt k lPopAt (aB r c args)
      | _ => mNo)
    else if name = "index" then (match args with
      | [a] => if notStar a = true then mIdx (mBor k) (bE r c a) else mNo
      | _ => mNo)
    else mNo
def isaD (x : Str) : Option (String × (D → Bool)) :=
  if x = "int" then some ("int", PyData.isInt) else if x = "bool" then some ("bool", PyData.isBool) else if x = "tuple" then some ("tuple", PyData.isTuple) else if x = "list" then some ("list", PyData.isList) else if x = "str" then some ("str", PyData.isStr) else none
def opIsa (f : D → Bool) (d : D) : Option Ret := if d.plain = true then some (.val (.bool (f d))) else none
def callE0 (x : Str) (args : List Expr) (kws : List Keyword) : M Ret :=
  if x = "isinstance" then (match args, kws with
    | [a, .Name t _], [] => match isaD t with
      | some f => if bltn c x && bltn c t && notStar a then mOp1 (opIsa f.2) (bE r c a) else mNo
      | none => mNo
    | _, _ => mNo)
  else if (bltn c x && args.all notStar) = true then (match args, kws with
    | a :: as, [] => match isGiv c a, as, decide (x = "len") with
      | some k, [], true => mLenG k
      | _, _, _ => match bltF x with
        | some op => mOps op (aB r c args)
        | none => match bltT x with
          | some op => mOps op (aB r c args)
          | none => mNo
    | _, _ => mNo)
  else if glb c x && !(x == ("__debug__" : Str)) && args.all notStar then (match kwNames kws with
    | some ks => match c.fns x args.length ks with
      | some s => mCallK s.F s.perm args.length ks.length (aF r c s.io args) (aK r c (s.io.drop args.length) kws)
      | none => mNo
    | none => mNo)
  else mNo
/-- list(range(..)), tuple(range(..)) -/
def rgE (x : Str) (args : List Expr) : Option (M Ret) := match args with
  | [.Call (.Name y _) [a] [] _] => if y = "range" ∧ bltn c x = true ∧ bltn c y = true ∧ notStar a = true then
      (if x = "list" then some (mRg1 false (bE r c a)) else if x = "tuple" then some (mRg1 true (bE r c a)) else none)
    else none
  | [.Call (.Name y _) [a, b] [] _] => if y = "range" ∧ bltn c x = true ∧ bltn c y = true ∧ notStar a = true ∧ notStar b = true then
      (if x = "list" then some (mRg2 false (bE r c a) (bE r c b)) else if x = "tuple" then some (mRg2 true (bE r c a) (bE r c b)) else none)
    else none
  | _ => none
def callE (x : Str) (args : List Expr) (kws : List Keyword) : M Ret := match kws, rgE r c x args with
  | [], some f => f
  | _, _ => callE0 r c x args kws
def stepE (e : Expr) : M Ret := match e with
  | .Constant (.int i) _ _ => mCst (.int i)
  | .Constant (.bool b) _ _ => mCst (.bool b)
  | .Constant .none _ _ => mCst .none
  | .Constant (.str x) _ _ => mCst (.str x)
  | .Name x _ => match vix c x with
    | some i => mName i
    | none => mNo
  | .BinOp a op b _ => match binD op with
    | some f => mOp2 f (bE r c a) (bE r c b)
    | none => mNo
  | .UnaryOp .USub a _ => mOp1 opNeg (bE r c a)
  | .UnaryOp .Not a _ => mNotV (bE r c a)
  | .Compare a [o] [b] _ => match cmpD o with
    | some f => if notSet b = true then mOp2 (cmpRet f) (bE r c a) (bE r c b) else mNo
    | none => mNo
  | .Compare a [o, o'] [b, d] _ => match cmpD o, cmpD o' with
    | some f, some g => if notSet d = true then mChain f g (bE r c a) (bE r c b) (bE r c d) else mNo
    | _, _ => mNo
  | .BoolOp _ [a] _ => r.E c a
  | .BoolOp .And (a :: b :: rest) p => mAndV (r.E c a) (r.E c (.BoolOp .And (b :: rest) p))
  | .BoolOp .Or (a :: b :: rest) p => mOrV (r.E c a) (r.E c (.BoolOp .Or (b :: rest) p))
  | .IfExp t a b _ => mIfE (r.T c t) (r.E c a) (r.E c b)
  | .Tuple es _ _ => mTup (aV r c es)
  | .List es _ => mLst (aV r c es)
  | .Dict [] [] _ => mDNew
  | .Subscript a (.Slice lo hi none _) _ => match isGiv c a with
    | some k => mSlG k (partE r c lo) (partE r c hi)
    | none => mSl (bE r c a) (partE r c lo) (partE r c hi)
  | .Subscript a b _ => if notSlice b = true then (match isGiv c a with
      | some k => mIxG k (bE r c b)
      | none => mOp2 opIx (bE r c a) (bE r c b))
    else mNo
  | .ListComp elt [⟨tg, iter, ifs, 0⟩] scope _ => lcE r c elt tg iter ifs scope
  | .ListComp elt [⟨tg, iter, ifs, 0⟩, ⟨tg1, iter1, ifs1, 0⟩] scope _ => lc2E r c elt tg iter tg1 iter1 ifs ifs1 scope
  | .Call (.Name x _) args kws _ => callE r c x args kws
  | .Call (.Attribute (.Name x _) name ap) args [] cp => if (ap.endLine == cp.line) = true then mtE r c x name args else mNo
  | _ => mNo
def stepT (e : Expr) : M Bool := match e with
  | .UnaryOp .Not a _ => mNotT (r.T c a)
  | .BoolOp _ [a] _ => r.T c a
  | .BoolOp .And (a :: b :: rest) p => mAndT (r.T c a) (r.T c (.BoolOp .And (b :: rest) p))
  | .BoolOp .Or (a :: b :: rest) p => mOrT (r.T c a) (r.T c (.BoolOp .Or (b :: rest) p))
  | .BoolOp _ [] _ => mNo
  | .IfExp .. => mNo
  | .Compare .. => mTst (r.E c e)
  | .Name x _ => mTru (bE r c e)
  | .Call .. => mTru (bE r c e)
  | .Subscript .. => mTru (bE r c e)
  | .Constant .. => mTru (bE r c e)
  | _ => mNo
end
end Ev
namespace Ev
open PySem PySem.Spec PyProof.Rows L2
variable [Gh]
/-! ### more forms of code -/
section
variable (r : Rc) (c : Ctx)
def dispE : List (Option Expr) → List Expr → Option (List (M BV × M BV))
  | [], [] => some []
  | some k :: ks, v :: vs => match dispE ks vs with
    | some ps => some ((toB (r.E c k), toB (r.E c v)) :: ps)
    | none => none
  | _, _ => none
def compOk (c : Ctx) (t : Tgt) (scope : Scope) : Bool := blkC c.N c.sc scope (ownOf c scope) && (t.slots.all fun i => (ownOf c scope).any fun p => decide (p.2 = i))
def dcE (kx vx tg iter : Expr) (ifs : List Expr) (scope : Scope) : M Ret := match tgE (inBlk c scope) tg, tsE r (inBlk c scope) ifs with
  | some t, some tt => if compOk c t scope && notSet iter then mDc ((ownOf c scope).map (·.2)) (itE r c tg iter) t tt (r.E (inBlk c scope) kx) (r.E (inBlk c scope) vx) else mNo
  | _, _ => mNo
/-- a comprehension over a dict that a name has, its keys or its items -/
def lcKE (k : Nat) (F : List (D × D) → List D) (elt tg : Expr) (ifs : List Expr) (scope : Scope) : M Ret := match tgE (inBlk c scope) tg, tsE r (inBlk c scope) ifs with
  | some t, some tt => if compOk c t scope then mLcK ((ownOf c scope).map (·.2)) k F t tt (r.E (inBlk c scope) elt) else mNo
  | _, _ => mNo
def extCall (x : Str) (args : List Expr) : Option (M Ret) := match args with
  | [.Call (.Name y _) [a, b] [] _] => if x = "dict" ∧ y = "zip" ∧ bltn c x = true ∧ bltn c y = true ∧ notStar a = true ∧ notStar b = true then some (mDZ (bE r c a) (bE r c b)) else none
  | _ => none
def extMeth (o : Expr) (name : Str) (ap cp : Pos) (args : List Expr) : Option (M Ret) := match args with
  | [e] => if name = "get" ∧ (ap.endLine == cp.line) = true ∧ notStar e = true ∧ notAttr o = true then some (mGet1 (bE r c o) (bE r c e)) else none
  | [e, f] => if (ap.endLine == cp.line) = true ∧ notStar e = true ∧ notStar f = true then (match o with
      | .Name x _ => if name = "get" then some (mGet2 (bE r c o) (bE r c e) (toB (r.E c f)))
        else match vix c x with
          | some k => if name = "setdefault" then some (mSetd k (bE r c e) (toB (r.E c f))) else if name = "insert" then some (mMt k lIns (aV r c [e, f])) else none
          | none => none
      | _ => none)
    else none
  | _ => none
where notAttr : Expr → Bool
  | .Name .. => true
  | .Subscript .. => true
  | _ => false
def extE (e : Expr) : Option (M Ret) := match e with
  | .Dict (k :: ks) vs _ => if (k :: ks).length ≤ 15 then (match dispE r c (k :: ks) vs with
      | some ps => some (mDisp ps)
      | none => none) else none
  | .DictComp kx vx [⟨tg, iter, ifs, 0⟩] scope _ => some (dcE r c kx vx tg iter ifs scope)
  | .ListComp elt [⟨tg, .Name x _, ifs, 0⟩] scope _ => if c.dct.contains x then (match vix c x with
    | some k => some (lcKE r c k dKeys elt tg ifs scope)
    | none => none) else none
  | .ListComp elt [⟨.Tuple es kk tp, .Call (.Attribute (.Name x _) name ap) [] [] cp, ifs, 0⟩] scope _ => match vix c x with
    | some k => if name = "items" ∧ (ap.endLine == cp.line) = true then some (lcKE r c k dItems elt (.Tuple es kk tp) ifs scope) else none
    | none => none
  | .Call (.Name x _) args [] _ => extCall r c x args
  | .Call (.Attribute o name ap) args [] cp => extMeth r c o name ap cp args
  | _ => none
def stepX (e : Expr) : M Ret := match extE r c e with
  | some f => f
  | none => stepE r c e
end
def rc0 : Rc := ⟨fun _ _ => mNo, fun _ _ => mNo⟩
def rc : Nat → Rc
  | 0 => rc0
  | n + 1 => ⟨stepX (rc n), stepT (rc n)⟩
end Ev
namespace Ev
open PySem PySem.Spec PyProof.Rows L2
variable [Gh]
structure Good (X : Cx) (c : Ctx) : Prop where
  calm : X.calm = true
  nd : X.N.Nodup
  N : X.N = c.N
  sc : X.env.scope = c.sc
  fn : ∀ x, c.sc.names.lookup x = some .cell → (c.blk = false ∨ c.bsc.names.lookup x = some .cell) → X.fn x = true
  hu : X.A.units + 64 < cLine
  hu5 : X.A.units + 65 < cLine
  gd : X.A.guards = some []
  bl : ∀ x, c.bl.contains x = true → X.mg x = none
  fns : ∀ x n ks s, c.fns x n ks = some s → Callee X x s.F n ks s.perm
theorem Good.inBlk {X : Cx} {c : Ctx} (g : Good X c) (scope : Scope) (s : Shared) (H : Hp) (C : Addr) (cl : List (Str × Addr)) (fp : List Addr) : Good (X.blk s H scope (compEnvC scope cl C X.env) fp) (inBlk c scope) where
  calm := g.calm
  nd := g.nd
  N := g.N
  sc := by
    show relS scope X.env.scope = relS scope c.sc
    rw [g.sc]
  fn := fun x h1 h2 => by
    rcases h2 with h2 | h2
    · cases h2
    · have h2 : scope.names.lookup x = some .cell := h2
      show (scope.names.lookup x == some NameKind.cell) = true
      rw [h2]; rfl
  hu := g.hu
  hu5 := g.hu5
  gd := g.gd
  bl := g.bl
  fns := fun x n ks s h => ⟨(g.fns x n ks s h).ex, g.gd⟩
structure OkR (r : Rc) : Prop where
  E : ∀ {X : Cx} {c : Ctx}, Good X c → ∀ (W : WX) (e : Expr), PE X e (tS X.K X.mg W (r.E c e))
  T : ∀ {X : Cx} {c : Ctx}, Good X c → ∀ (W : WX) (e : Expr), PT X e (tTe X.K X.mg W (r.T c e))
  B : ∀ {X : Cx} {c : Ctx}, Good X c → ∀ (W : WX) (op : BoolOp) (vs : List Expr) (p : Pos), PW X (.BoolOp op vs p) (tTe X.K X.mg W (r.T c (.BoolOp op vs p)))
section
variable {X : Cx} {c : Ctx} {mg : Str → Option Value} {W : WX} {e a b : Expr} {es : List Expr} {pos : Pos}
theorem pe_no : PE X e (tS X.K mg W mNo) := ⟨fun _ _ _ _ _ _ ⟨_, _, _, p⟩ => p.elim⟩
theorem pt_no : PT X e (tTe X.K mg W mNo) := ⟨fun _ _ _ _ _ _ ⟨_, _, _, p⟩ => p.elim⟩
theorem pw_no : PW X e (tTe X.K mg W mNo) := ⟨fun _ _ _ _ _ _ _ ⟨_, _, _, p⟩ => p.elim⟩
theorem pa_no : PA X es (tAr X.K mg W mNo) := ⟨fun _ _ _ _ _ _ _ ⟨_, _, _, p⟩ => p.elim⟩
theorem pi_no {tg : Expr} : PI X tg e (tIt X.K mg W mNo) := ⟨fun _ _ _ _ _ _ ⟨_, _, _, p⟩ => p.elim⟩
theorem vix_ok (g : Good X c) {x : Str} {i : Nat} (h : vix c x = some i) : PE X (.Name x pos) (tVar i) := by
  unfold vix at h
  split at h
  · rename_i j hj
    split at h
    · rename_i hc
      cases h
      simp only [Bool.and_eq_true, Bool.or_eq_true, decide_eq_true_eq, Bool.not_eq_true'] at hc
      obtain ⟨⟨⟨h1, h2⟩, h3⟩, h4⟩ := hc
      refine L2.pe_var (by rw [g.N]; exact h1) ?_ h3 h4
      unfold Vis
      rw [g.sc]
      rcases h2 with (h2 | h2) | h2
      · exact .inl h2
      · exact .inr (.inl h2)
      · exact .inr (.inr h2)
    · cases h
  · cases h
theorem lix_ok (g : Good X c) {x : Str} {i : Nat} (h : lix c x = some i) : X.N[i]? = some x ∧ Loc X.env.scope x ∧ (X.fn x = true ∨ X.env.scope.names.lookup x = some .local) := by
  unfold lix at h
  split at h
  · rename_i j hj
    split at h
    · rename_i hc
      cases h
      simp only [Bool.and_eq_true, Bool.or_eq_true, decide_eq_true_eq, Bool.not_eq_true', beq_iff_eq] at hc
      obtain ⟨h1, h2⟩ := hc
      refine ⟨by rw [g.N]; exact h1, ?_⟩
      unfold L2.Loc
      rw [g.sc]
      rcases h2 with h2 | ⟨h2, h3⟩
      · exact ⟨.inl h2, .inr h2⟩
      · exact ⟨.inr h2, .inl (g.fn x h2 h3)⟩
    · cases h
  · cases h
theorem glb_ok (g : Good X c) {x : Str} (h : glb c x = true) : Gl X x := by
  unfold glb at h
  show X.env.scope.names.lookup x = _
  rw [g.sc]
  exact of_decide_eq_true h
theorem bltn_ok (g : Good X c) {x : Str} (h : bltn c x = true) : Gl X x ∧ X.mg x = none ∧ (x == ("__debug__" : Str)) = false ∧ x ≠ "__name__" := by
  unfold bltn at h
  simp only [Bool.and_eq_true, Bool.not_eq_true'] at h
  obtain ⟨⟨⟨h1, h2⟩, h3⟩, h4⟩ := h
  exact ⟨glb_ok g h1, g.bl x h2, h3, fun z => by rw [z] at h4; simp at h4⟩
theorem star_cons {env : Env} (h : notStar e = true) : starEach (e :: es) env = (false, eval e env) :: starEach es env := by
  cases e <;> first | rfl | cases h
theorem star_all {env : Env} : ∀ {es : List Expr}, es.all notStar = true → (backTo pos (starEach es env)).any (·.1) = false
  | [], _ => rfl
  | e :: es, h => by
    simp only [List.all_cons, Bool.and_eq_true] at h
    rw [star_cons h.1]
    show (false || (backTo pos (starEach es env)).any (·.1)) = false
    rw [star_all h.2]
    rfl
theorem kw_all {env : Env} : ∀ {kws : List Keyword} {ks : List Str}, kwNames kws = some ks → (backToKw pos (keywordEach kws env)).all (·.1.isSome) = true ∧ (backToKw pos (keywordEach kws env)).filterMap (·.1) = ks ∧ (backToKw pos (keywordEach kws env)).any (·.1.isNone) = false
  | [], _, h => by cases h; exact ⟨rfl, rfl, rfl⟩
  | ⟨none, _, _⟩ :: _, _, h => by cases h
  | ⟨some x, v, p⟩ :: kws, ks, h => by
    unfold kwNames at h
    split at h
    · rename_i xs hx
      cases h
      obtain ⟨h1, h2, h3⟩ := kw_all (env := env) hx
      refine ⟨?_, ?_, ?_⟩
      · show (true && (backToKw pos (keywordEach kws env)).all (·.1.isSome)) = true
        rw [h1]; rfl
      · show x :: (backToKw pos (keywordEach kws env)).filterMap (·.1) = x :: xs
        rw [h2]
      · show (false || (backToKw pos (keywordEach kws env)).any (·.1.isNone)) = false
        rw [h3]; rfl
    · cases h
theorem slice_ok (h : notSlice b = true) : PlainIx b := fun o i => by
  cases b <;> first | rfl | cases h
theorem set_ok {env : Env} (h : notSet e = true) : ∀ x, foldedSetIterable e env x = pure x := fun x => by
  cases e <;> first | rfl | cases h
theorem marks_ok {o : CmpOp} (h : notSet b = true) : behindInMarks o b = false := by
  cases b <;> first | rfl | cases h
theorem binD_ok {op : Operator} {f : D → D → Option Ret} (h : binD op = some f) : OpR X (binaryOp op) (rOp2 X.K f) := by
  cases op <;> first | (cases h; done) | skip
  all_goals (have h' := Option.some.inj h; subst h')
  · exact or_add
  · exact or_sub
  · exact or_mul
  · exact or_mod
  · exact or_pow
  · exact or_div
theorem cmpD_ok (g : Good X c) {o : CmpOp} {f : D → D → Option Bool} (h : cmpD o = some f) : OpR X (compareOp o) (rCmp X.K f) := by
  cases o <;> (have h' := Option.some.inj h; subst h')
  · exact oc_eq g.hu
  · exact oc_ne g.hu
  · exact oc_lt g.hu
  · exact oc_le g.hu
  · exact oc_gt g.hu
  · exact oc_ge g.hu
  · exact oc_is
  · exact oc_isnot
  · exact oc_in g.hu
  · exact oc_notin g.hu
variable {r : Rc}
theorem bE_ok (k : OkR r) (g : Good X c) (W : WX) (e : Expr) : PE X e (tBo X.K X.mg W (bE r c e)) := by
  unfold bE
  split
  · split
    · rename_i i hi
      exact pe_bor (vix_ok g hi)
    · exact pe_toB (k.E g W _)
  · exact pe_toB (k.E g W _)
theorem aV_ok (k : OkR r) (g : Good X c) (W : WX) : ∀ es : List Expr, PA X es (tAr X.K X.mg W (aV r c es))
  | [] => pa_nilE
  | e :: es => by
    unfold aV
    split
    · rename_i h
      exact pa_consE (pe_toB (k.E g W e)) (aV_ok k g W es) (star_cons h)
    · exact pa_no
theorem aB_ok (k : OkR r) (g : Good X c) (W : WX) : ∀ es : List Expr, PA X es (tAr X.K X.mg W (aB r c es))
  | [] => pa_nilE
  | e :: es => by
    unfold aB
    split
    · rename_i h
      exact pa_consE (bE_ok k g W e) (aB_ok k g W es) (star_cons h)
    · exact pa_no
theorem pe_arg {i : Nat} (h : PE X e (tVar i)) : PE X e (tBo X.K mg W (mArg i)) := pe_imp h fun σ H Q ⟨S, ρ, rel, p⟩ => by
  unfold mArg at p
  cases hs : ρ[i]? with
  | none => rw [hs] at p; exact p.elim
  | some s =>
    have q := rel.slot i s hs
    have go : σ[i]?.join ≠ none → argS (some s) ≠ none → tVar i σ H Q := fun hn ha => by
      cases ex : σ[i]? with
      | none => rw [ex] at hn; exact absurd rfl hn
      | some y =>
        cases y with
        | none => rw [ex] at hn; exact absurd rfl hn
        | some v =>
          rw [hs] at p
          cases ea : argS (some s) with
          | none => exact absurd ea ha
          | some u =>
            rw [ea] at p
            exact ⟨v, ex, Post.ok rel p v ex⟩
    cases s with
    | un => rw [hs] at p; exact p.elim
    | dat d => exact go (fun e => by rw [e] at q; exact q) (fun e => by cases e)
    | giv d => exact go (fun e => by rw [e] at q; exact q) (fun e => by cases e)
    | bag _ _ _ => exact go (fun e => by rw [e] at q; exact q) (fun e => by cases e)
    | lst z ds => exact go (fun e => by rw [e] at q; exact q) (fun e => by cases e)
    | dic z ds => exact go (fun e => by rw [e] at q; exact q) (fun e => by cases e)
theorem argE_ok (k : OkR r) (g : Good X c) (W : WX) (io : Bool) (e : Expr) : PE X e (tBo X.K X.mg W (argE r c io e)) := by
  unfold argE
  split
  · split
    · rename_i i hi
      exact pe_arg (vix_ok g hi)
    · exact pe_toB (k.E g W _)
  · exact pe_toB (k.E g W _)
theorem aF_ok (k : OkR r) (g : Good X c) (W : WX) : ∀ (ios : List Bool) (es : List Expr), PA X es (tAr X.K X.mg W (aF r c ios es))
  | [], [] => pa_nilE
  | _ :: _, [] => pa_nilE
  | io :: ios, e :: es => by
    unfold aF
    split
    · rename_i h
      exact pa_consE (argE_ok k g W io e) (aF_ok k g W ios es) (star_cons h)
    · exact pa_no
  | [], e :: es => by
    unfold aF
    split
    · rename_i h
      exact pa_consE (argE_ok k g W false e) (aF_ok k g W [] es) (star_cons h)
    · exact pa_no
theorem aK_ok (k : OkR r) (g : Good X c) (W : WX) : ∀ (ios : List Bool) (es : List Keyword), PK X es (tAr X.K X.mg W (aK r c ios es))
  | [], [] => pk_nilE
  | _ :: _, [] => pk_nilE
  | io :: ios, ⟨nm, e, p⟩ :: es => pk_consE (argE_ok k g W io e) (aK_ok k g W ios es)
  | [], ⟨nm, e, p⟩ :: es => pk_consE (argE_ok k g W false e) (aK_ok k g W [] es)
end
section
variable {X : Cx} {c : Ctx}
mutual
theorem tgE_ok (g : Good X c) : ∀ (e : Expr) (t : Tgt), tgE c e = some t → PG X e (tGt X.K t)
  | .Name x p, t, h => by
    unfold tgE at h
    split at h
    · rename_i i hi
      cases h
      obtain ⟨h1, h2, h3⟩ := lix_ok g hi
      exact pg_nm (L2.pg_name g.nd h1 h2 h3)
    · cases h
  | .Tuple es k p, t, h => by
    unfold tgE at h
    split at h
    · rename_i ts hts
      cases h
      obtain ⟨h1, h2, h3⟩ := tgEs_ok g es ts hts
      exact pg_tp g.calm h1 h2.1 h2.2 h3
    · cases h
  | .BoolOp .., _, h => by unfold tgE at h; cases h
  | .NamedExpr .., _, h => by unfold tgE at h; cases h
  | .BinOp .., _, h => by unfold tgE at h; cases h
  | .UnaryOp .., _, h => by unfold tgE at h; cases h
  | .Lambda .., _, h => by unfold tgE at h; cases h
  | .IfExp .., _, h => by unfold tgE at h; cases h
  | .Dict .., _, h => by unfold tgE at h; cases h
  | .Set .., _, h => by unfold tgE at h; cases h
  | .ListComp .., _, h => by unfold tgE at h; cases h
  | .SetComp .., _, h => by unfold tgE at h; cases h
  | .DictComp .., _, h => by unfold tgE at h; cases h
  | .GeneratorExp .., _, h => by unfold tgE at h; cases h
  | .Await .., _, h => by unfold tgE at h; cases h
  | .Yield .., _, h => by unfold tgE at h; cases h
  | .YieldFrom .., _, h => by unfold tgE at h; cases h
  | .Compare .., _, h => by unfold tgE at h; cases h
  | .Call .., _, h => by unfold tgE at h; cases h
  | .FormattedValue .., _, h => by unfold tgE at h; cases h
  | .JoinedStr .., _, h => by unfold tgE at h; cases h
  | .Constant .., _, h => by unfold tgE at h; cases h
  | .Attribute .., _, h => by unfold tgE at h; cases h
  | .Subscript .., _, h => by unfold tgE at h; cases h
  | .Starred .., _, h => by unfold tgE at h; cases h
  | .List .., _, h => by unfold tgE at h; cases h
  | .Slice .., _, h => by unfold tgE at h; cases h
theorem tgEs_ok (g : Good X c) : ∀ (es : List Expr) (ts : List Tgt), tgEs c es = some ts → PGs X es (tGts X.K ts) ∧ (es.length = ts.length ∧ (assignEach es X.env).length = es.length) ∧ (assignEach es X.env).findIdx? (·.1) = none
  | [], ts, h => by
    unfold tgEs at h
    cases h
    exact ⟨pgs_nilE, ⟨rfl, rfl⟩, rfl⟩
  | e :: es, ts, h => by
    unfold tgEs at h
    split at h
    · rename_i t us ht hus
      cases h
      obtain ⟨h1, h2, h3⟩ := tgEs_ok g es us hus
      have hs : assignEach (e :: es) X.env = (false, assign e X.env) :: assignEach es X.env := by
        cases e <;> first | rfl | (unfold tgE at ht; cases ht)
      refine ⟨pgs_consE (tgE_ok g e t ht) h1 (by rw [hs]; rfl), ⟨by simp [h2.1], by rw [hs]; simp [h2.2]⟩, ?_⟩
      rw [hs, List.findIdx?_cons, h3]
      rfl
    · cases h
end
end
section
variable {X : Cx} {c : Ctx} {r : Rc} {mg : Str → Option Value}
theorem itE_ok (k : OkR r) (g : Good X c) (W : WX) (tg e : Expr) : PI X tg e (tIt X.K X.mg W (itE r c tg e)) := by
  unfold itE
  split
  · rename_i x np a p
    split
    · rename_i hx
      subst hx
      split
      · rename_i h
        simp only [Bool.and_eq_true] at h
        obtain ⟨h1, h2, _, _⟩ := bltn_ok g h.1
        exact pi_r1 h1 h2 (bE_ok k g W a) (star_cons h.2)
      · exact pi_no
    · split
      · rename_i hx
        subst hx
        split
        · split
          · rename_i h
            simp only [Bool.and_eq_true] at h
            obtain ⟨h1, h2, _, _⟩ := bltn_ok g h.1
            exact pi_en h1 h2 (k.E g W a) (star_cons h.2)
          · exact pi_no
        · exact pi_no
      · exact pi_val (k.E g W _)
  · rename_i x np a b p
    split
    · rename_i hx
      subst hx
      split
      · rename_i h
        simp only [Bool.and_eq_true] at h
        obtain ⟨h1, h2, _, _⟩ := bltn_ok g h.1.1
        exact pi_r2 h1 h2 (bE_ok k g W a) (bE_ok k g W b) (by rw [star_cons h.1.2, star_cons h.2]; rfl) (star_cons h.2)
      · exact pi_no
    · split
      · rename_i hx
        subst hx
        split
        · split
          · rename_i h
            simp only [Bool.and_eq_true] at h
            obtain ⟨h1, h2, _, _⟩ := bltn_ok g h.1.1
            exact pi_z h1 h2 (k.E g W a) (k.E g W b) (by rw [star_cons h.1.2, star_cons h.2]; rfl) (star_cons h.2)
          · exact pi_no
        · exact pi_no
      · exact pi_val (k.E g W _)
  · exact pi_val (k.E g W _)
theorem lc_ok (k : OkR r) (g : Good X c) (W : WX) {elt tg iter : Expr} {ifs : List Expr} {scope : Scope} {t : Tgt} {tt : M Bool} (ht : tgE (inBlk c scope) tg = some t)
    (h : (blkC c.N c.sc scope (ownOf c scope) && (t.slots.all fun i => (ownOf c scope).any fun p => decide (p.2 = i)) && notSet iter) = true)
    (hif : ∀ (Y : Cx), Good Y (inBlk c scope) → PTs Y ifs (tTe Y.K Y.mg W0 tt)) : LcParts X X.mg W elt tg iter ifs scope (ownOf c scope) (itE r c tg iter) t tt (r.E (inBlk c scope) elt) := by
  simp only [Bool.and_eq_true] at h
  obtain ⟨⟨h1, h2⟩, h3⟩ := h
  refine ⟨g.calm, g.nd, itE_ok k g W tg iter, ?_, fun i hi => ?_, fun s H C cl fp => tgE_ok (g.inBlk scope s H C cl fp) tg t ht, fun s H C cl fp => hif _ (g.inBlk scope s H C cl fp), fun s H C cl fp => k.E (g.inBlk scope s H C cl fp) W0 elt, set_ok h3⟩
  · rw [g.N, g.sc]; exact blkOk_by h1
  · have := List.all_eq_true.mp h2 i hi
    obtain ⟨p, hp, e⟩ := List.any_eq_true.mp this
    exact List.mem_map.mpr ⟨p, hp, of_decide_eq_true e⟩
theorem lcE_ok (k : OkR r) (g : Good X c) (W : WX) {elt tg iter : Expr} {ifs : List Expr} {scope : Scope} {pos : Pos} : PE X (.ListComp elt [⟨tg, iter, ifs, 0⟩] scope pos) (tS X.K X.mg W (lcE r c elt tg iter ifs scope)) := by
  unfold lcE
  split
  · rename_i t ht
    split
    · rename_i h
      split
      · exact pe_lcE (lc_ok k g W ht h fun Y gy => pts_yes)
      · rename_i q
        exact pe_lcE (lc_ok k g W ht h fun Y gy => pts_one (k.T gy W0 q))
      · exact pe_no
    · exact pe_no
  · exact pe_no
theorem tsE_ok (k : OkR r) {ifs : List Expr} {tt : M Bool} {d : Ctx} (h : tsE r d ifs = some tt) (Y : Cx) (gy : Good Y d) : PTs Y ifs (tTe Y.K Y.mg W0 tt) := by
  unfold tsE at h
  split at h
  · cases h; exact pts_yes
  · cases h; exact pts_one (k.T gy W0 _)
  · cases h
theorem lc2_ok (k : OkR r) (g : Good X c) (W : WX) {elt tg iter tg1 iter1 : Expr} {ifs ifs1 : List Expr} {scope : Scope} {t t1 : Tgt} {tt tt1 : M Bool} (ht : tgE (inBlk c scope) tg = some t) (ht1 : tgE (inBlk c scope) tg1 = some t1) (hq : tsE r (inBlk c scope) ifs = some tt) (hq1 : tsE r (inBlk c scope) ifs1 = some tt1)
    (h : (blkC c.N c.sc scope (ownOf c scope) && (t.slots.all fun i => (ownOf c scope).any fun p => decide (p.2 = i)) && notSet iter && (t1.slots.all fun i => (ownOf c scope).any fun p => decide (p.2 = i)) && notSet iter1) = true) :
    LcParts2 X X.mg W elt tg iter tg1 iter1 ifs ifs1 scope (ownOf c scope) t1.slots (itE r c tg iter) (itE r (inBlk c scope) tg1 iter1) t t1 tt tt1 (r.E (inBlk c scope) elt) := by
  simp only [Bool.and_eq_true] at h
  obtain ⟨⟨⟨h1, h2⟩, h3⟩, h4⟩ := h
  refine ⟨lc_ok k g W ht (by simp only [Bool.and_eq_true]; exact ⟨h1, h2⟩) (tsE_ok k hq), fun i hi => hi, fun i hi => ?_, fun s H C cl fp => itE_ok k (g.inBlk scope s H C cl fp) W0 tg1 iter1, fun s H C cl fp => tgE_ok (g.inBlk scope s H C cl fp) tg1 t1 ht1, fun s H C cl fp => tsE_ok k hq1 _ (g.inBlk scope s H C cl fp), fun env => set_ok h4⟩
  have := List.all_eq_true.mp h3 i hi
  obtain ⟨p, hp, e⟩ := List.any_eq_true.mp this
  exact List.mem_map.mpr ⟨p, hp, of_decide_eq_true e⟩
theorem lc2E_ok (k : OkR r) (g : Good X c) (W : WX) {elt tg iter tg1 iter1 : Expr} {ifs ifs1 : List Expr} {scope : Scope} {pos : Pos} : PE X (.ListComp elt [⟨tg, iter, ifs, 0⟩, ⟨tg1, iter1, ifs1, 0⟩] scope pos) (tS X.K X.mg W (lc2E r c elt tg iter tg1 iter1 ifs ifs1 scope)) := by
  unfold lc2E
  split
  · rename_i t t1 tt tt1 ht ht1 hq hq1
    split
    · rename_i h
      exact pe_lc2E (lc2_ok k g W ht ht1 hq hq1 h)
    · exact pe_no
  · exact pe_no
theorem partE_ok (k : OkR r) (g : Good X c) (W : WX) : ∀ o : Option Expr, PO X o (tPt X.K X.mg W (mPart (partE r c o)))
  | none => po_noneE
  | some e => po_someE (bE_ok k g W e)
theorem isGiv_ok (g : Good X c) {e : Expr} {i : Nat} (h : isGiv c e = some i) : PE X e (tVar i) := by
  unfold isGiv at h
  split at h
  · split at h
    · exact vix_ok g h
    · cases h
  · cases h
theorem ty_desc_app : typeOf (.builtin "list.append") = pure (.type "method_descriptor") := PySem.F.type_list_append
theorem mtE_ok (k : OkR r) (g : Good X c) (W : WX) {x name : Str} {xp ap cp : Pos} {args : List Expr} (hl : (ap.endLine == cp.line) = true) : PE X (.Call (.Attribute (.Name x xp) name ap) args [] cp) (tS X.K X.mg W (mtE r c x name args)) := by
  unfold mtE
  split
  · exact pe_no
  · rename_i i hi
    have pv : PE X (.Name x xp) (tVar i) := vix_ok g hi
    have one : ∀ {id : String} {rr : V → List V → Hp → VK → Prop} {op : List D → List BV → List D → Option (D × List D)} {a : Expr} {f : M (List BV)}, MtR X id rr → MutR X.K rr op → PySem.Slot "list" name id → typeOf (.builtin id) = pure (.type "method_descriptor") → PA X [a] (tAr X.K X.mg W f) → notStar a = true →
        PE X (.Call (.Attribute (.Name x xp) name ap) [a] [] cp) (tS X.K X.mg W (mMt i op f)) := fun {id rr op a f} h1 h2 h3 h4 h5 h6 => by
      refine pe_mt h1 h2 h3 h4 pv h5 rfl ?_ hl (star_cons h6) rfl
      rw [star_cons h6]
      rfl
    have nostar : ∀ {a : Expr} {f : M (List BV)} {op : List D → List BV → List D → Option (D × List D)}, notStar a = false → ∀ (g1 : M (List BV)), (if notStar a = true then g1 else mNo) = mNo := fun h _ => by rw [h]; rfl
    split
    · rename_i hn
      subst hn
      split
      · rename_i a
        cases ha : notStar a with
        | true => exact one mt_append mu_app PySem.F.slot_list_append PySem.F.type_list_append (aV_ok k g W _) ha
        | false =>
          have : aV r c [a] = mNo := by unfold aV; rw [ha]; rfl
          rw [this]
          exact ⟨fun _ _ _ _ _ _ ⟨S, ρ, rel, p⟩ => by
            unfold mMt at p
            split at p
            · exact p.elim
            · exact p.elim⟩
      · exact pe_no
    · split
      · rename_i hn
        subst hn
        split
        · rename_i a
          cases ha : notStar a with
          | true => exact one mt_extend mu_ext PySem.F.slot_list_extend PySem.F.type_list_extend (aB_ok k g W _) ha
          | false =>
            have : aB r c [a] = mNo := by unfold aB; rw [ha]; rfl
            rw [this]
            exact ⟨fun _ _ _ _ _ _ ⟨S, ρ, rel, p⟩ => by
              unfold mMt at p
              split at p
              · exact p.elim
              · exact p.elim⟩
        · exact pe_no
      · split
        · rename_i hn
          subst hn
          split
          · exact pe_mt0 mt_pop mu_pop PySem.F.slot_list_pop PySem.F.type_list_pop pv rfl hl
          · rename_i a
            cases ha : notStar a with
            | true => exact one mt_popAt mu_popAt PySem.F.slot_list_pop PySem.F.type_list_pop (aB_ok k g W _) ha
            | false =>
              have : aB r c [a] = mNo := by unfold aB; rw [ha]; rfl
              rw [this]
              exact ⟨fun _ _ _ _ _ _ ⟨S, ρ, rel, p⟩ => by
                unfold mMt at p
                split at p
                · exact p.elim
                · exact p.elim⟩
          · exact pe_no
        · split
          · rename_i hn
            subst hn
            split
            · rename_i a
              split
              · rename_i ha
                exact pe_idx g.hu5 (pe_bor pv) (bE_ok k g W a) rfl hl (star_cons ha) (by rw [star_cons ha]; rfl)
              · exact pe_no
            · exact pe_no
          · exact pe_no
end
end Ev
namespace Ev
open PySem PySem.Spec PyProof.Rows L2
variable [Gh]
section
variable {X : Cx} {c : Ctx} {r : Rc} {mg : Str → Option Value}
theorem bltF_ok (g : Good X c) {x : Str} {op : List D → Option Ret} (h : bltF x = some op) : ∃ id, bootBuiltins x = some (.builtin id) ∧ CallR X (.builtin id) (rOps X.K op) := by
  unfold bltF at h
  split at h
  · rename_i e; subst e; cases h; exact ⟨_, by decide +kernel, cb_len g.calm⟩
  split at h
  · rename_i e; subst e; cases h; exact ⟨_, by decide +kernel, cb_abs⟩
  split at h
  · rename_i e; subst e; cases h; exact ⟨_, by decide +kernel, cb_sum g.calm⟩
  split at h
  · rename_i e; subst e; cases h; exact ⟨_, by decide +kernel, cb_any g.calm⟩
  split at h
  · rename_i e; subst e; cases h; exact ⟨_, by decide +kernel, cb_all g.calm⟩
  split at h
  · rename_i e; subst e; cases h; exact ⟨_, by decide +kernel, cb_sort g.hu⟩
  split at h
  · rename_i e; subst e; cases h; exact ⟨_, by decide +kernel, cb_max g.calm g.hu⟩
  split at h
  · rename_i e; subst e; cases h; exact ⟨_, by decide +kernel, cb_min g.calm g.hu⟩
  split at h
  · rename_i e; subst e; cases h; exact ⟨_, by decide +kernel, cb_repr g.gd g.hu⟩
  · cases h
theorem bltT_ok (g : Good X c) {x : Str} {op : List D → Option Ret} (h : bltT x = some op) : ∃ T, bootBuiltins x = some (.type T) ∧ CallR X (.type T) (rOps X.K op) := by
  unfold bltT at h
  split at h
  · rename_i e; subst e; cases h; exact ⟨_, by decide +kernel, cb_tuple⟩
  split at h
  · rename_i e; subst e; cases h; exact ⟨_, by decide +kernel, cb_list g.calm⟩
  split at h
  · rename_i e; subst e; cases h; exact ⟨_, by decide +kernel, cb_int⟩
  · cases h
def rIsaD (K : PySem.W.Frag) (T : String) (f : D → Bool) : List V → Hp → VK → Prop := fun xs H Q => ∃ S d v, Live S H ∧ xs = [v, .ty T] ∧ RR K H S v d ∧ d.plain = true ∧ Q (.bl (f d)) H
theorem isa_ok {x : Str} {T : String} {f : D → Bool} (h : isaD x = some (T, f)) : bootBuiltins x = some (.type T) ∧ CallR X (.builtin "isinstance") (rIsaD X.K T f) := by
  have two : ∀ {v : V} {us : List Value}, Vals [v, .ty T] us → ∃ u, us = [u, .type T] ∧ RelV v u := fun {v us} rr => by
    cases rr with
    | cons r1 r2 =>
      cases r2 with
      | cons r2 r3 =>
        cases r3
        have e : _ = Value.type T := r2
        subst e
        exact ⟨_, rfl, r1⟩
  unfold isaD at h
  split at h
  · rename_i e; subst e; cases h
    refine ⟨by decide +kernel, fun pins s σ H xs us Q I rx ⟨S, d, v, lv, e1, h1, hp, q⟩ => ?_⟩
    subst e1
    obtain ⟨u, rfl, r1⟩ := two rx
    obtain ⟨as, rd⟩ := h1.reads I r1 hp
    exact PySem.W.isinstance_int_data rd fun tk _ => ⟨.bl _, H, I.tok tk, rfl, q⟩
  split at h
  · rename_i e; subst e; cases h
    refine ⟨by decide +kernel, fun pins s σ H xs us Q I rx ⟨S, d, v, lv, e1, h1, hp, q⟩ => ?_⟩
    subst e1
    obtain ⟨u, rfl, r1⟩ := two rx
    obtain ⟨as, rd⟩ := h1.reads I r1 hp
    exact PySem.W.isinstance_bool_data rd fun tk _ => ⟨.bl _, H, I.tok tk, rfl, q⟩
  split at h
  · rename_i e; subst e; cases h
    refine ⟨by decide +kernel, fun pins s σ H xs us Q I rx ⟨S, d, v, lv, e1, h1, hp, q⟩ => ?_⟩
    subst e1
    obtain ⟨u, rfl, r1⟩ := two rx
    obtain ⟨as, rd⟩ := h1.reads I r1 hp
    exact PySem.W.isinstance_tuple_data rd fun tk _ => ⟨.bl _, H, I.tok tk, rfl, q⟩
  split at h
  · rename_i e; subst e; cases h
    refine ⟨by decide +kernel, fun pins s σ H xs us Q I rx ⟨S, d, v, lv, e1, h1, hp, q⟩ => ?_⟩
    subst e1
    obtain ⟨u, rfl, r1⟩ := two rx
    obtain ⟨as, rd⟩ := h1.reads I r1 hp
    exact PySem.W.isinstance_list_data rd fun tk _ => ⟨.bl _, H, I.tok tk, rfl, q⟩
  split at h
  · rename_i e; subst e; cases h
    refine ⟨by decide +kernel, fun pins s σ H xs us Q I rx ⟨S, d, v, lv, e1, h1, hp, q⟩ => ?_⟩
    subst e1
    obtain ⟨u, rfl, r1⟩ := two rx
    obtain ⟨as, rd⟩ := h1.reads I r1 hp
    exact PySem.W.isinstance_str_data rd fun tk _ => ⟨.bl _, H, I.tok tk, rfl, q⟩
  · cases h
theorem callE0_ok (k : OkR r) (g : Good X c) (W : WX) {x : Str} {xp cp : Pos} {args : List Expr} {kws : List Keyword} : PE X (.Call (.Name x xp) args kws cp) (tS X.K X.mg W (callE0 r c x args kws)) := by
  unfold callE0
  split
  · rename_i hx
    subst hx
    split
    · rename_i a t tp
      split
      · rename_i f hf
        obtain ⟨T, f⟩ := f
        split
        · rename_i hc
          simp only [Bool.and_eq_true] at hc
          obtain ⟨h1, h2, h3, h4⟩ := bltn_ok g hc.1.1
          obtain ⟨t1, t2, t3, t4⟩ := bltn_ok g hc.1.2
          obtain ⟨b1, b2⟩ := isa_ok (X := X) hf
          refine pe_imp (pe_callB b2 h1 h2 (by decide +kernel) (pa_cons (bE_ok k g W a) (pa_cons (pe_bltn (v := .ty T) t1 t2 b1 rfl t4 t3) pa_nil (star_cons rfl)) (star_cons hc.2)) h4 h3 (star_cons hc.2) rfl) fun σ H Q ⟨S, ρ, rel, p⟩ => ?_
          refine ⟨S, ρ, rel, ?_⟩
          unfold mOp1 at p
          refine Post.and p fun bv S1 ρ1 H1 st1 r1 p v hv => ?_
          unfold opnd1 at p
          cases e1 : res ρ1 bv with
          | none => simp only [e1] at p; exact p.elim
          | some d =>
            simp only [e1, opIsa] at p
            by_cases hp : d.plain = true
            · simp only [if_pos hp] at p
              exact ⟨S1, d, v, r1.live, rfl, hv.read r1 e1, hp, p S1 H1 st1 r1 _ (.bl _) trivial⟩
            · simp only [if_neg hp] at p
              exact p.elim
        · exact pe_no
      · exact pe_no
    · exact pe_no
  · split
    · rename_i hc
      simp only [Bool.and_eq_true] at hc
      obtain ⟨h1, h2, h3, h4⟩ := bltn_ok g hc.1
      have hst := hc.2
      split
      · rename_i a as
        have ha : notStar a = true := by simp only [List.all_cons, Bool.and_eq_true] at hst; exact hst.1
        have has : as.all notStar = true := by simp only [List.all_cons, Bool.and_eq_true] at hst; exact hst.2
        have gen : PE X (.Call (.Name x xp) (a :: as) [] cp) (tS X.K X.mg W (match bltF x with
            | some op => mOps op (aB r c (a :: as))
            | none => match bltT x with
              | some op => mOps op (aB r c (a :: as))
              | none => mNo)) := by
          split
          · rename_i op ho
            obtain ⟨id, b1, b2⟩ := bltF_ok g ho
            exact pe_blt b2 h1 h2 b1 (aB_ok k g W _) h4 h3 (star_cons ha) (star_all has)
          · split
            · rename_i op ho
              obtain ⟨T, b1, b2⟩ := bltT_ok g ho
              exact pe_bty b2 h1 h2 b1 (aB_ok k g W _) h4 h3 (star_cons ha) (star_all has)
            · exact pe_no
        split
        · rename_i i hi hx
          have hx : x = "len" := of_decide_eq_true hx
          subst hx
          exact pe_lenG (isGiv_ok g hi) h1 h2 (star_cons ha)
        · exact gen
      · exact pe_no
    · split
      · rename_i hc
        simp only [Bool.and_eq_true, Bool.not_eq_true'] at hc
        obtain ⟨⟨h1, h2⟩, h3⟩ := hc
        split
        · rename_i ks hk
          split
          · rename_i s hs
            obtain ⟨k1, k2, k3⟩ := kw_all (pos := cp) (env := X.env) hk
            refine pe_callG (g.fns _ _ _ _ hs) (fun e => ?_) (glb_ok g h1) h2 (aF_ok k g W _ _) (aK_ok k g W _ _) k1 k2 (fun e' es' e => ?_) (by rw [star_all h3, k3]; rfl)
            · subst e
              cases s.io <;> rfl
            · subst e
              simp only [List.all_cons, Bool.and_eq_true] at h3
              exact star_cons h3.1
          · exact pe_no
        · exact pe_no
      · exact pe_no
theorem rgE_ok (k : OkR r) (g : Good X c) (W : WX) {x : Str} {xp cp : Pos} {args : List Expr} {f : M Ret} (h : rgE r c x args = some f) : PE X (.Call (.Name x xp) args [] cp) (tS X.K X.mg W f) := by
  unfold rgE at h
  split at h
  · split at h
    · rename_i hc
      obtain ⟨rfl, h1, h2, h3⟩ := hc
      obtain ⟨a1, a2, _, _⟩ := bltn_ok g h1
      obtain ⟨b1, b2, _, _⟩ := bltn_ok g h2
      split at h
      · rename_i e
        subst e
        cases h
        exact pe_rgL1 a1 a2 b1 b2 g.calm (bE_ok k g W _) (star_cons h3)
      · split at h
        · rename_i e
          subst e
          cases h
          exact pe_rgT1 a1 a2 b1 b2 g.calm (bE_ok k g W _) (star_cons h3)
        · cases h
    · cases h
  · split at h
    · rename_i hc
      obtain ⟨rfl, h1, h2, h3, h4⟩ := hc
      obtain ⟨a1, a2, _, _⟩ := bltn_ok g h1
      obtain ⟨b1, b2, _, _⟩ := bltn_ok g h2
      split at h
      · rename_i e
        subst e
        cases h
        exact pe_rgL2 a1 a2 b1 b2 g.calm (bE_ok k g W _) (bE_ok k g W _) (star_cons h3) (star_cons h4)
      · split at h
        · rename_i e
          subst e
          cases h
          exact pe_rgT2 a1 a2 b1 b2 g.calm (bE_ok k g W _) (bE_ok k g W _) (star_cons h3) (star_cons h4)
        · cases h
    · cases h
  · cases h
theorem callE_ok (k : OkR r) (g : Good X c) (W : WX) {x : Str} {xp cp : Pos} {args : List Expr} {kws : List Keyword} : PE X (.Call (.Name x xp) args kws cp) (tS X.K X.mg W (callE r c x args kws)) := by
  unfold callE
  split
  · rename_i f hf
    exact rgE_ok k g W hf
  · exact callE0_ok k g W
theorem pt_tst {e : Expr} {te : TE} {f : M Ret} {W : WX} (h : PT X e (tTest te)) (im : ∀ σ H Q, tS X.K mg W f σ H Q → te σ H Q) : PT X e (tTe X.K mg W (mTst f)) := pt_imp h fun σ H Q ⟨S, ρ, rel, p⟩ => by
  refine im σ H _ ⟨S, ρ, rel, ?_⟩
  unfold mTst at p
  refine Post.and p fun rr S1 ρ1 H1 st1 r1 p v hv hn => ?_
  split at p
  · rename_i b
    cases hv
    exact ⟨b, rfl, p S1 H1 st1 r1⟩
  · exact p.elim
end
end Ev
namespace Ev
open PySem PySem.Spec PyProof.Rows L2
variable [Gh]
section
variable {X : Cx} {c : Ctx} {r : Rc}
abbrev tNever0 : TE := fun _ _ _ => False
theorem stepE_ok (k : OkR r) (g : Good X c) (W : WX) (e : Expr) : PE X e (tS X.K X.mg W (stepE r c e)) := by
  unfold stepE
  split
  · exact pe_cst_of (t := tNever0) pe_int fun H S => .int _
  · exact pe_cst_of (t := tNever0) pe_bl fun H S => .bl _
  · exact pe_cst_of (t := tNever0) pe_non fun H S => .non
  · exact pe_cst_of (t := tNever0) L2.pe_str fun H S => .str _
  · split
    · rename_i i hi
      exact pe_name (vix_ok g hi)
    · exact pe_no
  · rename_i a op b p
    split
    · rename_i f hf
      exact pe_bin (binD_ok hf) (bE_ok k g W a) (bE_ok k g W b)
    · exact pe_no
  · rename_i a p
    exact pe_un1 or_neg (bE_ok k g W a)
  · rename_i a p
    exact pe_notE (bE_ok k g W a)
  · rename_i a o b p
    split
    · rename_i f hf
      split
      · rename_i hb
        exact pe_cmp2 (rCmp.op2 (cmpD_ok g hf)) (bE_ok k g W a) (bE_ok k g W b) (marks_ok hb)
      · exact pe_no
    · exact pe_no
  · rename_i a o o' b d p
    split
    · rename_i f1 f2 hf1 hf2
      split
      · rename_i hd
        exact pe_chainE (bE_ok k g W a) (bE_ok k g W b) (bE_ok k g W d) fun ta tb tc ha hb hc => pe_chain (cmpD_ok g hf1) (cmpD_ok g hf2) ha hb hc (marks_ok hd)
      · exact pe_no
    · exact pe_no
  · exact pe_one (k.E g W _)
  · exact pe_andE (k.E g W _) (k.E g W _)
  · exact pe_orE (k.E g W _) (k.E g W _)
  · exact pe_ifE (k.T g W _) (k.E g W _) (k.E g W _)
  · exact pe_tupE (aV_ok k g W _)
  · exact pe_lstE (aV_ok k g W _)
  · exact pe_dnewE
  · split
    · rename_i i hi
      exact pe_slG (isGiv_ok g hi) (partE_ok k g W _) (partE_ok k g W _)
    · exact pe_slE (bE_ok k g W _) (partE_ok k g W _) (partE_ok k g W _)
  · split
    · rename_i hb
      split
      · rename_i i hi
        exact pe_ixG (isGiv_ok g hi) (bE_ok k g W _) (slice_ok hb)
      · exact pe_sub2 (or_ix g.hu) (slice_ok hb) (bE_ok k g W _) (bE_ok k g W _)
    · exact pe_no
  · exact lcE_ok k g W
  · exact lc2E_ok k g W
  · exact callE_ok k g W
  · split
    · rename_i hl
      exact mtE_ok k g W hl
    · exact pe_no
  · exact pe_no
theorem plainT {e : Expr} (h : ∀ whole, isTrue e X.env whole = (do let v ← whole; standAt e.pos; holding [v] (truthy v))) (k : OkR r) (g : Good X c) (W : WX) : PT X e (tTe X.K X.mg W (mTru (bE r c e))) := pt_tru (bE_ok k g W e) h
/-- a test by its value, when its value is had -/
theorem cmpT (k : OkR r) (g : Good X c) (W : WX) (a : Expr) (os : List CmpOp) (bs : List Expr) (p : Pos) : PT X (.Compare a os bs p) (tTe X.K X.mg W (mTst (stepE r c (.Compare a os bs p)))) := by
  have no : stepE r c (.Compare a os bs p) = mNo → PT X (.Compare a os bs p) (tTe X.K X.mg W (mTst (stepE r c (.Compare a os bs p)))) := fun e => by
    rw [e]
    exact pt_no
  match os, bs with
  | [o], [b] =>
    cases ho : cmpD o with
    | none => exact no (by simp only [stepE, ho])
    | some f =>
      cases hb : notSet b with
      | false => exact no (by simp only [stepE, ho, hb]; rfl)
      | true =>
        have e : stepE r c (.Compare a [o] [b] p) = mOp2 (cmpRet f) (bE r c a) (bE r c b) := by simp only [stepE, ho, hb]; rfl
        rw [e]
        exact pt_tst (pt_cmpR (rCmp.op2 (cmpD_ok g ho)) (bE_ok k g W a) (bE_ok k g W b) (marks_ok hb)) fun _ _ _ ⟨_, _, rel, p⟩ => bin_fwd rel p
  | [o, o'], [b, d] =>
    cases ho : cmpD o with
    | none => exact no (by simp only [stepE, ho])
    | some f =>
      cases ho' : cmpD o' with
      | none => exact no (by simp only [stepE, ho, ho'])
      | some f' =>
        cases hb : notSet d with
        | false => exact no (by simp only [stepE, ho, ho', hb]; rfl)
        | true =>
          have e : stepE r c (.Compare a [o, o'] [b, d] p) = mChain f f' (bE r c a) (bE r c b) (bE r c d) := by simp only [stepE, ho, ho', hb]; rfl
          rw [e]
          exact pt_tst (pt_chain (cmpD_ok g ho) (cmpD_ok g ho') (bE_ok k g W a) (bE_ok k g W b) (bE_ok k g W d) (marks_ok hb)) fun _ _ _ ⟨_, _, rel, p⟩ => chain_fwd rel p
  | [], _ => exact no rfl
  | [_], [] => exact no rfl
  | [_], _ :: _ :: _ => exact no rfl
  | [_, _], [] => exact no rfl
  | [_, _], [_] => exact no rfl
  | [_, _], _ :: _ :: _ :: _ => exact no rfl
  | _ :: _ :: _ :: _, _ => exact no rfl
end
end Ev
namespace Ev
open PySem PySem.Spec PyProof.Rows L2
variable [Gh]
section
variable {X : Cx} {c : Ctx} {r : Rc} {mg : Str → Option Value}
theorem pe_dzE {W : WX} {a b : Expr} {fa fb : M BV} {p p2 q pos : Pos} (hg : Gl X "dict") (hm : X.mg "dict" = none) (hg2 : Gl X "zip") (hm2 : X.mg "zip" = none) (ha : PE X a (tBo X.K mg W fa)) (hb : PE X b (tBo X.K mg W fb)) (hc : X.calm = true) (na : notStar a = true) (nb : notStar b = true) :
    PE X (.Call (.Name "dict" p) [.Call (.Name "zip" p2) [a, b] [] q] [] pos) (tS X.K mg W (mDZ fa fb)) :=
  pe_imp (pe_dz hg hm hg2 hm2 (pa_cons ha (pa_cons hb pa_nil (star_cons nb)) (star_cons na)) hc (star_cons na) (by rw [star_cons nb]; rfl)) fun σ H Q ⟨S, ρ, rel, p⟩ => by
    unfold mDZ at p
    refine ⟨S, ρ, rel, Post.and p fun bv S1 ρ1 H1 st1 r1 p v hv => ?_⟩
    refine ⟨S1, ρ1, r1, Post.and (Post.from p st1) fun cv S2 ρ2 H2 st2 r2 p u hu => ?_⟩
    split at p
    · rename_i ks ds hb' hc'
      cases hz : zipK ks ds with
      | none => simp only [hz] at p; exact p.elim
      | some kvs =>
        simp only [hz] at p
        by_cases hl : kvs.length ≤ 16777216
        case neg => rw [if_neg hl] at p; exact p.elim
        rw [if_pos hl] at p
        obtain ⟨l1, xs, rfl, q1, ra⟩ := ((hv.step st2).read r2 hb').list
        obtain ⟨l2, ys, rfl, q2, rb⟩ := (hu.read r2 hc').list
        obtain ⟨us, e1, e2, e3⟩ := zipK_R ra rb hz
        refine ⟨l1, l2, xs, ys, us, rfl, .inl (.inl q1), .inl (.inl q2), e2, by rw [e1.length, line_eq]; exact hl, e3, fun q hq => ?_⟩
        obtain ⟨r3, st3, nS, nO⟩ := r2.fresh (o := .dK (mergeK [] us)) hq
        refine p S2 _ (st2.trans st3) r3 _ ⟨q, _, rfl, upd_same, nS, RKv.stay st3.stay _ _ (e1.putAll .nil), nO⟩ fun b eb => ?_
        cases eb
        refine .inl ?_
        cases e : H q with
        | none => rfl
        | some o =>
          obtain ⟨o1, e1'⟩ := st1.there q o e
          obtain ⟨o2, e2'⟩ := st2.there q o1 e1'
          rw [hq] at e2'; cases e2'
    · exact p.elim
theorem dispE_ok (k : OkR r) (g : Good X c) (W : WX) : ∀ {ks : List (Option Expr)} {vs : List Expr} {ps : List (M BV × M BV)}, dispE r c ks vs = some ps → PPrs X X.mg W ks vs ps
  | [], [], ps, h => by cases h; exact trivial
  | some k' :: ks, v :: vs, ps, h => by
    unfold dispE at h
    cases e : dispE r c ks vs with
    | none => simp only [e] at h; cases h
    | some ps' =>
      simp only [e] at h
      cases h
      exact ⟨pe_toB (k.E g W _), pe_toB (k.E g W _), dispE_ok k g W e⟩
  | none :: _, _, _, h => by cases ‹List Expr› <;> cases h
  | [], _ :: _, _, h => by cases h
  | some _ :: _, [], _, h => by cases h
theorem compOk_ok (g : Good X c) {t : Tgt} {scope : Scope} (h : compOk c t scope = true) : BlkOk X.N X.env.scope scope (ownOf c scope) ∧ ∀ i ∈ t.slots, i ∈ (ownOf c scope).map (·.2) := by
  unfold compOk at h
  simp only [Bool.and_eq_true] at h
  refine ⟨by rw [g.N, g.sc]; exact blkOk_by h.1, fun i hi => ?_⟩
  have := List.all_eq_true.mp h.2 i hi
  obtain ⟨p, hp, e⟩ := List.any_eq_true.mp this
  exact List.mem_map.mpr ⟨p, hp, of_decide_eq_true e⟩
theorem dcE_ok (k : OkR r) (g : Good X c) (W : WX) {kx vx tg iter : Expr} {ifs : List Expr} {scope : Scope} {pos : Pos} : PE X (.DictComp kx vx [⟨tg, iter, ifs, 0⟩] scope pos) (tS X.K X.mg W (dcE r c kx vx tg iter ifs scope)) := by
  unfold dcE
  split
  · rename_i t tt ht hq
    split
    · rename_i h
      simp only [Bool.and_eq_true] at h
      have h' : (blkC c.N c.sc scope (ownOf c scope) && (t.slots.all fun i => (ownOf c scope).any fun p => decide (p.2 = i)) && notSet iter) = true := by
        have h1 := h.1
        unfold compOk at h1
        rw [h1, h.2]; rfl
      exact pe_dcE (lc_ok k g W ht h' (tsE_ok k hq)) (lc_ok k g W ht h' (tsE_ok k hq))
    · exact pe_no
  · exact pe_no
theorem lcKE_ok (k : OkR r) (g : Good X c) (W : WX) {i : Nat} {F : List (D × D) → List D} {J : Addr → Obj → List (Key × V) → It} {elt tg iter : Expr} {ifs : List Expr} {scope : Scope} {pos : Pos} (hW : DWalk X.K F J) (hi : PI X tg iter (tWk i J)) (hf : ∀ x, foldedSetIterable iter X.env x = pure x) :
    PE X (.ListComp elt [⟨tg, iter, ifs, 0⟩] scope pos) (tS X.K X.mg W (lcKE r c i F elt tg ifs scope)) := by
  unfold lcKE
  split
  · rename_i t tt ht hq
    split
    · rename_i h
      obtain ⟨hb, hs⟩ := compOk_ok g h
      have pl := pe_lc (pos := pos) (elt := elt) (tt := tTe X.K X.mg W0 tt) (te := tS X.K X.mg W0 (r.E (inBlk c scope) elt)) (g := tGt X.K t) (ifs := ifs) g.calm g.nd hi hb (fun s H C cl fp => tgE_ok (g.inBlk scope s H C cl fp) tg t ht) (fun s H C cl fp => tsE_ok k hq _ (g.inBlk scope s H C cl fp)) (fun s H C cl fp => k.E (g.inBlk scope s H C cl fp) W0 elt) hf
      exact pe_imp (pe_or2 (pe_lock pl) pl) fun σ H Q ⟨S, ρ, rel, p⟩ => lcK_fwd hW hs rel p
    · exact pe_no
  · exact pe_no
theorem extE_ok (k : OkR r) (g : Good X c) (W : WX) {e : Expr} {f : M Ret} (h : extE r c e = some f) : PE X e (tS X.K X.mg W f) := by
  have hu1 : X.A.units + 1 < cLine := Nat.lt_of_le_of_lt (Nat.add_le_add_left (by omega : 1 ≤ 64) _) g.hu
  unfold extE at h
  split at h
  · split at h
    · rename_i hl
      split at h
      · rename_i ps hp
        cases h
        exact pe_dispE (dispE_ok k g W hp) (by simp) hl
      · cases h
    · cases h
  · cases h
    exact dcE_ok k g W
  · split at h
    · split at h
      · rename_i i hi
        cases h
        exact lcKE_ok k g W dw_keys (pi_wkeys (vix_ok g hi)) (set_ok rfl)
      · cases h
    · cases h
  · split at h
    · rename_i i hi
      split at h
      · rename_i hc
        obtain ⟨rfl, hl⟩ := hc
        cases h
        exact lcKE_ok k g W dw_items (pi_witems (vix_ok g hi) rfl hl) (set_ok rfl)
      · cases h
    · cases h
  · unfold extCall at h
    split at h
    · split at h
      · rename_i hc
        obtain ⟨rfl, rfl, h1, h2, h3, h4⟩ := hc
        cases h
        obtain ⟨a1, a2, _, _⟩ := bltn_ok g h1
        obtain ⟨b1, b2, _, _⟩ := bltn_ok g h2
        exact pe_dzE a1 a2 b1 b2 (bE_ok k g W _) (bE_ok k g W _) g.calm h3 h4
      · cases h
    · cases h
  · rename_i o name ap args cp
    unfold extMeth at h
    split at h
    · rename_i e
      split at h
      · rename_i hc
        obtain ⟨rfl, hl, he, ho⟩ := hc
        cases h
        have hb : attributeBase o "get" X.env (eval o X.env) = eval o X.env := by
          cases o <;> first | rfl | cases ho
        exact pe_get1E hu1 (bE_ok k g W _) (bE_ok k g W _) (m1_of hb hl (star_cons he))
      · cases h
    · rename_i e f'
      split at h
      · rename_i hc
        obtain ⟨hl, he, hf⟩ := hc
        split at h
        · rename_i x xp
          split at h
          · rename_i hn
            subst hn
            cases h
            exact pe_get2E hu1 (bE_ok k g W _) (bE_ok k g W _) (pe_toB (k.E g W _)) (m2_of rfl hl (star_cons he) (star_cons hf))
          · split at h
            · rename_i i hi
              split at h
              · rename_i hn
                subst hn
                cases h
                exact pe_setdE (vix_ok g hi) (bE_ok k g W _) (pe_toB (k.E g W _)) (m2_of rfl hl (star_cons he) (star_cons hf))
              · split at h
                · rename_i hn
                  subst hn
                  cases h
                  refine pe_mt mt_insert mu_ins PySem.F.slot_list_insert PySem.F.type_list_insert (vix_ok g hi) (aV_ok k g W _) rfl ?_ hl (star_cons he) (by rw [star_cons hf]; rfl)
                  rw [star_cons he, star_cons hf]
                  rfl
                · cases h
            · cases h
        · cases h
      · cases h
    · cases h
  · cases h
theorem stepX_ok (k : OkR r) (g : Good X c) (W : WX) (e : Expr) : PE X e (tS X.K X.mg W (stepX r c e)) := by
  unfold stepX
  split
  · rename_i f hf
    exact extE_ok k g W hf
  · exact stepE_ok k g W e
end
theorem rc_ok : ∀ n, OkR (rc n)
  | 0 => ⟨fun _ _ _ => pe_no, fun _ _ _ => pt_no, fun _ _ _ _ _ => pw_no⟩
  | n + 1 => by
    have k := rc_ok n
    have hB : ∀ {X : Cx} {c : Ctx}, Good X c → ∀ (W : WX) (op : BoolOp) (vs : List Expr) (p : Pos), PW X (.BoolOp op vs p) (tTe X.K X.mg W (stepT (rc n) c (.BoolOp op vs p))) := fun {X c} g W op vs p => by
      match op, vs with
      | .And, [a] => exact pw_and1 (k.T g W a)
      | .Or, [a] => exact pw_or1 (k.T g W a)
      | .And, a :: b :: rest => exact pw_andE (k.T g W a) (k.B g W _ _ _)
      | .Or, a :: b :: rest => exact pw_orE (k.T g W a) (k.B g W _ _ _)
      | .And, [] => exact pw_no
      | .Or, [] => exact pw_no
    refine ⟨fun {X c} g W e => stepX_ok k g W e, fun {X c} g W e => ?_, hB⟩
    show PT X e (tTe X.K X.mg W (stepT (rc n) c e))
    cases e with
    | BoolOp op vs p => exact (hB g W op vs p).pt
    | UnaryOp op a p =>
      cases op with
      | Not => exact pt_notE (k.T g W a)
      | Invert => exact pt_no
      | UAdd => exact pt_no
      | USub => exact pt_no
    | Compare a os bs p =>
      cases n with
      | zero => exact pt_no
      | succ m => exact cmpT (rc_ok m) g W a os bs p
    | Name x p => exact plainT (fun _ => rfl) k g W
    | Call f as ks p => exact plainT (fun _ => rfl) k g W
    | Subscript a b p => exact plainT (fun _ => rfl) k g W
    | Constant v j p => exact plainT (fun _ => rfl) k g W
    | _ => exact pt_no
end Ev
namespace Ev
open PySem PySem.Spec PyProof.Rows L2
variable [Gh]
theorem star_any {a : Expr} : (match a with | .Starred .. => true | _ => false) = !notStar a := by cases a <;> rfl
theorem blockK {env : Env} (h : env.scope.kind = .function) : env.blockKind = .function := by
  unfold Env.blockKind
  rw [h]; rfl
theorem sw_two {env : Env} (hk : env.scope.kind = .function) {x y : Str} {px py pt pt2 : Pos} {kt k2 : Nat} {a b : Expr} (ha : notStar a = true) (hb : notStar b = true) (hx : env.scope.names.lookup x = some .local) (hy : env.scope.names.lookup y = some .local)
    (hl : (py.line == px.line) = true) (hne : x ≠ y) (h1 : [a, b].all (foldedForSure 8) = false) (h2 : [a, b].all (constantsAlone 8) = false) :
    swappedStores [.Tuple [.Name x px, .Name y py] kt pt] (.Tuple [a, b] k2 pt2) env = pure (some [x, y]) := by
  have hx' : env.kindOf x = some .local := hx
  have hy' : env.kindOf y = some .local := hy
  have hs : ([a, b].any fun | .Starred .. => true | _ => false) = false := by
    simp only [List.any_cons, List.any_nil, Bool.or_false]
    cases a <;> first | (cases ha; done) | (cases b <;> first | rfl | cases hb)
  have hn : (([.Name x px, .Name y py] : List Expr).filterMap fun
      | .Name id pos => if env.kindOf id == some .local && pos.line == px.line then some id else none
      | _ => none) = [x, y] := by
    have e1 : (env.kindOf x == some NameKind.local && px.line == px.line) = true := by rw [hx']; simp
    have e2 : (env.kindOf y == some NameKind.local && py.line == px.line) = true := by rw [hy', hl]; rfl
    rw [List.filterMap_cons_some (b := x) (by simp only [e1, if_true]), List.filterMap_cons_some (b := y) (by simp only [e2, if_true])]
    rfl
  have hd : ([x, y] : List Str).eraseDups.length = 2 := by
    have : ([x, y] : List Str).eraseDups = [x, y] := by
      simp [List.eraseDups_cons, Ne.symm hne]
    rw [this]; rfl
  unfold swappedStores
  show (do
    if !(2 == 2 || 2 == 3) || 2 != 2 || env.blockKind != .function then return none
    if [a, b].any fun | .Starred .. => true | _ => false then return none
    let names := ([.Name x px, .Name y py] : List Expr).filterMap fun
      | .Name id pos => if env.kindOf id == some .local && pos.line == px.line then some id else none
      | _ => none
    if names.length != 2 || names.eraseDups.length != names.length then return none
    if [a, b].all (foldedForSure 8) then return none
    if [a, b].all (constantsAlone 8) then unsupported "assign.tuple-of-constant-expressions:order-of-the-stores"
    return some names : Sem (Option (List Str))) = _
  simp only [hn, hs, h1, h2, blockK hk]
  rw [hd]
  rfl
theorem sw_none {env : Env} {x y : Str} {px py pt pt2 : Pos} {kt k2 : Nat} {a b : Expr} (h : ¬ (env.scope.names.lookup x = some .local ∧ env.scope.names.lookup y = some .local ∧ (py.line == px.line) = true ∧ x ≠ y) ∨ [a, b].all (foldedForSure 8) = true) :
    swappedStores [.Tuple [.Name x px, .Name y py] kt pt] (.Tuple [a, b] k2 pt2) env = pure none := by
  unfold swappedStores
  show (do
    if !(2 == 2 || 2 == 3) || 2 != 2 || env.blockKind != .function then return none
    if [a, b].any fun | .Starred .. => true | _ => false then return none
    let names := ([.Name x px, .Name y py] : List Expr).filterMap fun
      | .Name id pos => if env.kindOf id == some .local && pos.line == px.line then some id else none
      | _ => none
    if names.length != 2 || names.eraseDups.length != names.length then return none
    if [a, b].all (foldedForSure 8) then return none
    if [a, b].all (constantsAlone 8) then unsupported "assign.tuple-of-constant-expressions:order-of-the-stores"
    return some names : Sem (Option (List Str))) = _
  split
  · rfl
  split
  · rfl
  dsimp only
  split
  · rfl
  rename_i hc
  split
  · rfl
  rename_i hf
  exfalso
  rcases h with h | h
  · apply h
    have e1 : env.kindOf x = env.scope.names.lookup x := rfl
    have e2 : env.kindOf y = env.scope.names.lookup y := rfl
    by_cases c1 : (env.kindOf x == some NameKind.local && px.line == px.line) = true
    · by_cases c2 : (env.kindOf y == some NameKind.local && py.line == px.line) = true
      · rw [List.filterMap_cons_some (b := x) (by simp only [c1, if_true]), List.filterMap_cons_some (b := y) (by simp only [c2, if_true])] at hc
        simp only [Bool.and_eq_true, beq_iff_eq] at c1 c2
        refine ⟨e1 ▸ c1.1, e2 ▸ c2.1, by simpa using c2.2, fun hxy => ?_⟩
        subst hxy
        simp [List.eraseDups_cons] at hc
      · rw [List.filterMap_cons_some (b := x) (by simp only [c1, if_true]), List.filterMap_cons_none (by simp only [c2]; rfl)] at hc
        simp at hc
    · rw [List.filterMap_cons_none (by simp only [c1]; rfl)] at hc
      by_cases c2 : (env.kindOf y == some NameKind.local && py.line == px.line) = true
      · rw [List.filterMap_cons_some (b := y) (by simp only [c2, if_true])] at hc
        simp at hc
      · rw [List.filterMap_cons_none (by simp only [c2]; rfl)] at hc
        simp at hc
  · exact hf h
theorem sw3_body {env : Env} {x y z : Str} {px py pz pt pt2 : Pos} {kt k2 : Nat} {a b c : Expr} : swappedStores [.Tuple [.Name x px, .Name y py, .Name z pz] kt pt] (.Tuple [a, b, c] k2 pt2) env = (do
    if !(3 == 2 || 3 == 3) || 3 != 3 || env.blockKind != .function then return none
    if [a, b, c].any fun | .Starred .. => true | _ => false then return none
    let names := ([.Name x px, .Name y py, .Name z pz] : List Expr).filterMap fun
      | .Name id pos => if env.kindOf id == some .local && pos.line == px.line then some id else none
      | _ => none
    if names.length != 3 || names.eraseDups.length != names.length then return none
    if [a, b, c].all (foldedForSure 8) then return none
    if [a, b, c].all (constantsAlone 8) then unsupported "assign.tuple-of-constant-expressions:order-of-the-stores"
    return some names : Sem (Option (List Str))) := rfl
theorem sw_three {env : Env} (hk : env.scope.kind = .function) {x y z : Str} {px py pz pt pt2 : Pos} {kt k2 : Nat} {a b c : Expr} (ha : notStar a = true) (hb : notStar b = true) (hcs : notStar c = true) (hx : env.scope.names.lookup x = some .local) (hy : env.scope.names.lookup y = some .local) (hz : env.scope.names.lookup z = some .local)
    (hl : (py.line == px.line) = true) (hl2 : (pz.line == px.line) = true) (hxy : x ≠ y) (hxz : x ≠ z) (hyz : y ≠ z) (h1 : [a, b, c].all (foldedForSure 8) = false) (h2 : [a, b, c].all (constantsAlone 8) = false) :
    swappedStores [.Tuple [.Name x px, .Name y py, .Name z pz] kt pt] (.Tuple [a, b, c] k2 pt2) env = pure (some [x, y, z]) := by
  have hx' : env.kindOf x = some .local := hx
  have hy' : env.kindOf y = some .local := hy
  have hz' : env.kindOf z = some .local := hz
  have hs : ([a, b, c].any fun | .Starred .. => true | _ => false) = false := by
    simp only [List.any_cons, List.any_nil, Bool.or_false]
    rw [star_any, star_any, star_any, ha, hb, hcs]
    rfl
  have hn : (([.Name x px, .Name y py, .Name z pz] : List Expr).filterMap fun
      | .Name id pos => if env.kindOf id == some .local && pos.line == px.line then some id else none
      | _ => none) = [x, y, z] := by
    have e1 : (env.kindOf x == some NameKind.local && px.line == px.line) = true := by rw [hx']; simp
    have e2 : (env.kindOf y == some NameKind.local && py.line == px.line) = true := by rw [hy', hl]; rfl
    have e3 : (env.kindOf z == some NameKind.local && pz.line == px.line) = true := by rw [hz', hl2]; rfl
    rw [List.filterMap_cons_some (b := x) (by simp only [e1, if_true]), List.filterMap_cons_some (b := y) (by simp only [e2, if_true]), List.filterMap_cons_some (b := z) (by simp only [e3, if_true])]
    rfl
  have hd : ([x, y, z] : List Str).eraseDups.length = 3 := by
    have : ([x, y, z] : List Str).eraseDups = [x, y, z] := by
      simp [List.eraseDups_cons, Ne.symm hxy, Ne.symm hxz, Ne.symm hyz]
    rw [this]; rfl
  rw [sw3_body]
  simp only [hn, hs, h1, h2, blockK hk]
  rw [hd]
  rfl
theorem sw_none3 {env : Env} {x y z : Str} {px py pz pt pt2 : Pos} {kt k2 : Nat} {a b c : Expr} (h : ¬ (env.scope.names.lookup x = some .local ∧ env.scope.names.lookup y = some .local ∧ env.scope.names.lookup z = some .local ∧ (py.line == px.line) = true ∧ (pz.line == px.line) = true) ∨ [a, b, c].all (foldedForSure 8) = true) :
    swappedStores [.Tuple [.Name x px, .Name y py, .Name z pz] kt pt] (.Tuple [a, b, c] k2 pt2) env = pure none := by
  rw [sw3_body]
  split
  · rfl
  split
  · rfl
  dsimp only
  split
  · rfl
  rename_i hc
  split
  · rfl
  rename_i hf
  exfalso
  rcases h with h | h
  · apply h
    have e1 : env.kindOf x = env.scope.names.lookup x := rfl
    have e2 : env.kindOf y = env.scope.names.lookup y := rfl
    have e3 : env.kindOf z = env.scope.names.lookup z := rfl
    by_cases c1 : (env.kindOf x == some NameKind.local && px.line == px.line) = true
    · by_cases c2 : (env.kindOf y == some NameKind.local && py.line == px.line) = true
      · by_cases c3 : (env.kindOf z == some NameKind.local && pz.line == px.line) = true
        · simp only [Bool.and_eq_true, beq_iff_eq] at c1 c2 c3
          exact ⟨e1 ▸ c1.1, e2 ▸ c2.1, e3 ▸ c3.1, by simpa using c2.2, by simpa using c3.2⟩
        · rw [List.filterMap_cons_some (b := x) (by simp only [c1, if_true]), List.filterMap_cons_some (b := y) (by simp only [c2, if_true]), List.filterMap_cons_none (by simp only [c3]; rfl)] at hc
          simp at hc
      · rw [List.filterMap_cons_some (b := x) (by simp only [c1, if_true]), List.filterMap_cons_none (by simp only [c2]; rfl)] at hc
        by_cases c3 : (env.kindOf z == some NameKind.local && pz.line == px.line) = true
        · rw [List.filterMap_cons_some (b := z) (by simp only [c3, if_true])] at hc
          simp at hc
        · rw [List.filterMap_cons_none (by simp only [c3]; rfl)] at hc
          simp at hc
    · rw [List.filterMap_cons_none (by simp only [c1]; rfl)] at hc
      by_cases c2 : (env.kindOf y == some NameKind.local && py.line == px.line) = true
      · rw [List.filterMap_cons_some (b := y) (by simp only [c2, if_true])] at hc
        by_cases c3 : (env.kindOf z == some NameKind.local && pz.line == px.line) = true
        · rw [List.filterMap_cons_some (b := z) (by simp only [c3, if_true])] at hc
          simp at hc
        · rw [List.filterMap_cons_none (by simp only [c3]; rfl)] at hc
          simp at hc
      · rw [List.filterMap_cons_none (by simp only [c2]; rfl)] at hc
        by_cases c3 : (env.kindOf z == some NameKind.local && pz.line == px.line) = true
        · rw [List.filterMap_cons_some (b := z) (by simp only [c3, if_true])] at hc
          simp at hc
        · rw [List.filterMap_cons_none (by simp only [c3]; rfl)] at hc
          simp at hc
  · exact hf h
theorem sw_none4 {env : Env} {a b c d e : Expr} {ts : List Expr} {kt : Nat} {pt : Pos} : swappedStores [.Tuple (a :: b :: c :: d :: ts) kt pt] e env = pure none := by
  cases e <;> rfl
/-! ### statements, read off the code -/
section
variable (r : Rc) (c : Ctx)
def retE (e : Expr) : M Ret := match e with
  | .Name x _ => match vix c x with
    | some i => if c.keep.contains x = true then mName i else mMove i
    | none => mNo
  | _ => r.E c e
def isTup : Expr → Bool
  | .Tuple .. => true
  | _ => false
/-- a pair of names gets a pair -/
def parS (x y : Str) (px py : Pos) (a b : Expr) (tg e : Expr) : MS :=
  if notStar a && notStar b then
    (if decide (c.sc.names.lookup x = some .local) && decide (c.sc.names.lookup y = some .local) && (py.line == px.line) && !decide (x = y) then
      (if [a, b].all (foldedForSure 8) then (match tgE c tg with
        | some t => sAsgT t (r.E c e)
        | none => sNo)
      else if [a, b].all (constantsAlone 8) then sNo
      else match lix c x, lix c y with
        | some i, some j => if i = j then sNo else sPar i j (retE r c a) (retE r c b)
        | _, _ => sNo)
    else match tgE c tg with
      | some t => sAsgT t (r.E c e)
      | none => sNo)
  else sNo
def asgS (tg e : Expr) : MS := match tg with
  | .Name x _ => match lix c x with
    | some i => match e with
      | .ListComp elt [⟨t, iter, ifs, 0⟩] scope _ => sAsgN i (lcE r c elt t iter ifs scope)
      | .ListComp elt [⟨t, iter, ifs, 0⟩, ⟨t1, iter1, ifs1, 0⟩] scope _ => sAsgN i (lc2E r c elt t iter t1 iter1 ifs ifs1 scope)
      | _ => if notComp e = true then sAsgN i (retE r c e) else sNo
    | none => sNo
  | .Tuple [.Name x px, .Name y py] _ _ => match e with
    | .Tuple [a, b] _ _ => parS r c x y px py a b tg e
    | _ => if isTup e = false ∧ notComp e = true then (match tgE c tg with
      | some t => sAsgT t (r.E c e)
      | none => sNo) else sNo
  | .Tuple _ _ _ => if isTup e = false ∧ notComp e = true then (match tgE c tg with
      | some t => sAsgT t (r.E c e)
      | none => sNo) else sNo
  | .Subscript (.Name x _) ix _ => match vix c x with
    | some k => if notComp e = true ∧ notSlice ix = true then sStore k (bE r c ix) (r.E c e) else sNo
    | none => sNo
  | _ => sNo
variable (S : List Stmt → MS)
def stS (st : Stmt) : MS := match st with
  | .Expr (.Constant (.str _) _ _) _ => sNext
  | .Expr e _ => if notComp e = true then sExpr (r.E c e) else sNo
  | .Return (some e) _ => sRet (retE r c e)
  | .Return none _ => sRetN
  | .If t a b _ => sIf (r.T c t) (S a) (S b)
  | .Assign [tg] e _ => asgS r c tg e
  | .AugAssign (.Name x _) op e _ => match lix c x, augI op with
    | some i, some f => sAug i f (bE r c e)
    | _, _ => sNo
  | .For tg iter body [] _ => match tgE c tg with
    | some t => if notSet iter = true then sFor (itE r c tg iter) t (S body) else sNo
    | none => sNo
  | .While t body [] _ => sWhile c.wh (r.T c t) (S body)
  | .Pass _ => sNext
  | .Break _ => sBreak
  | .Continue _ => sCont
  | _ => sNo
/-- more forms of statements -/
def extS (st : Stmt) : Option MS := match st with
  | .For tg (.Name x _) body [] _ => if c.dct.contains x then (match vix c x, tgE c tg with
    | some k, some t => some (sForK k dKeys t (S body))
    | _, _ => none) else none
  | .For (.Tuple es kk tp) (.Call (.Attribute (.Name x _) name ap) [] [] cp) body [] _ => if name = "items" ∧ (ap.endLine == cp.line) = true then (match vix c x, tgE c (.Tuple es kk tp) with
    | some k, some t => some (sForK k dItems t (S body))
    | _, _ => none) else none
  | .Assign [.Tuple [.Name x px, .Name y py, .Name z pz] kt pt] (.Tuple [a, b, d] k2 pt2) _ => if notStar a && notStar b && notStar d then
      (if decide (c.sc.names.lookup x = some .local) && decide (c.sc.names.lookup y = some .local) && decide (c.sc.names.lookup z = some .local) && (py.line == px.line) && (pz.line == px.line) then
        (if [a, b, d].all (foldedForSure 8) then (match tgE c (.Tuple [.Name x px, .Name y py, .Name z pz] kt pt) with
          | some t => some (sAsgT t (r.E c (.Tuple [a, b, d] k2 pt2)))
          | none => none)
        else if [a, b, d].all (constantsAlone 8) || decide (x = y) || decide (x = z) || decide (y = z) then none
        else match lix c x, lix c y, lix c z with
          | some i, some j, some l => if i = j ∨ i = l ∨ j = l then none else some (sPar3 i j l (retE r c a) (retE r c b) (retE r c d))
          | _, _, _ => none)
      else match tgE c (.Tuple [.Name x px, .Name y py, .Name z pz] kt pt) with
        | some t => some (sAsgT t (r.E c (.Tuple [a, b, d] k2 pt2)))
        | none => none)
    else none
  | .Assign [.Tuple (t1 :: t2 :: t3 :: t4 :: ts) kt pt] (.Tuple es k2 pt2) _ => match tgE c (.Tuple (t1 :: t2 :: t3 :: t4 :: ts) kt pt) with
    | some t => some (sAsgT t (r.E c (.Tuple es k2 pt2)))
    | none => none
  | _ => none
def stX (st : Stmt) : MS := match extS r c S st with
  | some f => f
  | none => stS r c S st
def blS : List Stmt → MS
  | [] => sNext
  | st :: sts => sSeq (stX r c S st) (blS sts)
end
def evS (r : Rc) (c : Ctx) : Nat → List Stmt → MS
  | 0 => fun _ => sNo
  | n + 1 => blS r c (evS r c n)
section
variable {X : Cx} {c : Ctx} {r : Rc} {mg : Str → Option Value} {W : WX}
structure GoodS (X : Cx) (c : Ctx) : Prop extends Good X c where
  kind : X.env.scope.kind = .function
  pass : PassesOwn (model X.prog X.w) X.A X.env X.xe
theorem ps_no {st : Stmt} : PS X st (tSt X.K mg W sNo) := ⟨fun _ _ _ _ _ _ ⟨_, _, _, p⟩ => p.elim⟩
theorem pss_no {sts : List Stmt} : PSs X sts (tSt X.K mg W sNo) := ⟨fun _ _ _ _ _ _ ⟨_, _, _, p⟩ => p.elim⟩
theorem retE_ok (k : OkR r) (g : Good X c) (W : WX) (e : Expr) : PE X e (tS X.K X.mg W (retE r c e)) := by
  unfold retE
  split
  · split
    · rename_i i hi
      split
      · exact pe_name (vix_ok g hi)
      · exact pe_move (vix_ok g hi)
    · exact pe_no
  · exact k.E g W _
theorem comp_ok {e : Expr} {o : Option Expr} {l : Nat} {env : Env} (h : notComp e = true) : swapsWith e o l env = pure false := by
  cases e <;> first | rfl | cases h
theorem asgT_ok (k : OkR r) (g : Good X c) (W : WX) {tg e : Expr} {pos : Pos} (hw : swappedStores [tg] e X.env = pure none) (hc : notComp e = true) (h1 : (assignEach [tg] X.env).map (·.2) = [assign tg X.env]) :
    PS X (.Assign [tg] e pos) (tSt X.K X.mg W (match tgE c tg with | some t => sAsgT t (r.E c e) | none => sNo)) := by
  split
  · rename_i t ht
    exact ps_asgTE (fun te gg he hg => ps_asg he hg (comp_ok hc) hw h1) (k.E g W e) (tgE_ok g tg t ht)
  · exact ps_no
theorem asgT_some (k : OkR r) (g : Good X c) (W : WX) {tg e : Expr} {pos : Pos} {t : Tgt} (hw : swappedStores [tg] e X.env = pure none) (hc : notComp e = true) (h1 : (assignEach [tg] X.env).map (·.2) = [assign tg X.env]) (ht : tgE c tg = some t) :
    PS X (.Assign [tg] e pos) (tSt X.K X.mg W (sAsgT t (r.E c e))) :=
  ps_asgTE (fun te gg he hg => ps_asg he hg (comp_ok hc) hw h1) (k.E g W e) (tgE_ok g tg t ht)
theorem tup_none {ts : List Expr} {kt : Nat} {pt : Pos} {e : Expr} {env : Env} (h : isTup e = false) : swappedStores [.Tuple ts kt pt] e env = pure none := by
  cases e <;> first | rfl | cases h
theorem parS_ok (k : OkR r) (g : GoodS X c) (W : WX) {x y : Str} {px py pt pt2 pos : Pos} {kt k2 : Nat} {a b : Expr} : PS X (.Assign [.Tuple [.Name x px, .Name y py] kt pt] (.Tuple [a, b] k2 pt2) pos) (tSt X.K X.mg W (parS r c x y px py a b (.Tuple [.Name x px, .Name y py] kt pt) (.Tuple [a, b] k2 pt2))) := by
  unfold parS
  split
  · rename_i hs
    simp only [Bool.and_eq_true] at hs
    split
    · rename_i hl
      simp only [Bool.and_eq_true, decide_eq_true_eq, Bool.not_eq_true', decide_eq_false_iff_not] at hl
      obtain ⟨⟨⟨l1, l2⟩, l3⟩, l4⟩ := hl
      split
      · rename_i hf
        exact asgT_ok k g.toGood W (sw_none (.inr hf)) rfl rfl
      · rename_i hf
        split
        · exact ps_no
        · rename_i hq
          split
          · rename_i i j hi hj
            split
            · exact ps_no
            · rename_i hij
              obtain ⟨i1, i2, i3⟩ := lix_ok g.toGood hi
              obtain ⟨j1, j2, j3⟩ := lix_ok g.toGood hj
              have h1 : X.env.scope.names.lookup x = some .local := by rw [g.sc]; exact l1
              have h2 : X.env.scope.names.lookup y = some .local := by rw [g.sc]; exact l2
              exact ps_parE (fun ta ha => ps_par g.calm g.nd i1 j1 hij h1 h2 ha (sw_two g.kind hs.1 hs.2 h1 h2 l3 l4 (by simpa using hf) (by simpa using hq)) rfl) (retE_ok k g.toGood W a) (retE_ok k g.toGood W b) (star_cons hs.1) (star_cons hs.2)
          · exact ps_no
    · rename_i hl
      refine asgT_ok k g.toGood W (sw_none (.inl fun z => hl ?_)) rfl rfl
      rw [g.sc] at z
      simp only [Bool.and_eq_true, decide_eq_true_eq, Bool.not_eq_true', decide_eq_false_iff_not]
      exact ⟨⟨⟨z.1, z.2.1⟩, z.2.2.1⟩, z.2.2.2⟩
  · exact ps_no
theorem lcAsg_ok (k : OkR r) (g : GoodS X c) (W : WX) {x : Str} {xp p pos : Pos} {i : Nat} {elt t iter : Expr} {ifs : List Expr} {scope : Scope} (hi : lix c x = some i) :
    PS X (.Assign [.Name x xp] (.ListComp elt [⟨t, iter, ifs, 0⟩] scope p) pos) (tSt X.K X.mg W (sAsgN i (lcE r c elt t iter ifs scope))) := by
  obtain ⟨i1, i2, i3⟩ := lix_ok g.toGood hi
  by_cases hs : (X.env.scope.names.lookup x = some .local ∧ xp.line = p.line ∧ (scope.names.any fun (n, k) => n == x && (k == .local || k == .cell)) = false)
  · -- the value is used at once
    have sw : ∀ l, swapsWith (.ListComp elt [⟨t, iter, ifs, 0⟩] scope p) (some (.Name x xp)) l X.env = pure true := fun l => by
      show (pure (X.env.blockKind == .function && X.env.kindOf x == some .local && xp.line == p.line && !(scope.names.any fun (n, k) => n == x && (k == .local || k == .cell))) : Sem Bool) = pure true
      have e1 : X.env.kindOf x = some .local := hs.1
      rw [blockK g.kind, e1, hs.2.1, hs.2.2]
      simp
    have no : PS X (.Assign [.Name x xp] (.ListComp elt [⟨t, iter, ifs, 0⟩] scope p) pos) (tSt X.K X.mg W (sAsgN i mNo)) := ⟨fun _ _ _ _ _ _ ⟨_, _, _, p⟩ => p.elim⟩
    unfold lcE
    split
    · rename_i tt ht
      split
      · rename_i h
        split
        · exact ps_lcE (lc_ok k g.toGood W ht h fun Y gy => pts_yes) i1 hs.1 (sw _)
        · rename_i q
          exact ps_lcE (lc_ok k g.toGood W ht h fun Y gy => pts_one (k.T gy W0 q)) i1 hs.1 (sw _)
        · exact no
      · exact no
    · exact no
  · have sw : ∀ l, swapsWith (.ListComp elt [⟨t, iter, ifs, 0⟩] scope p) (some (.Name x xp)) l X.env = pure false := fun l => by
      show (pure (X.env.blockKind == .function && X.env.kindOf x == some .local && xp.line == p.line && !(scope.names.any fun (n, k) => n == x && (k == .local || k == .cell))) : Sem Bool) = pure false
      congr 1
      cases e : (X.env.blockKind == .function && X.env.kindOf x == some .local && xp.line == p.line && !(scope.names.any fun (n, k) => n == x && (k == .local || k == .cell))) with
      | false => rfl
      | true =>
        exfalso
        apply hs
        simp only [Bool.and_eq_true, beq_iff_eq, Bool.not_eq_true'] at e
        exact ⟨e.1.1.2, e.1.2, e.2⟩
    exact ps_asgNE (fun te he => ps_set g.nd i1 i2 he (sw _) i3) (lcE_ok k g.toGood W)
theorem lc2Asg_ok (k : OkR r) (g : GoodS X c) (W : WX) {x : Str} {xp p pos : Pos} {i : Nat} {elt t iter t1 iter1 : Expr} {ifs ifs1 : List Expr} {scope : Scope} (hi : lix c x = some i) :
    PS X (.Assign [.Name x xp] (.ListComp elt [⟨t, iter, ifs, 0⟩, ⟨t1, iter1, ifs1, 0⟩] scope p) pos) (tSt X.K X.mg W (sAsgN i (lc2E r c elt t iter t1 iter1 ifs ifs1 scope))) := by
  obtain ⟨i1, i2, i3⟩ := lix_ok g.toGood hi
  by_cases hs : (X.env.scope.names.lookup x = some .local ∧ xp.line = p.line ∧ (scope.names.any fun (n, k) => n == x && (k == .local || k == .cell)) = false)
  · have sw : ∀ l, swapsWith (.ListComp elt [⟨t, iter, ifs, 0⟩, ⟨t1, iter1, ifs1, 0⟩] scope p) (some (.Name x xp)) l X.env = pure true := fun l => by
      show (pure (X.env.blockKind == .function && X.env.kindOf x == some .local && xp.line == p.line && !(scope.names.any fun (n, k) => n == x && (k == .local || k == .cell))) : Sem Bool) = pure true
      have e1 : X.env.kindOf x = some .local := hs.1
      rw [blockK g.kind, e1, hs.2.1, hs.2.2]
      simp
    have no : PS X (.Assign [.Name x xp] (.ListComp elt [⟨t, iter, ifs, 0⟩, ⟨t1, iter1, ifs1, 0⟩] scope p) pos) (tSt X.K X.mg W (sAsgN i mNo)) := ⟨fun _ _ _ _ _ _ ⟨_, _, _, p⟩ => p.elim⟩
    unfold lc2E
    split
    · rename_i ta tb tt tt1 ht ht1 hq hq1
      split
      · rename_i h
        exact ps_lc2E (lc2_ok k g.toGood W ht ht1 hq hq1 h) i1 hs.1 (sw _)
      · exact no
    · exact no
  · have sw : ∀ l, swapsWith (.ListComp elt [⟨t, iter, ifs, 0⟩, ⟨t1, iter1, ifs1, 0⟩] scope p) (some (.Name x xp)) l X.env = pure false := fun l => by
      show (pure (X.env.blockKind == .function && X.env.kindOf x == some .local && xp.line == p.line && !(scope.names.any fun (n, k) => n == x && (k == .local || k == .cell))) : Sem Bool) = pure false
      congr 1
      cases e : (X.env.blockKind == .function && X.env.kindOf x == some .local && xp.line == p.line && !(scope.names.any fun (n, k) => n == x && (k == .local || k == .cell))) with
      | false => rfl
      | true =>
        exfalso
        apply hs
        simp only [Bool.and_eq_true, beq_iff_eq, Bool.not_eq_true'] at e
        exact ⟨e.1.1.2, e.1.2, e.2⟩
    exact ps_asgNE (fun te he => ps_set g.nd i1 i2 he (sw _) i3) (lc2E_ok k g.toGood W)
theorem asgS_ok (k : OkR r) (g : GoodS X c) (W : WX) (tg e : Expr) (pos : Pos) : PS X (.Assign [tg] e pos) (tSt X.K X.mg W (asgS r c tg e)) := by
  unfold asgS
  split
  · rename_i x xp
    split
    · rename_i i hi
      obtain ⟨i1, i2, i3⟩ := lix_ok g.toGood hi
      split
      · exact lcAsg_ok k g W hi
      · exact lc2Asg_ok k g W hi
      · split
        · rename_i hc
          exact ps_asgNE (fun te he => ps_set g.nd i1 i2 he (comp_ok hc) i3) (retE_ok k g.toGood W e)
        · exact ps_no
    · exact ps_no
  · split
    · exact parS_ok k g W
    · split
      · rename_i hc
        exact asgT_ok k g.toGood W (tup_none hc.1) hc.2 rfl
      · exact ps_no
  · split
    · rename_i hc
      exact asgT_ok k g.toGood W (tup_none hc.1) hc.2 rfl
    · exact ps_no
  · rename_i x xp ix sp
    split
    · rename_i i hi
      split
      · rename_i hc
        have h0 : swapsWithSole [.Subscript (.Name x xp) ix sp] e pos.line X.env = pure false := by
          show swapsWith e (some (.Subscript (.Name x xp) ix sp)) pos.line X.env = pure false
          exact comp_ok hc.1
        have hx : ∀ v, assign (.Subscript (.Name x xp) ix sp) X.env v = (do
            let ov ← holding [v] (eval (.Name x xp) X.env)
            let iv ← holding [v, ov] (eval ix X.env)
            standAt sp
            holding [v, ov, iv] (setItem ov iv v)
            release [v, ov, iv] []) := by
          intro v
          have hx := hc.2
          cases ix <;> first | rfl | cases hx
        have hd : X.A.units + 1 < cLine := Nat.lt_of_le_of_lt (Nat.add_le_add_left (by omega : 1 ≤ 64) _) g.hu
        exact ps_either (c := fun ρ => isDicS ρ[i]?) (ps_setDE hd (fun te gg he hg => ps_asg he hg h0 rfl rfl) (vix_ok g.toGood hi) (bE_ok k g.toGood W ix) (k.E g.toGood W e) hx) (ps_setIxE (X := X) (fun te gg he hg => ps_asg he hg h0 rfl rfl) (vix_ok g.toGood hi) (bE_ok k g.toGood W ix) (k.E g.toGood W e) hx)
      · exact ps_no
    · exact ps_no
  · exact ps_no
theorem stS_ok (k : OkR r) (g : GoodS X c) (W : WX) {S : List Stmt → MS} (hS : ∀ sts, PSs X sts (tSt X.K X.mg W (S sts))) (st : Stmt) : PS X st (tSt X.K X.mg W (stS r c S st)) := by
  unfold stS
  split
  · exact ps_nextE ps_doc
  · split
    · rename_i hc
      exact ps_exprE (k.E g.toGood W _) (comp_ok hc)
    · exact ps_no
  · exact ps_retE (retE_ok k g.toGood W _)
  · exact ps_retNE
  · exact ps_ifE (k.T g.toGood W _) (hS _) (hS _)
  · exact asgS_ok k g W _ _ _
  · split
    · rename_i i f hi hf
      obtain ⟨i1, i2, i3⟩ := lix_ok g.toGood hi
      exact ps_augE hf g.nd i1 i2 i3 (bE_ok k g.toGood W _)
    · exact ps_no
  · split
    · rename_i t ht
      split
      · rename_i hn
        exact ps_forE g.pass g.calm (itE_ok k g.toGood W _ _) (tgE_ok g.toGood _ t ht) (hS _) fun wi gg tb h1 h2 h3 => ps_for g.pass g.calm h1 h2 h3 (set_ok hn)
      · exact ps_no
    · exact ps_no
  · exact ps_whileE g.pass (k.T g.toGood W _) (hS _)
  · exact ps_nextE ps_pass
  · exact ps_breakE
  · exact ps_contE
  · exact ps_no
theorem extS_ok (k : OkR r) (g : GoodS X c) (W : WX) {S : List Stmt → MS} (hS : ∀ sts, PSs X sts (tSt X.K X.mg W (S sts))) {st : Stmt} {f : MS} (h : extS r c S st = some f) : PS X st (tSt X.K X.mg W f) := by
  unfold extS at h
  split at h
  · split at h
    · split at h
      · rename_i i t hi ht
        cases h
        exact ps_forK dw_keys (pi_wkeys (vix_ok g.toGood hi)) (tgE_ok g.toGood _ t ht) (hS _) fun wi gg tb h1 h2 h3 => ps_for g.pass g.calm h1 h2 h3 (set_ok rfl)
      · cases h
    · cases h
  · split at h
    · rename_i hc
      obtain ⟨rfl, hl⟩ := hc
      split at h
      · rename_i i t hi ht
        cases h
        exact ps_forK dw_items (pi_witems (vix_ok g.toGood hi) rfl hl) (tgE_ok g.toGood _ t ht) (hS _) fun wi gg tb h1 h2 h3 => ps_for g.pass g.calm h1 h2 h3 (set_ok rfl)
      · cases h
    · cases h
  · split at h
    · rename_i hs
      simp only [Bool.and_eq_true] at hs
      split at h
      · rename_i hl
        simp only [Bool.and_eq_true, decide_eq_true_eq] at hl
        obtain ⟨⟨⟨⟨l1, l2⟩, l3⟩, l4⟩, l5⟩ := hl
        split at h
        · rename_i hf
          split at h
          · rename_i t ht
            cases h
            exact asgT_some k g.toGood W (sw_none3 (.inr hf)) rfl rfl ht
          · cases h
        · rename_i hf
          split at h
          · cases h
          · rename_i hq
            simp only [Bool.or_eq_true, decide_eq_true_eq, not_or] at hq
            obtain ⟨⟨⟨q1, q2⟩, q3⟩, q4⟩ := hq
            split at h
            · rename_i i j l hi hj hz
              split at h
              · cases h
              · rename_i hij
                cases h
                simp only [not_or] at hij
                obtain ⟨i1, i2, i3⟩ := lix_ok g.toGood hi
                obtain ⟨j1, j2, j3⟩ := lix_ok g.toGood hj
                obtain ⟨z1, z2, z3⟩ := lix_ok g.toGood hz
                have h1 := l1
                have h2 := l2
                have h3 := l3
                rw [← g.sc] at h1 h2 h3
                exact ps_par3E (fun ta ha => ps_par3 g.calm g.nd i1 j1 z1 hij.1 hij.2.1 hij.2.2 h1 h2 h3 ha (sw_three g.kind hs.1.1 hs.1.2 hs.2 h1 h2 h3 l4 l5 q2 q3 q4 (by simpa using hf) (by simpa using q1)) rfl) (retE_ok k g.toGood W _) (retE_ok k g.toGood W _) (retE_ok k g.toGood W _) (star_cons hs.1.1) (star_cons hs.1.2) (star_cons hs.2)
            · cases h
      · rename_i hl
        split at h
        · rename_i t ht
          cases h
          refine asgT_some k g.toGood W (sw_none3 (.inl fun z => hl ?_)) rfl rfl ht
          rw [g.sc] at z
          simp only [Bool.and_eq_true, decide_eq_true_eq]
          exact ⟨⟨⟨⟨z.1, z.2.1⟩, z.2.2.1⟩, z.2.2.2.1⟩, z.2.2.2.2⟩
        · cases h
    · cases h
  · split at h
    · rename_i t ht
      cases h
      exact asgT_some k g.toGood W sw_none4 rfl rfl ht
    · cases h
  · cases h
theorem stX_ok (k : OkR r) (g : GoodS X c) (W : WX) {S : List Stmt → MS} (hS : ∀ sts, PSs X sts (tSt X.K X.mg W (S sts))) (st : Stmt) : PS X st (tSt X.K X.mg W (stX r c S st)) := by
  unfold stX
  split
  · rename_i f hf
    exact extS_ok k g W hS hf
  · exact stS_ok k g W hS st
theorem blS_ok (k : OkR r) (g : GoodS X c) (W : WX) {S : List Stmt → MS} (hS : ∀ sts, PSs X sts (tSt X.K X.mg W (S sts))) : ∀ sts : List Stmt, PSs X sts (tSt X.K X.mg W (blS r c S sts))
  | [] => pss_nilE
  | st :: sts => pss_consE (stX_ok k g W hS st) (blS_ok k g W hS sts)
theorem evS_ok (k : OkR r) (g : GoodS X c) (W : WX) : ∀ (n : Nat) (sts : List Stmt), PSs X sts (tSt X.K X.mg W (evS r c n sts))
  | 0, _ => pss_no
  | n + 1, sts => blS_ok k g W (evS_ok k g W n) sts
end
end Ev
namespace Ev
open PySem PySem.Spec PyProof.Rows L2
variable [Gh]
/-! ### the defs of a text -/
structure Shape where
  n : Nat
  ks : List Str
  perm : List Nat
  io : List Bool
structure DefE where
  name : Str
  st : Stmt
  N : List Str
  ps : List Str
  keep : List Str
  wh : Nat
  shapes : List Shape
  dct : List Str := []
structure Ent where
  name : Str
  sh : Shape
  F : FSem
def findE (x : Str) (n : Nat) (ks : List Str) : List Ent → Option CallSem
  | [] => none
  | t :: ts => if t.name = x ∧ t.sh.n = n ∧ t.sh.ks = ks then some ⟨t.F, t.sh.perm, t.sh.io⟩ else findE x n ks ts
structure Mod0 where
  bl : List Str
  giv : List Str
def ctxOf (m : Mod0) (tbl : List Ent) (d : DefE) : Ctx := { N := d.N, sc := defScope d.st, blk := false, bsc := defScope d.st, bl := m.bl, fns := fun x n ks => findE x n ks tbl, giv := m.giv, keep := d.keep, wh := d.wh, dct := d.dct }
def semOf (m : Mod0) (tbl : List Ent) (d : DefE) : FSem := fnSem d.N.length d.ps.length (evS (rc 40) (ctxOf m tbl d) 12 (defBody d.st))
def entsOf (d : DefE) (F : FSem) : List Ent := d.shapes.map fun sh => ⟨d.name, sh, F⟩
section
variable (P : Program) (w : World) (K : PySem.W.Frag) (mg : Str → Option Value) (base : Heap)
def EntOk (k : Nat) (t : Ent) : Prop := ∃ f fd ps, FnG P w K mg base k f fd ps t.F ∧ mg t.name = some (.ref f) ∧ PySem.W.keepIn K (.ref f) = true ∧ KB K fd ps t.sh.n t.sh.ks t.sh.perm
def DefOk (d : DefE) : Prop := ∃ f fd, L2.Fun K d.name d.name d.st f fd ∧ mg d.name = some (.ref f) ∧ FnScope d.N d.ps (defScope d.st) ∧ ∀ sh ∈ d.shapes, KB K fd d.ps sh.n sh.ks sh.perm
end
section
variable {P : Program} {w : World} {K : PySem.W.Frag} {mg : Str → Option Value} {base : Heap}
theorem findE_ok {k : Nat} {x : Str} {n : Nat} {ks : List Str} {s : CallSem} : ∀ {tbl : List Ent}, (∀ t ∈ tbl, EntOk P w K mg base k t) → findE x n ks tbl = some s →
    ∃ f fd ps, FnG P w K mg base k f fd ps s.F ∧ mg x = some (.ref f) ∧ PySem.W.keepIn K (.ref f) = true ∧ KB K fd ps n ks s.perm
  | [], _, h => by cases h
  | t :: ts, ok, h => by
    unfold findE at h
    split at h
    · rename_i e
      cases h
      obtain ⟨rfl, rfl, rfl⟩ := e
      exact ok t (List.mem_cons_self ..)
    · exact findE_ok (fun u hu => ok u (List.mem_cons_of_mem _ hu)) h
theorem EntOk.mono {j k : Nat} {t : Ent} (h : EntOk P w K mg base j t) (l : j ≤ k) : EntOk P w K mg base k t := by
  obtain ⟨f, fd, ps, g, r⟩ := h
  exact ⟨f, fd, ps, g.mono l, r⟩
/-- a def, by what stands ahead of it -/
theorem def_ok {m : Mod0} {tbl : List Ent} {d : DefE} {k : Nat} (hbl : ∀ x, m.bl.contains x = true → mg x = none) (ht : ∀ t ∈ tbl, EntOk P w K mg base k t) {f : Addr} {fd : FuncData} (F : L2.Fun K d.name d.name d.st f fd) (Sc : FnScope d.N d.ps (defScope d.st)) :
    FnG P w K mg base (k + 1) f fd d.ps (semOf m tbl d) := by
  refine fnG_of (mg := mg) F Sc fun cd B out s H room gd => ?_
  have g : GoodS (bodyX P w K mg base d.N d.name (defScope d.st) f cd B out s H) (ctxOf m tbl d) := by
    refine ⟨⟨rfl, Sc.nd, rfl, rfl, fun x _ _ => rfl, room.units, Nat.lt_of_le_of_lt (Nat.add_le_add_left (by omega : 65 ≤ 16 * k + 200) _) (by have := room.un; rw [Nat.add_assoc] at this; exact this), gd, hbl, fun x n ks cs h => ?_⟩, Sc.kind, PassesOwn.never⟩
    obtain ⟨f', fd', ps', g1, g2, g3, g4⟩ := findE_ok ht h
    exact ⟨⟨k, f', fd', ps', g1, room, g2, g3, g4⟩, gd⟩
  exact evS_ok (rc_ok 40) g _ 12 _
theorem ents_ok {m : Mod0} {tbl : List Ent} {d : DefE} {k : Nat} (hbl : ∀ x, m.bl.contains x = true → mg x = none) (ht : ∀ t ∈ tbl, EntOk P w K mg base k t) (hd : DefOk K mg d) : ∀ t ∈ tbl ++ entsOf d (semOf m tbl d), EntOk P w K mg base (k + 1) t := by
  obtain ⟨f, fd, F, hm, Sc, hk⟩ := hd
  intro t h
  rcases List.mem_append.mp h with h | h
  · exact (ht t h).mono (Nat.le_succ k)
  · unfold entsOf at h
    obtain ⟨sh, hs, rfl⟩ := List.mem_map.mp h
    exact ⟨f, fd, d.ps, def_ok hbl ht F Sc, hm, F.kp, hk sh hs⟩
end
/-! ### the law's call -/
theorem law_rel {K : PySem.W.Frag} {H : Hp} {a : Addr} {ns : List Int} (h : SqL K H a (ns.map V.int)) (hs : H a ≠ none ∨ ∀ H', SqL K H' a (ns.map V.int)) : Rel K (fun b => H b ≠ none) [.giv (ns.map PyData.int)] ([V.ref a].map some) H := by
  have whole : ∀ (ms : List Int), RAll K H (fun b => H b ≠ none) (ms.map V.int) (ms.map PyData.int) := fun ms => by
    induction ms with
    | nil => exact .nil
    | cons n ns ih => exact .cons (.int n) ih
  refine ⟨rfl, fun i s e => ?_, fun i j s t y z b h1 h2 h3 h4 h5 h6 => ?_, fun b hb => ?_⟩
  · cases i with
    | zero => cases e; exact ⟨_, h, hs, whole ns⟩
    | succ i => cases e
  · cases i with
    | zero => cases h1; cases h3
    | succ i => cases h1
  · cases e : H b with
    | none => exact absurd e hb
    | some o => exact ⟨o, rfl⟩
theorem law_callG {P : Program} {w : World} {K : PySem.W.Frag} {mg mb : Str → Option Value} {k : Nat} {fa a : Addr} {fd : FuncData} {x : Str} {F : FSem} {s₁ : Shared} {vs : List Value} {ns : List Int}
    (inK : K.In s₁.heap) (hns : s₁.heap.Ns mainGlobals mg) (hb : s₁.heap.Ns builtinsNs mb) (hbb : ∀ y : Str, y ≠ "__name__" → mb y = bootBuiltins y) (free : s₁.heap.NoLimit) (hg : s₁.gens = #[])
    (ha : s₁.heap.get? a = some { cls := .type "list", data := .seq vs.toArray }) (hi : IntsAre vs ns) (hl : ns.length ≤ sizeLine) (room : Room k callerA)
    (G : ∀ base : Heap, K.In base → base.Ns mainGlobals mg → FnG P w K mg base k fa fd [x] F) (bnd : ∀ (s : Shared) (u : Value), BindsTo s fd ⟨[u], []⟩ [(x, u)])
    (hF : ∃ outs, F [.giv (ns.map PyData.int)] = .ret (.val (.bool true)) outs) :
    codeAny (model P w) callerA (.call (.ref fa) ⟨[.ref a], []⟩) (fun r s' => r = .ok (.ret (.bool true)) ∧ OldK s₁.heap s'.heap ∧ s'.os = s₁.os ∧ AllBare s'.gens) s₁ := by
  have rv := vals_ints hi
  have all : ∀ H : Hp, (∀ b, H b = none ∨ ∃ o xs, H b = some (.frz o (.lst xs))) → SqL K H a (ns.map V.int) → (H a ≠ none ∨ ∀ H', SqL K H' a (ns.map V.int)) → HOk P w H s₁.heap → (∀ b, H b ≠ none → b = a) → (H a ≠ none → K.lookup a = none) →
      codeAny (model P w) callerA (.call (.ref fa) ⟨[.ref a], []⟩) (fun r s' => r = .ok (.ret (.bool true)) ∧ OldK s₁.heap s'.heap ∧ s'.os = s₁.os ∧ AllBare s'.gens) s₁ := fun H only sq hs hok only_a outK => by
    have seen : ∀ {b : Addr} {o : Obj} {es : Array DictEntry} {ep : Nat}, s₁.heap.get? b = some o → o.data = .dict es ep → H b = none := fun {b o es ep} e d => by
      cases q : H b with
      | none => rfl
      | some u =>
        have e' : b = a := only_a b (by rw [q]; simp)
        subst e'
        rw [ha] at e
        cases e
        have d' : Data.seq vs.toArray _ = Data.dict es ep := d
        cases d'
    have nsH : ∀ {b : Addr} {m : Str → Option Value}, s₁.heap.Ns b m → (hidT s₁.heap H).Ns b m := fun {b m} ⟨o, es, ep, e, d, r⟩ => ⟨o, es, ep, hidT_get e (seen e d), d, r⟩
    have baseK : K.In (hidT s₁.heap H) := fun b o e => hidT_get (inK b o e) (by
      cases q : H b with
      | none => rfl
      | some u =>
        have e' : b = a := only_a b (by rw [q]; simp)
        subst e'
        rw [outK (by rw [q]; simp)] at e
        cases e)
    have md : Mod K mg (hidT s₁.heap H) := ⟨baseK, nsH hns, ⟨mb, nsH hb, hbb⟩, let ⟨mc, h1, h2⟩ := free; ⟨mc, nsH h1, h2⟩⟩
    have env : Env0 P w K mg (hidT s₁.heap H) callerA [] s₁ H := ⟨rfl, md, fun b o e => of_hidT e, Nat.le_of_eq (hidT_size _ _), trivial, fun b hb => absurd (show b ∈ ([] : List Addr) from hb) (by simp), hok, .of_eq hg⟩
    have spec : SpF K F [.ref a] H fun v _ => v = .bl true := by
      obtain ⟨outs, e⟩ := hF
      refine ⟨fun b => H b ≠ none, [.giv (ns.map PyData.int)], law_rel sq hs, rfl, ?_⟩
      rw [e]
      intro S' v H' fe
      have := fe.ret
      cases this
      rfl
    refine codeAny_mono ((G _ baseK (nsH hns)).run callerA [] s₁ H ⟨[.ref a], []⟩ [.ref a] [.ref a] _ room rfl env (bnd s₁ (.ref a)) (.cons rfl .nil) spec) fun r s' h => ?_
    cases r with
    | error e => exact False.elim h
    | ok fl =>
      cases fl with
      | next => exact False.elim h
      | brk => exact False.elim h
      | cont => exact False.elim h
      | ret u =>
        obtain ⟨v, H', os, bare, un, hok', r', q⟩ := h
        subst q
        obtain rfl : u = Value.bool true := r'
        refine ⟨rfl, OldK.of_keep fun b o e => ?_, os, bare⟩
        cases q : H b with
        | none => exact un.keep b o e q (fun z => absurd (show b ∈ ([] : List Addr) from z) (by simp)) (by simp)
        | some u =>
          rcases only b with z | ⟨ob, xs, z⟩
          · rw [q] at z; cases z
          · have z2 := un.frzs b ob _ z
            obtain ⟨e1, _⟩ := hok b _ z
            obtain ⟨e2, _⟩ := hok' b _ z2
            rw [e] at e1
            cases e1
            exact e2
  cases hk : K.lookup a with
  | some o =>
    have e := inK a o hk
    rw [ha] at e
    cases e
    have sq : ∀ H' : Hp, SqL K H' a (ns.map V.int) := fun H' => .inr ⟨_, vs.toArray, _, hk, rfl, rfl, rfl, by rw [List.size_toArray, hi.length]; exact hl, by simpa using rv⟩
    exact all (fun _ => none) (fun _ => .inl rfl) (sq _) (.inr sq) (fun b u z => by have z' : (none : Option HO) = some u := z; cases z') (fun b z => absurd rfl z) fun z => absurd rfl z
  | none =>
    have at_a : (if a = a then some (HO.frz { cls := .type "list", data := .seq vs.toArray } (.lst (ns.map V.int))) else none) = some (.frz { cls := .type "list", data := .seq vs.toArray } (.lst (ns.map V.int))) := if_pos rfl
    refine all (fun b => if b = a then some (.frz { cls := .type "list", data := .seq vs.toArray } (.lst (ns.map V.int))) else none) (fun b => ?_) (.inl (.inr ⟨_, at_a⟩)) (.inl fun z => by rw [show (if a = a then _ else _) = _ from at_a] at z; cases z) (fun b u z => ?_) (fun b z => ?_) fun _ => hk
    · by_cases hb : b = a
      · exact .inr ⟨_, _, if_pos hb⟩
      · exact .inl (if_neg hb)
    · by_cases hb : b = a
      · have z' := (if_pos hb).symm.trans z
        cases z'
        subst hb
        exact ⟨ha, by rw [List.length_map]; exact hl, vs, _, rv, ha⟩
      · have z' := (if_neg hb).symm.trans z
        cases z'
    · by_cases hb : b = a
      · exact hb
      · exact absurd (if_neg hb) z
/-- the goal behind the head, from the law's meaning -/
theorem walkG {l : PySem.W.OpenLaw} {n k : Nat} {q : Program} {loose : List Str} {XP : (Str → Option Value) → Heap → Prop} {YP : World → Heap → Prop} {d : DefRec} {K : Params → PySem.W.Frag} {F : FSem} {x : Str}
    (hn : l.most = some n) (hn2 : n ≤ sizeLine) (hdf : d.params.defaults = []) (room : Room k callerA) (hY : ∀ (w : World) (h : Heap), YP w h → (K w.params).In h)
    (G : ∀ (w : World) (mg : Str → Option Value) (fa : Addr) (h : Heap), (K w.params).In h → h.Ns mainGlobals mg → mg d.name = some (.ref fa) →
      ∃ fd : FuncData, (∀ (s : Shared) (u : Value), BindsTo s fd ⟨[u], []⟩ [(x, u)]) ∧ ∀ base : Heap, (K w.params).In base → base.Ns mainGlobals mg → FnG l.prog w (K w.params) mg base k fa fd [x] F)
    (hF : ∀ ns : List Int, ns.length ≤ n → ∃ outs, F [.giv (ns.map PyData.int)] = .ret (.val (.bool true)) outs) : PySem.W.WalkO q loose XP YP l.row.toRowW d [] (fun f vs => PySem.call f vs) := by
  refine Att.attach_call hn hdf fun w s₀ s₁ mg mb fa o pm cd doc a vs ns T Y ho hd hcd hmg hobj hints hlen hgen => ?_
  obtain ⟨fd, hb, hG⟩ := G w mg fa _ (hY w _ Y) T.T.g hmg
  exact law_callG (hY w _ Y) T.T.g T.T.b T.T.builtins T.T.nolimit hgen hobj hints (Nat.le_trans hlen hn2) room hG hb (hF ns hlen)
/-! ### what the top has written -/
def Facts (K : PySem.W.Frag) (x : Str) (st : Stmt) : Prop := ∃ (f : Addr) (oc : Value) (od an : Option Addr) (osl : Array (Option Value)) (kV doc pm cdv ct : Value), PySem.W.nsIn K mainGlobals x = some (some (.ref f)) ∧
  K.lookup f = some ⟨oc, od, .func (PySem.W.fnOf x x (defArgs st) (defBody st) (defScope st) .none kV doc pm an cdv ct), osl⟩ ∧ PySem.W.codeIn K cdv x = true ∧ PySem.W.keepIn K (.ref f) = true
theorem facts_mk {K : PySem.W.Frag} {x : Str} {st : Stmt} {f : Addr} {oc : Value} {od an : Option Addr} {osl : Array (Option Value)} {kV doc pm cdv ct : Value} (h1 : PySem.W.nsIn K mainGlobals x = some (some (.ref f)))
    (h2 : K.lookup f = some ⟨oc, od, .func (PySem.W.fnOf x x (defArgs st) (defBody st) (defScope st) .none kV doc pm an cdv ct), osl⟩) (h3 : PySem.W.codeIn K cdv x = true) (h4 : PySem.W.keepIn K (.ref f) = true) : Facts K x st := ⟨f, oc, od, an, osl, kV, doc, pm, cdv, ct, h1, h2, h3, h4⟩
def NoneAll (K : PySem.W.Frag) : List Str → Prop
  | [] => True
  | x :: xs => PySem.W.nsIn K mainGlobals x = some none ∧ NoneAll K xs
section
variable {K : PySem.W.Frag} {h : Heap} {mg : Str → Option Value}
theorem NoneAll.bl (X : K.In h) (G : h.Ns mainGlobals mg) : ∀ {xs : List Str}, NoneAll K xs → ∀ x, xs.contains x = true → mg x = none
  | [], _, x, hx => by simp at hx
  | y :: ys, hn, x, hx => by
    rw [List.contains_cons, Bool.or_eq_true] at hx
    rcases hx with hx | hx
    · have : x = y := by simpa using hx
      subst this
      exact PySem.W.mg_none_of X G hn.1
    · exact NoneAll.bl X G hn.2 x hx
theorem DefOk.of (X : K.In h) (G : h.Ns mainGlobals mg) {d : DefE} (F : Facts K d.name d.st) (Sc : FnScope d.N d.ps (defScope d.st))
    (hk : ∀ (kV doc pm : Value) (an : Option Addr) (cdv ct : Value), ∀ sh ∈ d.shapes, KB K (PySem.W.fnOf d.name d.name (defArgs d.st) (defBody d.st) (defScope d.st) .none kV doc pm an cdv ct) d.ps sh.n sh.ks sh.perm) : DefOk K mg d := by
  obtain ⟨f, oc, od, an, osl, kV, doc, pm, cdv, ct, h1, h2, h3, h4⟩ := F
  exact ⟨f, _, L2.fun_mk (st := d.st) h2 h3 h4, PySem.W.mg_of X G h1, Sc, hk _ _ _ _ _ _⟩
theorem law_of (X : K.In h) (G : h.Ns mainGlobals mg) {d : DefE} (F : Facts K d.name d.st) {fa : Addr} (hfa : mg d.name = some (.ref fa)) {x : Str}
    (hb : ∀ (kV doc pm : Value) (an : Option Addr) (cdv ct : Value) (s : Shared) (u : Value), BindsTo s (PySem.W.fnOf d.name d.name (defArgs d.st) (defBody d.st) (defScope d.st) .none kV doc pm an cdv ct) ⟨[u], []⟩ [(x, u)]) :
    ∃ fd, L2.Fun K d.name d.name d.st fa fd ∧ True ∧ ∀ (s : Shared) (u : Value), BindsTo s fd ⟨[u], []⟩ [(x, u)] := by
  obtain ⟨f, oc, od, an, osl, kV, doc, pm, cdv, ct, h1, h2, h3, h4⟩ := F
  have e := hfa.symm.trans (PySem.W.mg_of X G h1)
  cases e
  exact ⟨_, L2.fun_mk (st := d.st) h2 h3 h4, trivial, hb _ _ _ _ _ _⟩
end
end Ev
namespace Ev
open PySem PySem.Spec PyProof.Rows L2
variable [Gh]
/-! ### defs that call themselves, or one another -/
def noF : FSem := fun _ => .no
def entsG : List DefE → (Nat → FSem) → Nat → List Ent
  | [], _, _ => []
  | d :: ds, G, i => entsOf d (G i) ++ entsG ds G (i + 1)
def recStep (m : Mod0) (tbl : List Ent) (ds : List DefE) (G : Nat → FSem) (i : Nat) : FSem := match ds[i]? with
  | some d => semOf m (tbl ++ entsG ds G 0) d
  | none => noF
def recG (m : Mod0) (tbl : List Ent) (ds : List DefE) : Nat → Nat → FSem
  | 0 => fun _ => noF
  | n + 1 => recStep m tbl ds (recG m tbl ds n)
section
variable {P : Program} {w : World} {K : PySem.W.Frag} {mg : Str → Option Value} {base : Heap}
theorem noF_ok {k : Nat} {f : Addr} {fd : FuncData} {ps : List Str} : FnG P w K mg base k f fd ps noF :=
  ⟨fun _ _ _ h => FOut.noConfusion h, fun _ _ _ _ _ _ _ _ _ _ _ _ _ h => by obtain ⟨_, _, _, _, q⟩ := h; exact q.elim⟩
theorem entsG_mem {t : Ent} : ∀ {ds : List DefE} {G : Nat → FSem} {j : Nat}, t ∈ entsG ds G j → ∃ i d, ds[i]? = some d ∧ t ∈ entsOf d (G (j + i))
  | [], _, _, h => by simp [entsG] at h
  | d :: ds, G, j, h => by
    unfold entsG at h
    rcases List.mem_append.mp h with h | h
    · exact ⟨0, d, rfl, h⟩
    · obtain ⟨i, e, h1, h2⟩ := entsG_mem h
      exact ⟨i + 1, e, by simpa using h1, by rw [show j + (i + 1) = j + 1 + i by omega]; exact h2⟩
theorem recG_ok {m : Mod0} {tbl : List Ent} {ds : List DefE} {k : Nat} (hbl : ∀ x, m.bl.contains x = true → mg x = none) (ht : ∀ t ∈ tbl, EntOk P w K mg base k t) (hd : ∀ d ∈ ds, DefOk K mg d) :
    ∀ n, ∀ t ∈ tbl ++ entsG ds (recG m tbl ds n) 0, EntOk P w K mg base (k + n) t
  | 0, t, h => by
    rcases List.mem_append.mp h with h | h
    · exact ht t h
    · obtain ⟨i, d, h1, h2⟩ := entsG_mem h
      obtain ⟨f, fd, F, hm, Sc, hk⟩ := hd d (List.mem_of_getElem? h1)
      unfold entsOf at h2
      obtain ⟨sh, hs, rfl⟩ := List.mem_map.mp h2
      exact ⟨f, fd, d.ps, noF_ok, hm, F.kp, hk sh hs⟩
  | n + 1, t, h => by
    have ih := recG_ok hbl ht hd n
    rcases List.mem_append.mp h with h | h
    · exact (ht t h).mono (by omega)
    · obtain ⟨i, d, h1, h2⟩ := entsG_mem h
      obtain ⟨f, fd, F, hm, Sc, hk⟩ := hd d (List.mem_of_getElem? h1)
      unfold entsOf at h2
      obtain ⟨sh, hs, rfl⟩ := List.mem_map.mp h2
      have e : recG m tbl ds (n + 1) (0 + i) = semOf m (tbl ++ entsG ds (recG m tbl ds n) 0) d := by
        rw [Nat.zero_add]
        show recStep m tbl ds (recG m tbl ds n) i = _
        unfold recStep
        rw [h1]
      refine ⟨f, fd, d.ps, ?_, hm, F.kp, hk sh hs⟩
      show FnG P w K mg base (k + (n + 1)) f fd d.ps (recG m tbl ds (n + 1) (0 + i))
      rw [e]
      exact def_ok hbl ih F Sc
end
end Ev
namespace Ev
open PySem PySem.Spec PyProof.Rows L2
/-! ### a bag: [great, small, [turn]], drawn from by one def -/
section
variable [Gh]
/-- a def's run, by any reading of its body -/
theorem run_by {P : Program} {w : World} {K : PySem.W.Frag} {mg : Str → Option Value} {base : Heap} {k : Nat} {f : Addr} {x qual : Str} {st : Stmt} {fd : FuncData} {N ps : List Str} {tB : TS} (F : L2.Fun K x qual st f fd) (Sc : FnScope N ps (defScope st))
    (hb : ∀ (cd : Value) (B : Around) (out : List Env) (s : Shared) (H : Hp), Room k (B.deeper (envOfC qual (defScope st) s.heap.objs.size f cd)) → B.guards = some [] →
      PSs (bodyX P w K mg base N qual (defScope st) f cd B out s H) (defBody st) tB)
    {B : Around} {out : List Env} {s : Shared} {H : Hp} {given : Args} {us : List Value} {vs : List V} {Q : VK} (room : Room (k + 1) B) (gd : B.guards = some []) (e0 : Env0 P w K mg base B out s H) (bnd : BindsTo s fd given (ps.zip us)) (rv : Vals vs us)
    (hl : vs.length = ps.length) (fin : tB { nx := fun _ H' => Q .non H', rt := Q } (L2.start N vs) H) : codeAny (model P w) B (.call (.ref f) given) (CR L2.CX0 out P w H s Q L2.E0) s := by
  obtain ⟨oc, od, kV, doc, pm, an, cdv, ct, osl, rfl, lk, hcd⟩ := F.ex
  have inK : K.In s.heap := e0.mod.kin.keeps fun b o z => (e0.bs b o z).1
  have free : s.heap.NoLimit := e0.mod.nolimit.keeps fun b o z => (e0.bs b o z).1
  have kinds : ∀ y ∈ ps.zip us, (defScope st).names.lookup y.1 = some .local ∨ ((defScope st).names.lookup y.1 = some .cell ∧ ((cellsFrom (s.heap.objs.size + 1) (defScope st).names []).lookup y.1).isSome = true) := fun y hy => by
    rcases Sc.par y.1 (List.of_mem_zip (a := y.1) (b := y.2) hy).1 with z | z
    · exact .inl z
    · exact .inr ⟨z, PySem.W.cellsFrom_some _ _ _ (.inl z)⟩
  refine codeAny_call_function room.depth (inK _ _ lk) rfl Sc.co Sc.gen rfl (PySem.W.codeRec_of inK hcd) (bnd _ _ _ _ ?_)
  refine wpAny_newFunctionEnv_cells Sc.kind kinds fun env ee s1 ic => ?_
  subst ee
  refine ⟨free.keeps ic.toInCall.keep, codeAny_func ?_⟩
  have I := inv_start (CX := L2.CX0) (N := N) (qual := qual) (f := f) (cd := cdv) (E := L2.E0) Sc room.hd e0 hl rv ic
  have rd := ((hb cdv B out s H (room.deeper _) gd).nox).run [] s1 (L2.start N vs) H _ I fin
  refine wpAny_mono rd (fun fl s' hs => ?_) fun e s' hs => hs
  cases fl with
  | ret u =>
    obtain ⟨v, σ', H', J, r', q⟩ := hs
    exact ⟨v, H', J.os, J.bare, J.base, J.hok, r', q⟩
  | next =>
    obtain ⟨σ', H', J, q⟩ := hs
    exact ⟨V.non, H', J.os, J.bare, J.base, J.hok, rfl, q⟩
  | brk => obtain ⟨_, _, _, q⟩ := hs; exact q.elim
  | cont => obtain ⟨_, _, _, q⟩ := hs; exact q.elim
/-- a def keeps its promise, by any reading of its body -/
theorem fnG_by {P : Program} {w : World} {K : PySem.W.Frag} {mg : Str → Option Value} {base : Heap} {k : Nat} {f : Addr} {x qual : Str} {st : Stmt} {fd : FuncData} {N ps : List Str} {sem : FSem} {tB : TS} (F : L2.Fun K x qual st f fd) (Sc : FnScope N ps (defScope st))
    (len : ∀ args r outs, sem args = .ret r outs → args.length = ps.length)
    (fin : ∀ vs H Q, SpF K sem vs H Q → tB { nx := fun _ H' => Q .non H', rt := Q } (L2.start N vs) H)
    (hb : ∀ (cd : Value) (B : Around) (out : List Env) (s : Shared) (H : Hp), Room k (B.deeper (envOfC qual (defScope st) s.heap.objs.size f cd)) → B.guards = some [] →
      PSs (bodyX P w K mg base N qual (defScope st) f cd B out s H) (defBody st) tB) :
    FnG P w K mg base (k + 1) f fd ps sem :=
  ⟨len, fun B out s H given us vs Q room gd e0 bnd rv h => run_by F Sc hb room gd e0 bnd rv (h.len len) (fin vs H Q h)⟩
end
def intsB : List D → Option (List Int)
  | [] => some []
  | .int i :: ds => match intsB ds with
    | some is => some (i :: is)
    | none => none
  | _ => none
theorem intsB_eq : ∀ {ds : List D} {is : List Int}, intsB ds = some is → ds = is.map PyData.int
  | [], is, h => by cases h; rfl
  | d :: ds, is, h => by
    cases d <;> simp only [intsB] at h <;> try cases h
    rename_i i
    cases e : intsB ds with
    | none => simp only [e] at h; cases h
    | some js => simp only [e] at h; cases h; rw [intsB_eq e]; rfl
/-- what a draw leaves -/
def pickOut : OutS → FOut
  | .rt (.val r) (_ :: _ :: .lst _ gs :: .lst _ ms :: .lst _ [.int T] :: _) => match intsB gs, intsB ms with
    | some G, some M => .ret (.val r) [.bag G M T, .un]
    | _, _ => .no
  | _ => .no
/-- b, many: great, small, turn = b; then more -/
def pickSem (n : Nat) (body : MS) : FSem
  | [.bag G M T, .dat d] => pickOut (body (.un :: .dat d :: .lst false (G.map PyData.int) :: .lst false (M.map PyData.int) :: .lst false [.int T] :: List.replicate (n - 5) .un))
  | _ => .no
theorem pickOut_ret {o : OutS} {r : Ret} {outs : List Slot} (h : pickOut o = .ret r outs) : ∃ d G M T s0 s1 zg zm zt ρ, o = .rt (.val d) (s0 :: s1 :: .lst zg (G.map PyData.int) :: .lst zm (M.map PyData.int) :: .lst zt [.int T] :: ρ) ∧ r = .val d ∧ outs = [.bag G M T, .un] := by
  unfold pickOut at h
  split at h
  · rename_i d s0 s1 zg gs zm ms zt T ρ
    split at h
    · rename_i G M e1 e2
      cases h
      exact ⟨d, G, M, T, s0, s1, zg, zm, zt, ρ, by rw [intsB_eq e1, intsB_eq e2], rfl, rfl⟩
    · cases h
  · cases h
theorem pickSem_len {n : Nat} {body : MS} {args : List Slot} {r : Ret} {outs : List Slot} (h : pickSem n body args = .ret r outs) : ∃ G M T d, args = [.bag G M T, .dat d] := by
  unfold pickSem at h
  split at h
  · exact ⟨_, _, _, _, rfl⟩
  · cases h
section
variable [Gh] {K : PySem.W.Frag} {mg : Str → Option Value}
theorem rall_ints {H : Hp} {S : AS} : ∀ (G : List Int), RAll K H S (G.map V.int) (G.map PyData.int)
  | [] => .nil
  | n :: G => .cons (.int n) (rall_ints G)
/-- the state behind the unpacking -/
def pickSt (N : List Str) (vs : List V) : L2.St := (((L2.start N vs).set 2 (some (.ref Gh.g))).set 3 (some (.ref Gh.m))).set 4 (some (.ref Gh.t))
theorem pick_rel {N : List Str} {vs : List V} {S : AS} {H : Hp} {G M : List Int} {T : Int} {d : D} (hN : 5 ≤ N.length) (r : Rel K S [.bag G M T, .dat d] (vs.map some) H) :
    ∃ v, vs = [.ref Gh.b, v] ∧ R K H S v d ∧ BagOk S H G M T ∧ Rel K S (.un :: .dat d :: .lst false (G.map PyData.int) :: .lst false (M.map PyData.int) :: .lst false [.int T] :: List.replicate (N.length - 5) .un)
      (some (.ref Gh.b) :: some v :: some (.ref Gh.g) :: some (.ref Gh.m) :: some (.ref Gh.t) :: List.replicate (N.length - 5) none) H := by
  match vs, r with
  | [], r => exact absurd r.len (by simp)
  | [_], r => exact absurd r.len (by simp)
  | _ :: _ :: _ :: _, r => exact absurd r.len (by simp)
  | [u, v], r =>
    have q0 := r.slot 0 _ rfl
    have q1 : R K H S v d := r.slot 1 _ rfl
    have bo := q0.bag
    have eu : u = .ref Gh.b := by
      obtain ⟨a, o, e, _⟩ := q0.own_adr (z := false) rfl
      have e' : u = .ref a := by simpa using e
      subst e'
      have q0' : a = Gh.b ∧ BagOk S H G M T := q0
      rw [q0'.1]
    subst eu
    refine ⟨v, rfl, q1, bo, ⟨by simp, fun i s h => ?_, fun i j s t y z a h1 h2 h3 h4 h5 h6 => ?_, r.live⟩⟩
    · match i, h with
      | 0, h => cases h; exact trivial
      | 1, h => cases h; exact q1
      | 2, h => cases h; exact ⟨_, bo.g, bo.ng, rall_ints _⟩
      | 3, h => cases h; exact ⟨_, bo.m, bo.nm, rall_ints _⟩
      | 4, h => cases h; exact ⟨_, bo.t, bo.nt, .cons (.int T) .nil⟩
      | i + 5, h =>
        have : s = .un := by
          simp only [List.getElem?_cons_succ, List.getElem?_replicate] at h
          split at h <;> cases h
          rfl
        subst this
        exact trivial
    · have at_ : ∀ {i : Nat} {s : Slot} {y : Bool} {a : Addr}, (Slot.un :: .dat d :: .lst false (G.map PyData.int) :: .lst false (M.map PyData.int) :: .lst false [.int T] :: List.replicate (N.length - 5) .un)[i]? = some s → s.own? = some y →
          Ter (some (.ref Gh.b) :: some v :: some (.ref Gh.g) :: some (.ref Gh.m) :: some (.ref Gh.t) :: List.replicate (N.length - 5) none) i s a → (i = 2 ∧ a = Gh.g) ∨ (i = 3 ∧ a = Gh.m) ∨ (i = 4 ∧ a = Gh.t) := fun {i s y a} h1 h2 h3 => by
        match i, h1 with
        | 0, h1 => cases h1; cases h2
        | 1, h1 => cases h1; cases h2
        | 2, h1 => cases h1; have := adr_get ((ter_plain rfl).mp h3); cases this; exact .inl ⟨rfl, rfl⟩
        | 3, h1 => cases h1; have := adr_get ((ter_plain rfl).mp h3); cases this; exact .inr (.inl ⟨rfl, rfl⟩)
        | 4, h1 => cases h1; have := adr_get ((ter_plain rfl).mp h3); cases this; exact .inr (.inr ⟨rfl, rfl⟩)
        | i + 5, h1 =>
          simp only [List.getElem?_cons_succ, List.getElem?_replicate] at h1
          split at h1 <;> cases h1
          cases h2
      rcases at_ h1 h3 h5 with ⟨rfl, e1⟩ | ⟨rfl, e1⟩ | ⟨rfl, e1⟩ <;> rcases at_ h2 h4 h6 with ⟨rfl, e2⟩ | ⟨rfl, e2⟩ | ⟨rfl, e2⟩ <;> first | rfl | skip
      · exact absurd (e1.symm.trans e2) Gh.gm
      · exact absurd (e1.symm.trans e2) Gh.gt
      · exact absurd (e2.symm.trans e1) Gh.gm
      · exact absurd (e1.symm.trans e2) Gh.mt
      · exact absurd (e2.symm.trans e1) Gh.gt
      · exact absurd (e2.symm.trans e1) Gh.mt
def tUnp (K : PySem.W.Frag) (f : TS) : TS := tSeq (tAsg (tVar 0) (gLst K 3 (gCons (gName 2) (gCons (gName 3) (gCons (gName 4) gNil))))) f
theorem pick_fin {N : List Str} {body : MS} {vs : List V} {H : Hp} {Q : VK} (hN : 5 ≤ N.length) (h : SpF K (pickSem N.length body) vs H Q) :
    tUnp K (tSt K mg (fun _ _ _ _ => False) body) { nx := fun _ H' => Q .non H', rt := Q } (L2.start N vs) H := by
  obtain ⟨S, args, r, hin, q⟩ := h
  cases ef : pickSem N.length body args with
  | no => rw [ef] at q; exact q.elim
  | ret r0 outs =>
    rw [ef] at q
    obtain ⟨G, M, T, d, rfl⟩ := pickSem_len ef
    obtain ⟨v, rfl, hv, bo, r1⟩ := pick_rel hN r
    have es : L2.start N [V.ref Gh.b, v] = some (.ref Gh.b) :: some v :: none :: none :: none :: List.replicate (N.length - 5) none := by
      unfold L2.start
      obtain ⟨n, hn⟩ : ∃ n, N.length = n + 5 := ⟨N.length - 5, by omega⟩
      simp [hn, List.replicate_succ]
    rw [es]
    refine ⟨.ref Gh.b, rfl, Gh.b, _, rfl, .inl (.inl bo.b), rfl, _, _, rfl, _, _, rfl, _, _, rfl, rfl, ?_⟩
    show tSt K mg (fun _ _ _ _ => False) body { nx := fun _ H' => Q .non H', rt := Q } (some (.ref Gh.b) :: some v :: some (.ref Gh.g) :: some (.ref Gh.m) :: some (.ref Gh.t) :: List.replicate (N.length - 5) none) H
    refine ⟨S, _, r1, ?_⟩
    obtain ⟨d', G', M', T', s0, s1, zg, zm, zt, ρ', eo, rfl, rfl⟩ := pickOut_ret ef
    rw [eo]
    intro S' σ' H' u st r' hr hn
    have at2 := st.ino 2 _ rfl rfl
    have at3 := st.ino 3 _ rfl rfl
    have at4 := st.ino 4 _ rfl rfl
    have a2 : adr σ' 2 = some Gh.g := by obtain ⟨_, _, _, _, e⟩ := at2; rw [e]; rfl
    have a3 : adr σ' 3 = some Gh.m := by obtain ⟨_, _, _, _, e⟩ := at3; rw [e]; rfl
    have a4 : adr σ' 4 = some Gh.t := by obtain ⟨_, _, _, _, e⟩ := at4; rw [e]; rfl
    have sl2 := r'.slot 2 _ rfl
    have sl3 := r'.slot 3 _ rfl
    have sl4 := r'.slot 4 _ rfl
    rw [adr_join a2] at sl2
    rw [adr_join a3] at sl3
    rw [adr_join a4] at sl4
    obtain ⟨xg, g1, g2, g3⟩ := sl2
    obtain ⟨xm, m1, m2, m3⟩ := sl3
    obtain ⟨xt, t1, t2, t3⟩ := sl4
    have ownIn : ∀ {a : Addr}, Own (.un :: .dat d :: .lst false (G.map PyData.int) :: .lst false (M.map PyData.int) :: .lst false [.int T] :: List.replicate (N.length - 5) .un)
        (some (.ref Gh.b) :: some v :: some (.ref Gh.g) :: some (.ref Gh.m) :: some (.ref Gh.t) :: List.replicate (N.length - 5) none) a → InBag a := fun {a} ⟨i, s, z, h1, h2, h3⟩ => by
      match i, h1 with
      | 0, h1 => cases h1; cases h2
      | 1, h1 => cases h1; cases h2
      | 2, h1 => cases h1; have := adr_get ((ter_plain rfl).mp h3); cases this; exact .inl rfl
      | 3, h1 => cases h1; have := adr_get ((ter_plain rfl).mp h3); cases this; exact .inr (.inl rfl)
      | 4, h1 => cases h1; have := adr_get ((ter_plain rfl).mp h3); cases this; exact .inr (.inr rfl)
      | i + 5, h1 =>
        simp only [List.getElem?_cons_succ, List.getElem?_replicate] at h1
        split at h1 <;> cases h1
        cases h2
    have noZ : ∀ {a : Addr}, ¬ OwnZ (.un :: .dat d :: .lst false (G.map PyData.int) :: .lst false (M.map PyData.int) :: .lst false [.int T] :: List.replicate (N.length - 5) .un)
        (some (.ref Gh.b) :: some v :: some (.ref Gh.g) :: some (.ref Gh.m) :: some (.ref Gh.t) :: List.replicate (N.length - 5) none) a := fun {a} ⟨i, s, h1, h2, h3⟩ => by
      match i, h1 with
      | 0, h1 => cases h1; cases h2
      | 1, h1 => cases h1; cases h2
      | 2, h1 => cases h1; cases h2
      | 3, h1 => cases h1; cases h2
      | 4, h1 => cases h1; cases h2
      | i + 5, h1 =>
        simp only [List.getElem?_cons_succ, List.getElem?_replicate] at h1
        split at h1 <;> cases h1
        cases h2
    have new : ∀ a, S' a → S a ∨ H a = none := fun a h => by
      rcases st.new a h with z | z | z
      · exact .inl z
      · exact .inr z
      · exact absurd z noZ
    have hb : H' Gh.b = some (.lst [.ref Gh.g, .ref Gh.m, .ref Gh.t]) := st.frame _ _ bo.b fun z => by
      rcases ownIn z with e | e | e
      · exact Gh.bg e
      · exact Gh.bm e
      · exact Gh.bt e
    have nb : ¬ S' Gh.b := fun z => by
      rcases new _ z with z | z
      · exact bo.nb z
      · rw [bo.b] at z; cases z
    have bo' : BagOk S' H' G' M' T' := by
      refine ⟨hb, ?_, ?_, ?_, nb, g2, m2, t2⟩
      · rw [g1, RAll.ints _ g3]
      · rw [m1, RAll.ints _ m3]
      · have := RAll.ints [T'] t3
        rw [t1, this]; rfl
    refine q S' u H' ⟨st.sub, st.at_, fun a o h n => st.frame a o h fun z => n ⟨0, _, false, rfl, rfl, .inr ⟨rfl, ownIn z⟩⟩, st.there, new, ⟨rfl, fun i s h => ?_, fun i j s t y z a h1 h2 h3 h4 h5 h6 => ?_, r'.live⟩, fun i s h1 h2 => ?_, hr, trivial⟩
    · match i, h with
      | 0, h => cases h; exact ⟨rfl, bo'⟩
      | 1, h => cases h; exact trivial
      | i + 2, h => cases h
    · have z0 : ∀ {i : Nat} {s : Slot} {y : Bool}, [Slot.bag G' M' T', Slot.un][i]? = some s → s.own? = some y → i = 0 := fun {i s y} h1 h2 => by
        match i, h1 with
        | 0, _ => rfl
        | 1, h1 => cases h1; cases h2
        | i + 2, h1 => cases h1
      rw [z0 h1 h3, z0 h2 h4]
    · match i, h1 with
      | 0, h1 => cases h1; exact ⟨_, rfl, rfl, rfl⟩
      | 1, h1 => cases h1; cases h2
      | i + 2, h1 => cases h1
end
/-- the meaning of a def that begins with «great, small, turn = bag» -/
def pickOf (m : Mod0) (tbl : List Ent) (d : DefE) : FSem := match defBody d.st with
  | .Assign [.Tuple [.Name x _, .Name y _, .Name z _] _ _] (.Name b _) _ :: rest =>
    if lix (ctxOf m tbl d) x = some 2 ∧ lix (ctxOf m tbl d) y = some 3 ∧ lix (ctxOf m tbl d) z = some 4 ∧ vix (ctxOf m tbl d) b = some 0 ∧ d.ps.length = 2 ∧ 5 ≤ d.N.length then
      pickSem d.N.length (evS (rc 40) (ctxOf m tbl d) 12 rest) else noF
  | _ => noF
section
variable [Gh] {P : Program} {w : World} {K : PySem.W.Frag} {mg : Str → Option Value} {base : Heap}
theorem good_of {m : Mod0} {tbl : List Ent} {d : DefE} {k : Nat} (hbl : ∀ x, m.bl.contains x = true → mg x = none) (ht : ∀ t ∈ tbl, EntOk P w K mg base k t) (Sc : FnScope d.N d.ps (defScope d.st)) {f : Addr} {cd : Value} {B : Around} {out : List Env} {s : Shared} {H : Hp}
    (room : Room k (B.deeper (envOfC d.name (defScope d.st) s.heap.objs.size f cd))) (gd : B.guards = some []) : GoodS (bodyX P w K mg base d.N d.name (defScope d.st) f cd B out s H) (ctxOf m tbl d) := by
  refine ⟨⟨rfl, Sc.nd, rfl, rfl, fun x _ _ => rfl, room.units, Nat.lt_of_le_of_lt (Nat.add_le_add_left (by omega : 65 ≤ 16 * k + 200) _) (by have := room.un; rw [Nat.add_assoc] at this; exact this), gd, hbl, fun x n ks cs h => ?_⟩, Sc.kind, PassesOwn.never⟩
  obtain ⟨f', fd', ps', g1, g2, g3, g4⟩ := findE_ok ht h
  exact ⟨⟨k, f', fd', ps', g1, room, g2, g3, g4⟩, gd⟩
theorem pick_ok {m : Mod0} {tbl : List Ent} {d : DefE} {k : Nat} (hbl : ∀ x, m.bl.contains x = true → mg x = none) (ht : ∀ t ∈ tbl, EntOk P w K mg base k t) {f : Addr} {fd : FuncData} (F : L2.Fun K d.name d.name d.st f fd) (Sc : FnScope d.N d.ps (defScope d.st)) :
    FnG P w K mg base (k + 1) f fd d.ps (pickOf m tbl d) := by
  unfold pickOf
  split
  · rename_i x px y py z pz kt pt b pb pos rest hb
    split
    · rename_i hc
      obtain ⟨h2, h3, h4, h0, hps, hN⟩ := hc
      refine fnG_by (mg := mg) F Sc (fun args r outs h => by obtain ⟨_, _, _, _, rfl⟩ := pickSem_len h; exact hps.symm) (fun vs H Q h => pick_fin (mg := mg) hN h) fun cd B out s H room gd => ?_
      have g := good_of (m := m) (tbl := tbl) (f := f) (cd := cd) (out := out) (s := s) (H := H) hbl ht Sc room gd
      rw [hb]
      obtain ⟨x1, x2, x3⟩ := lix_ok g.toGood h2
      obtain ⟨y1, y2, y3⟩ := lix_ok g.toGood h3
      obtain ⟨z1, z2, z3⟩ := lix_ok g.toGood h4
      exact pss_cons (ps_asg (vix_ok g.toGood h0) (pg_lst rfl (pgs_cons (pg_name g.nd x1 x2 x3) (pgs_cons (pg_name g.nd y1 y2 y3) (pgs_cons (pg_name g.nd z1 z2 z3) pgs_nil rfl) rfl) rfl) rfl rfl) rfl (tup_none rfl) rfl) (evS_ok (rc_ok 40) g _ 12 rest)
    · exact noF_ok
  · exact noF_ok
theorem pents_ok {m : Mod0} {tbl : List Ent} {d : DefE} {k : Nat} (hbl : ∀ x, m.bl.contains x = true → mg x = none) (ht : ∀ t ∈ tbl, EntOk P w K mg base k t) (hd : DefOk K mg d) : ∀ t ∈ tbl ++ entsOf d (pickOf m tbl d), EntOk P w K mg base (k + 1) t := by
  obtain ⟨f, fd, F, hm, Sc, hk⟩ := hd
  intro t h
  rcases List.mem_append.mp h with h | h
  · exact (ht t h).mono (Nat.le_succ k)
  · unfold entsOf at h
    obtain ⟨sh, hs, rfl⟩ := List.mem_map.mp h
    exact ⟨f, fd, d.ps, pick_ok hbl ht F Sc, hm, F.kp, hk sh hs⟩
end
/-! ### the def that makes the bag, and the law's first statement -/
def splitL : List Stmt → Option (List Stmt × Expr)
  | [] => none
  | st :: sts => match splitL sts with
    | some (i, e) => some (st :: i, e)
    | none => match st, sts with
      | .Return (some e) _, [] => some ([], e)
      | _, _ => none
section
variable [Gh]
def tInit (K : PySem.W.Frag) (mg : Str → Option Value) (r : Rc) (c : Ctx) (S : List Stmt → MS) (te : TE) : List Stmt → TS
  | [] => tRet te
  | st :: i => tSeq (tSt K mg (fun _ _ _ _ => False) (stX r c S st)) (tInit K mg r c S te i)
theorem split_ok {X : Cx} {c : Ctx} {r : Rc} (k : OkR r) (g : GoodS X c) {S : List Stmt → MS} (hS : ∀ sts, PSs X sts (tSt X.K X.mg (fun _ _ _ _ => False) (S sts))) {e : Expr} {te : TE} (he : PE X e te) : ∀ {sts i : List Stmt}, splitL sts = some (i, e) → PSs X sts (tInit X.K X.mg r c S te i)
  | [], _, h => by cases h
  | st :: sts, i, h => by
    unfold splitL at h
    cases e1 : splitL sts with
    | some q =>
      obtain ⟨i', e'⟩ := q
      simp only [e1] at h
      cases h
      exact pss_cons (stX_ok k g _ hS st) (split_ok k g hS he e1)
    | none =>
      simp only [e1] at h
      split at h
      · cases h
        exact pss_one (ps_ret he)
      · cases h
theorem init_fwd {K : PySem.W.Frag} {mg : Str → Option Value} {r : Rc} {c : Ctx} {S0 : List Stmt → MS} {te : TE} {D : Ends} : ∀ {i : List Stmt} {S : AS} {ρ ρ3 : Rho} {σ : L2.St} {H : Hp}, Rel K S ρ σ H → blS r c S0 i ρ = .nx ρ3 →
    (∀ S' σ' H', Step S ρ σ H S' ρ3 σ' H' → Rel K S' ρ3 σ' H' → te σ' H' D.rt) → tInit K mg r c S0 te i D σ H
  | [], S, ρ, ρ3, σ, H, rel, h, f => by cases h; exact f S σ H .refl rel
  | st :: i, S, ρ, ρ3, σ, H, rel, h, f => by
    refine ⟨S, ρ, rel, ?_⟩
    have h : (match stX r c S0 st ρ with | .nx ρ' => blS r c S0 i ρ' | o => o) = .nx ρ3 := h
    cases e : stX r c S0 st ρ with
    | nx ρ1 =>
      rw [e] at h
      exact fun S1 σ1 H1 st1 r1 => init_fwd r1 h fun S' σ' H' st2 r2 => f S' σ' H' (st1.trans st2) r2
    | bk ρ1 => rw [e] at h; cases h
    | ct ρ1 => rw [e] at h; cases h
    | rt q ρ1 => rw [e] at h; cases h
    | exn q ρ1 => rw [e] at h; cases h
    | no => rw [e] at h; cases h
/-- the promise: a new bag of what B says -/
def SpB (K : PySem.W.Frag) (B : List Int → Option (List Int × List Int)) (vs : List V) (H : Hp) (Q : VK) : Prop :=
  ∃ S ns G M, Rel K S [.giv (ns.map PyData.int)] (vs.map some) H ∧ B ns = some (G, M) ∧ ∀ b g m t H', b ≠ g → b ≠ m → b ≠ t → g ≠ m → g ≠ t → m ≠ t → H b = none → H g = none → H m = none → H t = none →
    H' b = some (.lst [.ref g, .ref m, .ref t]) → H' g = some (.lst (G.map V.int)) → H' m = some (.lst (M.map V.int)) → H' t = some (.lst [.int 0]) → (∀ a o, H a = some o → H' a = some o) → Q (.ref b) H'
structure FnB (P : Program) (w : World) (K : PySem.W.Frag) (mg : Str → Option Value) (base : Heap) (k : Nat) (f : Addr) (fd : FuncData) (ps : List Str) (B : List Int → Option (List Int × List Int)) : Prop where
  run : ∀ (A : Around) (out : List Env) (s : Shared) (H : Hp) (given : Args) (us : List Value) (vs : List V) (Q : VK), Room k A → A.guards = some [] → Env0 P w K mg base A out s H → BindsTo s fd given (ps.zip us) → Vals vs us →
    SpB K B vs H Q → codeAny (model P w) A (.call (.ref f) given) (CR L2.CX0 out P w H s Q L2.E0) s
theorem FnB.mono {P : Program} {w : World} {K : PySem.W.Frag} {mg : Str → Option Value} {base : Heap} {j k : Nat} {f : Addr} {fd : FuncData} {ps : List Str} {B : List Int → Option (List Int × List Int)} (G : FnB P w K mg base j f fd ps B) (h : j ≤ k) : FnB P w K mg base k f fd ps B :=
  ⟨fun A out s H given us vs Q hr => G.run A out s H given us vs Q (hr.mono h)⟩
end
/-- what a def «..; return [great, [..], [0]]» makes -/
def bagS (n j : Nat) (ini : MS) (te2 te3 : M Ret) (ns : List Int) : Option (List Int × List Int) := match ini (.giv (ns.map PyData.int) :: List.replicate (n - 1) .un) with
  | .nx ρ3 => match ρ3[j]? with
    | some (.lst true gs) => match te2 ρ3 with
      | .ok (.fl ms) ρ4 => match ρ4[j]? with
        | some (.lst true gs4) => match te3 ρ4 with
          | .ok (.fl [.int 0]) ρ5 => match ρ5[j]? with
            | some (.lst true gs5) => match intsB gs5, intsB ms with
              | some G, some M => some (G, M)
              | _, _ => none
            | _ => none
          | _ => none
        | _ => none
      | _ => none
    | _ => none
  | _ => none
theorem bagS_some {n j : Nat} {ini : MS} {te2 te3 : M Ret} {ns : List Int} {G M : List Int} (h : bagS n j ini te2 te3 ns = some (G, M)) : ∃ ρ3 gs ms ρ4 gs4 ρ5 gs5, ini (.giv (ns.map PyData.int) :: List.replicate (n - 1) .un) = .nx ρ3 ∧ ρ3[j]? = some (.lst true gs) ∧
    te2 ρ3 = .ok (.fl ms) ρ4 ∧ ρ4[j]? = some (.lst true gs4) ∧ te3 ρ4 = .ok (.fl [.int 0]) ρ5 ∧ ρ5[j]? = some (.lst true gs5) ∧ intsB gs5 = some G ∧ intsB ms = some M := by
  unfold bagS at h
  split at h
  case h_2 => cases h
  rename_i ρ3 h1
  split at h
  case h_2 => cases h
  rename_i gs h2
  split at h
  case h_2 => cases h
  rename_i ms ρ4 h3
  split at h
  case h_2 => cases h
  rename_i gs4 h4
  split at h
  case h_2 => cases h
  rename_i ρ5 h5
  split at h
  case h_2 => cases h
  rename_i gs5 h6
  split at h
  case h_2 => cases h
  rename_i G' M' g1 g2
  cases h
  exact ⟨ρ3, gs, ms, ρ4, gs4, ρ5, gs5, h1, h2, h3, h4, h5, h6, g1, g2⟩
def bagOf (m : Mod0) (tbl : List Ent) (d : DefE) (ns : List Int) : Option (List Int × List Int) :=
  if d.ps.length = 1 ∧ 1 ≤ d.N.length then match splitL (defBody d.st) with
  | some (i, .List [.Name x _, e2, e3] _) => if notStar e2 = true ∧ notStar e3 = true then match vix (ctxOf m tbl d) x with
    | some j => bagS d.N.length j (blS (rc 40) (ctxOf m tbl d) (evS (rc 40) (ctxOf m tbl d) 11) i) ((rc 40).E (ctxOf m tbl d) e2) ((rc 40).E (ctxOf m tbl d) e3) ns
    | none => none
    else none
  | _ => none
  else none
section
variable [Gh] {P : Program} {w : World} {K : PySem.W.Frag} {mg : Str → Option Value} {base : Heap}
theorem bag_fin {c : Ctx} {N : List Str} {ns G M : List Int} {te2 te3 : Ev.M Ret} {i : List Stmt} {j : Nat} {ρ3 ρ4 ρ5 : Rho} {gs gs4 : List D} {S : AS} {v : V} {H : Hp} {Q : VK} (hN : 1 ≤ N.length)
    (r : Rel K S [.giv (ns.map PyData.int)] [some v] H) (h1 : blS (rc 40) c (evS (rc 40) c 11) i (.giv (ns.map PyData.int) :: List.replicate (N.length - 1) .un) = .nx ρ3) (h2 : ρ3[j]? = some (.lst true gs)) (h3 : te2 ρ3 = .ok (.fl (M.map PyData.int)) ρ4) (h4 : ρ4[j]? = some (.lst true gs4))
    (h5 : te3 ρ4 = .ok (.fl [.int 0]) ρ5) (h6 : ρ5[j]? = some (.lst true (G.map PyData.int)))
    (q : ∀ b g m t H', b ≠ g → b ≠ m → b ≠ t → g ≠ m → g ≠ t → m ≠ t → H b = none → H g = none → H m = none → H t = none →
      H' b = some (.lst [.ref g, .ref m, .ref t]) → H' g = some (.lst (G.map V.int)) → H' m = some (.lst (M.map V.int)) → H' t = some (.lst [.int 0]) → (∀ a o, H a = some o → H' a = some o) → Q (.ref b) H') :
    tInit K mg (rc 40) c (evS (rc 40) c 11) (tLst (tCons (tVar j) (tCons (tS K mg (fun _ _ _ _ => False) te2) (tCons (tS K mg (fun _ _ _ _ => False) te3) tNil)))) i { nx := fun _ H' => Q .non H', rt := Q } (L2.start N [v]) H := by
  obtain ⟨r0, hO⟩ := Rel.entry (vs := [v]) (n := N.length - 1) r
  have es : L2.start N [v] = [some v] ++ List.replicate (N.length - 1) none := rfl
  rw [es]
  have own0 : ∀ a, ¬ Own ([.giv (ns.map PyData.int)] ++ List.replicate (N.length - 1) .un) ([some v] ++ List.replicate (N.length - 1) none) a := fun a z => by
    obtain ⟨i, s, z, g1, g2, g3⟩ := (hO a).mp z
    match i, g1 with
    | 0, g1 => cases g1; cases g2
    | i + 1, g1 => cases g1
  refine init_fwd r0 h1 fun S3 σ3 H3 st3 r3 => ?_
  have sl := r3.slot j _ h2
  obtain ⟨g, o, e1, e2, e3, e4⟩ := sl.own_adr (z := true) rfl
  have ag := join_adr e1
  have og : OwnZ ρ3 σ3 g := ⟨j, _, h2, rfl, ag⟩
  refine ⟨.ref g, adr_get ag, S3, ρ3, r3, ?_⟩
  rw [h3]
  intro S4 H4 st4 r4 v4 hv4 hn4
  obtain ⟨m, ms', rfl, m1, m2, m3, m4⟩ := hv4
  refine ⟨S4, ρ4, r4, ?_⟩
  rw [h5]
  intro S5 H5 st5 r5 v5 hv5 hn5
  obtain ⟨t, ts', rfl, t1, t2, t3, t4⟩ := hv5
  refine ⟨by show 3 ≤ sizeLine; decide, fun b hb => ?_⟩
  have as5 := (show Aside S4 ρ4 σ3 H4 m _ from ⟨m1, m2, m4⟩).step st5
  have og5 : Own ρ5 σ3 g := ⟨j, _, true, h6, rfl, .inl ag⟩
  have og4 : Own ρ4 σ3 g := ⟨j, _, true, h4, rfl, .inl ag⟩
  have sl5 := r5.slot j _ h6
  rw [e1] at sl5
  obtain ⟨gv, g1, g2, g3⟩ := sl5
  have noneB : ∀ {a : Addr} {S' : AS} {ρ' : Rho} {σ' : L2.St} {H' : Hp}, Step S ([.giv (ns.map PyData.int)] ++ List.replicate (N.length - 1) .un) ([some v] ++ List.replicate (N.length - 1) none) H S' ρ' σ' H' → H' a = none → H a = none := fun {a S' ρ' σ' H'} st h => by
    cases e : H a with
    | none => rfl
    | some o => obtain ⟨o', e'⟩ := st.there a o e; rw [h] at e'; cases e'
  have hg0 : H g = none := (st3.ownZ g og).resolve_left fun z => own0 g z.own
  have hm0 : H m = none := by
    rcases hn4 m rfl with z | z
    · exact noneB st3 z
    · exact (st3.ownZ m z).resolve_left fun z => own0 m z.own
  have ht0 : H t = none := by
    rcases hn5 t rfl with z | z
    · exact noneB (st3.trans st4) z
    · exact ((st3.trans st4).ownZ t z).resolve_left fun z => own0 t z.own
  have hb0 : H b = none := noneB ((st3.trans st4).trans st5) hb
  have ne : ∀ {a : Addr} {o : HO}, H5 a = some o → b ≠ a := fun {a o} h e => by subst e; rw [hb] at h; cases h
  have gm : g ≠ m := fun e => m4 (e ▸ og4)
  have gt : g ≠ t := fun e => t4 (e ▸ og5)
  have mt : m ≠ t := fun e => by
    rcases hn5 t rfl with z | z
    · rw [← e, m1] at z; cases z
    · exact m4 (e ▸ z.own)
  refine q b g m t _ (ne g1) (ne as5.at_) (ne t1) gm gt mt hb0 hg0 hm0 ht0 upd_same ?_ ?_ ?_ fun a o h => ?_
  · rw [upd_ne (ne g1).symm, g1, RAll.ints _ g3]
  · rw [upd_ne (ne as5.at_).symm, as5.at_, RAll.ints _ m3]
  · rw [upd_ne (ne t1).symm, t1, RAll.ints [0] t3]; rfl
  · have h5 := ((st3.trans st4).trans st5).frame a o h (own0 a)
    rw [upd_ne (ne h5).symm]
    exact h5
theorem bag_ok {m : Mod0} {tbl : List Ent} {d : DefE} {k : Nat} (hbl : ∀ x, m.bl.contains x = true → mg x = none) (ht : ∀ t ∈ tbl, EntOk P w K mg base k t) {f : Addr} {fd : FuncData} (F : L2.Fun K d.name d.name d.st f fd) (Sc : FnScope d.N d.ps (defScope d.st)) :
    FnB P w K mg base (k + 1) f fd d.ps (bagOf m tbl d) := by
  refine ⟨fun A out s H given us vs Q room gd e0 bnd rv ⟨S, ns, G, M, rel, hB, q⟩ => ?_⟩
  unfold bagOf at hB
  split at hB
  case isFalse => cases hB
  rename_i hc
  split at hB
  case h_2 => cases hB
  rename_i i x px e2 e3 pl hsp
  split at hB
  case isFalse => cases hB
  rename_i hns
  split at hB
  case h_2 => cases hB
  rename_i j hj
  obtain ⟨ρ3, gs, ms, ρ4, gs4, ρ5, gs5, h1, h2, h3, h4, h5, h6, g1, g2⟩ := bagS_some hB
  rw [intsB_eq g1] at h6
  rw [intsB_eq g2] at h3
  have hl : vs.length = 1 := by have := rel.len; simpa using this.symm
  match vs, hl with
  | [v], _ =>
  refine run_by (mg := mg) F Sc (tB := tInit K mg (rc 40) (ctxOf m tbl d) (evS (rc 40) (ctxOf m tbl d) 11) (tLst (tCons (tVar j) (tCons (tS K mg (fun _ _ _ _ => False) ((rc 40).E (ctxOf m tbl d) e2)) (tCons (tS K mg (fun _ _ _ _ => False) ((rc 40).E (ctxOf m tbl d) e3)) tNil)))) i)
    (fun cd B out s H room gd => ?_) room gd e0 bnd rv hc.1.symm (bag_fin hc.2 rel h1 h2 h3 h4 h5 h6 q)
  have g := good_of (m := m) (tbl := tbl) (f := f) (cd := cd) (out := out) (s := s) (H := H) hbl ht Sc room gd
  exact split_ok (rc_ok 40) g (evS_ok (rc_ok 40) g _ 11) (pe_lst (pa_cons (vix_ok g.toGood hj) (pa_cons ((rc_ok 40).E g.toGood _ e2) (pa_cons ((rc_ok 40).E g.toGood _ e3) pa_nil (star_cons hns.2)) (star_cons hns.1)) rfl)) hsp
/-- the law's call of it -/
def tCallB (K : PySem.W.Frag) (B : List Int → Option (List Int × List Int)) (i : Nat) : TE := fun σ H Q => ∃ v, σ[i]? = some (some v) ∧ SpB K B [v] H Q
theorem pe_callB {X : Cx} {k : Nat} {f : Addr} {fd : FuncData} {ps : List Str} {B : List Int → Option (List Int × List Int)} {x : Str} {e : Expr} {p pos : Pos} {i : Nat} (G : FnB X.prog X.w X.K X.mg X.base k f fd ps B) (hr : Room k X.A) (hgd : X.A.guards = some []) (hg : Gl X x) (hm : X.mg x = some (.ref f)) (hk : PySem.W.keepIn X.K (.ref f) = true)
    (hb : KB X.K fd ps 1 [] [0]) (ha : PE X e (tVar i)) (hns : notStar e = true) (hdb : (x == ("__debug__" : Str)) = false) : PE X (.Call (.Name x p) [e] [] pos) (tCallB X.K B i) := by
  refine ⟨fun pins s σ H Q I ⟨v, hv, q⟩ => ?_⟩
  refine wpAny_Call_Name_kw (ld_glob I hg hm ?_ hdb)
  refine PySem.W.callWith_K (h₀ := X.base) I.ok.mod.kin hk (thn ((pa_cons ha pa_nil (star_cons hns)).run pos pins s σ H (fun vs H1 => vs = [v] ∧ H1 = H) I ⟨v, hv, rfl, rfl⟩) fun us s1 ⟨vs, H1, I1, r, e1, e2⟩ => ⟨I1.kIn, ?_⟩) (star_cons hns) rfl
  subst e1
  subst e2
  have hl : us.length = 1 := by rw [← r.length]; rfl
  match us, hl, r with
  | [u], _, r =>
  have hbb := hb s1 [u] [] I1.kIn rfl rfl
  refine wpAny_call (codeAny_mono (G.run X.A X.stack s1 _ ⟨[u], []⟩ [u] [v] Q hr hgd I1.env0 hbb r q) fun res s' hq => ?_)
  cases res with
  | error er => exact False.elim hq
  | ok fl =>
    cases fl with
    | ret u => exact I1.after hq
    | next => exact False.elim hq
    | brk => exact False.elim hq
    | cont => exact False.elim hq
end
/-- the meaning of a law that begins with «bag = maker(script)» -/
def lawOut : OutS → FOut
  | .rt (.val r) _ => .ret (.val r) [.un]
  | _ => .no
def lawBagS (n : Nat) (B : List Int → Option (List Int × List Int)) (body : MS) : FSem
  | [.giv ds] => match intsB ds with
    | some ns => match B ns with
      | some (G, M) => lawOut (body (.giv (ns.map PyData.int) :: .bag G M 0 :: List.replicate (n - 2) .un))
      | none => .no
    | none => .no
  | _ => .no
theorem lawOut_ret {o : OutS} {r : Ret} {outs : List Slot} (h : lawOut o = .ret r outs) : ∃ d ρ, o = .rt (.val d) ρ ∧ r = .val d ∧ outs = [.un] := by
  unfold lawOut at h
  split at h
  · cases h; exact ⟨_, _, rfl, rfl, rfl⟩
  · cases h
theorem lawBagS_ret {n : Nat} {B : List Int → Option (List Int × List Int)} {body : MS} {args : List Slot} {r : Ret} {outs : List Slot} (h : lawBagS n B body args = .ret r outs) : ∃ ds ns G M d ρ, args = [.giv ds] ∧ intsB ds = some ns ∧ B ns = some (G, M) ∧
    body (.giv (ns.map PyData.int) :: .bag G M 0 :: List.replicate (n - 2) .un) = .rt (.val d) ρ ∧ r = .val d ∧ outs = [.un] := by
  unfold lawBagS at h
  split at h
  case h_2 => cases h
  rename_i ds
  split at h
  case h_2 => cases h
  rename_i ns hi
  split at h
  case h_2 => cases h
  rename_i G M hB
  obtain ⟨d', ρ', e1, e2, e3⟩ := lawOut_ret h
  exact ⟨ds, ns, G, M, d', ρ', rfl, hi, hB, e1, e2, e3⟩
def lawBag (m : Mod0) (tbl : List Ent) (bn : Str) (B : List Int → Option (List Int × List Int)) (d : DefE) (args : List Slot) : FOut := match defBody d.st with
  | .Assign [.Name x _] (.Call (.Name f _) [.Name s _] [] _) _ :: rest =>
    if f = bn ∧ lix (ctxOf m tbl d) x = some 1 ∧ vix (ctxOf m tbl d) s = some 0 ∧ d.ps.length = 1 ∧ 2 ≤ d.N.length ∧ glb (ctxOf m tbl d) f = true ∧ (f == ("__debug__" : Str)) = false then
      lawBagS d.N.length B (evS (rc 40) (ctxOf m tbl d) 12 rest) args else .no
  | _ => .no
theorem intsB_map : ∀ ns : List Int, intsB (ns.map PyData.int) = some ns
  | [] => rfl
  | n :: ns => by
    show (match intsB (ns.map PyData.int) with | some is => some (n :: is) | none => none) = _
    rw [intsB_map ns]
theorem lawBagS_eq {n : Nat} {B : List Int → Option (List Int × List Int)} {body : MS} {ns G M : List Int} (h : B ns = some (G, M)) : lawBagS n B body [.giv (ns.map PyData.int)] = lawOut (body (.giv (ns.map PyData.int) :: .bag G M 0 :: List.replicate (n - 2) .un)) := by
  unfold lawBagS
  simp only [intsB_map, h]
def tEx (K : PySem.W.Frag) (mg : Str → Option Value) (f : MS) : TS := fun D σ H => ∃ i : Gh, @tSt i K mg (fun _ _ _ _ => False) f D σ H
theorem law_fin [gh : Gh] {K : PySem.W.Frag} {mg : Str → Option Value} {N : List Str} {body : MS} {B : List Int → Option (List Int × List Int)} {ns G M : List Int} {d : D} {ρ' : Rho} {S : AS} {v : V} {H : Hp} {Q : VK} (hN : 2 ≤ N.length) (r : Rel K S [.giv (ns.map PyData.int)] [some v] H) (hB : B ns = some (G, M))
    (ho : body (.giv (ns.map PyData.int) :: .bag G M 0 :: List.replicate (N.length - 2) .un) = .rt (.val d) ρ') (q : ∀ S' v' H', FEnd K S [.giv (ns.map PyData.int)] [v] H (.val d) [.un] S' v' H' → Q v' H') :
    tSeq (tAsg (tCallB K B 0) (gName 1)) (tEx K mg body) { nx := fun _ H' => Q .non H', rt := Q } (L2.start N [v]) H := by
  refine ⟨v, rfl, S, ns, G, M, r, hB, fun b g m t H' bg bm bt gm gt mt nb ng nm nt hb hg hm ht keep => ?_⟩
  have es : (L2.start N [v]).set 1 (some (.ref b)) = some v :: some (.ref b) :: List.replicate (N.length - 2) none := by
    unfold L2.start
    obtain ⟨n, hn⟩ : ∃ n, N.length = n + 2 := ⟨N.length - 2, by omega⟩
    simp [hn, List.replicate_succ]
  show tEx K mg body _ ((L2.start N [v]).set 1 (some (.ref b))) H'
  rw [es]
  have nS : ∀ {a : Addr}, H a = none → ¬ S a := fun {a} h z => by
    obtain ⟨o, e⟩ := r.live a z
    rw [h] at e; cases e
  have sty : Stay S S H H' := ⟨fun _ h => h, fun a h => by obtain ⟨o, e⟩ := r.live a h; rw [keep a o e, e]⟩
  have sl := r.slot 0 _ rfl
  have liveH : ∀ a, S a → ∃ o, H a = some o := r.live
  let i : Gh := ⟨b, g, m, t, bg, bm, bt, gm, gt, mt⟩
  have bo : @BagOk i S H' G M 0 := by
    constructor
    · exact hb
    · exact hg
    · exact hm
    · exact ht
    · exact nS nb
    · exact nS ng
    · exact nS nm
    · exact nS nt
  have own1 : ∀ {j : Nat} {s : Slot} {z : Bool}, (Slot.giv (ns.map PyData.int) :: .bag G M 0 :: List.replicate (N.length - 2) .un)[j]? = some s → s.own? = some z → j = 1 ∧ s = .bag G M 0 ∧ z = false := fun {j s z} h1 h2 => by
    match j, h1 with
    | 0, h1 => cases h1; cases h2
    | 1, h1 => cases h1; cases h2; exact ⟨rfl, rfl, rfl⟩
    | j + 2, h1 =>
      simp only [List.getElem?_cons_succ, List.getElem?_replicate] at h1
      split at h1 <;> cases h1
      cases h2
  have rel1 : @Rel i K S (.giv (ns.map PyData.int) :: .bag G M 0 :: List.replicate (N.length - 2) .un) (some v :: some (.ref b) :: List.replicate (N.length - 2) none) H' := by
    refine @Rel.mk i _ _ _ _ _ (by simp) (fun j s h => ?_) (fun j k s t' y z a h1 h2 h3 h4 h5 h6 => ?_) (fun a h => ?_)
    · match j, h with
      | 0, h => cases h; exact @SlotOk.giv_stay i _ _ _ _ _ _ _ sty (by cases v <;> exact sl)
      | 1, h => cases h; exact ⟨rfl, bo⟩
      | j + 2, h =>
        have : s = .un := by
          simp only [List.getElem?_cons_succ, List.getElem?_replicate] at h
          split at h <;> cases h
          rfl
        subst this
        exact trivial
    · rw [(own1 h1 h3).1, (own1 h2 h4).1]
    · obtain ⟨o, e⟩ := liveH a h
      exact ⟨o, keep a o e⟩
  refine ⟨i, S, _, rel1, ?_⟩
  rw [ho]
  intro S' σ' H'' v' st r' hr hn
  have nOwn : ∀ {a : Addr} {o : HO}, H a = some o → ¬ @Own i (.giv (ns.map PyData.int) :: .bag G M 0 :: List.replicate (N.length - 2) .un) (some v :: some (.ref b) :: List.replicate (N.length - 2) none) a := fun {a o} ha ⟨j, s, z, h1, h2, h3⟩ => by
    obtain ⟨rfl, rfl, rfl⟩ := own1 h1 h2
    rcases h3 with h3 | ⟨_, h3⟩
    · have e := adr_get h3
      have e : b = a := by simpa using e
      rw [← e, nb] at ha; cases ha
    · rcases h3 with e | e | e
      · have e : a = g := e
        rw [e, ng] at ha; cases ha
      · have e : a = m := e
        rw [e, nm] at ha; cases ha
      · have e : a = t := e
        rw [e, nt] at ha; cases ha
  refine q S' v' H'' (@FEnd.mk gh _ _ _ _ _ _ _ _ _ _ st.sub (fun a h => (st.at_ a h).trans (sty.at_ a h)) (fun a o h n => st.frame a o (keep a o h) (nOwn h)) (fun a o h => st.there a o (keep a o h)) (fun a h => ?_) (@Rel.mk gh _ _ _ _ _ rfl (fun j s h => ?_) (fun j k s t' y z a h1 h2 h3 h4 h5 h6 => ?_) r'.live) (fun j s h1 h2 => ?_) hr trivial)
  · rcases st.new a h with z | z | ⟨j, s, h1, h2, h3⟩
    · exact .inl z
    · refine .inr ?_
      cases e : H a with
      | none => rfl
      | some o => rw [keep a o e] at z; cases z
    · obtain ⟨rfl, rfl, z⟩ := own1 h1 h2
      cases z
  · match j, h with
    | 0, h => cases h; exact trivial
    | j + 1, h => cases h
  · match j, h1 with
    | 0, h1 => cases h1; cases h3
    | j + 1, h1 => cases h1
  · match j, h1 with
    | 0, h1 => cases h1; cases h2
    | j + 1, h1 => cases h1
theorem law_bag_ok [gh : Gh] {P : Program} {w : World} {K : PySem.W.Frag} {mg : Str → Option Value} {base : Heap} {m : Mod0} {tbl : List Ent} {d : DefE} {k : Nat} (hbl : ∀ x, m.bl.contains x = true → mg x = none) (ht : ∀ i : Gh, ∀ t ∈ tbl, @EntOk i P w K mg base k t)
    {bn : Str} {B : List Int → Option (List Int × List Int)} {fb : Addr} {fdb : FuncData} {psb : List Str} (GB : FnB P w K mg base k fb fdb psb B) (hmb : mg bn = some (.ref fb)) (hkb : PySem.W.keepIn K (.ref fb) = true) (hbb : KB K fdb psb 1 [] [0])
    {f : Addr} {fd : FuncData} (F : L2.Fun K d.name d.name d.st f fd) (Sc : FnScope d.N d.ps (defScope d.st)) : FnG P w K mg base (k + 1) f fd d.ps (lawBag m tbl bn B d) := by
  have key : ∀ args r outs, lawBag m tbl bn B d args = .ret r outs → ∃ ns G M d' ρ' x xp fp s sp cp ap rest, args = [.giv (ns.map PyData.int)] ∧ r = .val d' ∧ outs = [.un] ∧ defBody d.st = .Assign [.Name x xp] (.Call (.Name bn fp) [.Name s sp] [] cp) ap :: rest ∧
      lix (ctxOf m tbl d) x = some 1 ∧ vix (ctxOf m tbl d) s = some 0 ∧ d.ps.length = 1 ∧ 2 ≤ d.N.length ∧ glb (ctxOf m tbl d) bn = true ∧ (bn == ("__debug__" : Str)) = false ∧ B ns = some (G, M) ∧ evS (rc 40) (ctxOf m tbl d) 12 rest (.giv (ns.map PyData.int) :: .bag G M 0 :: List.replicate (d.N.length - 2) .un) = .rt (.val d') ρ' := fun args r outs h => by
    unfold lawBag at h
    split at h
    case h_2 => cases h
    rename_i x xp f fp s sp cp ap rest hb
    split at h
    case isFalse => cases h
    rename_i hc
    obtain ⟨rfl, c1, c2, c3, c4, c5, c6⟩ := hc
    obtain ⟨ds, ns, G, M, d', ρ', rfl, hi, hB, e1, e2, e3⟩ := lawBagS_ret h
    exact ⟨ns, G, M, d', ρ', x, xp, fp, s, sp, cp, ap, rest, by rw [intsB_eq hi], e2, e3, hb, c1, c2, c3, c4, c5, c6, hB, e1⟩
  refine ⟨fun args r outs h => by obtain ⟨_, _, _, _, _, _, _, _, _, _, _, _, _, rfl, _, _, _, _, _, e, _⟩ := key _ _ _ h; exact e.symm, fun A out s H given us vs Q room gd e0 bnd rv ⟨S, args, rel, hin, q⟩ => ?_⟩
  cases ef : lawBag m tbl bn B d args with
  | no => rw [ef] at q; exact q.elim
  | ret r outs =>
    rw [ef] at q
    obtain ⟨ns, G, M, d', ρ', x, xp, fp, sn, sp, cp, ap, rest, rfl, rfl, rfl, hb, c1, c2, c3, c4, c5, c6, hB, ho⟩ := key _ _ _ ef
    have hl : vs.length = 1 := by have := rel.len; simpa using this.symm
    match vs, hl with
    | [v], _ =>
    refine run_by (mg := mg) F Sc (tB := tSeq (tAsg (tCallB K B 0) (gName 1)) (tEx K mg (evS (rc 40) (ctxOf m tbl d) 12 rest))) (fun cd B' out s H room gd => ?_) room gd e0 bnd rv c3.symm (law_fin c4 rel hB ho q)
    have g := good_of (m := m) (tbl := tbl) (f := f) (cd := cd) (out := out) (s := s) (H := H) hbl (ht gh) Sc room gd
    rw [hb]
    obtain ⟨x1, x2, x3⟩ := lix_ok g.toGood c1
    refine pss_cons (ps_set g.nd x1 x2 (pe_callB GB room gd ?_ hmb hkb hbb (vix_ok g.toGood c2) rfl c6) rfl x3) ⟨fun pins s' σ H' D I ⟨i, q⟩ => ?_⟩
    · exact glb_ok g.toGood c5
    · have gi := @good_of i _ _ _ _ _ m tbl d k hbl (ht i) Sc f cd B' out s H room gd
      exact (@evS_ok i _ _ _ (@rc_ok i 40) gi _ 12 rest).run pins s' σ H' D I q
/-- the place of the bag where there is none -/
instance (priority := low) gh0 : Gh := ⟨0, 1, 2, 3, by decide, by decide, by decide, by decide, by decide, by decide⟩
end Ev
namespace Law
open PySem PySem.Spec PyProof.Rows L2 Ev
def topS (i : Nat) : Stmt := PySem.Challenge.pw_idsremembered_k51_programs_by_going_alon.main.body.getD i (.Pass ⟨0, 0, 0, 0⟩)
def md : Mod0 := ⟨["all", "bool", "enumerate", "int", "isinstance", "len", "list", "max", "min", "range", "str", "tuple"], ["script"]⟩
abbrev tb_0 : List Ent := []
def d_is_integer : DefE := ⟨"is_integer", topS 5, ["thing"], ["thing"], [], 20, [⟨1, [], [0], [false]⟩], []⟩
def s_is_integer : FSem := semOf md tb_0 d_is_integer
def tb_1 : List Ent := tb_0 ++ entsOf d_is_integer s_is_integer
def d_is_from : DefE := ⟨"is_from", topS 6, ["low", "thing"], ["low", "thing"], [], 20, [⟨2, [], [0, 1], [false, false]⟩], []⟩
def s_is_from : FSem := semOf md tb_1 d_is_from
def tb_2 : List Ent := tb_1 ++ entsOf d_is_from s_is_from
def d_is_below : DefE := ⟨"is_below", topS 7, ["many", "thing"], ["many", "thing"], [], 20, [⟨2, [], [0, 1], [false, false]⟩], []⟩
def s_is_below : FSem := semOf md tb_2 d_is_below
def tb_3 : List Ent := tb_2 ++ entsOf d_is_below s_is_below
def d_is_tuple : DefE := ⟨"is_tuple", topS 8, ["many", "thing"], ["many", "thing"], [], 20, [⟨2, [], [0, 1], [false, false]⟩], []⟩
def s_is_tuple : FSem := semOf md tb_3 d_is_tuple
def tb_4 : List Ent := tb_3 ++ entsOf d_is_tuple s_is_tuple
def d_is_mark : DefE := ⟨"is_mark", topS 9, ["thing"], ["thing"], [], 20, [⟨1, [], [0], [false]⟩], []⟩
def s_is_mark : FSem := semOf md tb_4 d_is_mark
def tb_5 : List Ent := tb_4 ++ entsOf d_is_mark s_is_mark
def d_is_kinds_in : DefE := ⟨"is_kinds_in", topS 10, ["thing", "one"], ["thing"], [], 20, [⟨1, [], [0], [false]⟩], []⟩
def s_is_kinds_in : FSem := semOf md tb_5 d_is_kinds_in
def tb_6 : List Ent := tb_5 ++ entsOf d_is_kinds_in s_is_kinds_in
def d_is_event_of : DefE := ⟨"is_event_of", topS 11, ["kinds", "thing", "one"], ["kinds", "thing"], [], 20, [⟨2, [], [0, 1], [false, false]⟩], []⟩
def s_is_event_of : FSem := semOf md tb_6 d_is_event_of
def tb_7 : List Ent := tb_6 ++ entsOf d_is_event_of s_is_event_of
def d_stream_fault : DefE := ⟨"stream_fault", topS 12, ["kinds", "thing", "index", "event"], ["kinds", "thing"], [], 20, [⟨2, [], [0, 1], [false, false]⟩], []⟩
def s_stream_fault : FSem := semOf md tb_7 d_stream_fault
def tb_8 : List Ent := tb_7 ++ entsOf d_stream_fault s_stream_fault
def d_check_stream : DefE := ⟨"check_stream", topS 13, ["kinds", "thing", "index"], ["kinds", "thing"], [], 20, [⟨2, [], [0, 1], [false, false]⟩], []⟩
def s_check_stream : FSem := semOf md tb_8 d_check_stream
def tb_9 : List Ent := tb_8 ++ entsOf d_check_stream s_check_stream
def d_is_told : DefE := ⟨"is_told", topS 15, ["width", "thing", "one"], ["width", "thing"], [], 20, [⟨2, [], [0, 1], [false, false]⟩], []⟩
def s_is_told : FSem := semOf md tb_9 d_is_told
def tb_10 : List Ent := tb_9 ++ entsOf d_is_told s_is_told
def d_is_thing : DefE := ⟨"is_thing", topS 17, ["registers", "count", "thing"], ["registers", "count", "thing"], [], 20, [⟨3, [], [0, 1, 2], [false, false, false]⟩], []⟩
def s_is_thing : FSem := semOf md tb_10 d_is_thing
def tb_11 : List Ent := tb_10 ++ entsOf d_is_thing s_is_thing
def d_is_tree : DefE := ⟨"is_tree", topS 18, ["controls", "registers", "count", "thing", "one"], ["controls", "registers", "count", "thing"], [], 20, [⟨4, [], [0, 1, 2, 3], [false, false, false, false]⟩], []⟩
def s_is_tree (n : Nat) : FSem := recG md tb_11 [d_is_tree] n 0
def tb_12 : List Ent := tb_11 ++ entsG [d_is_tree] (recG md tb_11 [d_is_tree] 12) 0
def d_trees_fault : DefE := ⟨"trees_fault", topS 19, ["kinds", "registers", "trees", "control", "own", "kind", "count"], ["kinds", "registers", "trees"], [], 20, [⟨3, [], [0, 1, 2], [false, false, false]⟩], []⟩
def s_trees_fault : FSem := semOf md tb_12 d_trees_fault
def tb_13 : List Ent := tb_12 ++ entsOf d_trees_fault s_trees_fault
def d_program_fault : DefE := ⟨"program_fault", topS 20, ["value", "kinds", "registers", "trees", "answers", "found", "control", "own"], ["value"], [], 20, [⟨1, [], [0], [false]⟩], []⟩
def s_program_fault : FSem := semOf md tb_13 d_program_fault
def tb_14 : List Ent := tb_13 ++ entsOf d_program_fault s_program_fault
def d_check_program : DefE := ⟨"check_program", topS 21, ["thing", "place"], ["thing"], [], 20, [⟨1, [], [0], [false]⟩], []⟩
def s_check_program : FSem := semOf md tb_14 d_check_program
def tb_15 : List Ent := tb_14 ++ entsOf d_check_program s_check_program
def d_id_of : DefE := ⟨"id_of", topS 22, ["thing", "held", "ids"], ["thing", "held", "ids"], [], 20, [⟨3, [], [0, 1, 2], [false, false, false]⟩], []⟩
def s_id_of : FSem := semOf md tb_15 d_id_of
def tb_16 : List Ent := tb_15 ++ entsOf d_id_of s_id_of
def d_led_by : DefE := ⟨"led_by", topS 23, ["tree", "held", "ids", "one", "are_same", "thing"], ["tree", "held", "ids"], [], 20, [⟨3, [], [0, 1, 2], [false, false, false]⟩], []⟩
def s_led_by : FSem := semOf md tb_16 d_led_by
def tb_17 : List Ent := tb_16 ++ entsOf d_led_by s_led_by
def d_start_of : DefE := ⟨"start_of", topS 24, ["program"], ["program"], [], 20, [⟨1, [], [0], [false]⟩], []⟩
def s_start_of : FSem := semOf md tb_17 d_start_of
def tb_18 : List Ent := tb_17 ++ entsOf d_start_of s_start_of
def d_stepped : DefE := ⟨"stepped", topS 25, ["program", "state", "event"], ["program", "state", "event"], [], 20, [⟨3, [], [0, 1, 2], [false, false, false]⟩], []⟩
def s_stepped : FSem := semOf md tb_18 d_stepped
def tb_19 : List Ent := tb_18 ++ entsOf d_stepped s_stepped
def d_state_in : DefE := ⟨"state_in", topS 26, ["program", "stream", "state", "event"], ["program", "stream"], [], 20, [⟨2, [], [0, 1], [false, false]⟩], []⟩
def s_state_in : FSem := semOf md tb_19 d_state_in
def tb_20 : List Ent := tb_19 ++ entsOf d_state_in s_state_in
def d_told_at : DefE := ⟨"told_at", topS 27, ["program", "state", "mark", "shown", "one"], ["program", "state"], [], 20, [⟨2, [], [0, 1], [false, false]⟩], []⟩
def s_told_at : FSem := semOf md tb_20 d_told_at
def tb_21 : List Ent := tb_20 ++ entsOf d_told_at s_told_at
def d_state_behind : DefE := ⟨"state_behind", topS 28, ["program", "stream"], ["program", "stream"], [], 20, [⟨2, [], [0, 1], [false, false]⟩], []⟩
def s_state_behind : FSem := semOf md tb_21 d_state_behind
def tb_22 : List Ent := tb_21 ++ entsOf d_state_behind s_state_behind
def d_program_answer : DefE := ⟨"program_answer", topS 29, ["program", "stream"], ["program", "stream"], [], 20, [⟨2, [], [0, 1], [false, false]⟩], []⟩
def s_program_answer : FSem := semOf md tb_22 d_program_answer
def tb_23 : List Ent := tb_22 ++ entsOf d_program_answer s_program_answer
def d__law_bag : DefE := ⟨"_law_bag", topS 31, ["script", "cells", "cell", "great"], ["script"], [], 20, [⟨1, [], [0], [true]⟩], []⟩
def s__law_bag : List Int → Option (List Int × List Int) := bagOf md tb_23 d__law_bag
def tb_24 : List Ent := tb_23
def d__law_pick : DefE := ⟨"_law_pick", topS 32, ["bag", "many", "great", "small", "turn", "step", "at", "found", "one", "two", "three"], ["bag", "many"], [], 20, [⟨2, [], [0, 1], [true, false]⟩], []⟩
def s__law_pick : FSem := pickOf md tb_24 d__law_pick
def tb_25 : List Ent := tb_24 ++ entsOf d__law_pick s__law_pick
def d__law_ids : DefE := ⟨"_law_ids", topS 33, ["bag", "many", "found", "one", "turn", "gap"], ["bag", "many"], [], 20, [⟨2, [], [0, 1], [true, false]⟩], []⟩
def s__law_ids : FSem := semOf md tb_25 d__law_ids
def tb_26 : List Ent := tb_25 ++ entsOf d__law_ids s__law_ids
def d__law_kinds : DefE := ⟨"_law_kinds", topS 34, ["bag", "low", "most", "found", "turn", "one"], ["bag", "low", "most"], [], 20, [⟨3, [], [0, 1, 2], [true, false, false]⟩], []⟩
def s__law_kinds : FSem := semOf md tb_26 d__law_kinds
def tb_27 : List Ent := tb_26 ++ entsOf d__law_kinds s__law_kinds
def d__law_stream : DefE := ⟨"_law_stream", topS 35, ["bag", "kinds", "ids", "many", "found", "turn", "kind", "own"], ["bag", "kinds", "ids", "many"], [], 20, [⟨4, [], [0, 1, 2, 3], [true, false, false, false]⟩], []⟩
def s__law_stream : FSem := semOf md tb_27 d__law_stream
def tb_28 : List Ent := tb_27 ++ entsOf d__law_stream s__law_stream
def d__law_thing : DefE := ⟨"_law_thing", topS 36, ["bag", "registers", "count", "which"], ["bag", "registers", "count"], [], 20, [⟨3, [], [0, 1, 2], [true, false, false]⟩], []⟩
def s__law_thing : FSem := semOf md tb_28 d__law_thing
def tb_29 : List Ent := tb_28 ++ entsOf d__law_thing s__law_thing
def d__law_go : DefE := ⟨"_law_go", topS 37, ["bag", "controls", "registers", "count", "there", "turn"], ["bag", "controls", "registers", "count"], [], 20, [⟨4, [], [0, 1, 2, 3], [true, false, false, false]⟩], []⟩
def s__law_go : FSem := semOf md tb_29 d__law_go
def tb_30 : List Ent := tb_29 ++ entsOf d__law_go s__law_go
def d__law_tree : DefE := ⟨"_law_tree", topS 38, ["bag", "controls", "registers", "count", "ifs", "one", "two", "own", "first"], ["bag", "controls", "registers", "count", "ifs"], [], 20, [⟨5, [], [0, 1, 2, 3, 4], [true, false, false, false, false]⟩], []⟩
def s__law_tree (n : Nat) : FSem := recG md tb_30 [d__law_tree] n 0
def tb_31 : List Ent := tb_30 ++ entsG [d__law_tree] (recG md tb_30 [d__law_tree] 12) 0
def d__law_shown : DefE := ⟨"_law_shown", topS 39, ["bag", "registers", "found", "turn", "one"], ["bag", "registers"], [], 20, [⟨2, [], [0, 1], [true, false]⟩], []⟩
def s__law_shown : FSem := semOf md tb_31 d__law_shown
def tb_32 : List Ent := tb_31 ++ entsOf d__law_shown s__law_shown
def d__law_program : DefE := ⟨"_law_program", topS 40, ["bag", "kinds", "controls", "registers", "most", "trees", "control", "count", "answers"], ["bag", "kinds", "controls", "registers", "most"], [], 20, [⟨5, [], [0, 1, 2, 3, 4], [true, false, false, false, false]⟩], []⟩
def s__law_program : FSem := semOf md tb_32 d__law_program
def tb_33 : List Ent := tb_32 ++ entsOf d__law_program s__law_program
def d__law_thing_id : DefE := ⟨"_law_thing_id", topS 41, ["thing", "held", "ids"], ["thing", "held", "ids"], [], 20, [⟨3, [], [0, 1, 2], [false, false, false]⟩], []⟩
def s__law_thing_id : FSem := semOf md tb_33 d__law_thing_id
def tb_34 : List Ent := tb_33 ++ entsOf d__law_thing_id s__law_thing_id
def d__law_lead : DefE := ⟨"_law_lead", topS 42, ["program", "state", "event", "tree", "held", "ids", "turn", "one", "two", "thing"], ["program", "state", "event"], [], 20, [⟨3, [], [0, 1, 2], [false, false, false]⟩], []⟩
def s__law_lead : FSem := semOf md tb_34 d__law_lead
def tb_35 : List Ent := tb_34 ++ entsOf d__law_lead s__law_lead
def d__law_led : DefE := ⟨"_law_led", topS 43, ["program", "state", "mark", "shown", "one"], ["program", "state"], [], 20, [⟨2, [], [0, 1], [false, false]⟩], []⟩
def s__law_led : FSem := semOf md tb_35 d__law_led
def tb_36 : List Ent := tb_35 ++ entsOf d__law_led s__law_led
def d__law_exact : DefE := ⟨"_law_exact", topS 44, ["thing", "due", "at"], ["thing", "due"], [], 20, [⟨2, [], [0, 1], [false, false]⟩], []⟩
def s__law_exact (n : Nat) : FSem := recG md tb_36 [d__law_exact] n 0
def tb_37 : List Ent := tb_36 ++ entsG [d__law_exact] (recG md tb_36 [d__law_exact] 12) 0
def d_law : DefE := ⟨"law", topS 45, ["script", "bag", "kinds", "program", "ids", "stream", "state", "states", "event", "asked", "turn", "at"], ["script"], [], 20, [], []⟩
def s_law : FSem := lawBag md tb_37 "_law_bag" s__law_bag d_law
theorem sc_is_integer : FnScope d_is_integer.N d_is_integer.ps (defScope d_is_integer.st) := ⟨rfl, rfl, rfl, by decide +kernel, rfl, by decide +kernel, by decide +kernel⟩
theorem sc_is_from : FnScope d_is_from.N d_is_from.ps (defScope d_is_from.st) := ⟨rfl, rfl, rfl, by decide +kernel, rfl, by decide +kernel, by decide +kernel⟩
theorem sc_is_below : FnScope d_is_below.N d_is_below.ps (defScope d_is_below.st) := ⟨rfl, rfl, rfl, by decide +kernel, rfl, by decide +kernel, by decide +kernel⟩
theorem sc_is_tuple : FnScope d_is_tuple.N d_is_tuple.ps (defScope d_is_tuple.st) := ⟨rfl, rfl, rfl, by decide +kernel, rfl, by decide +kernel, by decide +kernel⟩
theorem sc_is_mark : FnScope d_is_mark.N d_is_mark.ps (defScope d_is_mark.st) := ⟨rfl, rfl, rfl, by decide +kernel, rfl, by decide +kernel, by decide +kernel⟩
theorem sc_is_kinds_in : FnScope d_is_kinds_in.N d_is_kinds_in.ps (defScope d_is_kinds_in.st) := ⟨rfl, rfl, rfl, by decide +kernel, rfl, by decide +kernel, by decide +kernel⟩
theorem sc_is_event_of : FnScope d_is_event_of.N d_is_event_of.ps (defScope d_is_event_of.st) := ⟨rfl, rfl, rfl, by decide +kernel, rfl, by decide +kernel, by decide +kernel⟩
theorem sc_stream_fault : FnScope d_stream_fault.N d_stream_fault.ps (defScope d_stream_fault.st) := ⟨rfl, rfl, rfl, by decide +kernel, rfl, by decide +kernel, by decide +kernel⟩
theorem sc_check_stream : FnScope d_check_stream.N d_check_stream.ps (defScope d_check_stream.st) := ⟨rfl, rfl, rfl, by decide +kernel, rfl, by decide +kernel, by decide +kernel⟩
theorem sc_is_told : FnScope d_is_told.N d_is_told.ps (defScope d_is_told.st) := ⟨rfl, rfl, rfl, by decide +kernel, rfl, by decide +kernel, by decide +kernel⟩
theorem sc_is_thing : FnScope d_is_thing.N d_is_thing.ps (defScope d_is_thing.st) := ⟨rfl, rfl, rfl, by decide +kernel, rfl, by decide +kernel, by decide +kernel⟩
theorem sc_is_tree : FnScope d_is_tree.N d_is_tree.ps (defScope d_is_tree.st) := ⟨rfl, rfl, rfl, by decide +kernel, rfl, by decide +kernel, by decide +kernel⟩
theorem sc_trees_fault : FnScope d_trees_fault.N d_trees_fault.ps (defScope d_trees_fault.st) := ⟨rfl, rfl, rfl, by decide +kernel, rfl, by decide +kernel, by decide +kernel⟩
theorem sc_program_fault : FnScope d_program_fault.N d_program_fault.ps (defScope d_program_fault.st) := ⟨rfl, rfl, rfl, by decide +kernel, rfl, by decide +kernel, by decide +kernel⟩
theorem sc_check_program : FnScope d_check_program.N d_check_program.ps (defScope d_check_program.st) := ⟨rfl, rfl, rfl, by decide +kernel, rfl, by decide +kernel, by decide +kernel⟩
theorem sc_id_of : FnScope d_id_of.N d_id_of.ps (defScope d_id_of.st) := ⟨rfl, rfl, rfl, by decide +kernel, rfl, by decide +kernel, by decide +kernel⟩
theorem sc_led_by : FnScope d_led_by.N d_led_by.ps (defScope d_led_by.st) := ⟨rfl, rfl, rfl, by decide +kernel, rfl, by decide +kernel, by decide +kernel⟩
theorem sc_start_of : FnScope d_start_of.N d_start_of.ps (defScope d_start_of.st) := ⟨rfl, rfl, rfl, by decide +kernel, rfl, by decide +kernel, by decide +kernel⟩
theorem sc_stepped : FnScope d_stepped.N d_stepped.ps (defScope d_stepped.st) := ⟨rfl, rfl, rfl, by decide +kernel, rfl, by decide +kernel, by decide +kernel⟩
theorem sc_state_in : FnScope d_state_in.N d_state_in.ps (defScope d_state_in.st) := ⟨rfl, rfl, rfl, by decide +kernel, rfl, by decide +kernel, by decide +kernel⟩
theorem sc_told_at : FnScope d_told_at.N d_told_at.ps (defScope d_told_at.st) := ⟨rfl, rfl, rfl, by decide +kernel, rfl, by decide +kernel, by decide +kernel⟩
theorem sc_state_behind : FnScope d_state_behind.N d_state_behind.ps (defScope d_state_behind.st) := ⟨rfl, rfl, rfl, by decide +kernel, rfl, by decide +kernel, by decide +kernel⟩
theorem sc_program_answer : FnScope d_program_answer.N d_program_answer.ps (defScope d_program_answer.st) := ⟨rfl, rfl, rfl, by decide +kernel, rfl, by decide +kernel, by decide +kernel⟩
theorem sc__law_bag : FnScope d__law_bag.N d__law_bag.ps (defScope d__law_bag.st) := ⟨rfl, rfl, rfl, by decide +kernel, rfl, by decide +kernel, by decide +kernel⟩
theorem sc__law_pick : FnScope d__law_pick.N d__law_pick.ps (defScope d__law_pick.st) := ⟨rfl, rfl, rfl, by decide +kernel, rfl, by decide +kernel, by decide +kernel⟩
theorem sc__law_ids : FnScope d__law_ids.N d__law_ids.ps (defScope d__law_ids.st) := ⟨rfl, rfl, rfl, by decide +kernel, rfl, by decide +kernel, by decide +kernel⟩
theorem sc__law_kinds : FnScope d__law_kinds.N d__law_kinds.ps (defScope d__law_kinds.st) := ⟨rfl, rfl, rfl, by decide +kernel, rfl, by decide +kernel, by decide +kernel⟩
theorem sc__law_stream : FnScope d__law_stream.N d__law_stream.ps (defScope d__law_stream.st) := ⟨rfl, rfl, rfl, by decide +kernel, rfl, by decide +kernel, by decide +kernel⟩
theorem sc__law_thing : FnScope d__law_thing.N d__law_thing.ps (defScope d__law_thing.st) := ⟨rfl, rfl, rfl, by decide +kernel, rfl, by decide +kernel, by decide +kernel⟩
theorem sc__law_go : FnScope d__law_go.N d__law_go.ps (defScope d__law_go.st) := ⟨rfl, rfl, rfl, by decide +kernel, rfl, by decide +kernel, by decide +kernel⟩
theorem sc__law_tree : FnScope d__law_tree.N d__law_tree.ps (defScope d__law_tree.st) := ⟨rfl, rfl, rfl, by decide +kernel, rfl, by decide +kernel, by decide +kernel⟩
theorem sc__law_shown : FnScope d__law_shown.N d__law_shown.ps (defScope d__law_shown.st) := ⟨rfl, rfl, rfl, by decide +kernel, rfl, by decide +kernel, by decide +kernel⟩
theorem sc__law_program : FnScope d__law_program.N d__law_program.ps (defScope d__law_program.st) := ⟨rfl, rfl, rfl, by decide +kernel, rfl, by decide +kernel, by decide +kernel⟩
theorem sc__law_thing_id : FnScope d__law_thing_id.N d__law_thing_id.ps (defScope d__law_thing_id.st) := ⟨rfl, rfl, rfl, by decide +kernel, rfl, by decide +kernel, by decide +kernel⟩
theorem sc__law_lead : FnScope d__law_lead.N d__law_lead.ps (defScope d__law_lead.st) := ⟨rfl, rfl, rfl, by decide +kernel, rfl, by decide +kernel, by decide +kernel⟩
theorem sc__law_led : FnScope d__law_led.N d__law_led.ps (defScope d__law_led.st) := ⟨rfl, rfl, rfl, by decide +kernel, rfl, by decide +kernel, by decide +kernel⟩
theorem sc__law_exact : FnScope d__law_exact.N d__law_exact.ps (defScope d__law_exact.st) := ⟨rfl, rfl, rfl, by decide +kernel, rfl, by decide +kernel, by decide +kernel⟩
theorem sc_law : FnScope d_law.N d_law.ps (defScope d_law.st) := ⟨rfl, rfl, rfl, by decide +kernel, rfl, by decide +kernel, by decide +kernel⟩
theorem kb_is_integer {K : PySem.W.Frag} (kV doc pm : Value) (an : Option Addr) (cdv ct : Value) : ∀ sh ∈ d_is_integer.shapes, KB K (PySem.W.fnOf d_is_integer.name d_is_integer.name (defArgs d_is_integer.st) (defBody d_is_integer.st) (defScope d_is_integer.st) .none kV doc pm an cdv ct) d_is_integer.ps sh.n sh.ks sh.perm := by
  intro sh h
  simp only [d_is_integer, List.mem_cons, List.not_mem_nil, or_false] at h
  subst h
  · exact fun s us ws _ h1 h2 => match us, ws, h1, h2 with | [_], [], _, _ => .of_eq rfl
theorem kb_is_from {K : PySem.W.Frag} (kV doc pm : Value) (an : Option Addr) (cdv ct : Value) : ∀ sh ∈ d_is_from.shapes, KB K (PySem.W.fnOf d_is_from.name d_is_from.name (defArgs d_is_from.st) (defBody d_is_from.st) (defScope d_is_from.st) .none kV doc pm an cdv ct) d_is_from.ps sh.n sh.ks sh.perm := by
  intro sh h
  simp only [d_is_from, List.mem_cons, List.not_mem_nil, or_false] at h
  subst h
  · exact fun s us ws _ h1 h2 => match us, ws, h1, h2 with | [_, _], [], _, _ => .of_eq rfl
theorem kb_is_below {K : PySem.W.Frag} (kV doc pm : Value) (an : Option Addr) (cdv ct : Value) : ∀ sh ∈ d_is_below.shapes, KB K (PySem.W.fnOf d_is_below.name d_is_below.name (defArgs d_is_below.st) (defBody d_is_below.st) (defScope d_is_below.st) .none kV doc pm an cdv ct) d_is_below.ps sh.n sh.ks sh.perm := by
  intro sh h
  simp only [d_is_below, List.mem_cons, List.not_mem_nil, or_false] at h
  subst h
  · exact fun s us ws _ h1 h2 => match us, ws, h1, h2 with | [_, _], [], _, _ => .of_eq rfl
theorem kb_is_tuple {K : PySem.W.Frag} (kV doc pm : Value) (an : Option Addr) (cdv ct : Value) : ∀ sh ∈ d_is_tuple.shapes, KB K (PySem.W.fnOf d_is_tuple.name d_is_tuple.name (defArgs d_is_tuple.st) (defBody d_is_tuple.st) (defScope d_is_tuple.st) .none kV doc pm an cdv ct) d_is_tuple.ps sh.n sh.ks sh.perm := by
  intro sh h
  simp only [d_is_tuple, List.mem_cons, List.not_mem_nil, or_false] at h
  subst h
  · exact fun s us ws _ h1 h2 => match us, ws, h1, h2 with | [_, _], [], _, _ => .of_eq rfl
theorem kb_is_mark {K : PySem.W.Frag} (kV doc pm : Value) (an : Option Addr) (cdv ct : Value) : ∀ sh ∈ d_is_mark.shapes, KB K (PySem.W.fnOf d_is_mark.name d_is_mark.name (defArgs d_is_mark.st) (defBody d_is_mark.st) (defScope d_is_mark.st) .none kV doc pm an cdv ct) d_is_mark.ps sh.n sh.ks sh.perm := by
  intro sh h
  simp only [d_is_mark, List.mem_cons, List.not_mem_nil, or_false] at h
  subst h
  · exact fun s us ws _ h1 h2 => match us, ws, h1, h2 with | [_], [], _, _ => .of_eq rfl
theorem kb_is_kinds_in {K : PySem.W.Frag} (kV doc pm : Value) (an : Option Addr) (cdv ct : Value) : ∀ sh ∈ d_is_kinds_in.shapes, KB K (PySem.W.fnOf d_is_kinds_in.name d_is_kinds_in.name (defArgs d_is_kinds_in.st) (defBody d_is_kinds_in.st) (defScope d_is_kinds_in.st) .none kV doc pm an cdv ct) d_is_kinds_in.ps sh.n sh.ks sh.perm := by
  intro sh h
  simp only [d_is_kinds_in, List.mem_cons, List.not_mem_nil, or_false] at h
  subst h
  · exact fun s us ws _ h1 h2 => match us, ws, h1, h2 with | [_], [], _, _ => .of_eq rfl
theorem kb_is_event_of {K : PySem.W.Frag} (kV doc pm : Value) (an : Option Addr) (cdv ct : Value) : ∀ sh ∈ d_is_event_of.shapes, KB K (PySem.W.fnOf d_is_event_of.name d_is_event_of.name (defArgs d_is_event_of.st) (defBody d_is_event_of.st) (defScope d_is_event_of.st) .none kV doc pm an cdv ct) d_is_event_of.ps sh.n sh.ks sh.perm := by
  intro sh h
  simp only [d_is_event_of, List.mem_cons, List.not_mem_nil, or_false] at h
  subst h
  · exact fun s us ws _ h1 h2 => match us, ws, h1, h2 with | [_, _], [], _, _ => .of_eq rfl
theorem kb_stream_fault {K : PySem.W.Frag} (kV doc pm : Value) (an : Option Addr) (cdv ct : Value) : ∀ sh ∈ d_stream_fault.shapes, KB K (PySem.W.fnOf d_stream_fault.name d_stream_fault.name (defArgs d_stream_fault.st) (defBody d_stream_fault.st) (defScope d_stream_fault.st) .none kV doc pm an cdv ct) d_stream_fault.ps sh.n sh.ks sh.perm := by
  intro sh h
  simp only [d_stream_fault, List.mem_cons, List.not_mem_nil, or_false] at h
  subst h
  · exact fun s us ws _ h1 h2 => match us, ws, h1, h2 with | [_, _], [], _, _ => .of_eq rfl
theorem kb_check_stream {K : PySem.W.Frag} (kV doc pm : Value) (an : Option Addr) (cdv ct : Value) : ∀ sh ∈ d_check_stream.shapes, KB K (PySem.W.fnOf d_check_stream.name d_check_stream.name (defArgs d_check_stream.st) (defBody d_check_stream.st) (defScope d_check_stream.st) .none kV doc pm an cdv ct) d_check_stream.ps sh.n sh.ks sh.perm := by
  intro sh h
  simp only [d_check_stream, List.mem_cons, List.not_mem_nil, or_false] at h
  subst h
  · exact fun s us ws _ h1 h2 => match us, ws, h1, h2 with | [_, _], [], _, _ => .of_eq rfl
theorem kb_is_told {K : PySem.W.Frag} (kV doc pm : Value) (an : Option Addr) (cdv ct : Value) : ∀ sh ∈ d_is_told.shapes, KB K (PySem.W.fnOf d_is_told.name d_is_told.name (defArgs d_is_told.st) (defBody d_is_told.st) (defScope d_is_told.st) .none kV doc pm an cdv ct) d_is_told.ps sh.n sh.ks sh.perm := by
  intro sh h
  simp only [d_is_told, List.mem_cons, List.not_mem_nil, or_false] at h
  subst h
  · exact fun s us ws _ h1 h2 => match us, ws, h1, h2 with | [_, _], [], _, _ => .of_eq rfl
theorem kb_is_thing {K : PySem.W.Frag} (kV doc pm : Value) (an : Option Addr) (cdv ct : Value) : ∀ sh ∈ d_is_thing.shapes, KB K (PySem.W.fnOf d_is_thing.name d_is_thing.name (defArgs d_is_thing.st) (defBody d_is_thing.st) (defScope d_is_thing.st) .none kV doc pm an cdv ct) d_is_thing.ps sh.n sh.ks sh.perm := by
  intro sh h
  simp only [d_is_thing, List.mem_cons, List.not_mem_nil, or_false] at h
  subst h
  · exact fun s us ws _ h1 h2 => match us, ws, h1, h2 with | [_, _, _], [], _, _ => .of_eq rfl
theorem kb_is_tree {K : PySem.W.Frag} (kV doc pm : Value) (an : Option Addr) (cdv ct : Value) : ∀ sh ∈ d_is_tree.shapes, KB K (PySem.W.fnOf d_is_tree.name d_is_tree.name (defArgs d_is_tree.st) (defBody d_is_tree.st) (defScope d_is_tree.st) .none kV doc pm an cdv ct) d_is_tree.ps sh.n sh.ks sh.perm := by
  intro sh h
  simp only [d_is_tree, List.mem_cons, List.not_mem_nil, or_false] at h
  subst h
  · exact fun s us ws _ h1 h2 => match us, ws, h1, h2 with | [_, _, _, _], [], _, _ => .of_eq rfl
theorem kb_trees_fault {K : PySem.W.Frag} (kV doc pm : Value) (an : Option Addr) (cdv ct : Value) : ∀ sh ∈ d_trees_fault.shapes, KB K (PySem.W.fnOf d_trees_fault.name d_trees_fault.name (defArgs d_trees_fault.st) (defBody d_trees_fault.st) (defScope d_trees_fault.st) .none kV doc pm an cdv ct) d_trees_fault.ps sh.n sh.ks sh.perm := by
  intro sh h
  simp only [d_trees_fault, List.mem_cons, List.not_mem_nil, or_false] at h
  subst h
  · exact fun s us ws _ h1 h2 => match us, ws, h1, h2 with | [_, _, _], [], _, _ => .of_eq rfl
theorem kb_program_fault {K : PySem.W.Frag} (kV doc pm : Value) (an : Option Addr) (cdv ct : Value) : ∀ sh ∈ d_program_fault.shapes, KB K (PySem.W.fnOf d_program_fault.name d_program_fault.name (defArgs d_program_fault.st) (defBody d_program_fault.st) (defScope d_program_fault.st) .none kV doc pm an cdv ct) d_program_fault.ps sh.n sh.ks sh.perm := by
  intro sh h
  simp only [d_program_fault, List.mem_cons, List.not_mem_nil, or_false] at h
  subst h
  · exact fun s us ws _ h1 h2 => match us, ws, h1, h2 with | [_], [], _, _ => .of_eq rfl
theorem kb_check_program {K : PySem.W.Frag} (kV doc pm : Value) (an : Option Addr) (cdv ct : Value) : ∀ sh ∈ d_check_program.shapes, KB K (PySem.W.fnOf d_check_program.name d_check_program.name (defArgs d_check_program.st) (defBody d_check_program.st) (defScope d_check_program.st) .none kV doc pm an cdv ct) d_check_program.ps sh.n sh.ks sh.perm := by
  intro sh h
  simp only [d_check_program, List.mem_cons, List.not_mem_nil, or_false] at h
  subst h
  · exact fun s us ws _ h1 h2 => match us, ws, h1, h2 with | [_], [], _, _ => .of_eq rfl
theorem kb_id_of {K : PySem.W.Frag} (kV doc pm : Value) (an : Option Addr) (cdv ct : Value) : ∀ sh ∈ d_id_of.shapes, KB K (PySem.W.fnOf d_id_of.name d_id_of.name (defArgs d_id_of.st) (defBody d_id_of.st) (defScope d_id_of.st) .none kV doc pm an cdv ct) d_id_of.ps sh.n sh.ks sh.perm := by
  intro sh h
  simp only [d_id_of, List.mem_cons, List.not_mem_nil, or_false] at h
  subst h
  · exact fun s us ws _ h1 h2 => match us, ws, h1, h2 with | [_, _, _], [], _, _ => .of_eq rfl
theorem kb_led_by {K : PySem.W.Frag} (kV doc pm : Value) (an : Option Addr) (cdv ct : Value) : ∀ sh ∈ d_led_by.shapes, KB K (PySem.W.fnOf d_led_by.name d_led_by.name (defArgs d_led_by.st) (defBody d_led_by.st) (defScope d_led_by.st) .none kV doc pm an cdv ct) d_led_by.ps sh.n sh.ks sh.perm := by
  intro sh h
  simp only [d_led_by, List.mem_cons, List.not_mem_nil, or_false] at h
  subst h
  · exact fun s us ws _ h1 h2 => match us, ws, h1, h2 with | [_, _, _], [], _, _ => .of_eq rfl
theorem kb_start_of {K : PySem.W.Frag} (kV doc pm : Value) (an : Option Addr) (cdv ct : Value) : ∀ sh ∈ d_start_of.shapes, KB K (PySem.W.fnOf d_start_of.name d_start_of.name (defArgs d_start_of.st) (defBody d_start_of.st) (defScope d_start_of.st) .none kV doc pm an cdv ct) d_start_of.ps sh.n sh.ks sh.perm := by
  intro sh h
  simp only [d_start_of, List.mem_cons, List.not_mem_nil, or_false] at h
  subst h
  · exact fun s us ws _ h1 h2 => match us, ws, h1, h2 with | [_], [], _, _ => .of_eq rfl
theorem kb_stepped {K : PySem.W.Frag} (kV doc pm : Value) (an : Option Addr) (cdv ct : Value) : ∀ sh ∈ d_stepped.shapes, KB K (PySem.W.fnOf d_stepped.name d_stepped.name (defArgs d_stepped.st) (defBody d_stepped.st) (defScope d_stepped.st) .none kV doc pm an cdv ct) d_stepped.ps sh.n sh.ks sh.perm := by
  intro sh h
  simp only [d_stepped, List.mem_cons, List.not_mem_nil, or_false] at h
  subst h
  · exact fun s us ws _ h1 h2 => match us, ws, h1, h2 with | [_, _, _], [], _, _ => .of_eq rfl
theorem kb_state_in {K : PySem.W.Frag} (kV doc pm : Value) (an : Option Addr) (cdv ct : Value) : ∀ sh ∈ d_state_in.shapes, KB K (PySem.W.fnOf d_state_in.name d_state_in.name (defArgs d_state_in.st) (defBody d_state_in.st) (defScope d_state_in.st) .none kV doc pm an cdv ct) d_state_in.ps sh.n sh.ks sh.perm := by
  intro sh h
  simp only [d_state_in, List.mem_cons, List.not_mem_nil, or_false] at h
  subst h
  · exact fun s us ws _ h1 h2 => match us, ws, h1, h2 with | [_, _], [], _, _ => .of_eq rfl
theorem kb_told_at {K : PySem.W.Frag} (kV doc pm : Value) (an : Option Addr) (cdv ct : Value) : ∀ sh ∈ d_told_at.shapes, KB K (PySem.W.fnOf d_told_at.name d_told_at.name (defArgs d_told_at.st) (defBody d_told_at.st) (defScope d_told_at.st) .none kV doc pm an cdv ct) d_told_at.ps sh.n sh.ks sh.perm := by
  intro sh h
  simp only [d_told_at, List.mem_cons, List.not_mem_nil, or_false] at h
  subst h
  · exact fun s us ws _ h1 h2 => match us, ws, h1, h2 with | [_, _], [], _, _ => .of_eq rfl
theorem kb_state_behind {K : PySem.W.Frag} (kV doc pm : Value) (an : Option Addr) (cdv ct : Value) : ∀ sh ∈ d_state_behind.shapes, KB K (PySem.W.fnOf d_state_behind.name d_state_behind.name (defArgs d_state_behind.st) (defBody d_state_behind.st) (defScope d_state_behind.st) .none kV doc pm an cdv ct) d_state_behind.ps sh.n sh.ks sh.perm := by
  intro sh h
  simp only [d_state_behind, List.mem_cons, List.not_mem_nil, or_false] at h
  subst h
  · exact fun s us ws _ h1 h2 => match us, ws, h1, h2 with | [_, _], [], _, _ => .of_eq rfl
theorem kb_program_answer {K : PySem.W.Frag} (kV doc pm : Value) (an : Option Addr) (cdv ct : Value) : ∀ sh ∈ d_program_answer.shapes, KB K (PySem.W.fnOf d_program_answer.name d_program_answer.name (defArgs d_program_answer.st) (defBody d_program_answer.st) (defScope d_program_answer.st) .none kV doc pm an cdv ct) d_program_answer.ps sh.n sh.ks sh.perm := by
  intro sh h
  simp only [d_program_answer, List.mem_cons, List.not_mem_nil, or_false] at h
  subst h
  · exact fun s us ws _ h1 h2 => match us, ws, h1, h2 with | [_, _], [], _, _ => .of_eq rfl
theorem kb__law_bag {K : PySem.W.Frag} (kV doc pm : Value) (an : Option Addr) (cdv ct : Value) : ∀ sh ∈ d__law_bag.shapes, KB K (PySem.W.fnOf d__law_bag.name d__law_bag.name (defArgs d__law_bag.st) (defBody d__law_bag.st) (defScope d__law_bag.st) .none kV doc pm an cdv ct) d__law_bag.ps sh.n sh.ks sh.perm := by
  intro sh h
  simp only [d__law_bag, List.mem_cons, List.not_mem_nil, or_false] at h
  subst h
  · exact fun s us ws _ h1 h2 => match us, ws, h1, h2 with | [_], [], _, _ => .of_eq rfl
theorem kb__law_pick {K : PySem.W.Frag} (kV doc pm : Value) (an : Option Addr) (cdv ct : Value) : ∀ sh ∈ d__law_pick.shapes, KB K (PySem.W.fnOf d__law_pick.name d__law_pick.name (defArgs d__law_pick.st) (defBody d__law_pick.st) (defScope d__law_pick.st) .none kV doc pm an cdv ct) d__law_pick.ps sh.n sh.ks sh.perm := by
  intro sh h
  simp only [d__law_pick, List.mem_cons, List.not_mem_nil, or_false] at h
  subst h
  · exact fun s us ws _ h1 h2 => match us, ws, h1, h2 with | [_, _], [], _, _ => .of_eq rfl
theorem kb__law_ids {K : PySem.W.Frag} (kV doc pm : Value) (an : Option Addr) (cdv ct : Value) : ∀ sh ∈ d__law_ids.shapes, KB K (PySem.W.fnOf d__law_ids.name d__law_ids.name (defArgs d__law_ids.st) (defBody d__law_ids.st) (defScope d__law_ids.st) .none kV doc pm an cdv ct) d__law_ids.ps sh.n sh.ks sh.perm := by
  intro sh h
  simp only [d__law_ids, List.mem_cons, List.not_mem_nil, or_false] at h
  subst h
  · exact fun s us ws _ h1 h2 => match us, ws, h1, h2 with | [_, _], [], _, _ => .of_eq rfl
theorem kb__law_kinds {K : PySem.W.Frag} (kV doc pm : Value) (an : Option Addr) (cdv ct : Value) : ∀ sh ∈ d__law_kinds.shapes, KB K (PySem.W.fnOf d__law_kinds.name d__law_kinds.name (defArgs d__law_kinds.st) (defBody d__law_kinds.st) (defScope d__law_kinds.st) .none kV doc pm an cdv ct) d__law_kinds.ps sh.n sh.ks sh.perm := by
  intro sh h
  simp only [d__law_kinds, List.mem_cons, List.not_mem_nil, or_false] at h
  subst h
  · exact fun s us ws _ h1 h2 => match us, ws, h1, h2 with | [_, _, _], [], _, _ => .of_eq rfl
theorem kb__law_stream {K : PySem.W.Frag} (kV doc pm : Value) (an : Option Addr) (cdv ct : Value) : ∀ sh ∈ d__law_stream.shapes, KB K (PySem.W.fnOf d__law_stream.name d__law_stream.name (defArgs d__law_stream.st) (defBody d__law_stream.st) (defScope d__law_stream.st) .none kV doc pm an cdv ct) d__law_stream.ps sh.n sh.ks sh.perm := by
  intro sh h
  simp only [d__law_stream, List.mem_cons, List.not_mem_nil, or_false] at h
  subst h
  · exact fun s us ws _ h1 h2 => match us, ws, h1, h2 with | [_, _, _, _], [], _, _ => .of_eq rfl
theorem kb__law_thing {K : PySem.W.Frag} (kV doc pm : Value) (an : Option Addr) (cdv ct : Value) : ∀ sh ∈ d__law_thing.shapes, KB K (PySem.W.fnOf d__law_thing.name d__law_thing.name (defArgs d__law_thing.st) (defBody d__law_thing.st) (defScope d__law_thing.st) .none kV doc pm an cdv ct) d__law_thing.ps sh.n sh.ks sh.perm := by
  intro sh h
  simp only [d__law_thing, List.mem_cons, List.not_mem_nil, or_false] at h
  subst h
  · exact fun s us ws _ h1 h2 => match us, ws, h1, h2 with | [_, _, _], [], _, _ => .of_eq rfl
theorem kb__law_go {K : PySem.W.Frag} (kV doc pm : Value) (an : Option Addr) (cdv ct : Value) : ∀ sh ∈ d__law_go.shapes, KB K (PySem.W.fnOf d__law_go.name d__law_go.name (defArgs d__law_go.st) (defBody d__law_go.st) (defScope d__law_go.st) .none kV doc pm an cdv ct) d__law_go.ps sh.n sh.ks sh.perm := by
  intro sh h
  simp only [d__law_go, List.mem_cons, List.not_mem_nil, or_false] at h
  subst h
  · exact fun s us ws _ h1 h2 => match us, ws, h1, h2 with | [_, _, _, _], [], _, _ => .of_eq rfl
theorem kb__law_tree {K : PySem.W.Frag} (kV doc pm : Value) (an : Option Addr) (cdv ct : Value) : ∀ sh ∈ d__law_tree.shapes, KB K (PySem.W.fnOf d__law_tree.name d__law_tree.name (defArgs d__law_tree.st) (defBody d__law_tree.st) (defScope d__law_tree.st) .none kV doc pm an cdv ct) d__law_tree.ps sh.n sh.ks sh.perm := by
  intro sh h
  simp only [d__law_tree, List.mem_cons, List.not_mem_nil, or_false] at h
  subst h
  · exact fun s us ws _ h1 h2 => match us, ws, h1, h2 with | [_, _, _, _, _], [], _, _ => .of_eq rfl
theorem kb__law_shown {K : PySem.W.Frag} (kV doc pm : Value) (an : Option Addr) (cdv ct : Value) : ∀ sh ∈ d__law_shown.shapes, KB K (PySem.W.fnOf d__law_shown.name d__law_shown.name (defArgs d__law_shown.st) (defBody d__law_shown.st) (defScope d__law_shown.st) .none kV doc pm an cdv ct) d__law_shown.ps sh.n sh.ks sh.perm := by
  intro sh h
  simp only [d__law_shown, List.mem_cons, List.not_mem_nil, or_false] at h
  subst h
  · exact fun s us ws _ h1 h2 => match us, ws, h1, h2 with | [_, _], [], _, _ => .of_eq rfl
theorem kb__law_program {K : PySem.W.Frag} (kV doc pm : Value) (an : Option Addr) (cdv ct : Value) : ∀ sh ∈ d__law_program.shapes, KB K (PySem.W.fnOf d__law_program.name d__law_program.name (defArgs d__law_program.st) (defBody d__law_program.st) (defScope d__law_program.st) .none kV doc pm an cdv ct) d__law_program.ps sh.n sh.ks sh.perm := by
  intro sh h
  simp only [d__law_program, List.mem_cons, List.not_mem_nil, or_false] at h
  subst h
  · exact fun s us ws _ h1 h2 => match us, ws, h1, h2 with | [_, _, _, _, _], [], _, _ => .of_eq rfl
theorem kb__law_thing_id {K : PySem.W.Frag} (kV doc pm : Value) (an : Option Addr) (cdv ct : Value) : ∀ sh ∈ d__law_thing_id.shapes, KB K (PySem.W.fnOf d__law_thing_id.name d__law_thing_id.name (defArgs d__law_thing_id.st) (defBody d__law_thing_id.st) (defScope d__law_thing_id.st) .none kV doc pm an cdv ct) d__law_thing_id.ps sh.n sh.ks sh.perm := by
  intro sh h
  simp only [d__law_thing_id, List.mem_cons, List.not_mem_nil, or_false] at h
  subst h
  · exact fun s us ws _ h1 h2 => match us, ws, h1, h2 with | [_, _, _], [], _, _ => .of_eq rfl
theorem kb__law_lead {K : PySem.W.Frag} (kV doc pm : Value) (an : Option Addr) (cdv ct : Value) : ∀ sh ∈ d__law_lead.shapes, KB K (PySem.W.fnOf d__law_lead.name d__law_lead.name (defArgs d__law_lead.st) (defBody d__law_lead.st) (defScope d__law_lead.st) .none kV doc pm an cdv ct) d__law_lead.ps sh.n sh.ks sh.perm := by
  intro sh h
  simp only [d__law_lead, List.mem_cons, List.not_mem_nil, or_false] at h
  subst h
  · exact fun s us ws _ h1 h2 => match us, ws, h1, h2 with | [_, _, _], [], _, _ => .of_eq rfl
theorem kb__law_led {K : PySem.W.Frag} (kV doc pm : Value) (an : Option Addr) (cdv ct : Value) : ∀ sh ∈ d__law_led.shapes, KB K (PySem.W.fnOf d__law_led.name d__law_led.name (defArgs d__law_led.st) (defBody d__law_led.st) (defScope d__law_led.st) .none kV doc pm an cdv ct) d__law_led.ps sh.n sh.ks sh.perm := by
  intro sh h
  simp only [d__law_led, List.mem_cons, List.not_mem_nil, or_false] at h
  subst h
  · exact fun s us ws _ h1 h2 => match us, ws, h1, h2 with | [_, _], [], _, _ => .of_eq rfl
theorem kb__law_exact {K : PySem.W.Frag} (kV doc pm : Value) (an : Option Addr) (cdv ct : Value) : ∀ sh ∈ d__law_exact.shapes, KB K (PySem.W.fnOf d__law_exact.name d__law_exact.name (defArgs d__law_exact.st) (defBody d__law_exact.st) (defScope d__law_exact.st) .none kV doc pm an cdv ct) d__law_exact.ps sh.n sh.ks sh.perm := by
  intro sh h
  simp only [d__law_exact, List.mem_cons, List.not_mem_nil, or_false] at h
  subst h
  · exact fun s us ws _ h1 h2 => match us, ws, h1, h2 with | [_, _], [], _, _ => .of_eq rfl
theorem kb_law {K : PySem.W.Frag} (kV doc pm : Value) (an : Option Addr) (cdv ct : Value) : ∀ sh ∈ d_law.shapes, KB K (PySem.W.fnOf d_law.name d_law.name (defArgs d_law.st) (defBody d_law.st) (defScope d_law.st) .none kV doc pm an cdv ct) d_law.ps sh.n sh.ks sh.perm := by
  intro sh h
  cases h
theorem all_mk {l : PySem.W.OpenLaw} {w : World} {K : PySem.W.Frag} {h : Heap} {mg : Str → Option Value} {fa : Addr} (X : K.In h) (G : h.Ns mainGlobals mg) (hfa : mg "law" = some (.ref fa)) (fb : NoneAll K md.bl) (f_is_integer : Facts K "is_integer" (topS 5)) (f_is_from : Facts K "is_from" (topS 6)) (f_is_below : Facts K "is_below" (topS 7)) (f_is_tuple : Facts K "is_tuple" (topS 8)) (f_is_mark : Facts K "is_mark" (topS 9)) (f_is_kinds_in : Facts K "is_kinds_in" (topS 10)) (f_is_event_of : Facts K "is_event_of" (topS 11)) (f_stream_fault : Facts K "stream_fault" (topS 12)) (f_check_stream : Facts K "check_stream" (topS 13)) (f_is_told : Facts K "is_told" (topS 15)) (f_is_thing : Facts K "is_thing" (topS 17)) (f_is_tree : Facts K "is_tree" (topS 18)) (f_trees_fault : Facts K "trees_fault" (topS 19)) (f_program_fault : Facts K "program_fault" (topS 20)) (f_check_program : Facts K "check_program" (topS 21)) (f_id_of : Facts K "id_of" (topS 22)) (f_led_by : Facts K "led_by" (topS 23)) (f_start_of : Facts K "start_of" (topS 24)) (f_stepped : Facts K "stepped" (topS 25)) (f_state_in : Facts K "state_in" (topS 26)) (f_told_at : Facts K "told_at" (topS 27)) (f_state_behind : Facts K "state_behind" (topS 28)) (f_program_answer : Facts K "program_answer" (topS 29)) (f__law_bag : Facts K "_law_bag" (topS 31)) (f__law_pick : Facts K "_law_pick" (topS 32)) (f__law_ids : Facts K "_law_ids" (topS 33)) (f__law_kinds : Facts K "_law_kinds" (topS 34)) (f__law_stream : Facts K "_law_stream" (topS 35)) (f__law_thing : Facts K "_law_thing" (topS 36)) (f__law_go : Facts K "_law_go" (topS 37)) (f__law_tree : Facts K "_law_tree" (topS 38)) (f__law_shown : Facts K "_law_shown" (topS 39)) (f__law_program : Facts K "_law_program" (topS 40)) (f__law_thing_id : Facts K "_law_thing_id" (topS 41)) (f__law_lead : Facts K "_law_lead" (topS 42)) (f__law_led : Facts K "_law_led" (topS 43)) (f__law_exact : Facts K "_law_exact" (topS 44)) (f_law : Facts K "law" (topS 45)) :
    ∃ fd : FuncData, (∀ (s : Shared) (u : Value), BindsTo s fd ⟨[u], []⟩ [("script", u)]) ∧ ∀ base : Heap, K.In base → base.Ns mainGlobals mg → FnG l.prog w K mg base 71 fa fd ["script"] s_law := by
  have hbl := fb.bl X G
  have o_is_integer : DefOk K mg d_is_integer := DefOk.of X G f_is_integer sc_is_integer kb_is_integer
  have o_is_from : DefOk K mg d_is_from := DefOk.of X G f_is_from sc_is_from kb_is_from
  have o_is_below : DefOk K mg d_is_below := DefOk.of X G f_is_below sc_is_below kb_is_below
  have o_is_tuple : DefOk K mg d_is_tuple := DefOk.of X G f_is_tuple sc_is_tuple kb_is_tuple
  have o_is_mark : DefOk K mg d_is_mark := DefOk.of X G f_is_mark sc_is_mark kb_is_mark
  have o_is_kinds_in : DefOk K mg d_is_kinds_in := DefOk.of X G f_is_kinds_in sc_is_kinds_in kb_is_kinds_in
  have o_is_event_of : DefOk K mg d_is_event_of := DefOk.of X G f_is_event_of sc_is_event_of kb_is_event_of
  have o_stream_fault : DefOk K mg d_stream_fault := DefOk.of X G f_stream_fault sc_stream_fault kb_stream_fault
  have o_check_stream : DefOk K mg d_check_stream := DefOk.of X G f_check_stream sc_check_stream kb_check_stream
  have o_is_told : DefOk K mg d_is_told := DefOk.of X G f_is_told sc_is_told kb_is_told
  have o_is_thing : DefOk K mg d_is_thing := DefOk.of X G f_is_thing sc_is_thing kb_is_thing
  have o_is_tree : DefOk K mg d_is_tree := DefOk.of X G f_is_tree sc_is_tree kb_is_tree
  have o_trees_fault : DefOk K mg d_trees_fault := DefOk.of X G f_trees_fault sc_trees_fault kb_trees_fault
  have o_program_fault : DefOk K mg d_program_fault := DefOk.of X G f_program_fault sc_program_fault kb_program_fault
  have o_check_program : DefOk K mg d_check_program := DefOk.of X G f_check_program sc_check_program kb_check_program
  have o_id_of : DefOk K mg d_id_of := DefOk.of X G f_id_of sc_id_of kb_id_of
  have o_led_by : DefOk K mg d_led_by := DefOk.of X G f_led_by sc_led_by kb_led_by
  have o_start_of : DefOk K mg d_start_of := DefOk.of X G f_start_of sc_start_of kb_start_of
  have o_stepped : DefOk K mg d_stepped := DefOk.of X G f_stepped sc_stepped kb_stepped
  have o_state_in : DefOk K mg d_state_in := DefOk.of X G f_state_in sc_state_in kb_state_in
  have o_told_at : DefOk K mg d_told_at := DefOk.of X G f_told_at sc_told_at kb_told_at
  have o_state_behind : DefOk K mg d_state_behind := DefOk.of X G f_state_behind sc_state_behind kb_state_behind
  have o_program_answer : DefOk K mg d_program_answer := DefOk.of X G f_program_answer sc_program_answer kb_program_answer
  have o__law_bag : DefOk K mg d__law_bag := DefOk.of X G f__law_bag sc__law_bag kb__law_bag
  have o__law_pick : DefOk K mg d__law_pick := DefOk.of X G f__law_pick sc__law_pick kb__law_pick
  have o__law_ids : DefOk K mg d__law_ids := DefOk.of X G f__law_ids sc__law_ids kb__law_ids
  have o__law_kinds : DefOk K mg d__law_kinds := DefOk.of X G f__law_kinds sc__law_kinds kb__law_kinds
  have o__law_stream : DefOk K mg d__law_stream := DefOk.of X G f__law_stream sc__law_stream kb__law_stream
  have o__law_thing : DefOk K mg d__law_thing := DefOk.of X G f__law_thing sc__law_thing kb__law_thing
  have o__law_go : DefOk K mg d__law_go := DefOk.of X G f__law_go sc__law_go kb__law_go
  have o__law_tree : DefOk K mg d__law_tree := DefOk.of X G f__law_tree sc__law_tree kb__law_tree
  have o__law_shown : DefOk K mg d__law_shown := DefOk.of X G f__law_shown sc__law_shown kb__law_shown
  have o__law_program : DefOk K mg d__law_program := DefOk.of X G f__law_program sc__law_program kb__law_program
  have o__law_thing_id : DefOk K mg d__law_thing_id := DefOk.of X G f__law_thing_id sc__law_thing_id kb__law_thing_id
  have o__law_lead : DefOk K mg d__law_lead := DefOk.of X G f__law_lead sc__law_lead kb__law_lead
  have o__law_led : DefOk K mg d__law_led := DefOk.of X G f__law_led sc__law_led kb__law_led
  have o__law_exact : DefOk K mg d__law_exact := DefOk.of X G f__law_exact sc__law_exact kb__law_exact
  obtain ⟨fd, F, e, b⟩ := law_of (d := d_law) (x := "script") X G f_law hfa (fun _ _ _ _ _ _ _ _ => .of_eq rfl)
  refine ⟨fd, b, fun base _ _ => ?_⟩
  have all : ∀ i : Gh, (∀ t ∈ tb_23, @EntOk i l.prog w K mg base 34 t) ∧ ∀ t ∈ tb_37, @EntOk i l.prog w K mg base 70 t := by
    intro i
    have t_0 : ∀ t ∈ tb_0, EntOk l.prog w K mg base 0 t := fun t h => absurd h (by simp)
    have t_1 : ∀ t ∈ tb_1, EntOk l.prog w K mg base 1 t := ents_ok (m := md) (d := d_is_integer) hbl t_0 o_is_integer
    have t_2 : ∀ t ∈ tb_2, EntOk l.prog w K mg base 2 t := ents_ok (m := md) (d := d_is_from) hbl t_1 o_is_from
    have t_3 : ∀ t ∈ tb_3, EntOk l.prog w K mg base 3 t := ents_ok (m := md) (d := d_is_below) hbl t_2 o_is_below
    have t_4 : ∀ t ∈ tb_4, EntOk l.prog w K mg base 4 t := ents_ok (m := md) (d := d_is_tuple) hbl t_3 o_is_tuple
    have t_5 : ∀ t ∈ tb_5, EntOk l.prog w K mg base 5 t := ents_ok (m := md) (d := d_is_mark) hbl t_4 o_is_mark
    have t_6 : ∀ t ∈ tb_6, EntOk l.prog w K mg base 6 t := ents_ok (m := md) (d := d_is_kinds_in) hbl t_5 o_is_kinds_in
    have t_7 : ∀ t ∈ tb_7, EntOk l.prog w K mg base 7 t := ents_ok (m := md) (d := d_is_event_of) hbl t_6 o_is_event_of
    have t_8 : ∀ t ∈ tb_8, EntOk l.prog w K mg base 8 t := ents_ok (m := md) (d := d_stream_fault) hbl t_7 o_stream_fault
    have t_9 : ∀ t ∈ tb_9, EntOk l.prog w K mg base 9 t := ents_ok (m := md) (d := d_check_stream) hbl t_8 o_check_stream
    have t_10 : ∀ t ∈ tb_10, EntOk l.prog w K mg base 10 t := ents_ok (m := md) (d := d_is_told) hbl t_9 o_is_told
    have t_11 : ∀ t ∈ tb_11, EntOk l.prog w K mg base 11 t := ents_ok (m := md) (d := d_is_thing) hbl t_10 o_is_thing
    have t_12 : ∀ t ∈ tb_12, EntOk l.prog w K mg base 23 t := recG_ok (m := md) (ds := [d_is_tree]) (tbl := tb_11) (k := 11) hbl t_11 (fun d hd => by
      simp only [List.mem_cons, List.not_mem_nil, or_false] at hd
      subst hd; exact o_is_tree) 12
    have t_13 : ∀ t ∈ tb_13, EntOk l.prog w K mg base 24 t := ents_ok (m := md) (d := d_trees_fault) hbl t_12 o_trees_fault
    have t_14 : ∀ t ∈ tb_14, EntOk l.prog w K mg base 25 t := ents_ok (m := md) (d := d_program_fault) hbl t_13 o_program_fault
    have t_15 : ∀ t ∈ tb_15, EntOk l.prog w K mg base 26 t := ents_ok (m := md) (d := d_check_program) hbl t_14 o_check_program
    have t_16 : ∀ t ∈ tb_16, EntOk l.prog w K mg base 27 t := ents_ok (m := md) (d := d_id_of) hbl t_15 o_id_of
    have t_17 : ∀ t ∈ tb_17, EntOk l.prog w K mg base 28 t := ents_ok (m := md) (d := d_led_by) hbl t_16 o_led_by
    have t_18 : ∀ t ∈ tb_18, EntOk l.prog w K mg base 29 t := ents_ok (m := md) (d := d_start_of) hbl t_17 o_start_of
    have t_19 : ∀ t ∈ tb_19, EntOk l.prog w K mg base 30 t := ents_ok (m := md) (d := d_stepped) hbl t_18 o_stepped
    have t_20 : ∀ t ∈ tb_20, EntOk l.prog w K mg base 31 t := ents_ok (m := md) (d := d_state_in) hbl t_19 o_state_in
    have t_21 : ∀ t ∈ tb_21, EntOk l.prog w K mg base 32 t := ents_ok (m := md) (d := d_told_at) hbl t_20 o_told_at
    have t_22 : ∀ t ∈ tb_22, EntOk l.prog w K mg base 33 t := ents_ok (m := md) (d := d_state_behind) hbl t_21 o_state_behind
    have t_23 : ∀ t ∈ tb_23, EntOk l.prog w K mg base 34 t := ents_ok (m := md) (d := d_program_answer) hbl t_22 o_program_answer
    have t_24 : ∀ t ∈ tb_24, EntOk l.prog w K mg base 35 t := fun t h => (t_23 t h).mono (Nat.le_succ _)
    have t_25 : ∀ t ∈ tb_25, EntOk l.prog w K mg base 36 t := pents_ok (m := md) (d := d__law_pick) hbl t_24 o__law_pick
    have t_26 : ∀ t ∈ tb_26, EntOk l.prog w K mg base 37 t := ents_ok (m := md) (d := d__law_ids) hbl t_25 o__law_ids
    have t_27 : ∀ t ∈ tb_27, EntOk l.prog w K mg base 38 t := ents_ok (m := md) (d := d__law_kinds) hbl t_26 o__law_kinds
    have t_28 : ∀ t ∈ tb_28, EntOk l.prog w K mg base 39 t := ents_ok (m := md) (d := d__law_stream) hbl t_27 o__law_stream
    have t_29 : ∀ t ∈ tb_29, EntOk l.prog w K mg base 40 t := ents_ok (m := md) (d := d__law_thing) hbl t_28 o__law_thing
    have t_30 : ∀ t ∈ tb_30, EntOk l.prog w K mg base 41 t := ents_ok (m := md) (d := d__law_go) hbl t_29 o__law_go
    have t_31 : ∀ t ∈ tb_31, EntOk l.prog w K mg base 53 t := recG_ok (m := md) (ds := [d__law_tree]) (tbl := tb_30) (k := 41) hbl t_30 (fun d hd => by
      simp only [List.mem_cons, List.not_mem_nil, or_false] at hd
      subst hd; exact o__law_tree) 12
    have t_32 : ∀ t ∈ tb_32, EntOk l.prog w K mg base 54 t := ents_ok (m := md) (d := d__law_shown) hbl t_31 o__law_shown
    have t_33 : ∀ t ∈ tb_33, EntOk l.prog w K mg base 55 t := ents_ok (m := md) (d := d__law_program) hbl t_32 o__law_program
    have t_34 : ∀ t ∈ tb_34, EntOk l.prog w K mg base 56 t := ents_ok (m := md) (d := d__law_thing_id) hbl t_33 o__law_thing_id
    have t_35 : ∀ t ∈ tb_35, EntOk l.prog w K mg base 57 t := ents_ok (m := md) (d := d__law_lead) hbl t_34 o__law_lead
    have t_36 : ∀ t ∈ tb_36, EntOk l.prog w K mg base 58 t := ents_ok (m := md) (d := d__law_led) hbl t_35 o__law_led
    have t_37 : ∀ t ∈ tb_37, EntOk l.prog w K mg base 70 t := recG_ok (m := md) (ds := [d__law_exact]) (tbl := tb_36) (k := 58) hbl t_36 (fun d hd => by
      simp only [List.mem_cons, List.not_mem_nil, or_false] at hd
      subst hd; exact o__law_exact) 12
    exact ⟨t_23, t_37⟩
  obtain ⟨fb, fdb, Fb, hmb, Scb, hkb⟩ := o__law_bag
  have GB := (bag_ok (m := md) (d := d__law_bag) hbl (all gh0).1 Fb Scb).mono (show 35 ≤ 70 by decide)
  exact law_bag_ok hbl (fun i => (all i).2) GB hmb Fb.kp (hkb _ (List.mem_cons_self ..)) F sc_law
end Law
open PySem PySem.Spec PyProof.Rows L2 Ev
namespace Law
def c_is_integer_1 : MS := (sRet (mAndV (mOp1 (opIsa PyData.isInt) (mBor 0)) (mNotV (toB (mOp1 (opIsa PyData.isBool) (mBor 0))))))
def b_is_integer : MS := (sSeq c_is_integer_1 sNext)
theorem s_is_integer_eq : s_is_integer = fnSem 1 1 b_is_integer := by
  show fnSem d_is_integer.N.length d_is_integer.ps.length (evS (rc 40) (ctxOf md tb_0 d_is_integer) 12 (defBody d_is_integer.st)) = _
  have h : evS (rc 40) (ctxOf md tb_0 d_is_integer) 12 (defBody d_is_integer.st) = b_is_integer := by kernel_rfl
  rw [h]; rfl
def c_is_from_1 : MS := (sRet (mAndV (mCallK s_is_integer [0] 1 0 (mCons (toB (mName 1)) mNil) mNil) (mOp2 (cmpRet cGe) (mBor 1) (mBor 0))))
def b_is_from : MS := (sSeq c_is_from_1 sNext)
theorem s_is_from_eq : s_is_from = fnSem 2 2 b_is_from := by
  show fnSem d_is_from.N.length d_is_from.ps.length (evS (rc 40) (ctxOf md tb_1 d_is_from) 12 (defBody d_is_from.st)) = _
  have h : evS (rc 40) (ctxOf md tb_1 d_is_from) 12 (defBody d_is_from.st) = b_is_from := by kernel_rfl
  rw [h]; rfl
def c_is_below_1 : MS := (sRet (mAndV (mCallK s_is_from [0, 1] 2 0 (mCons (toB (mCst (.int 0))) (mCons (toB (mName 1)) mNil)) mNil) (mOp2 (cmpRet cLt) (mBor 1) (mBor 0))))
def b_is_below : MS := (sSeq c_is_below_1 sNext)
theorem s_is_below_eq : s_is_below = fnSem 2 2 b_is_below := by
  show fnSem d_is_below.N.length d_is_below.ps.length (evS (rc 40) (ctxOf md tb_2 d_is_below) 12 (defBody d_is_below.st)) = _
  have h : evS (rc 40) (ctxOf md tb_2 d_is_below) 12 (defBody d_is_below.st) = b_is_below := by kernel_rfl
  rw [h]; rfl
def c_is_tuple_1 : MS := (sRet (mAndV (mOp1 (opIsa PyData.isTuple) (mBor 1)) (mOrV (mOp2 (cmpRet cIsNone) (mBor 0) (toB (mCst .none))) (mOp2 (cmpRet cEq) (toB (mOps bLen (mCons (mBor 1) mNil))) (mBor 0)))))
def b_is_tuple : MS := (sSeq c_is_tuple_1 sNext)
theorem s_is_tuple_eq : s_is_tuple = fnSem 2 2 b_is_tuple := by
  show fnSem d_is_tuple.N.length d_is_tuple.ps.length (evS (rc 40) (ctxOf md tb_3 d_is_tuple) 12 (defBody d_is_tuple.st)) = _
  have h : evS (rc 40) (ctxOf md tb_3 d_is_tuple) 12 (defBody d_is_tuple.st) = b_is_tuple := by kernel_rfl
  rw [h]; rfl
def c_is_mark_1 : MS := (sRet (mCallK s_is_from [0, 1] 2 0 (mCons (toB (mCst (.int 0))) (mCons (toB (mName 0)) mNil)) mNil))
def b_is_mark : MS := (sSeq c_is_mark_1 sNext)
theorem s_is_mark_eq : s_is_mark = fnSem 1 1 b_is_mark := by
  show fnSem d_is_mark.N.length d_is_mark.ps.length (evS (rc 40) (ctxOf md tb_4 d_is_mark) 12 (defBody d_is_mark.st)) = _
  have h : evS (rc 40) (ctxOf md tb_4 d_is_mark) 12 (defBody d_is_mark.st) = b_is_mark := by kernel_rfl
  rw [h]; rfl
def c_is_kinds_in_1 : MS := (sRet (mAndV (mOp1 (opIsa PyData.isTuple) (mBor 0)) (mAndV (mOp2 (cmpRet cNe) (mBor 0) (toB (mTup mNil))) (mOps bAll (mCons (toB (mLc [1] (mItV (mName 0)) (.nm 1) mYes (mCallK s_is_below [0, 1] 2 0 (mCons (toB (mCst (.int 3))) (mCons (toB (mName 1)) mNil)) mNil))) mNil)))))
def b_is_kinds_in : MS := (sSeq c_is_kinds_in_1 sNext)
theorem s_is_kinds_in_eq : s_is_kinds_in = fnSem 2 1 b_is_kinds_in := by
  show fnSem d_is_kinds_in.N.length d_is_kinds_in.ps.length (evS (rc 40) (ctxOf md tb_5 d_is_kinds_in) 12 (defBody d_is_kinds_in.st)) = _
  have h : evS (rc 40) (ctxOf md tb_5 d_is_kinds_in) 12 (defBody d_is_kinds_in.st) = b_is_kinds_in := by kernel_rfl
  rw [h]; rfl
def c_is_event_of_1 : MS := (sIf (mOrT (mNotT (mTru (toB (mCallK s_is_tuple [0, 1] 2 0 (mCons (toB (mCst (.int 2))) (mCons (toB (mName 1)) mNil)) mNil)))) (mOrT (mNotT (mTru (toB (mCallK s_is_below [0, 1] 2 0 (mCons (toB (mOps bLen (mCons (mBor 0) mNil))) (mCons (toB (mOp2 opIx (mBor 1) (toB (mCst (.int 0))))) mNil)) mNil)))) (mNotT (mTru (toB (mCallK s_is_tuple [0, 1] 2 0 (mCons (toB (mOp2 opIx (mBor 0) (toB (mOp2 opIx (mBor 1) (toB (mCst (.int 0))))))) (mCons (toB (mOp2 opIx (mBor 1) (toB (mCst (.int 1))))) mNil)) mNil)))))) (sSeq (sRet (mCst (.bool false)))
  sNext) sNext)
def c_is_event_of_2 : MS := (sRet (mOps bAll (mCons (toB (mLc [2] (mItV (mOp2 opIx (mBor 1) (toB (mCst (.int 1))))) (.nm 2) mYes (mCallK s_is_from [0, 1] 2 0 (mCons (toB (mCst (.int 0))) (mCons (toB (mName 2)) mNil)) mNil))) mNil)))
def b_is_event_of : MS := (sSeq c_is_event_of_1 (sSeq c_is_event_of_2 sNext))
theorem s_is_event_of_eq : s_is_event_of = fnSem 3 2 b_is_event_of := by
  show fnSem d_is_event_of.N.length d_is_event_of.ps.length (evS (rc 40) (ctxOf md tb_6 d_is_event_of) 12 (defBody d_is_event_of.st)) = _
  have h : evS (rc 40) (ctxOf md tb_6 d_is_event_of) 12 (defBody d_is_event_of.st) = b_is_event_of := by kernel_rfl
  rw [h]; rfl
def l_stream_fault_1 : MS := (sSeq (sIf (mNotT (mTru (toB (mCallK s_is_event_of [0, 1] 2 0 (mCons (toB (mName 0)) (mCons (toB (mName 3)) mNil)) mNil)))) (sSeq (sRet (mMove 2))
  sNext) sNext)
  sNext)
def c_stream_fault_1 : MS := (sIf (mNotT (mTru (toB (mOp1 (opIsa PyData.isTuple) (mBor 1))))) (sSeq (sRet (mOp1 opNeg (toB (mCst (.int 1)))))
  sNext) sNext)
def c_stream_fault_2 : MS := (sFor (mItEn (mName 1)) (.tp [(.nm 2), (.nm 3)]) l_stream_fault_1)
def c_stream_fault_3 : MS := (sRet (mCst .none))
def b_stream_fault : MS := (sSeq c_stream_fault_1 (sSeq c_stream_fault_2 (sSeq c_stream_fault_3 sNext)))
theorem s_stream_fault_eq : s_stream_fault = fnSem 4 2 b_stream_fault := by
  show fnSem d_stream_fault.N.length d_stream_fault.ps.length (evS (rc 40) (ctxOf md tb_7 d_stream_fault) 12 (defBody d_stream_fault.st)) = _
  have h : evS (rc 40) (ctxOf md tb_7 d_stream_fault) 12 (defBody d_stream_fault.st) = b_stream_fault := by kernel_rfl
  rw [h]; rfl
def c_check_stream_1 : MS := (sAsgN 2 (mCallK s_stream_fault [0, 1] 2 0 (mCons (toB (mName 0)) (mCons (toB (mName 1)) mNil)) mNil))
def c_check_stream_2 : MS := (sIf (mTst (mOp2 (cmpRet cNotNone) (mBor 2) (toB (mCst .none)))) (sSeq sNo
  sNext) sNext)
def b_check_stream : MS := (sSeq c_check_stream_1 (sSeq c_check_stream_2 sNext))
theorem s_check_stream_eq : s_check_stream = fnSem 3 2 b_check_stream := by
  show fnSem d_check_stream.N.length d_check_stream.ps.length (evS (rc 40) (ctxOf md tb_8 d_check_stream) 12 (defBody d_check_stream.st)) = _
  have h : evS (rc 40) (ctxOf md tb_8 d_check_stream) 12 (defBody d_check_stream.st) = b_check_stream := by kernel_rfl
  rw [h]; rfl
def c_is_told_1 : MS := (sIf (mOrT (mNotT (mTru (toB (mCallK s_is_tuple [0, 1] 2 0 (mCons (toB (mCst (.int 2))) (mCons (toB (mName 1)) mNil)) mNil)))) (mOrT (mNotT (mTru (toB (mCallK s_is_mark [0] 1 0 (mCons (toB (mOp2 opIx (mBor 1) (toB (mCst (.int 0))))) mNil) mNil)))) (mNotT (mTru (toB (mOp1 (opIsa PyData.isTuple) (toB (mOp2 opIx (mBor 1) (toB (mCst (.int 1))))))))))) (sSeq (sRet (mCst (.bool false)))
  sNext) sNext)
def c_is_told_2 : MS := (sRet (mOps bAll (mCons (toB (mLc [2] (mItV (mOp2 opIx (mBor 1) (toB (mCst (.int 1))))) (.nm 2) mYes (mOrV (mOp2 (cmpRet cIsNone) (mBor 2) (toB (mCst .none))) (mCallK s_is_below [0, 1] 2 0 (mCons (toB (mName 0)) (mCons (toB (mName 2)) mNil)) mNil)))) mNil)))
def b_is_told : MS := (sSeq c_is_told_1 (sSeq c_is_told_2 sNext))
theorem s_is_told_eq : s_is_told = fnSem 3 2 b_is_told := by
  show fnSem d_is_told.N.length d_is_told.ps.length (evS (rc 40) (ctxOf md tb_9 d_is_told) 12 (defBody d_is_told.st)) = _
  have h : evS (rc 40) (ctxOf md tb_9 d_is_told) 12 (defBody d_is_told.st) = b_is_told := by kernel_rfl
  rw [h]; rfl
def c_is_thing_1 : MS := (sIf (mTru (toB (mCallK s_is_tuple [0, 1] 2 0 (mCons (toB (mCst (.int 1))) (mCons (toB (mName 2)) mNil)) mNil))) (sSeq (sRet (mOp2 (cmpRet cEq) (toB (mOp2 opIx (mBor 2) (toB (mCst (.int 0))))) (toB (mCst (.str "nobody")))))
  sNext) sNext)
def c_is_thing_2 : MS := (sIf (mNotT (mTru (toB (mCallK s_is_tuple [0, 1] 2 0 (mCons (toB (mCst (.int 2))) (mCons (toB (mName 2)) mNil)) mNil)))) (sSeq (sRet (mCst (.bool false)))
  sNext) sNext)
def c_is_thing_3 : MS := (sIf (mTst (mOp2 (cmpRet cEq) (toB (mOp2 opIx (mBor 2) (toB (mCst (.int 0))))) (toB (mCst (.str "register"))))) (sSeq (sRet (mCallK s_is_below [0, 1] 2 0 (mCons (toB (mName 0)) (mCons (toB (mOp2 opIx (mBor 2) (toB (mCst (.int 1))))) mNil)) mNil))
  sNext) sNext)
def c_is_thing_4 : MS := (sRet (mAndV (mOp2 (cmpRet cEq) (toB (mOp2 opIx (mBor 2) (toB (mCst (.int 0))))) (toB (mCst (.str "id")))) (mCallK s_is_below [0, 1] 2 0 (mCons (toB (mName 1)) (mCons (toB (mOp2 opIx (mBor 2) (toB (mCst (.int 1))))) mNil)) mNil)))
def b_is_thing : MS := (sSeq c_is_thing_1 (sSeq c_is_thing_2 (sSeq c_is_thing_3 (sSeq c_is_thing_4 sNext))))
theorem s_is_thing_eq : s_is_thing = fnSem 3 3 b_is_thing := by
  show fnSem d_is_thing.N.length d_is_thing.ps.length (evS (rc 40) (ctxOf md tb_10 d_is_thing) 12 (defBody d_is_thing.st)) = _
  have h : evS (rc 40) (ctxOf md tb_10 d_is_thing) 12 (defBody d_is_thing.st) = b_is_thing := by kernel_rfl
  rw [h]; rfl
def c_is_tree_1 (n : Nat) : MS := (sIf (mAndT (mTru (toB (mCallK s_is_tuple [0, 1] 2 0 (mCons (toB (mCst (.int 3))) (mCons (toB (mName 3)) mNil)) mNil))) (mTst (mOp2 (cmpRet cEq) (toB (mOp2 opIx (mBor 3) (toB (mCst (.int 0))))) (toB (mCst (.str "go")))))) (sSeq (sIf (mOrT (mNotT (mTru (toB (mCallK s_is_below [0, 1] 2 0 (mCons (toB (mName 0)) (mCons (toB (mOp2 opIx (mBor 3) (toB (mCst (.int 1))))) mNil)) mNil)))) (mNotT (mTru (toB (mCallK s_is_tuple [0, 1] 2 0 (mCons (toB (mName 1)) (mCons (toB (mOp2 opIx (mBor 3) (toB (mCst (.int 2))))) mNil)) mNil))))) (sSeq (sRet (mCst (.bool false)))
  sNext) sNext)
  (sSeq (sRet (mOps bAll (mCons (toB (mLc [4] (mItV (mOp2 opIx (mBor 3) (toB (mCst (.int 2))))) (.nm 4) mYes (mCallK s_is_thing [0, 1, 2] 3 0 (mCons (toB (mName 1)) (mCons (toB (mName 2)) (mCons (toB (mName 4)) mNil))) mNil))) mNil)))
  sNext)) sNext)
def c_is_tree_2 (n : Nat) : MS := (sIf (mOrT (mNotT (mTru (toB (mCallK s_is_tuple [0, 1] 2 0 (mCons (toB (mCst (.int 5))) (mCons (toB (mName 3)) mNil)) mNil)))) (mTst (mOp2 (cmpRet cNe) (toB (mOp2 opIx (mBor 3) (toB (mCst (.int 0))))) (toB (mCst (.str "if")))))) (sSeq (sRet (mCst (.bool false)))
  sNext) sNext)
def c_is_tree_3 (n : Nat) : MS := (sIf (mOrT (mNotT (mTru (toB (mCallK s_is_thing [0, 1, 2] 3 0 (mCons (toB (mName 1)) (mCons (toB (mName 2)) (mCons (toB (mOp2 opIx (mBor 3) (toB (mCst (.int 1))))) mNil))) mNil)))) (mNotT (mTru (toB (mCallK s_is_thing [0, 1, 2] 3 0 (mCons (toB (mName 1)) (mCons (toB (mName 2)) (mCons (toB (mOp2 opIx (mBor 3) (toB (mCst (.int 2))))) mNil))) mNil))))) (sSeq (sRet (mCst (.bool false)))
  sNext) sNext)
def c_is_tree_4 (n : Nat) : MS := (sRet (mOps bAll (mCons (toB (mLc [4] (mItV (mSl (mBor 3) (some (toB (mCst (.int 3)))) none)) (.nm 4) mYes (mCallK (s_is_tree n) [0, 1, 2, 3] 4 0 (mCons (toB (mName 0)) (mCons (toB (mName 1)) (mCons (toB (mName 2)) (mCons (toB (mName 4)) mNil)))) mNil))) mNil)))
def b_is_tree (n : Nat) : MS := (sSeq (c_is_tree_1 n) (sSeq (c_is_tree_2 n) (sSeq (c_is_tree_3 n) (sSeq (c_is_tree_4 n) sNext))))
theorem s_is_tree_eq (n : Nat) : s_is_tree (n + 1) = fnSem 5 4 (b_is_tree n) := by
  show fnSem d_is_tree.N.length d_is_tree.ps.length (evS (rc 40) (ctxOf md (tb_11 ++ entsG [d_is_tree] (recG md tb_11 [d_is_tree] n) 0) d_is_tree) 12 (defBody d_is_tree.st)) = _
  have h : evS (rc 40) (ctxOf md (tb_11 ++ entsG [d_is_tree] (recG md tb_11 [d_is_tree] n) 0) d_is_tree) 12 (defBody d_is_tree.st) = b_is_tree n := by kernel_rfl
  rw [h]; rfl
def l_trees_fault_1 : MS := (sSeq (sIf (mNotT (mTru (toB (mCallK (s_is_tree 12) [0, 1, 2, 3] 4 0 (mCons (toB (mOps bLen (mCons (mBor 2) mNil))) (mCons (toB (mName 1)) (mCons (toB (mName 6)) (mCons (toB (mOp2 opIx (mBor 4) (mBor 5))) mNil)))) mNil)))) (sSeq (sRet (mTup (mCons (toB (mCst (.int 2))) (mCons (toB (mName 3)) (mCons (toB (mName 5)) mNil)))))
  sNext) sNext)
  sNext)
def l_trees_fault_2 : MS := (sSeq (sIf (mNotT (mTru (toB (mCallK s_is_tuple [0, 1] 2 0 (mCons (toB (mOps bLen (mCons (mBor 0) mNil))) (mCons (toB (mName 4)) mNil)) mNil)))) (sSeq (sRet (mTup (mCons (toB (mCst (.int 2))) (mCons (toB (mName 3)) mNil))))
  sNext) sNext)
  (sSeq (sFor (mItEn (mName 0)) (.tp [(.nm 5), (.nm 6)]) l_trees_fault_1)
  sNext))
def c_trees_fault_1 : MS := (sIf (mOrT (mNotT (mTru (toB (mOp1 (opIsa PyData.isTuple) (mBor 2))))) (mTst (mOp2 (cmpRet cEq) (mBor 2) (toB (mTup mNil))))) (sSeq (sRet (mTup (mCons (toB (mCst (.int 2))) mNil)))
  sNext) sNext)
def c_trees_fault_2 : MS := (sFor (mItEn (mName 2)) (.tp [(.nm 3), (.nm 4)]) l_trees_fault_2)
def c_trees_fault_3 : MS := (sRet (mCst .none))
def b_trees_fault : MS := (sSeq c_trees_fault_1 (sSeq c_trees_fault_2 (sSeq c_trees_fault_3 sNext)))
theorem s_trees_fault_eq : s_trees_fault = fnSem 7 3 b_trees_fault := by
  show fnSem d_trees_fault.N.length d_trees_fault.ps.length (evS (rc 40) (ctxOf md tb_12 d_trees_fault) 12 (defBody d_trees_fault.st)) = _
  have h : evS (rc 40) (ctxOf md tb_12 d_trees_fault) 12 (defBody d_trees_fault.st) = b_trees_fault := by kernel_rfl
  rw [h]; rfl
def l_program_fault_1 : MS := (sSeq (sIf (mNotT (mTru (toB (mCallK s_is_told [0, 1] 2 0 (mCons (toB (mName 2)) (mCons (toB (mName 7)) mNil)) mNil)))) (sSeq (sRet (mTup (mCons (toB (mCst (.int 3))) (mCons (toB (mName 6)) mNil))))
  sNext) sNext)
  sNext)
def c_program_fault_1 : MS := (sIf (mNotT (mTru (toB (mCallK s_is_tuple [0, 1] 2 0 (mCons (toB (mCst (.int 4))) (mCons (toB (mName 0)) mNil)) mNil)))) (sSeq (sRet (mTup mNil))
  sNext) sNext)
def c_program_fault_2 : MS := (sAsgT (.tp [(.nm 1), (.nm 2), (.nm 3), (.nm 4)]) (mName 0))
def c_program_fault_3 : MS := (sIf (mNotT (mTru (toB (mCallK s_is_kinds_in [0] 1 0 (mCons (toB (mName 1)) mNil) mNil)))) (sSeq (sRet (mTup (mCons (toB (mCst (.int 0))) mNil)))
  sNext) sNext)
def c_program_fault_4 : MS := (sIf (mNotT (mTru (toB (mCallK s_is_from [0, 1] 2 0 (mCons (toB (mCst (.int 0))) (mCons (toB (mName 2)) mNil)) mNil)))) (sSeq (sRet (mTup (mCons (toB (mCst (.int 1))) mNil)))
  sNext) sNext)
def c_program_fault_5 : MS := (sAsgN 5 (mCallK s_trees_fault [0, 1, 2] 3 0 (mCons (toB (mName 1)) (mCons (toB (mName 2)) (mCons (toB (mName 3)) mNil))) mNil))
def c_program_fault_6 : MS := (sIf (mTst (mOp2 (cmpRet cNotNone) (mBor 5) (toB (mCst .none)))) (sSeq (sRet (mMove 5))
  sNext) sNext)
def c_program_fault_7 : MS := (sIf (mNotT (mTru (toB (mCallK s_is_tuple [0, 1] 2 0 (mCons (toB (mOps bLen (mCons (mBor 3) mNil))) (mCons (toB (mName 4)) mNil)) mNil)))) (sSeq (sRet (mTup (mCons (toB (mCst (.int 3))) mNil)))
  sNext) sNext)
def c_program_fault_8 : MS := (sFor (mItEn (mName 4)) (.tp [(.nm 6), (.nm 7)]) l_program_fault_1)
def c_program_fault_9 : MS := (sRet (mCst .none))
def b_program_fault : MS := (sSeq c_program_fault_1 (sSeq c_program_fault_2 (sSeq c_program_fault_3 (sSeq c_program_fault_4 (sSeq c_program_fault_5 (sSeq c_program_fault_6 (sSeq c_program_fault_7 (sSeq c_program_fault_8 (sSeq c_program_fault_9 sNext)))))))))
theorem s_program_fault_eq : s_program_fault = fnSem 8 1 b_program_fault := by
  show fnSem d_program_fault.N.length d_program_fault.ps.length (evS (rc 40) (ctxOf md tb_13 d_program_fault) 12 (defBody d_program_fault.st)) = _
  have h : evS (rc 40) (ctxOf md tb_13 d_program_fault) 12 (defBody d_program_fault.st) = b_program_fault := by kernel_rfl
  rw [h]; rfl
def c_check_program_1 : MS := (sAsgN 1 (mCallK s_program_fault [0] 1 0 (mCons (toB (mName 0)) mNil) mNil))
def c_check_program_2 : MS := (sIf (mTst (mOp2 (cmpRet cNotNone) (mBor 1) (toB (mCst .none)))) (sSeq sNo
  sNext) sNext)
def b_check_program : MS := (sSeq c_check_program_1 (sSeq c_check_program_2 sNext))
theorem s_check_program_eq : s_check_program = fnSem 2 1 b_check_program := by
  show fnSem d_check_program.N.length d_check_program.ps.length (evS (rc 40) (ctxOf md tb_14 d_check_program) 12 (defBody d_check_program.st)) = _
  have h : evS (rc 40) (ctxOf md tb_14 d_check_program) 12 (defBody d_check_program.st) = b_check_program := by kernel_rfl
  rw [h]; rfl
def c_id_of_1 : MS := (sIf (mTst (mOp2 (cmpRet cEq) (toB (mOp2 opIx (mBor 0) (toB (mCst (.int 0))))) (toB (mCst (.str "register"))))) (sSeq (sRet (mOp2 opIx (mBor 1) (toB (mOp2 opIx (mBor 0) (toB (mCst (.int 1)))))))
  sNext) sNext)
def c_id_of_2 : MS := (sRet (mIfE (mTst (mOp2 (cmpRet cEq) (toB (mOp2 opIx (mBor 0) (toB (mCst (.int 0))))) (toB (mCst (.str "id"))))) (mOp2 opIx (mBor 2) (toB (mOp2 opIx (mBor 0) (toB (mCst (.int 1)))))) (mCst .none)))
def b_id_of : MS := (sSeq c_id_of_1 (sSeq c_id_of_2 sNext))
theorem s_id_of_eq : s_id_of = fnSem 3 3 b_id_of := by
  show fnSem d_id_of.N.length d_id_of.ps.length (evS (rc 40) (ctxOf md tb_15 d_id_of) 12 (defBody d_id_of.st)) = _
  have h : evS (rc 40) (ctxOf md tb_15 d_id_of) 12 (defBody d_id_of.st) = b_id_of := by kernel_rfl
  rw [h]; rfl
def l_led_by_1 : MS := (sSeq (sAsgN 3 (mCallK s_id_of [0, 1, 2] 3 0 (mCons (toB (mOp2 opIx (mBor 0) (toB (mCst (.int 1))))) (mCons (toB (mName 1)) (mCons (toB (mName 2)) mNil))) mNil))
  (sSeq (sAsgN 4 (mAndV (mOp2 (cmpRet cNotNone) (mBor 3) (toB (mCst .none))) (mOp2 (cmpRet cEq) (mBor 3) (toB (mCallK s_id_of [0, 1, 2] 3 0 (mCons (toB (mOp2 opIx (mBor 0) (toB (mCst (.int 2))))) (mCons (toB (mName 1)) (mCons (toB (mName 2)) mNil))) mNil)))))
  (sSeq (sAsgN 0 (mIfE (mTru (mBor 4)) (mOp2 opIx (mBor 0) (toB (mCst (.int 3)))) (mOp2 opIx (mBor 0) (toB (mCst (.int 4))))))
  sNext)))
def c_led_by_1 : MS := (sWhile 20 (mTst (mOp2 (cmpRet cEq) (toB (mOp2 opIx (mBor 0) (toB (mCst (.int 0))))) (toB (mCst (.str "if"))))) l_led_by_1)
def c_led_by_2 : MS := (sRet (mTup (mCons (toB (mOp2 opIx (mBor 0) (toB (mCst (.int 1))))) (mCons (toB (mOps bTuple (mCons (toB (mLc [5] (mItV (mOp2 opIx (mBor 0) (toB (mCst (.int 2))))) (.nm 5) mYes (mCallK s_id_of [0, 1, 2] 3 0 (mCons (toB (mName 5)) (mCons (toB (mName 1)) (mCons (toB (mName 2)) mNil))) mNil))) mNil))) mNil))))
def b_led_by : MS := (sSeq c_led_by_1 (sSeq c_led_by_2 sNext))
theorem s_led_by_eq : s_led_by = fnSem 6 3 b_led_by := by
  show fnSem d_led_by.N.length d_led_by.ps.length (evS (rc 40) (ctxOf md tb_16 d_led_by) 12 (defBody d_led_by.st)) = _
  have h : evS (rc 40) (ctxOf md tb_16 d_led_by) 12 (defBody d_led_by.st) = b_led_by := by kernel_rfl
  rw [h]; rfl
def c_start_of_1 : MS := (sRet (mTup (mCons (toB (mCst (.int 0))) (mCons (toB (mOp2 opMul (toB (mTup (mCons (toB (mCst .none)) mNil))) (toB (mOp2 opIx (mBor 0) (toB (mCst (.int 1))))))) mNil))))
def b_start_of : MS := (sSeq c_start_of_1 sNext)
theorem s_start_of_eq : s_start_of = fnSem 1 1 b_start_of := by
  show fnSem d_start_of.N.length d_start_of.ps.length (evS (rc 40) (ctxOf md tb_17 d_start_of) 12 (defBody d_start_of.st)) = _
  have h : evS (rc 40) (ctxOf md tb_17 d_start_of) 12 (defBody d_start_of.st) = b_start_of := by kernel_rfl
  rw [h]; rfl
def c_stepped_1 : MS := (sRet (mCallK s_led_by [0, 1, 2] 3 0 (mCons (toB (mOp2 opIx (toB (mOp2 opIx (toB (mOp2 opIx (mBor 0) (toB (mCst (.int 2))))) (toB (mOp2 opIx (mBor 1) (toB (mCst (.int 0))))))) (toB (mOp2 opIx (mBor 2) (toB (mCst (.int 0))))))) (mCons (toB (mOp2 opIx (mBor 1) (toB (mCst (.int 1))))) (mCons (toB (mOp2 opIx (mBor 2) (toB (mCst (.int 1))))) mNil))) mNil))
def b_stepped : MS := (sSeq c_stepped_1 sNext)
theorem s_stepped_eq : s_stepped = fnSem 3 3 b_stepped := by
  show fnSem d_stepped.N.length d_stepped.ps.length (evS (rc 40) (ctxOf md tb_18 d_stepped) 12 (defBody d_stepped.st)) = _
  have h : evS (rc 40) (ctxOf md tb_18 d_stepped) 12 (defBody d_stepped.st) = b_stepped := by kernel_rfl
  rw [h]; rfl
def l_state_in_1 : MS := (sSeq (sAsgN 2 (mCallK s_stepped [0, 1, 2] 3 0 (mCons (toB (mName 0)) (mCons (toB (mName 2)) (mCons (toB (mName 3)) mNil))) mNil))
  sNext)
def c_state_in_1 : MS := (sAsgN 2 (mCallK s_start_of [0] 1 0 (mCons (toB (mName 0)) mNil) mNil))
def c_state_in_2 : MS := (sFor (mItV (mName 1)) (.nm 3) l_state_in_1)
def c_state_in_3 : MS := (sRet (mMove 2))
def b_state_in : MS := (sSeq c_state_in_1 (sSeq c_state_in_2 (sSeq c_state_in_3 sNext)))
theorem s_state_in_eq : s_state_in = fnSem 4 2 b_state_in := by
  show fnSem d_state_in.N.length d_state_in.ps.length (evS (rc 40) (ctxOf md tb_19 d_state_in) 12 (defBody d_state_in.st)) = _
  have h : evS (rc 40) (ctxOf md tb_19 d_state_in) 12 (defBody d_state_in.st) = b_state_in := by kernel_rfl
  rw [h]; rfl
def c_told_at_1 : MS := (sAsgT (.tp [(.nm 2), (.nm 3)]) (mOp2 opIx (toB (mOp2 opIx (mBor 0) (toB (mCst (.int 3))))) (toB (mOp2 opIx (mBor 1) (toB (mCst (.int 0)))))))
def c_told_at_2 : MS := (sRet (mTup (mCons (toB (mName 2)) (mCons (toB (mOps bTuple (mCons (toB (mLc [4] (mItV (mName 3)) (.nm 4) mYes (mIfE (mTst (mOp2 (cmpRet cIsNone) (mBor 4) (toB (mCst .none)))) (mCst .none) (mOp2 opIx (toB (mOp2 opIx (mBor 1) (toB (mCst (.int 1))))) (mBor 4))))) mNil))) mNil))))
def b_told_at : MS := (sSeq c_told_at_1 (sSeq c_told_at_2 sNext))
theorem s_told_at_eq : s_told_at = fnSem 5 2 b_told_at := by
  show fnSem d_told_at.N.length d_told_at.ps.length (evS (rc 40) (ctxOf md tb_20 d_told_at) 12 (defBody d_told_at.st)) = _
  have h : evS (rc 40) (ctxOf md tb_20 d_told_at) 12 (defBody d_told_at.st) = b_told_at := by kernel_rfl
  rw [h]; rfl
def c_state_behind_1 : MS := (sExpr (mCallK s_check_program [0] 1 0 (mCons (toB (mName 0)) mNil) mNil))
def c_state_behind_2 : MS := (sExpr (mCallK s_check_stream [0, 1] 2 0 (mCons (toB (mOp2 opIx (mBor 0) (toB (mCst (.int 0))))) (mCons (toB (mName 1)) mNil)) mNil))
def c_state_behind_3 : MS := (sRet (mCallK s_state_in [0, 1] 2 0 (mCons (toB (mName 0)) (mCons (toB (mName 1)) mNil)) mNil))
def b_state_behind : MS := (sSeq c_state_behind_1 (sSeq c_state_behind_2 (sSeq c_state_behind_3 sNext)))
theorem s_state_behind_eq : s_state_behind = fnSem 2 2 b_state_behind := by
  show fnSem d_state_behind.N.length d_state_behind.ps.length (evS (rc 40) (ctxOf md tb_21 d_state_behind) 12 (defBody d_state_behind.st)) = _
  have h : evS (rc 40) (ctxOf md tb_21 d_state_behind) 12 (defBody d_state_behind.st) = b_state_behind := by kernel_rfl
  rw [h]; rfl
def c_program_answer_1 : MS := (sExpr (mCallK s_check_program [0] 1 0 (mCons (toB (mName 0)) mNil) mNil))
def c_program_answer_2 : MS := (sExpr (mCallK s_check_stream [0, 1] 2 0 (mCons (toB (mOp2 opIx (mBor 0) (toB (mCst (.int 0))))) (mCons (toB (mName 1)) mNil)) mNil))
def c_program_answer_3 : MS := (sRet (mCallK s_told_at [0, 1] 2 0 (mCons (toB (mName 0)) (mCons (toB (mCallK s_state_in [0, 1] 2 0 (mCons (toB (mName 0)) (mCons (toB (mName 1)) mNil)) mNil)) mNil)) mNil))
def b_program_answer : MS := (sSeq c_program_answer_1 (sSeq c_program_answer_2 (sSeq c_program_answer_3 sNext)))
theorem s_program_answer_eq : s_program_answer = fnSem 2 2 b_program_answer := by
  show fnSem d_program_answer.N.length d_program_answer.ps.length (evS (rc 40) (ctxOf md tb_22 d_program_answer) 12 (defBody d_program_answer.st)) = _
  have h : evS (rc 40) (ctxOf md tb_22 d_program_answer) 12 (defBody d_program_answer.st) = b_program_answer := by kernel_rfl
  rw [h]; rfl
def c__law_bag_1 : MS := (sAsgN 1 (mLc [2] (mItV (mSlG 0 none (some (toB (mCst (.int 63)))))) (.nm 2) mYes (mOps bInt (mCons (mBor 2) mNil))))
def c__law_bag_2 : MS := (sIf (mTst (mOp2 (cmpRet cEq) (mBor 1) (toB (mLst mNil)))) (sSeq (sAsgN 1 (mLst (mCons (toB (mCst (.int 0))) mNil)))
  sNext) sNext)
def c__law_bag_3 : MS := (sAsgN 3 (mLc [2] (mItV (mName 1)) (.nm 2) mYes (mIfE (mTst (mOp2 (cmpRet cGe) (mBor 2) (toB (mOp2 opPow (toB (mCst (.int 10))) (toB (mCst (.int 18))))))) (mOp2 opMod (toB (mOps bInt (mCons (mBor 2) mNil))) (toB (mOp2 opPow (toB (mOp2 opPow (toB (mCst (.int 10))) (toB (mCst (.int 60))))) (toB (mCst (.int 20)))))) (mCst (.int 0)))))
def b__law_bag : MS := (sSeq c__law_bag_1 (sSeq c__law_bag_2 (sSeq c__law_bag_3 sNext)))
def e__law_bag_2 : M Ret := (mLc [2] (mItV (mName 1)) (.nm 2) mYes (mOp2 opMod (toB (mOps bInt (mCons (mBor 2) mNil))) (toB (mCst (.int 2305843009213693951)))))
def e__law_bag_3 : M Ret := (mLst (mCons (toB (mCst (.int 0))) mNil))
theorem s__law_bag_eq : s__law_bag = bagS 4 3 b__law_bag e__law_bag_2 e__law_bag_3 := by kernel_rfl
def c__law_pick_1 : MS := (sAsgN 5 (mOp2 opIx (mBor 4) (toB (mCst (.int 0)))))
def c__law_pick_2 : MS := (sStore 4 (toB (mCst (.int 0))) (mOp2 opAdd (mBor 5) (toB (mCst (.int 1)))))
def c__law_pick_3 : MS := (sAsgN 6 (mOp2 opMod (toB (mOps bInt (mCons (mBor 5) mNil))) (toB (mOps bLen (mCons (mBor 3) mNil)))))
def c__law_pick_4 : MS := (sIf (mTst (mOp2 (cmpRet cGt) (toB (mOp2 opIx (mBor 2) (mBor 6))) (toB (mCst (.int 0))))) (sSeq (sAsgN 7 (mOp2 opMod (toB (mOps bInt (mCons (toB (mOp2 opIx (mBor 2) (mBor 6))) mNil))) (mBor 1)))
  (sSeq (sStore 2 (mBor 6) (mOp2 opDiv (toB (mOp2 opIx (mBor 2) (mBor 6))) (mBor 1)))
  (sSeq (sRet (mMove 7))
  sNext))) sNext)
def c__law_pick_5 : MS := (sAsgN 8 (mOp2 opMod (toB (mOps bInt (mCons (toB (mOp2 opAdd (toB (mOp2 opAdd (toB (mOp2 opMul (toB (mOp2 opIx (mBor 3) (mBor 6))) (toB (mCst (.int 48271))))) (toB (mOp2 opMul (mBor 5) (toB (mCst (.int 69621))))))) (toB (mCst (.int 7))))) mNil))) (toB (mCst (.int 2147483647)))))
def c__law_pick_6 : MS := (sAsgN 9 (mOp2 opMod (toB (mOps bInt (mCons (toB (mOp2 opAdd (toB (mOp2 opAdd (toB (mOp2 opMul (mBor 8) (mBor 8))) (toB (mOp2 opMul (mBor 5) (toB (mCst (.int 40692))))))) (toB (mOp2 opDiv (toB (mOp2 opIx (mBor 3) (mBor 6))) (toB (mCst (.int 127773))))))) mNil))) (toB (mCst (.int 2147483629)))))
def c__law_pick_7 : MS := (sAsgN 10 (mOp2 opMod (toB (mOps bInt (mCons (toB (mOp2 opAdd (toB (mOp2 opMul (mBor 9) (toB (mCst (.int 16807))))) (toB (mOp2 opMul (mBor 8) (toB (mOp2 opAdd (mBor 5) (toB (mCst (.int 11))))))))) mNil))) (toB (mCst (.int 2147483587)))))
def c__law_pick_8 : MS := (sRet (mOp2 opMod (toB (mOps bInt (mCons (toB (mOp2 opDiv (toB (mOp2 opMod (toB (mOps bInt (mCons (toB (mOp2 opMul (mBor 10) (mBor 10))) mNil))) (toB (mCst (.int 2147483579))))) (toB (mCst (.int 3))))) mNil))) (mBor 1)))
def b__law_pick : MS := (sSeq c__law_pick_1 (sSeq c__law_pick_2 (sSeq c__law_pick_3 (sSeq c__law_pick_4 (sSeq c__law_pick_5 (sSeq c__law_pick_6 (sSeq c__law_pick_7 (sSeq c__law_pick_8 sNext))))))))
theorem s__law_pick_eq : s__law_pick = pickSem 11 b__law_pick := by kernel_rfl
def l__law_ids_1 : MS := (sSeq (sExpr (mMt 2 lIns (mCons (toB (mCallK s__law_pick [0, 1] 2 0 (mCons (mArg 0) (mCons (toB (mOp2 opAdd (mBor 4) (toB (mCst (.int 1))))) mNil)) mNil)) (mCons (toB (mName 3)) mNil))))
  (sSeq (sAsgN 5 (mCallK s__law_pick [0, 1] 2 0 (mCons (mArg 0) (mCons (toB (mCst (.int 9))) mNil)) mNil))
  (sSeq (sAsgN 3 (mOp2 opAdd (toB (mOp2 opAdd (mBor 3) (toB (mCst (.int 1))))) (toB (mIfE (mTst (mOp2 (cmpRet cLt) (mBor 5) (toB (mCst (.int 8))))) (mOp2 opMod (toB (mOps bInt (mCons (mBor 5) mNil))) (toB (mCst (.int 3)))) (mOp2 opAdd (toB (mOp2 opPow (toB (mCst (.int 10))) (toB (mCst (.int 29))))) (toB (mCallK s__law_pick [0, 1] 2 0 (mCons (mArg 0) (mCons (toB (mOp2 opPow (toB (mCst (.int 10))) (toB (mCst (.int 9))))) mNil)) mNil)))))))
  sNext)))
def c__law_ids_1 : MS := (sPar 2 3 (mLst mNil) (mCallK s__law_pick [0, 1] 2 0 (mCons (mArg 0) (mCons (toB (mCst (.int 4))) mNil)) mNil))
def c__law_ids_2 : MS := (sFor (mItR1 (mBor 1)) (.nm 4) l__law_ids_1)
def c__law_ids_3 : MS := (sRet (mMove 2))
def b__law_ids : MS := (sSeq c__law_ids_1 (sSeq c__law_ids_2 (sSeq c__law_ids_3 sNext)))
theorem s__law_ids_eq : s__law_ids = fnSem 6 2 b__law_ids := by
  show fnSem d__law_ids.N.length d__law_ids.ps.length (evS (rc 40) (ctxOf md tb_25 d__law_ids) 12 (defBody d__law_ids.st)) = _
  have h : evS (rc 40) (ctxOf md tb_25 d__law_ids) 12 (defBody d__law_ids.st) = b__law_ids := by kernel_rfl
  rw [h]; rfl
def c__law_kinds_1 : MS := (sAsgN 3 (mLc [4] (mItR1 (toB (mOp2 opAdd (toB (mCst (.int 1))) (toB (mCallK s__law_pick [0, 1] 2 0 (mCons (mArg 0) (mCons (toB (mName 2)) mNil)) mNil))))) (.nm 4) mYes (mOp2 opMod (toB (mOps bInt (mCons (toB (mOp2 opAdd (toB (mCst (.int 1))) (toB (mCallK s__law_pick [0, 1] 2 0 (mCons (mArg 0) (mCons (toB (mCst (.int 6))) mNil)) mNil)))) mNil))) (toB (mCst (.int 3))))))
def c__law_kinds_2 : MS := (sRet (mOps bTuple (mCons (toB (mLc [5] (mItV (mName 3)) (.nm 5) mYes (mOps bMax (mCons (mBor 5) (mCons (mBor 1) mNil))))) mNil)))
def b__law_kinds : MS := (sSeq c__law_kinds_1 (sSeq c__law_kinds_2 sNext))
theorem s__law_kinds_eq : s__law_kinds = fnSem 6 3 b__law_kinds := by
  show fnSem d__law_kinds.N.length d__law_kinds.ps.length (evS (rc 40) (ctxOf md tb_26 d__law_kinds) 12 (defBody d__law_kinds.st)) = _
  have h : evS (rc 40) (ctxOf md tb_26 d__law_kinds) 12 (defBody d__law_kinds.st) = b__law_kinds := by kernel_rfl
  rw [h]; rfl
def l__law_stream_1 : MS := (sSeq (sAsgN 6 (mCallK s__law_pick [0, 1] 2 0 (mCons (mArg 0) (mCons (toB (mOps bLen (mCons (mBor 1) mNil))) mNil)) mNil))
  (sSeq (sExpr (mMt 4 lApp (mCons (toB (mTup (mCons (toB (mName 6)) (mCons (toB (mOps bTuple (mCons (toB (mLc [7] (mItR1 (toB (mOp2 opIx (mBor 1) (mBor 6)))) (.nm 7) mYes (mOp2 opIx (mBor 2) (toB (mCallK s__law_pick [0, 1] 2 0 (mCons (mArg 0) (mCons (toB (mOps bLen (mCons (mBor 2) mNil))) mNil)) mNil))))) mNil))) mNil)))) mNil)))
  sNext))
def c__law_stream_1 : MS := (sAsgN 4 (mLst mNil))
def c__law_stream_2 : MS := (sFor (mItR1 (mBor 3)) (.nm 5) l__law_stream_1)
def c__law_stream_3 : MS := (sRet (mOps bTuple (mCons (mBor 4) mNil)))
def b__law_stream : MS := (sSeq c__law_stream_1 (sSeq c__law_stream_2 (sSeq c__law_stream_3 sNext)))
theorem s__law_stream_eq : s__law_stream = fnSem 8 4 b__law_stream := by
  show fnSem d__law_stream.N.length d__law_stream.ps.length (evS (rc 40) (ctxOf md tb_27 d__law_stream) 12 (defBody d__law_stream.st)) = _
  have h : evS (rc 40) (ctxOf md tb_27 d__law_stream) 12 (defBody d__law_stream.st) = b__law_stream := by kernel_rfl
  rw [h]; rfl
def c__law_thing_1 : MS := (sAsgN 3 (mCallK s__law_pick [0, 1] 2 0 (mCons (mArg 0) (mCons (toB (mOp2 opAdd (toB (mOp2 opAdd (toB (mOp2 opMul (toB (mCst (.int 2))) (mBor 1))) (toB (mOp2 opMul (toB (mCst (.int 2))) (mBor 2))))) (toB (mCst (.int 1))))) mNil)) mNil))
def c__law_thing_2 : MS := (sIf (mTst (mOp2 (cmpRet cLt) (mBor 3) (toB (mOp2 opMul (toB (mCst (.int 2))) (mBor 1))))) (sSeq (sRet (mTup (mCons (toB (mCst (.str "register"))) (mCons (toB (mOp2 opMod (toB (mOps bInt (mCons (mBor 3) mNil))) (mBor 1))) mNil))))
  sNext) sNext)
def c__law_thing_3 : MS := (sIf (mTst (mOp2 (cmpRet cLt) (mBor 3) (toB (mOp2 opAdd (toB (mOp2 opMul (toB (mCst (.int 2))) (mBor 1))) (toB (mOp2 opMul (toB (mCst (.int 2))) (mBor 2))))))) (sSeq (sRet (mTup (mCons (toB (mCst (.str "id"))) (mCons (toB (mOp2 opMod (toB (mOps bInt (mCons (mBor 3) mNil))) (mBor 2))) mNil))))
  sNext) sNext)
def c__law_thing_4 : MS := (sRet (mTup (mCons (toB (mCst (.str "nobody"))) mNil)))
def b__law_thing : MS := (sSeq c__law_thing_1 (sSeq c__law_thing_2 (sSeq c__law_thing_3 (sSeq c__law_thing_4 sNext))))
theorem s__law_thing_eq : s__law_thing = fnSem 4 3 b__law_thing := by
  show fnSem d__law_thing.N.length d__law_thing.ps.length (evS (rc 40) (ctxOf md tb_28 d__law_thing) 12 (defBody d__law_thing.st)) = _
  have h : evS (rc 40) (ctxOf md tb_28 d__law_thing) 12 (defBody d__law_thing.st) = b__law_thing := by kernel_rfl
  rw [h]; rfl
def c__law_go_1 : MS := (sAsgN 4 (mCallK s__law_pick [0, 1] 2 0 (mCons (mArg 0) (mCons (toB (mName 1)) mNil)) mNil))
def c__law_go_2 : MS := (sRet (mTup (mCons (toB (mCst (.str "go"))) (mCons (toB (mName 4)) (mCons (toB (mOps bTuple (mCons (toB (mLc [5] (mItR1 (mBor 2)) (.nm 5) mYes (mCallK s__law_thing [0, 1, 2] 3 0 (mCons (mArg 0) (mCons (toB (mName 2)) (mCons (toB (mName 3)) mNil))) mNil))) mNil))) mNil)))))
def b__law_go : MS := (sSeq c__law_go_1 (sSeq c__law_go_2 sNext))
theorem s__law_go_eq : s__law_go = fnSem 6 4 b__law_go := by
  show fnSem d__law_go.N.length d__law_go.ps.length (evS (rc 40) (ctxOf md tb_29 d__law_go) 12 (defBody d__law_go.st)) = _
  have h : evS (rc 40) (ctxOf md tb_29 d__law_go) 12 (defBody d__law_go.st) = b__law_go := by kernel_rfl
  rw [h]; rfl
def c__law_tree_1 (n : Nat) : MS := (sIf (mTst (mOp2 (cmpRet cEq) (mBor 4) (toB (mCst (.int 0))))) (sSeq (sRet (mCallK s__law_go [0, 1, 2, 3] 4 0 (mCons (mArg 0) (mCons (toB (mName 1)) (mCons (toB (mName 2)) (mCons (toB (mName 3)) mNil)))) mNil))
  sNext) sNext)
def c__law_tree_2 (n : Nat) : MS := (sPar 5 6 (mCallK s__law_thing [0, 1, 2] 3 0 (mCons (mArg 0) (mCons (toB (mName 2)) (mCons (toB (mName 3)) mNil))) mNil) (mCallK s__law_thing [0, 1, 2] 3 0 (mCons (mArg 0) (mCons (toB (mName 2)) (mCons (toB (mName 3)) mNil))) mNil))
def c__law_tree_3 (n : Nat) : MS := (sAsgN 7 (mCallK s__law_pick [0, 1] 2 0 (mCons (mArg 0) (mCons (toB (mName 4)) mNil)) mNil))
def c__law_tree_4 (n : Nat) : MS := (sAsgN 8 (mCallK (s__law_tree n) [0, 1, 2, 3, 4] 5 0 (mCons (mArg 0) (mCons (toB (mName 1)) (mCons (toB (mName 2)) (mCons (toB (mName 3)) (mCons (toB (mName 7)) mNil))))) mNil))
def c__law_tree_5 (n : Nat) : MS := (sRet (mTup (mCons (toB (mCst (.str "if"))) (mCons (toB (mName 5)) (mCons (toB (mName 6)) (mCons (toB (mName 8)) (mCons (toB (mCallK (s__law_tree n) [0, 1, 2, 3, 4] 5 0 (mCons (mArg 0) (mCons (toB (mName 1)) (mCons (toB (mName 2)) (mCons (toB (mName 3)) (mCons (toB (mOp2 opSub (toB (mOp2 opSub (mBor 4) (toB (mCst (.int 1))))) (mBor 7))) mNil))))) mNil)) mNil)))))))
def b__law_tree (n : Nat) : MS := (sSeq (c__law_tree_1 n) (sSeq (c__law_tree_2 n) (sSeq (c__law_tree_3 n) (sSeq (c__law_tree_4 n) (sSeq (c__law_tree_5 n) sNext)))))
theorem s__law_tree_eq (n : Nat) : s__law_tree (n + 1) = fnSem 9 5 (b__law_tree n) := by
  show fnSem d__law_tree.N.length d__law_tree.ps.length (evS (rc 40) (ctxOf md (tb_30 ++ entsG [d__law_tree] (recG md tb_30 [d__law_tree] n) 0) d__law_tree) 12 (defBody d__law_tree.st)) = _
  have h : evS (rc 40) (ctxOf md (tb_30 ++ entsG [d__law_tree] (recG md tb_30 [d__law_tree] n) 0) d__law_tree) 12 (defBody d__law_tree.st) = b__law_tree n := by kernel_rfl
  rw [h]; rfl
def c__law_shown_1 : MS := (sAsgN 2 (mLc [3] (mItR1 (toB (mCallK s__law_pick [0, 1] 2 0 (mCons (mArg 0) (mCons (toB (mCst (.int 3))) mNil)) mNil))) (.nm 3) mYes (mCallK s__law_pick [0, 1] 2 0 (mCons (mArg 0) (mCons (toB (mOp2 opAdd (mBor 1) (toB (mCst (.int 1))))) mNil)) mNil)))
def c__law_shown_2 : MS := (sRet (mOps bTuple (mCons (toB (mLc [4] (mItV (mName 2)) (.nm 4) mYes (mIfE (mTst (mOp2 (cmpRet cEq) (mBor 4) (mBor 1))) (mCst .none) (mName 4)))) mNil)))
def b__law_shown : MS := (sSeq c__law_shown_1 (sSeq c__law_shown_2 sNext))
theorem s__law_shown_eq : s__law_shown = fnSem 5 2 b__law_shown := by
  show fnSem d__law_shown.N.length d__law_shown.ps.length (evS (rc 40) (ctxOf md tb_31 d__law_shown) 12 (defBody d__law_shown.st)) = _
  have h : evS (rc 40) (ctxOf md tb_31 d__law_shown) 12 (defBody d__law_shown.st) = b__law_shown := by kernel_rfl
  rw [h]; rfl
def l__law_program_1 : MS := (sSeq (sExpr (mMt 5 lApp (mCons (toB (mOps bTuple (mCons (toB (mLc [7] (mItV (mName 1)) (.nm 7) mYes (mCallK (s__law_tree 12) [0, 1, 2, 3, 4] 5 0 (mCons (mArg 0) (mCons (toB (mName 2)) (mCons (toB (mName 3)) (mCons (toB (mName 7)) (mCons (toB (mCallK s__law_pick [0, 1] 2 0 (mCons (mArg 0) (mCons (toB (mOp2 opAdd (mBor 4) (toB (mCst (.int 1))))) mNil)) mNil)) mNil))))) mNil))) mNil))) mNil)))
  sNext)
def c__law_program_1 : MS := (sAsgN 5 (mLst mNil))
def c__law_program_2 : MS := (sFor (mItR1 (mBor 2)) (.nm 6) l__law_program_1)
def c__law_program_3 : MS := (sAsgN 8 (mLc [6] (mItR1 (mBor 2)) (.nm 6) mYes (mTup (mCons (toB (mCallK s__law_pick [0, 1] 2 0 (mCons (mArg 0) (mCons (toB (mCst (.int 3))) mNil)) mNil)) (mCons (toB (mCallK s__law_shown [0, 1] 2 0 (mCons (mArg 0) (mCons (toB (mName 3)) mNil)) mNil)) mNil)))))
def c__law_program_4 : MS := (sRet (mTup (mCons (toB (mName 1)) (mCons (toB (mName 3)) (mCons (toB (mOps bTuple (mCons (mBor 5) mNil))) (mCons (toB (mOps bTuple (mCons (mBor 8) mNil))) mNil))))))
def b__law_program : MS := (sSeq c__law_program_1 (sSeq c__law_program_2 (sSeq c__law_program_3 (sSeq c__law_program_4 sNext))))
theorem s__law_program_eq : s__law_program = fnSem 9 5 b__law_program := by
  show fnSem d__law_program.N.length d__law_program.ps.length (evS (rc 40) (ctxOf md tb_32 d__law_program) 12 (defBody d__law_program.st)) = _
  have h : evS (rc 40) (ctxOf md tb_32 d__law_program) 12 (defBody d__law_program.st) = b__law_program := by kernel_rfl
  rw [h]; rfl
def c__law_thing_id_1 : MS := (sIf (mTst (mOp2 (cmpRet cEq) (toB (mOp2 opIx (mBor 0) (toB (mCst (.int 0))))) (toB (mCst (.str "register"))))) (sSeq (sRet (mOp2 opIx (mBor 1) (toB (mOp2 opIx (mBor 0) (toB (mCst (.int 1)))))))
  sNext) sNext)
def c__law_thing_id_2 : MS := (sIf (mTst (mOp2 (cmpRet cEq) (toB (mOp2 opIx (mBor 0) (toB (mCst (.int 0))))) (toB (mCst (.str "id"))))) (sSeq (sRet (mOp2 opIx (mBor 2) (toB (mOp2 opIx (mBor 0) (toB (mCst (.int 1)))))))
  sNext) sNext)
def c__law_thing_id_3 : MS := (sRet (mCst .none))
def b__law_thing_id : MS := (sSeq c__law_thing_id_1 (sSeq c__law_thing_id_2 (sSeq c__law_thing_id_3 sNext)))
theorem s__law_thing_id_eq : s__law_thing_id = fnSem 3 3 b__law_thing_id := by
  show fnSem d__law_thing_id.N.length d__law_thing_id.ps.length (evS (rc 40) (ctxOf md tb_33 d__law_thing_id) 12 (defBody d__law_thing_id.st)) = _
  have h : evS (rc 40) (ctxOf md tb_33 d__law_thing_id) 12 (defBody d__law_thing_id.st) = b__law_thing_id := by kernel_rfl
  rw [h]; rfl
def l__law_lead_1 : MS := (sSeq (sIf (mTst (mOp2 (cmpRet cEq) (toB (mOp2 opIx (mBor 3) (toB (mCst (.int 0))))) (toB (mCst (.str "if"))))) (sSeq (sPar 7 8 (mCallK s__law_thing_id [0, 1, 2] 3 0 (mCons (toB (mOp2 opIx (mBor 3) (toB (mCst (.int 1))))) (mCons (toB (mName 4)) (mCons (toB (mName 5)) mNil))) mNil) (mCallK s__law_thing_id [0, 1, 2] 3 0 (mCons (toB (mOp2 opIx (mBor 3) (toB (mCst (.int 2))))) (mCons (toB (mName 4)) (mCons (toB (mName 5)) mNil))) mNil))
  (sSeq (sAsgN 3 (mIfE (mAndT (mTst (mOp2 (cmpRet cNotNone) (mBor 7) (toB (mCst .none)))) (mTst (mOp2 (cmpRet cEq) (mBor 7) (mBor 8)))) (mOp2 opIx (mBor 3) (toB (mCst (.int 3)))) (mOp2 opIx (mBor 3) (toB (mCst (.int 4))))))
  sNext)) sNext)
  sNext)
def c__law_lead_1 : MS := (sAsgT (.tp [(.nm 3), (.nm 4), (.nm 5)]) (mTup (mCons (toB (mOp2 opIx (toB (mOp2 opIx (toB (mOp2 opIx (mBor 0) (toB (mCst (.int 2))))) (toB (mOp2 opIx (mBor 1) (toB (mCst (.int 0))))))) (toB (mOp2 opIx (mBor 2) (toB (mCst (.int 0))))))) (mCons (toB (mOp2 opIx (mBor 1) (toB (mCst (.int 1))))) (mCons (toB (mOp2 opIx (mBor 2) (toB (mCst (.int 1))))) mNil)))))
def c__law_lead_2 : MS := (sFor (mItR1 (toB (mCst (.int 20)))) (.nm 6) l__law_lead_1)
def c__law_lead_3 : MS := (sRet (mTup (mCons (toB (mOp2 opIx (mBor 3) (toB (mCst (.int 1))))) (mCons (toB (mOps bTuple (mCons (toB (mLc [9] (mItV (mOp2 opIx (mBor 3) (toB (mCst (.int 2))))) (.nm 9) mYes (mCallK s__law_thing_id [0, 1, 2] 3 0 (mCons (toB (mName 9)) (mCons (toB (mName 4)) (mCons (toB (mName 5)) mNil))) mNil))) mNil))) mNil))))
def b__law_lead : MS := (sSeq c__law_lead_1 (sSeq c__law_lead_2 (sSeq c__law_lead_3 sNext)))
theorem s__law_lead_eq : s__law_lead = fnSem 10 3 b__law_lead := by
  show fnSem d__law_lead.N.length d__law_lead.ps.length (evS (rc 40) (ctxOf md tb_34 d__law_lead) 12 (defBody d__law_lead.st)) = _
  have h : evS (rc 40) (ctxOf md tb_34 d__law_lead) 12 (defBody d__law_lead.st) = b__law_lead := by kernel_rfl
  rw [h]; rfl
def c__law_led_1 : MS := (sAsgT (.tp [(.nm 2), (.nm 3)]) (mOp2 opIx (toB (mOp2 opIx (mBor 0) (toB (mCst (.int 3))))) (toB (mOp2 opIx (mBor 1) (toB (mCst (.int 0)))))))
def c__law_led_2 : MS := (sRet (mTup (mCons (toB (mName 2)) (mCons (toB (mOps bTuple (mCons (toB (mLc [4] (mItV (mName 3)) (.nm 4) mYes (mIfE (mTst (mOp2 (cmpRet cIsNone) (mBor 4) (toB (mCst .none)))) (mCst .none) (mOp2 opIx (toB (mOp2 opIx (mBor 1) (toB (mCst (.int 1))))) (mBor 4))))) mNil))) mNil))))
def b__law_led : MS := (sSeq c__law_led_1 (sSeq c__law_led_2 sNext))
theorem s__law_led_eq : s__law_led = fnSem 5 2 b__law_led := by
  show fnSem d__law_led.N.length d__law_led.ps.length (evS (rc 40) (ctxOf md tb_35 d__law_led) 12 (defBody d__law_led.st)) = _
  have h : evS (rc 40) (ctxOf md tb_35 d__law_led) 12 (defBody d__law_led.st) = b__law_led := by kernel_rfl
  rw [h]; rfl
def c__law_exact_1 (n : Nat) : MS := (sIf (mTru (toB (mOp1 (opIsa PyData.isTuple) (mBor 1)))) (sSeq (sIf (mOrT (mNotT (mTru (toB (mOp1 (opIsa PyData.isTuple) (mBor 0))))) (mTst (mOp2 (cmpRet cNe) (toB (mOps bLen (mCons (mBor 0) mNil))) (toB (mOps bLen (mCons (mBor 1) mNil)))))) (sSeq (sRet (mCst (.bool false)))
  sNext) sNext)
  (sSeq (sRet (mOps bAll (mCons (toB (mLc [2] (mItR1 (toB (mOps bLen (mCons (mBor 1) mNil)))) (.nm 2) mYes (mCallK (s__law_exact n) [0, 1] 2 0 (mCons (toB (mOp2 opIx (mBor 0) (mBor 2))) (mCons (toB (mOp2 opIx (mBor 1) (mBor 2))) mNil)) mNil))) mNil)))
  sNext)) sNext)
def c__law_exact_2 (n : Nat) : MS := (sIf (mTru (toB (mOp1 (opIsa PyData.isList) (mBor 1)))) (sSeq (sIf (mOrT (mNotT (mTru (toB (mOp1 (opIsa PyData.isList) (mBor 0))))) (mTst (mOp2 (cmpRet cNe) (toB (mOps bLen (mCons (mBor 0) mNil))) (toB (mOps bLen (mCons (mBor 1) mNil)))))) (sSeq (sRet (mCst (.bool false)))
  sNext) sNext)
  (sSeq (sRet (mOps bAll (mCons (toB (mLc [2] (mItR1 (toB (mOps bLen (mCons (mBor 1) mNil)))) (.nm 2) mYes (mCallK (s__law_exact n) [0, 1] 2 0 (mCons (toB (mOp2 opIx (mBor 0) (mBor 2))) (mCons (toB (mOp2 opIx (mBor 1) (mBor 2))) mNil)) mNil))) mNil)))
  sNext)) sNext)
def c__law_exact_3 (n : Nat) : MS := (sIf (mTst (mOp2 (cmpRet cIsNone) (mBor 1) (toB (mCst .none)))) (sSeq (sRet (mOp2 (cmpRet cIsNone) (mBor 0) (toB (mCst .none))))
  sNext) sNext)
def c__law_exact_4 (n : Nat) : MS := (sIf (mTru (toB (mOp1 (opIsa PyData.isBool) (mBor 1)))) (sSeq (sRet (mAndV (mOp1 (opIsa PyData.isBool) (mBor 0)) (mOp2 (cmpRet cEq) (mBor 0) (mBor 1))))
  sNext) sNext)
def c__law_exact_5 (n : Nat) : MS := (sIf (mTru (toB (mOp1 (opIsa PyData.isInt) (mBor 1)))) (sSeq (sRet (mAndV (mOp1 (opIsa PyData.isInt) (mBor 0)) (mAndV (mNotV (toB (mOp1 (opIsa PyData.isBool) (mBor 0)))) (mOp2 (cmpRet cEq) (mBor 0) (mBor 1)))))
  sNext) sNext)
def c__law_exact_6 (n : Nat) : MS := (sRet (mAndV (mOp1 (opIsa PyData.isStr) (mBor 0)) (mOp2 (cmpRet cEq) (mBor 0) (mBor 1))))
def b__law_exact (n : Nat) : MS := (sSeq (c__law_exact_1 n) (sSeq (c__law_exact_2 n) (sSeq (c__law_exact_3 n) (sSeq (c__law_exact_4 n) (sSeq (c__law_exact_5 n) (sSeq (c__law_exact_6 n) sNext))))))
theorem s__law_exact_eq (n : Nat) : s__law_exact (n + 1) = fnSem 3 2 (b__law_exact n) := by
  show fnSem d__law_exact.N.length d__law_exact.ps.length (evS (rc 40) (ctxOf md (tb_36 ++ entsG [d__law_exact] (recG md tb_36 [d__law_exact] n) 0) d__law_exact) 12 (defBody d__law_exact.st)) = _
  have h : evS (rc 40) (ctxOf md (tb_36 ++ entsG [d__law_exact] (recG md tb_36 [d__law_exact] n) 0) d__law_exact) 12 (defBody d__law_exact.st) = b__law_exact n := by kernel_rfl
  rw [h]; rfl
def l_law_1 : MS := (sSeq (sAsgN 6 (mCallK s__law_lead [0, 1, 2] 3 0 (mCons (toB (mName 3)) (mCons (toB (mName 6)) (mCons (toB (mName 8)) mNil))) mNil))
  (sSeq (sExpr (mMt 7 lApp (mCons (toB (mName 6)) mNil)))
  sNext))
def l_law_2 : MS := (sSeq (sIf (mNotT (mTru (toB (mCallK (s__law_exact 12) [0, 1] 2 0 (mCons (toB (mCallK s_program_answer [0, 1] 2 0 (mCons (toB (mName 3)) (mCons (toB (mSl (mBor 5) none (some (mBor 11)))) mNil)) mNil)) (mCons (toB (mCallK s__law_led [0, 1] 2 0 (mCons (toB (mName 3)) (mCons (toB (mOp2 opIx (mBor 7) (mBor 11))) mNil)) mNil)) mNil)) mNil)))) (sSeq (sRet (mCst (.bool false)))
  sNext) sNext)
  (sSeq (sIf (mAndT (mTst (mOp2 (cmpRet cIn) (mBor 11) (mBor 9))) (mNotT (mTru (toB (mCallK (s__law_exact 12) [0, 1] 2 0 (mCons (toB (mCallK s_state_behind [0, 1] 2 0 (mCons (toB (mName 3)) (mCons (toB (mSl (mBor 5) none (some (mBor 11)))) mNil)) mNil)) (mCons (toB (mOp2 opIx (mBor 7) (mBor 11))) mNil)) mNil))))) (sSeq (sRet (mCst (.bool false)))
  sNext) sNext)
  sNext))
def c_law_1 : MS := (sAsgN 2 (mCallK s__law_kinds [0, 1, 2] 3 0 (mCons (mArg 1) (mCons (toB (mCst (.int 0))) (mCons (toB (mCst (.int 2))) mNil))) mNil))
def c_law_2 : MS := (sAsgN 3 (mCallK s__law_program [0, 1, 2, 3, 4] 5 0 (mCons (mArg 1) (mCons (toB (mName 2)) (mCons (toB (mOp2 opAdd (toB (mCst (.int 1))) (toB (mCallK s__law_pick [0, 1] 2 0 (mCons (mArg 1) (mCons (toB (mCst (.int 4))) mNil)) mNil)))) (mCons (toB (mCallK s__law_pick [0, 1] 2 0 (mCons (mArg 1) (mCons (toB (mCst (.int 4))) mNil)) mNil)) (mCons (toB (mCst (.int 3))) mNil))))) mNil))
def c_law_3 : MS := (sAsgN 4 (mCallK s__law_ids [0, 1] 2 0 (mCons (mArg 1) (mCons (toB (mOp2 opAdd (toB (mCst (.int 1))) (toB (mCallK s__law_pick [0, 1] 2 0 (mCons (mArg 1) (mCons (toB (mCst (.int 5))) mNil)) mNil)))) mNil)) mNil))
def c_law_4 : MS := (sAsgN 5 (mCallK s__law_stream [0, 1, 2, 3] 4 0 (mCons (mArg 1) (mCons (toB (mName 2)) (mCons (toB (mName 4)) (mCons (toB (mOps bMin (mCons (toB (mCst (.int 60))) (mCons (toB (mOp2 opAdd (toB (mLenG 0)) (toB (mCallK s__law_pick [0, 1] 2 0 (mCons (mArg 1) (mCons (toB (mCst (.int 8))) mNil)) mNil)))) mNil)))) mNil)))) mNil))
def c_law_5 : MS := (sAsgN 6 (mTup (mCons (toB (mCst (.int 0))) (mCons (toB (mOp2 opMul (toB (mTup (mCons (toB (mCst .none)) mNil))) (toB (mOp2 opIx (mBor 3) (toB (mCst (.int 1))))))) mNil))))
def c_law_6 : MS := (sAsgN 7 (mLst (mCons (toB (mName 6)) mNil)))
def c_law_7 : MS := (sFor (mItV (mName 5)) (.nm 8) l_law_1)
def c_law_8 : MS := (sAsgN 9 (mOp2 opAdd (toB (mLst (mCons (toB (mOps bLen (mCons (mBor 5) mNil))) mNil))) (toB (mLc [10] (mItR1 (toB (mCst (.int 3)))) (.nm 10) mYes (mCallK s__law_pick [0, 1] 2 0 (mCons (mArg 1) (mCons (toB (mOps bLen (mCons (mBor 7) mNil))) mNil)) mNil)))))
def c_law_9 : MS := (sFor (mItR1 (toB (mOps bLen (mCons (mBor 7) mNil)))) (.nm 11) l_law_2)
def c_law_10 : MS := (sRet (mCallK (s__law_exact 12) [0, 1] 2 0 (mCons (toB (mCallK s_program_answer [0, 1] 2 0 (mCons (toB (mName 3)) (mCons (toB (mTup mNil)) mNil)) mNil)) (mCons (toB (mCallK s__law_led [0, 1] 2 0 (mCons (toB (mName 3)) (mCons (toB (mOp2 opIx (mBor 7) (toB (mCst (.int 0))))) mNil)) mNil)) mNil)) mNil))
def b_law : MS := (sSeq c_law_1 (sSeq c_law_2 (sSeq c_law_3 (sSeq c_law_4 (sSeq c_law_5 (sSeq c_law_6 (sSeq c_law_7 (sSeq c_law_8 (sSeq c_law_9 (sSeq c_law_10 sNext))))))))))
theorem s_law_eq : s_law = lawBagS 12 s__law_bag b_law := by kernel_rfl
end Law
open PySem PySem.Spec PyProof.Rows L2 Ev
namespace Law
/-! ### numbers -/
theorem log_small {i : Int} {n : Nat} (h : i.natAbs < 2 ^ n) (hn : 0 < n) : i.natAbs.log2 < n := by
  by_cases h0 : i.natAbs = 0
  · rw [h0]; simpa using hn
  · exact (Nat.log2_lt h0).mpr h
theorem mulL {i j : Int} (h : i.natAbs < 2 ^ 63) : mulOk i j = true := by
  unfold mulOk
  simp only [decide_eq_true h, Bool.true_or, Bool.or_true]
theorem mulR {i j : Int} (h : j.natAbs < 2 ^ 63) : mulOk i j = true := by
  unfold mulOk
  simp only [decide_eq_true h, Bool.true_or, Bool.or_true]
theorem pow_ok {i j : Int} (h : 0 ≤ j ∧ ((i.natAbs.log2 : Int) + 1) * j ≤ 2 ^ 27) : opPow (.int i) (.int j) = some (.val (.int (i ^ j.toNat))) := by
  unfold opPow
  exact if_pos h
theorem pow2 {i : Int} (h : i.natAbs.log2 < 1000) : opPow (.int i) (.int 2) = some (.val (.int (i ^ 2))) := by
  exact pow_ok (j := 2) ⟨by omega, by omega⟩
/-! ### slots -/
def frS (s : Slot) : Prop := s = .un ∨ ∃ d, s = .dat d
theorem frS_un : frS .un := .inl rfl
theorem frS_dat {d : D} : frS (.dat d) := .inr ⟨_, rfl⟩
def ownS (s : Slot) : Prop := s = .un ∨ (∃ d, s = .dat d) ∨ ∃ ds, s = .lst true ds
theorem ownS_un : ownS .un := .inl rfl
theorem ownS_dat {d : D} : ownS (.dat d) := .inr (.inl ⟨_, rfl⟩)
theorem ownS_lst {ds : List D} : ownS (.lst true ds) := .inr (.inr ⟨_, rfl⟩)
theorem outs_dat (d : D) (as : List Slot) (ρ : Rho) : outsOf (.dat d :: as) ρ = .un :: outsOf as ρ.tail := by
  cases ρ <;> rfl
theorem outs_nil (ρ : Rho) : outsOf [] ρ = [] := by cases ρ <;> rfl
/-! ### loops -/
theorem forLoop_st {α : Type} {tg : Tgt} {body : MS} (e : α → D) (I : List α → Rho → Prop) : ∀ (xs : List α), (∀ a r ρ, I (a :: r) ρ → a ∈ xs → ∃ ρ1 ρ2, asgT tg (e a) ρ = some ρ1 ∧ (body ρ1 = .nx ρ2 ∨ body ρ1 = .ct ρ2) ∧ I r ρ2) → ∀ ρ, I xs ρ →
    ∃ ρ', forLoop tg body (xs.map e) ρ = .nx ρ' ∧ I [] ρ'
  | [], _, ρ, h => ⟨ρ, rfl, h⟩
  | a :: xs, hs, ρ, h => by
    obtain ⟨ρ1, ρ2, h1, h2, h3⟩ := hs a xs ρ h (List.mem_cons_self ..)
    obtain ⟨ρ', h4, h5⟩ := forLoop_st e I xs (fun b r ρ hb hm => hs b r ρ hb (List.mem_cons_of_mem _ hm)) ρ2 h3
    refine ⟨ρ', ?_, h5⟩
    rw [List.map_cons, forLoop, h1]
    rcases h2 with h2 | h2 <;> simp only [h2, h4]
/-- .. that may be left by a return -/
theorem forLoop_rt {α : Type} {tg : Tgt} {body : MS} (e : α → D) (I : List α → Rho → Prop) (E : Ret → Rho → Prop) : ∀ (xs : List α), (∀ a r ρ, I (a :: r) ρ → a ∈ xs → ∃ ρ1, asgT tg (e a) ρ = some ρ1 ∧ ((∃ ρ2, (body ρ1 = .nx ρ2 ∨ body ρ1 = .ct ρ2) ∧ I r ρ2) ∨ ∃ q ρ2, body ρ1 = .rt q ρ2 ∧ E q ρ2)) → ∀ ρ, I xs ρ →
    (∃ ρ', forLoop tg body (xs.map e) ρ = .nx ρ' ∧ I [] ρ') ∨ ∃ q ρ', forLoop tg body (xs.map e) ρ = .rt q ρ' ∧ E q ρ'
  | [], _, ρ, h => .inl ⟨ρ, rfl, h⟩
  | a :: xs, hs, ρ, h => by
    obtain ⟨ρ1, h1, h2⟩ := hs a xs ρ h (List.mem_cons_self ..)
    rcases h2 with ⟨ρ2, h2, h3⟩ | ⟨q, ρ2, h2, h3⟩
    · rcases forLoop_rt e I E xs (fun b r ρ hb hm => hs b r ρ hb (List.mem_cons_of_mem _ hm)) ρ2 h3 with ⟨ρ', h4, h5⟩ | ⟨q, ρ', h4, h5⟩
      · refine .inl ⟨ρ', ?_, h5⟩
        rw [List.map_cons, forLoop, h1]
        rcases h2 with h2 | h2 <;> simp only [h2, h4]
      · refine .inr ⟨q, ρ', ?_, h5⟩
        rw [List.map_cons, forLoop, h1]
        rcases h2 with h2 | h2 <;> simp only [h2, h4]
    · refine .inr ⟨q, ρ2, ?_, h3⟩
      rw [List.map_cons, forLoop, h1]
      simp only [h2]
theorem lcLoop_map {α : Type} {own : List Nat} {tg : Tgt} {te : M Ret} {e f : α → D} {ρ : Rho} : ∀ (xs : List α) (acc : List D), (∀ a ∈ xs, ∃ ρ1 r ρ3, asgT tg (e a) ρ = some ρ1 ∧ te ρ1 = .ok r ρ3 ∧ r.toD = f a ∧ freeAll ρ3 own = true ∧ wipeR ρ3 own = ρ) →
    acc.length + xs.length ≤ 16777216 → lcLoop own tg mYes te (xs.map e) acc ρ = .ok (acc ++ xs.map f) ρ
  | [], acc, _, _ => by simp [lcLoop]
  | a :: xs, acc, h, hl => by
    obtain ⟨ρ1, r, ρ3, h1, h2, h3, h4, h5⟩ := h a (List.mem_cons_self ..)
    have hc : acc.length < 16777216 := by simp at hl; omega
    rw [List.map_cons, lcLoop, h1]
    simp only [mYes, andThen_ok, if_true, h2, hc, h4, and_self, h5, h3]
    rw [lcLoop_map xs (acc ++ [f a]) (fun b hb => h b (List.mem_cons_of_mem _ hb)) (by simp at hl ⊢; omega)]
    simp
theorem lcLoop_filter {α : Type} {own : List Nat} {tg : Tgt} {tt : M Bool} {te : M Ret} {e f : α → D} {p : α → Bool} {ρ : Rho} : ∀ (xs : List α) (acc : List D), (∀ a ∈ xs, ∃ ρ1 r ρ2 ρ3, asgT tg (e a) ρ = some ρ1 ∧ tt ρ1 = .ok (p a) ρ2 ∧ freeAll ρ2 own = true ∧ wipeR ρ2 own = ρ ∧ (p a = true → te ρ2 = .ok r ρ3 ∧ r.toD = f a ∧ freeAll ρ3 own = true ∧ wipeR ρ3 own = ρ)) →
    acc.length + xs.length ≤ 16777216 → lcLoop own tg tt te (xs.map e) acc ρ = .ok (acc ++ (xs.filter p).map f) ρ
  | [], acc, _, _ => by simp [lcLoop]
  | a :: xs, acc, h, hl => by
    obtain ⟨ρ1, r, ρ2, ρ3, h1, h2, h3, h4, h5⟩ := h a (List.mem_cons_self ..)
    have hc : acc.length < 16777216 := by simp at hl; omega
    rw [List.map_cons, lcLoop, h1]
    simp only [h2, andThen_ok]
    cases hp : p a with
    | true =>
      obtain ⟨k1, k2, k3, k4⟩ := h5 hp
      simp only [if_true, k1, andThen_ok, hc, k3, and_self, k4, k2]
      rw [lcLoop_filter xs (acc ++ [f a]) (fun b hb => h b (List.mem_cons_of_mem _ hb)) (by simp at hl ⊢; omega)]
      simp [List.filter_cons, hp]
    | false =>
      simp only [Bool.false_eq_true, if_false, h3, if_true, h4]
      rw [lcLoop_filter xs acc (fun b hb => h b (List.mem_cons_of_mem _ hb)) (by simp at hl ⊢; omega)]
      simp [List.filter_cons, hp]
/-- a comprehension whose turns draw: the state is threaded -/
theorem lcLoop_draw {α : Type} {own : List Nat} {tg : Tgt} {te : M Ret} {e : α → D} (I : Nat → Rho → Prop) (P : α → D → Prop) (N : Nat) : ∀ (xs : List α) (acc : List D) (k : Nat) (ρ : Rho), k + xs.length ≤ N → (∀ a ∈ xs, ∀ k ρ, k < N → I k ρ → ∃ ρ1 r ρ3, asgT tg (e a) ρ = some ρ1 ∧ te ρ1 = .ok r ρ3 ∧ P a r.toD ∧ freeAll ρ3 own = true ∧ I (k + 1) (wipeR ρ3 own)) →
    acc.length + xs.length ≤ 16777216 → I k ρ → ∃ (out : List D) (ρ' : Rho), lcLoop own tg mYes te (xs.map e) acc ρ = .ok (acc ++ out) ρ' ∧ I (k + xs.length) ρ' ∧ out.length = xs.length ∧ ∀ (i : Nat) (a : α) (d : D), xs[i]? = some a → out[i]? = some d → P a d
  | [], acc, k, ρ, _, _, _, hI => ⟨[], ρ, by simp [lcLoop], by simpa using hI, rfl, fun i a d h => by simp at h⟩
  | a :: xs, acc, k, ρ, hN, h, hl, hI => by
    obtain ⟨ρ1, r, ρ3, h1, h2, h3, h4, h5⟩ := h a (List.mem_cons_self ..) k ρ (by simp at hN; omega) hI
    have hc : acc.length < 16777216 := by simp at hl; omega
    obtain ⟨out, ρ', e1, e2, e3, e4⟩ := lcLoop_draw I P N xs (acc ++ [r.toD]) (k + 1) _ (by simp at hN; omega) (fun b hb => h b (List.mem_cons_of_mem _ hb)) (by simp at hl ⊢; omega) h5
    refine ⟨r.toD :: out, ρ', ?_, by rw [List.length_cons, show k + (xs.length + 1) = k + 1 + xs.length by omega]; exact e2, by simp [e3], fun i b d hb hd => ?_⟩
    · rw [List.map_cons, lcLoop, h1]
      simp only [mYes, andThen_ok, if_true, h2, hc, h4, and_self]
      rw [e1]
      simp
    · cases i with
      | zero => simp at hb hd; subst hb hd; exact h3
      | succ i => exact e4 i b d (by simpa using hb) (by simpa using hd)
/-- .. all of one sort -/
theorem draw_all {α : Type} {out : List D} {xs : List α} {P : D → Prop} (hl : out.length = xs.length) (h : ∀ (i : Nat) (a : α) (d : D), xs[i]? = some a → out[i]? = some d → P d) : ∀ d ∈ out, P d := fun d hd => by
  obtain ⟨i, hi, rfl⟩ := List.mem_iff_getElem.mp hd
  exact h i (xs[i]'(by omega)) _ (List.getElem?_eq_getElem (by omega)) (List.getElem?_eq_getElem hi)
theorem range_cons (k j : Nat) : ((List.range' k (j + 1)).map fun i : Nat => PyData.int (i : Int)) = .int (k : Int) :: (List.range' (k + 1) j).map fun i : Nat => PyData.int (i : Int) := by
  rw [List.range'_succ, List.map_cons]
theorem rangeD_eq (n : Nat) : rangeD 0 n = (List.range n).map fun i : Nat => PyData.int (i : Int) := by
  unfold rangeD
  exact List.map_congr_left fun i _ => by rw [Int.zero_add]
theorem rangeD_eq' (n : Nat) : rangeD 0 n = (List.range' 0 n).map fun i : Nat => PyData.int (i : Int) := by
  rw [rangeD_eq, List.range_eq_range']
/-! ### dicts with whole numbers for keys -/
theorem keyOf_int (x : Int) : Ev.keyOf (.int x) = some (.inl x) := rfl
theorem keyOf_str (x : Str) : Ev.keyOf (.str x) = some (.inr x) := rfl
theorem valD_hit (x : Int) (d : D) (r : List (D × D)) : valD ((.int x, d) :: r) (.inl x) = some d := by
  simp [valD, keyOf_int]
theorem valD_miss {x y : Int} (h : ¬ y = x) (d : D) (r : List (D × D)) : valD ((.int y, d) :: r) (.inl x) = valD r (.inl x) := by
  simp [valD, keyOf_int, h]
theorem hasKey_nil (k : Key) : hasKey [] k = false := rfl
theorem hasKey_cons (x y : Int) (d : D) (r : List (D × D)) : hasKey ((.int y, d) :: r) (.inl x) = (decide (y = x) || hasKey r (.inl x)) := by
  simp [hasKey, keyOf_int]
theorem hasKey_app (xs ys : List (D × D)) (k : Key) : hasKey (xs ++ ys) k = (hasKey xs k || hasKey ys k) := by
  unfold hasKey; rw [List.any_append]
theorem put_new (acc : List (D × D)) (x : Int) (d : D) (h : hasKey acc (.inl x) = false) : putD acc (.inl x) (.int x) d = acc ++ [(.int x, d)] := by
  unfold putD
  rw [h]; rfl
theorem lcLoop_nil {α : Type} {own : List Nat} {tg : Tgt} {te : M Ret} {e f : α → D} {ρ : Rho} (xs : List α) (h : ∀ a ∈ xs, ∃ ρ1 r ρ3, asgT tg (e a) ρ = some ρ1 ∧ te ρ1 = .ok r ρ3 ∧ r.toD = f a ∧ freeAll ρ3 own = true ∧ wipeR ρ3 own = ρ) (hl : xs.length ≤ 16777216) :
    lcLoop own tg mYes te (xs.map e) [] ρ = .ok (xs.map f) ρ := by
  have := lcLoop_map xs [] h (by simpa using hl)
  simpa using this
theorem rgOk_nat (n : Nat) (h : n ≤ 16777216) : rgOk 0 (n : Int) = true := by
  unfold rgOk
  simp only [Bool.and_eq_true, decide_eq_true_eq, Int.natAbs_natCast, Int.sub_zero, Int.toNat_natCast]
  refine ⟨⟨by decide, by omega⟩, by omega⟩
/-! ### what repr needs -/
structure Shy (d : D) (k n : Nat) : Prop where
  plain : d.plain = true
  show_ : d.showable = true
  depth : d.depth ≤ k
  len : d.shown.length ≤ n
theorem shy_all {k n : Nat} : ∀ {ds : List D}, (∀ d ∈ ds, Shy d k n) → PyData.plainAll ds = true ∧ PyData.showableAll ds = true ∧ PyData.depthAll ds ≤ k ∧ ((PyData.shownAll ds).map (·.length)).sum ≤ ds.length * n ∧ (PyData.shownAll ds).length = ds.length
  | [], _ => by simp [PyData.plainAll, PyData.showableAll, PyData.depthAll, PyData.shownAll]
  | d :: ds, h => by
    obtain ⟨a1, a2, a3, a4, a5⟩ := shy_all fun e he => h e (List.mem_cons_of_mem _ he)
    have q := h d (List.mem_cons_self ..)
    refine ⟨by simp [PyData.plainAll, q.plain, a1], by simp [PyData.showableAll, q.show_, a2], ?_, ?_, by simp [PyData.shownAll, a5]⟩
    · have := q.depth
      simp only [PyData.depthAll]
      omega
    · have := q.len
      simp only [PyData.shownAll, List.map_cons, List.sum_cons, List.length_cons, Nat.add_mul, Nat.one_mul]
      omega
theorem shy_tup {k n : Nat} {ds : List D} (h : ∀ d ∈ ds, Shy d k n) : Shy (.tuple ds) (k + 1) (ds.length * n + 2 * ds.length + 3) := by
  obtain ⟨a1, a2, a3, a4, a5⟩ := shy_all h
  refine ⟨by simpa [PyData.plain] using a1, by simpa [PyData.showable] using a2, by simp only [PyData.depth]; omega, ?_⟩
  have := tupleText_len_le (PyData.shownAll ds)
  simp only [PyData.shown]
  omega
theorem shy_lst {k n : Nat} {ds : List D} (h : ∀ d ∈ ds, Shy d k n) : Shy (.list ds) (k + 1) (ds.length * n + 2 * ds.length + 3) := by
  obtain ⟨a1, a2, a3, a4, a5⟩ := shy_all h
  refine ⟨by simpa [PyData.plain] using a1, by simpa [PyData.showable] using a2, by simp only [PyData.depth]; omega, ?_⟩
  have := listText_len_le (PyData.shownAll ds)
  simp only [PyData.shown]
  omega
theorem Shy.mono {d : D} {k n k' n' : Nat} (h : Shy d k n) (hk : k ≤ k') (hn : n ≤ n') : Shy d k' n' := ⟨h.plain, h.show_, Nat.le_trans h.depth hk, Nat.le_trans h.len hn⟩
theorem shy_int {i : Int} (h0 : 0 ≤ i) {n : Nat} (hn : 0 < n) (h1 : i < 10 ^ n) (h2 : i.natAbs.log2 < 1920) : Shy (.int i) 0 n :=
  ⟨rfl, by simpa [PyData.showable] using h2, by simp [PyData.depth], toString_length_le h0 hn h1⟩
theorem shy_100 {i : Int} (h0 : 0 ≤ i) (h1 : i < 10 ^ 100) : Shy (.int i) 0 100 := by
  refine shy_int h0 (by omega) h1 ?_
  have h2 : (10 : Int) ^ 100 < 2 ^ 400 := by decide +kernel
  have := log_small (i := i) (n := 400) (by omega) (by omega)
  omega
theorem shy_bool {b : Bool} : Shy (.bool b) 0 5 := by
  refine ⟨rfl, rfl, by simp [PyData.depth], ?_⟩
  cases b <;> decide
theorem shy_none : Shy (.none) 0 5 := ⟨rfl, rfl, by simp [PyData.depth], by decide⟩
theorem shy_tup' {k n m : Nat} {ds : List D} (h : ∀ d ∈ ds, Shy d k n) (hm : ds.length ≤ m) : Shy (.tuple ds) (k + 1) (m * n + 2 * m + 3) :=
  (shy_tup h).mono (Nat.le_refl _) (by have := Nat.mul_le_mul_right n hm; omega)
theorem shy_lst' {k n m : Nat} {ds : List D} (h : ∀ d ∈ ds, Shy d k n) (hm : ds.length ≤ m) : Shy (.list ds) (k + 1) (m * n + 2 * m + 3) :=
  (shy_lst h).mono (Nat.le_refl _) (by have := Nat.mul_le_mul_right n hm; omega)
theorem bRepr_ok {d : D} {k n : Nat} (h : Shy d k n) (hk : k ≤ 50) (hn : n ≤ 16777216) : bRepr [d] = some (.val (.str d.shown)) := by
  unfold bRepr
  exact if_pos ⟨h.plain, h.show_, Nat.le_trans h.depth hk, Nat.le_trans h.len hn⟩
theorem cEq_ok {d e : D} {k n k' n' : Nat} (h : Shy d k n) (h' : Shy e k' n') (hk : k ≤ 60) : cEq d e = some (PyData.eqv d e) := by
  unfold cEq
  refine if_pos ⟨h.plain, h'.plain, ?_⟩
  unfold depthLe
  have := h.depth
  exact decide_eq_true (by omega)
theorem cNe_ok {d e : D} {k n k' n' : Nat} (h : Shy d k n) (h' : Shy e k' n') (hk : k ≤ 60) : cNe d e = some (!PyData.eqv d e) := by
  unfold cNe
  refine if_pos ⟨h.plain, h'.plain, ?_⟩
  unfold depthLe
  have := h.depth
  exact decide_eq_true (by omega)
/-! ### equal data -/
theorem eqv_int (i j : Int) : PyData.eqv (.int i) (.int j) = decide (i = j) := by
  by_cases h : i = j <;> simp [PyData.eqv, h]
theorem eqvAll_map {α : Type} [DecidableEq α] {e : α → D} (h : ∀ a b, PyData.eqv (e a) (e b) = decide (a = b)) : ∀ xs ys : List α, PyData.eqvAll (xs.map e) (ys.map e) = decide (xs = ys)
  | [], [] => by simp [PyData.eqvAll]
  | [], _ :: _ => by simp [PyData.eqvAll]
  | _ :: _, [] => by simp [PyData.eqvAll]
  | x :: xs, y :: ys => by
    have ih := eqvAll_map h xs ys
    simp only [List.map_cons, PyData.eqvAll, h, ih]
    by_cases h1 : x = y <;> by_cases h2 : xs = ys <;> simp [h1, h2]
theorem eqv_tup {xs ys : List D} : PyData.eqv (.tuple xs) (.tuple ys) = PyData.eqvAll xs ys := by simp [PyData.eqv]
theorem eqv_lst {xs ys : List D} : PyData.eqv (.list xs) (.list ys) = PyData.eqvAll xs ys := by simp [PyData.eqv]
def intL (is : List Int) : List D := is.map PyData.int
theorem intL_cons (x : Int) (xs : List Int) : intL (x :: xs) = .int x :: intL xs := rfl
theorem intL_nil : intL [] = [] := rfl
theorem intL_len (xs : List Int) : (intL xs).length = xs.length := List.length_map ..
theorem intL_app (xs ys : List Int) : intL (xs ++ ys) = intL xs ++ intL ys := List.map_append
theorem eqv_ints (xs ys : List Int) : PyData.eqv (.tuple (intL xs)) (.tuple (intL ys)) = decide (xs = ys) := by
  rw [eqv_tup]; exact eqvAll_map eqv_int xs ys
theorem plain_ints : ∀ l : List Int, PyData.plainAll (intL l) = true
  | [] => rfl
  | x :: xs => by
    have ih := plain_ints xs
    unfold intL at ih ⊢
    simp [PyData.plainAll, PyData.plain, ih]
theorem depth_ints : ∀ l : List Int, PyData.depthAll (intL l) = 0
  | [] => by simp [intL, PyData.depthAll]
  | x :: xs => by
    have ih := depth_ints xs
    unfold intL at ih ⊢
    simp [PyData.depthAll, PyData.depth, ih]
theorem cNe_int (i j : Int) : cNe (.int i) (.int j) = some (!decide (i = j)) := by
  unfold cNe
  rw [if_pos ⟨rfl, rfl, by unfold depthLe; simp [PyData.depth]⟩, eqv_int]
theorem cEq_int (i j : Int) : cEq (.int i) (.int j) = some (decide (i = j)) := by
  unfold cEq
  rw [if_pos ⟨rfl, rfl, by unfold depthLe; simp [PyData.depth]⟩, eqv_int]
theorem cNe_ints (xs ys : List Int) : cNe (.list (intL xs)) (.list (intL ys)) = some (!decide (xs = ys)) := by
  unfold cNe
  rw [if_pos ⟨by simp [PyData.plain, plain_ints], by simp [PyData.plain, plain_ints], by unfold depthLe; simp [PyData.depth, depth_ints]⟩, eqv_lst]
  rw [show PyData.eqvAll (intL xs) (intL ys) = decide (xs = ys) from eqvAll_map eqv_int xs ys]
theorem any_ints (x : Int) (l : List Int) : ((intL l).any fun y => PyData.eqv y (.int x)) = decide (x ∈ l) := by
  induction l with
  | nil => rfl
  | cons y ys ih =>
    unfold intL at ih ⊢
    rw [List.map_cons, List.any_cons, ih, eqv_int]
    by_cases h : y = x
    · subst h; simp
    · have h' : ¬ x = y := fun z => h z.symm
      simp [h, h']
theorem inOk_ints (x : Int) (l : List Int) : inOk (.int x) (intL l) = true := by
  unfold inOk
  rw [plain_ints]
  simp [PyData.plain, PyData.depth]
theorem cIn_lst (x : Int) (l : List Int) : cIn (.int x) (.list (intL l)) = some (decide (x ∈ l)) := by
  unfold cIn
  simp only [inOk_ints, if_true, any_ints]
theorem cIn_tup (x : Int) (l : List Int) : cIn (.int x) (.tuple (intL l)) = some (decide (x ∈ l)) := by
  unfold cIn
  simp only [inOk_ints, if_true, any_ints]
theorem cNotIn_lst (x : Int) (l : List Int) : cNotIn (.int x) (.list (intL l)) = some (!decide (x ∈ l)) := by
  unfold cNotIn; rw [cIn_lst]
theorem cNotIn_tup (x : Int) (l : List Int) : cNotIn (.int x) (.tuple (intL l)) = some (!decide (x ∈ l)) := by
  unfold cNotIn; rw [cIn_tup]
theorem cut_take (xs : List D) (k : Nat) : Ev.cutD xs none (some (k : Int)) = xs.take k := by
  unfold Ev.cutD
  rw [HT.sIx_nat, HT.sIx_none, List.drop_zero, Nat.sub_zero]
  by_cases h : k ≤ xs.length
  · rw [Nat.min_eq_left h]
  · rw [Nat.min_eq_right (by omega), List.take_of_length_le (Nat.le_refl _), List.take_of_length_le (by omega)]
theorem cut_drop (xs : List D) (k : Nat) : Ev.cutD xs (some (k : Int)) none = xs.drop k := by
  unfold Ev.cutD
  rw [HT.sIx_nat, HT.sIx_none]
  by_cases h : k ≤ xs.length
  · rw [Nat.min_eq_left h, List.take_of_length_le (by simp)]
  · rw [Nat.min_eq_right (by omega), List.drop_eq_nil_of_le (Nat.le_refl _), List.drop_eq_nil_of_le (by omega), List.take_nil]
theorem cutD_map {α : Type} (e : α → D) (xs : List α) (lo hi : Option Int) : Ev.cutD (xs.map e) lo hi = ((xs.drop (HT.sIx xs.length 0 lo)).take (HT.sIx xs.length xs.length hi - HT.sIx xs.length 0 lo)).map e := by
  unfold Ev.cutD
  rw [List.map_take, List.map_drop, List.length_map]
end Law
open PySem PySem.Spec PyProof.Rows L2 Ev
namespace Law
/-! ### all(..), enumerate, texts -/
theorem boolsOf_true {α : Type} : ∀ xs : List α, boolsOf (xs.map fun _ => PyData.bool true) = some (xs.map fun _ => true)
  | [] => rfl
  | x :: xs => by
    have ih := boolsOf_true xs
    simp only [List.map_cons, boolsOf, ih]
theorem bAll_true {α : Type} (xs : List α) : bAll [.list (xs.map fun _ => PyData.bool true)] = some (.val (.bool true)) := by
  have : (xs.map fun _ => true).all id = true := by simp
  show (match boolsOf (xs.map fun _ => PyData.bool true) with
    | some bs => some (Ret.val (PyData.bool (bs.all id)))
    | none => none) = _
  rw [boolsOf_true]
  simp only [this]
theorem lcLoop_true {α : Type} {own : List Nat} {tg : Tgt} {te : M Ret} {e : α → D} {ρ : Rho} (xs : List α) (h : ∀ a ∈ xs, ∃ ρ1 ρ3, asgT tg (e a) ρ = some ρ1 ∧ te ρ1 = .ok (.val (.bool true)) ρ3 ∧ freeAll ρ3 own = true ∧ wipeR ρ3 own = ρ) (hl : xs.length ≤ 16777216) :
    lcLoop own tg mYes te (xs.map e) [] ρ = .ok (xs.map fun _ => PyData.bool true) ρ :=
  lcLoop_nil xs (fun a ha => by obtain ⟨ρ1, ρ3, h1, h2, h3, h4⟩ := h a ha; exact ⟨ρ1, _, ρ3, h1, h2, rfl, h3, h4⟩) hl
theorem forLoop_en {α : Type} {tg : Tgt} {body : MS} (e : α → D) (I : Rho → Prop) : ∀ (xs : List α) (k : Nat), (∀ (i : Nat) (a : α) (ρ : Rho), xs[i]? = some a → I ρ → ∃ ρ1 ρ2, asgT tg (.tuple [.int ((k + i : Nat) : Int), e a]) ρ = some ρ1 ∧ body ρ1 = .nx ρ2 ∧ I ρ2) → ∀ ρ, I ρ →
    ∃ ρ', forLoop tg body (enumD k (xs.map e)) ρ = .nx ρ' ∧ I ρ'
  | [], _, _, ρ, h => ⟨ρ, rfl, h⟩
  | a :: xs, k, hs, ρ, h => by
    obtain ⟨ρ1, ρ2, h1, h2, h3⟩ := hs 0 a ρ rfl h
    obtain ⟨ρ', h4, h5⟩ := forLoop_en e I xs (k + 1) (fun i b ρ hb hI => by
      have := hs (i + 1) b ρ (by simpa using hb) hI
      rw [show k + (i + 1) = k + 1 + i by omega] at this
      exact this) ρ2 h3
    refine ⟨ρ', ?_, h5⟩
    rw [List.map_cons, enumD, forLoop]
    rw [Nat.add_zero] at h1
    rw [h1]
    simp only [h2]
    exact h4
theorem plain_map {α : Type} {e : α → D} : ∀ (xs : List α), (∀ a ∈ xs, (e a).plain = true) → PyData.plainAll (xs.map e) = true
  | [], _ => rfl
  | x :: xs, h => by
    have ih := plain_map xs fun a ha => h a (List.mem_cons_of_mem _ ha)
    simp only [List.map_cons, PyData.plainAll, h x (List.mem_cons_self ..), ih, Bool.and_self]
theorem eqv_str (x y : Str) : PyData.eqv (.str x) (.str y) = decide (x = y) := by
  by_cases h : x = y <;> simp [PyData.eqv, h]
theorem cEq_str (x y : Str) : cEq (.str x) (.str y) = some (decide (x = y)) := by
  unfold cEq
  rw [if_pos ⟨rfl, rfl, by unfold depthLe; simp [PyData.depth]⟩, eqv_str]
theorem cNe_str (x y : Str) : cNe (.str x) (.str y) = some (!decide (x = y)) := by
  unfold cNe
  rw [if_pos ⟨rfl, rfl, by unfold depthLe; simp [PyData.depth]⟩, eqv_str]
end Law
open PySem PySem.Spec PyProof.Rows L2 Ev
namespace Law
/-! ### the bag: drawn figures -/
theorem map_set_int (G : List Int) (k : Nat) (q : Int) : (G.map PyData.int).set k (.int q) = (G.set k q).map PyData.int := by rw [List.map_set]
theorem pick_ok {G M : List Int} {T n : Int} (hM : 0 < M.length) (hG : G.length = M.length) (hT : 0 ≤ T) (hn : 0 < n) (hl : n.natAbs.log2 < 9000) :
    ∃ v G', G'.length = G.length ∧ 0 ≤ v ∧ v < n ∧ s__law_pick [.bag G M T, .dat (.int n)] = .ret (.val (.int v)) [.bag G' M (T + 1), .un] := by
  obtain ⟨k, hk⟩ : ∃ k : Nat, T % (M.length : Int) = k := ⟨(T % (M.length : Int)).toNat, by
    have := Int.emod_nonneg T (show (M.length : Int) ≠ 0 by omega)
    omega⟩
  have hk2 : k < M.length := by
    have := Int.emod_lt_of_pos T (show 0 < (M.length : Int) by omega)
    omega
  have hk3 : k < G.length := by omega
  have hM' : 0 < (M.length : Int) := by omega
  rw [s__law_pick_eq]
  unfold pickSem b__law_pick c__law_pick_1 c__law_pick_2 c__law_pick_3 c__law_pick_4
  by_cases hg : 0 < G[k]
  · refine ⟨G[k] % n, G.set k (G[k] / n), by simp, Int.emod_nonneg _ (by omega), Int.emod_lt_of_pos _ hn, ?_⟩
    have e : intsB ((G.map PyData.int).set k (.int (G[k] / n))) = some (G.set k (G[k] / n)) := by rw [map_set_int, intsB_map]
    simp [fnSem, outsOf, outs_dat, outs_nil, argIn, sSeq, sIf, sAsgN, sAsgT, sSetIx, sStore, isDicS, sSetD, mDNew, mRg1, mRg2, rgRet, mItEn, mItZ, mIdx, sRet, sRetN, sNext, sExpr, sAug, sPar, sPar3, sNo, mNo, mTst, mTru, mNotT, mAndT, mOrT, mNotV, mAndV, mOrV, mIfE, mOp1, mOp2, mOps, mCons, mNil, mCst, mName, mMove, mBor, toB, mArg, mTup, mLst, mCallK, callB, argSls, argSl, argS, noTw, isSl, pick, putGo, newS, lookSl, reown, opnd1, opnd2, opnds, res, ress, valsOf, truth, Slot.data?, cmpRet, Ret.toD, Ret.slot, Slot.free?, Slot.own?, Out.andThen, Out.thenS, opAdd, opSub, opMul, opDiv, opMod, opNeg, opIx, retOf, L2.atI, L2.ixN, cGt, cLt, cLe, cGe, bInt, bAbs, bLen, bMax, bMin, bTuple, bList, mLenG, mIxG, mSlG, mPart, mItR1, mItR2, mItV, itemsOf, sFor, asgT, asgTs, mLc, mLc2, freeAll, wipeR, restR, keepDat, lcFin, mMt, lApp, lExt, mSl, opSl, mYes, keyOf_int, keyOf_str, opIsa, PyData.plain, PyData.isInt, PyData.isBool, PyData.isTuple, PyData.isList, PyData.isStr, hk, hM', hM, hk2, hk3, hg, hn, hl, pickOut, intsB_map, e, List.replicate]
  · have e := intsB_map G
    have a1 : mulOk M[k] 48271 = true := mulR (by decide)
    have a2 : mulOk T 69621 = true := mulR (by decide)
    generalize hone : (M[k] * 48271 + T * 69621 + 7) % 2147483647 = one
    have one0 : 0 ≤ one := by rw [← hone]; exact Int.emod_nonneg _ (by decide)
    have one1 : one < 2147483647 := by rw [← hone]; exact Int.emod_lt_of_pos _ (by decide)
    have b1 : mulOk one one = true := mulR (by omega)
    have b2 : mulOk T 40692 = true := mulR (by decide)
    have b3 : Nat.log2 127773 < 9000 := by decide +kernel
    generalize htwo : (one * one + T * 40692 + M[k] / 127773) % 2147483629 = two
    have c1 : mulOk two 16807 = true := mulR (by decide)
    have c2 : mulOk one (T + 11) = true := mulL (by omega)
    generalize hthree : (two * 16807 + one * (T + 11)) % 2147483587 = three
    have three0 : 0 ≤ three := by rw [← hthree]; exact Int.emod_nonneg _ (by decide)
    have three1 : three < 2147483587 := by rw [← hthree]; exact Int.emod_lt_of_pos _ (by decide)
    have d1 : mulOk three three = true := mulR (by omega)
    have d2 : Nat.log2 3 < 9000 := by decide +kernel
    refine ⟨three * three % 2147483579 / 3 % n, G, rfl, Int.emod_nonneg _ (by omega), Int.emod_lt_of_pos _ hn, ?_⟩
    unfold c__law_pick_5 c__law_pick_6 c__law_pick_7 c__law_pick_8
    simp [fnSem, outsOf, outs_dat, outs_nil, argIn, sSeq, sIf, sAsgN, sAsgT, sSetIx, sStore, isDicS, sSetD, mDNew, mRg1, mRg2, rgRet, mItEn, mItZ, mIdx, sRet, sRetN, sNext, sExpr, sAug, sPar, sPar3, sNo, mNo, mTst, mTru, mNotT, mAndT, mOrT, mNotV, mAndV, mOrV, mIfE, mOp1, mOp2, mOps, mCons, mNil, mCst, mName, mMove, mBor, toB, mArg, mTup, mLst, mCallK, callB, argSls, argSl, argS, noTw, isSl, pick, putGo, newS, lookSl, reown, opnd1, opnd2, opnds, res, ress, valsOf, truth, Slot.data?, cmpRet, Ret.toD, Ret.slot, Slot.free?, Slot.own?, Out.andThen, Out.thenS, opAdd, opSub, opMul, opDiv, opMod, opNeg, opIx, retOf, L2.atI, L2.ixN, cGt, cLt, cLe, cGe, bInt, bAbs, bLen, bMax, bMin, bTuple, bList, mLenG, mIxG, mSlG, mPart, mItR1, mItR2, mItV, itemsOf, sFor, asgT, asgTs, mLc, mLc2, freeAll, wipeR, restR, keepDat, lcFin, mMt, lApp, lExt, mSl, opSl, mYes, keyOf_int, keyOf_str, opIsa, PyData.plain, PyData.isInt, PyData.isBool, PyData.isTuple, PyData.isList, PyData.isStr, hk, hM', hM, hk2, hk3, hg, hn, hl, pickOut, intsB_map, e, List.replicate, a1, a2, hone, b1, b2, b3, htwo, c1, c2, hthree, d1, d2]
/-- a bag that can be drawn from -/
structure Bg where
  G : List Int
  M : List Int
  T : Int
  pos : 0 < M.length
  len : G.length = M.length
  nn : 0 ≤ T
theorem Bg.pick (b : Bg) {n : Int} (hn : 0 < n) (hl : n.natAbs.log2 < 9000) : ∃ (v : Int) (b' : Bg), 0 ≤ v ∧ v < n ∧ s__law_pick [.bag b.G b.M b.T, .dat (.int n)] = .ret (.val (.int v)) [.bag b'.G b'.M b'.T, .un] := by
  obtain ⟨v, G', h1, h2, h3, h4⟩ := pick_ok b.pos b.len b.nn hn hl
  exact ⟨v, ⟨G', b.M, b.T + 1, b.pos, h1.trans b.len, by have := b.nn; omega⟩, h2, h3, h4⟩
/-- .. a number below a small one -/
theorem Bg.draw (b : Bg) {n : Nat} (hn : 0 < n) (hl : n < 2 ^ 250) : ∃ (v : Nat) (b' : Bg), v < n ∧ s__law_pick [.bag b.G b.M b.T, .dat (.int (n : Int))] = .ret (.val (.int (v : Int))) [.bag b'.G b'.M b'.T, .un] := by
  obtain ⟨v, b', h1, h2, h3⟩ := b.pick (n := (n : Int)) (by omega) (by
    have := log_small (i := (n : Int)) (n := 250) (by simpa using hl) (by omega)
    omega)
  obtain ⟨w, rfl⟩ : ∃ w : Nat, v = w := ⟨v.toNat, by omega⟩
  exact ⟨w, b', by omega, h3⟩
def c18 : Int := 10 ^ 18
def c60 : Int := 10 ^ 60
def cG : Int := c60 ^ 20
theorem pow18 : opPow (.int 10) (.int 18) = some (.val (.int c18)) := by kernel_rfl
theorem pow60 : opPow (.int 10) (.int 60) = some (.val (.int c60)) := by kernel_rfl
theorem powG : opPow (.int c60) (.int 20) = some (.val (.int cG)) := by kernel_rfl
theorem cG_pos : 0 < cG := by decide +kernel
theorem cut_ints (ns : List Int) (lo hi : Option Int) : ∃ ms : List Int, Ev.cutD (ns.map PyData.int) lo hi = ms.map PyData.int ∧ ms.length ≤ ns.length := by
  refine ⟨(ns.drop (HT.sIx (ns.map PyData.int).length 0 lo)).take (HT.sIx (ns.map PyData.int).length (ns.map PyData.int).length hi - HT.sIx (ns.map PyData.int).length 0 lo), ?_, ?_⟩
  · unfold Ev.cutD
    rw [List.map_take, List.map_drop]
  · rw [List.length_take, List.length_drop]
    omega
theorem bag_3 (g : Ev.Slot) (cs : List Int) (hl : cs.length ≤ 63) : c__law_bag_3 [g, .lst true (cs.map PyData.int), .un, .un] = .nx [g, .dat (.list (cs.map PyData.int)), .un, .lst true ((cs.map fun c => if c18 ≤ c then c % cG else 0).map PyData.int)] := by
  unfold c__law_bag_3
  have h := lcLoop_nil (own := [2]) (tg := .nm 2) (te := mIfE (mTst (mOp2 (cmpRet cGe) (mBor 2) (toB (mOp2 opPow (toB (mCst (.int 10))) (toB (mCst (.int 18))))))) (mOp2 opMod (toB (mOps bInt (mCons (mBor 2) mNil))) (toB (mOp2 opPow (toB (mOp2 opPow (toB (mCst (.int 10))) (toB (mCst (.int 60))))) (toB (mCst (.int 20)))))) (mCst (.int 0)))
    (e := PyData.int) (f := fun c => PyData.int (if c18 ≤ c then c % cG else 0)) (ρ := [g, .dat (.list (cs.map PyData.int)), .un, .un]) cs (fun c _ => by
      refine ⟨[g, .dat (.list (cs.map PyData.int)), .dat (.int c), .un], .val (.int (if c18 ≤ c then c % cG else 0)), [g, .dat (.list (cs.map PyData.int)), .dat (.int c), .un], ?_, ?_, rfl, ?_, ?_⟩
      · simp [fnSem, outsOf, outs_dat, outs_nil, argIn, sSeq, sIf, sAsgN, sAsgT, sSetIx, sStore, isDicS, sSetD, mDNew, mRg1, mRg2, rgRet, mItEn, mItZ, mIdx, sRet, sRetN, sNext, sExpr, sAug, sPar, sPar3, sNo, mNo, mTst, mTru, mNotT, mAndT, mOrT, mNotV, mAndV, mOrV, mIfE, mOp1, mOp2, mOps, mCons, mNil, mCst, mName, mMove, mBor, toB, mArg, mTup, mLst, mCallK, callB, argSls, argSl, argS, noTw, isSl, pick, putGo, newS, lookSl, reown, opnd1, opnd2, opnds, res, ress, valsOf, truth, Slot.data?, cmpRet, Ret.toD, Ret.slot, Slot.free?, Slot.own?, Out.andThen, Out.thenS, opAdd, opSub, opMul, opDiv, opMod, opNeg, opIx, retOf, L2.atI, L2.ixN, cGt, cLt, cLe, cGe, bInt, bAbs, bLen, bMax, bMin, bTuple, bList, mLenG, mIxG, mSlG, mPart, mItR1, mItR2, mItV, itemsOf, sFor, asgT, asgTs, mLc, mLc2, freeAll, wipeR, restR, keepDat, lcFin, mMt, lApp, lExt, mSl, opSl, mYes, keyOf_int, keyOf_str, opIsa, PyData.plain, PyData.isInt, PyData.isBool, PyData.isTuple, PyData.isList, PyData.isStr]
      · by_cases hc : c18 ≤ c <;> simp [fnSem, outsOf, outs_dat, outs_nil, argIn, sSeq, sIf, sAsgN, sAsgT, sSetIx, sStore, isDicS, sSetD, mDNew, mRg1, mRg2, rgRet, mItEn, mItZ, mIdx, sRet, sRetN, sNext, sExpr, sAug, sPar, sPar3, sNo, mNo, mTst, mTru, mNotT, mAndT, mOrT, mNotV, mAndV, mOrV, mIfE, mOp1, mOp2, mOps, mCons, mNil, mCst, mName, mMove, mBor, toB, mArg, mTup, mLst, mCallK, callB, argSls, argSl, argS, noTw, isSl, pick, putGo, newS, lookSl, reown, opnd1, opnd2, opnds, res, ress, valsOf, truth, Slot.data?, cmpRet, Ret.toD, Ret.slot, Slot.free?, Slot.own?, Out.andThen, Out.thenS, opAdd, opSub, opMul, opDiv, opMod, opNeg, opIx, retOf, L2.atI, L2.ixN, cGt, cLt, cLe, cGe, bInt, bAbs, bLen, bMax, bMin, bTuple, bList, mLenG, mIxG, mSlG, mPart, mItR1, mItR2, mItV, itemsOf, sFor, asgT, asgTs, mLc, mLc2, freeAll, wipeR, restR, keepDat, lcFin, mMt, lApp, lExt, mSl, opSl, mYes, keyOf_int, keyOf_str, opIsa, PyData.plain, PyData.isInt, PyData.isBool, PyData.isTuple, PyData.isList, PyData.isStr, pow18, pow60, powG, cG_pos, hc]
      · simp [fnSem, outsOf, outs_dat, outs_nil, argIn, sSeq, sIf, sAsgN, sAsgT, sSetIx, sStore, isDicS, sSetD, mDNew, mRg1, mRg2, rgRet, mItEn, mItZ, mIdx, sRet, sRetN, sNext, sExpr, sAug, sPar, sPar3, sNo, mNo, mTst, mTru, mNotT, mAndT, mOrT, mNotV, mAndV, mOrV, mIfE, mOp1, mOp2, mOps, mCons, mNil, mCst, mName, mMove, mBor, toB, mArg, mTup, mLst, mCallK, callB, argSls, argSl, argS, noTw, isSl, pick, putGo, newS, lookSl, reown, opnd1, opnd2, opnds, res, ress, valsOf, truth, Slot.data?, cmpRet, Ret.toD, Ret.slot, Slot.free?, Slot.own?, Out.andThen, Out.thenS, opAdd, opSub, opMul, opDiv, opMod, opNeg, opIx, retOf, L2.atI, L2.ixN, cGt, cLt, cLe, cGe, bInt, bAbs, bLen, bMax, bMin, bTuple, bList, mLenG, mIxG, mSlG, mPart, mItR1, mItR2, mItV, itemsOf, sFor, asgT, asgTs, mLc, mLc2, freeAll, wipeR, restR, keepDat, lcFin, mMt, lApp, lExt, mSl, opSl, mYes, keyOf_int, keyOf_str, opIsa, PyData.plain, PyData.isInt, PyData.isBool, PyData.isTuple, PyData.isList, PyData.isStr]
      · simp [fnSem, outsOf, outs_dat, outs_nil, argIn, sSeq, sIf, sAsgN, sAsgT, sSetIx, sStore, isDicS, sSetD, mDNew, mRg1, mRg2, rgRet, mItEn, mItZ, mIdx, sRet, sRetN, sNext, sExpr, sAug, sPar, sPar3, sNo, mNo, mTst, mTru, mNotT, mAndT, mOrT, mNotV, mAndV, mOrV, mIfE, mOp1, mOp2, mOps, mCons, mNil, mCst, mName, mMove, mBor, toB, mArg, mTup, mLst, mCallK, callB, argSls, argSl, argS, noTw, isSl, pick, putGo, newS, lookSl, reown, opnd1, opnd2, opnds, res, ress, valsOf, truth, Slot.data?, cmpRet, Ret.toD, Ret.slot, Slot.free?, Slot.own?, Out.andThen, Out.thenS, opAdd, opSub, opMul, opDiv, opMod, opNeg, opIx, retOf, L2.atI, L2.ixN, cGt, cLt, cLe, cGe, bInt, bAbs, bLen, bMax, bMin, bTuple, bList, mLenG, mIxG, mSlG, mPart, mItR1, mItR2, mItV, itemsOf, sFor, asgT, asgTs, mLc, mLc2, freeAll, wipeR, restR, keepDat, lcFin, mMt, lApp, lExt, mSl, opSl, mYes, keyOf_int, keyOf_str, opIsa, PyData.plain, PyData.isInt, PyData.isBool, PyData.isTuple, PyData.isList, PyData.isStr]) (by omega)
  simp [fnSem, outsOf, outs_dat, outs_nil, argIn, sSeq, sIf, sAsgN, sAsgT, sSetIx, sStore, isDicS, sSetD, mDNew, mRg1, mRg2, rgRet, mItEn, mItZ, mIdx, sRet, sRetN, sNext, sExpr, sAug, sPar, sPar3, sNo, mNo, mTst, mTru, mNotT, mAndT, mOrT, mNotV, mAndV, mOrV, mIfE, mOp1, mOp2, mOps, mCons, mNil, mCst, mName, mMove, mBor, toB, mArg, mTup, mLst, mCallK, callB, argSls, argSl, argS, noTw, isSl, pick, putGo, newS, lookSl, reown, opnd1, opnd2, opnds, res, ress, valsOf, truth, Slot.data?, cmpRet, Ret.toD, Ret.slot, Slot.free?, Slot.own?, Out.andThen, Out.thenS, opAdd, opSub, opMul, opDiv, opMod, opNeg, opIx, retOf, L2.atI, L2.ixN, cGt, cLt, cLe, cGe, bInt, bAbs, bLen, bMax, bMin, bTuple, bList, mLenG, mIxG, mSlG, mPart, mItR1, mItR2, mItV, itemsOf, sFor, asgT, asgTs, mLc, mLc2, freeAll, wipeR, restR, keepDat, lcFin, mMt, lApp, lExt, mSl, opSl, mYes, keyOf_int, keyOf_str, opIsa, PyData.plain, PyData.isInt, PyData.isBool, PyData.isTuple, PyData.isList, PyData.isStr, h]
theorem bag_e2 (g x : Ev.Slot) (cs : List Int) (hl : cs.length ≤ 63) : e__law_bag_2 [g, .dat (.list (cs.map PyData.int)), .un, x] = .ok (.fl ((cs.map fun c => c % 2305843009213693951).map PyData.int)) [g, .dat (.list (cs.map PyData.int)), .un, x] := by
  unfold e__law_bag_2
  have h := lcLoop_nil (own := [2]) (tg := .nm 2) (te := mOp2 opMod (toB (mOps bInt (mCons (mBor 2) mNil))) (toB (mCst (.int 2305843009213693951))))
    (e := PyData.int) (f := fun c => PyData.int (c % 2305843009213693951)) (ρ := [g, .dat (.list (cs.map PyData.int)), .un, x]) cs (fun c _ => by
      refine ⟨[g, .dat (.list (cs.map PyData.int)), .dat (.int c), x], .val (.int (c % 2305843009213693951)), [g, .dat (.list (cs.map PyData.int)), .dat (.int c), x], ?_, ?_, rfl, ?_, ?_⟩
      · simp [fnSem, outsOf, outs_dat, outs_nil, argIn, sSeq, sIf, sAsgN, sAsgT, sSetIx, sStore, isDicS, sSetD, mDNew, mRg1, mRg2, rgRet, mItEn, mItZ, mIdx, sRet, sRetN, sNext, sExpr, sAug, sPar, sPar3, sNo, mNo, mTst, mTru, mNotT, mAndT, mOrT, mNotV, mAndV, mOrV, mIfE, mOp1, mOp2, mOps, mCons, mNil, mCst, mName, mMove, mBor, toB, mArg, mTup, mLst, mCallK, callB, argSls, argSl, argS, noTw, isSl, pick, putGo, newS, lookSl, reown, opnd1, opnd2, opnds, res, ress, valsOf, truth, Slot.data?, cmpRet, Ret.toD, Ret.slot, Slot.free?, Slot.own?, Out.andThen, Out.thenS, opAdd, opSub, opMul, opDiv, opMod, opNeg, opIx, retOf, L2.atI, L2.ixN, cGt, cLt, cLe, cGe, bInt, bAbs, bLen, bMax, bMin, bTuple, bList, mLenG, mIxG, mSlG, mPart, mItR1, mItR2, mItV, itemsOf, sFor, asgT, asgTs, mLc, mLc2, freeAll, wipeR, restR, keepDat, lcFin, mMt, lApp, lExt, mSl, opSl, mYes, keyOf_int, keyOf_str, opIsa, PyData.plain, PyData.isInt, PyData.isBool, PyData.isTuple, PyData.isList, PyData.isStr]
      · simp [fnSem, outsOf, outs_dat, outs_nil, argIn, sSeq, sIf, sAsgN, sAsgT, sSetIx, sStore, isDicS, sSetD, mDNew, mRg1, mRg2, rgRet, mItEn, mItZ, mIdx, sRet, sRetN, sNext, sExpr, sAug, sPar, sPar3, sNo, mNo, mTst, mTru, mNotT, mAndT, mOrT, mNotV, mAndV, mOrV, mIfE, mOp1, mOp2, mOps, mCons, mNil, mCst, mName, mMove, mBor, toB, mArg, mTup, mLst, mCallK, callB, argSls, argSl, argS, noTw, isSl, pick, putGo, newS, lookSl, reown, opnd1, opnd2, opnds, res, ress, valsOf, truth, Slot.data?, cmpRet, Ret.toD, Ret.slot, Slot.free?, Slot.own?, Out.andThen, Out.thenS, opAdd, opSub, opMul, opDiv, opMod, opNeg, opIx, retOf, L2.atI, L2.ixN, cGt, cLt, cLe, cGe, bInt, bAbs, bLen, bMax, bMin, bTuple, bList, mLenG, mIxG, mSlG, mPart, mItR1, mItR2, mItV, itemsOf, sFor, asgT, asgTs, mLc, mLc2, freeAll, wipeR, restR, keepDat, lcFin, mMt, lApp, lExt, mSl, opSl, mYes, keyOf_int, keyOf_str, opIsa, PyData.plain, PyData.isInt, PyData.isBool, PyData.isTuple, PyData.isList, PyData.isStr]
      · simp [fnSem, outsOf, outs_dat, outs_nil, argIn, sSeq, sIf, sAsgN, sAsgT, sSetIx, sStore, isDicS, sSetD, mDNew, mRg1, mRg2, rgRet, mItEn, mItZ, mIdx, sRet, sRetN, sNext, sExpr, sAug, sPar, sPar3, sNo, mNo, mTst, mTru, mNotT, mAndT, mOrT, mNotV, mAndV, mOrV, mIfE, mOp1, mOp2, mOps, mCons, mNil, mCst, mName, mMove, mBor, toB, mArg, mTup, mLst, mCallK, callB, argSls, argSl, argS, noTw, isSl, pick, putGo, newS, lookSl, reown, opnd1, opnd2, opnds, res, ress, valsOf, truth, Slot.data?, cmpRet, Ret.toD, Ret.slot, Slot.free?, Slot.own?, Out.andThen, Out.thenS, opAdd, opSub, opMul, opDiv, opMod, opNeg, opIx, retOf, L2.atI, L2.ixN, cGt, cLt, cLe, cGe, bInt, bAbs, bLen, bMax, bMin, bTuple, bList, mLenG, mIxG, mSlG, mPart, mItR1, mItR2, mItV, itemsOf, sFor, asgT, asgTs, mLc, mLc2, freeAll, wipeR, restR, keepDat, lcFin, mMt, lApp, lExt, mSl, opSl, mYes, keyOf_int, keyOf_str, opIsa, PyData.plain, PyData.isInt, PyData.isBool, PyData.isTuple, PyData.isList, PyData.isStr]
      · simp [fnSem, outsOf, outs_dat, outs_nil, argIn, sSeq, sIf, sAsgN, sAsgT, sSetIx, sStore, isDicS, sSetD, mDNew, mRg1, mRg2, rgRet, mItEn, mItZ, mIdx, sRet, sRetN, sNext, sExpr, sAug, sPar, sPar3, sNo, mNo, mTst, mTru, mNotT, mAndT, mOrT, mNotV, mAndV, mOrV, mIfE, mOp1, mOp2, mOps, mCons, mNil, mCst, mName, mMove, mBor, toB, mArg, mTup, mLst, mCallK, callB, argSls, argSl, argS, noTw, isSl, pick, putGo, newS, lookSl, reown, opnd1, opnd2, opnds, res, ress, valsOf, truth, Slot.data?, cmpRet, Ret.toD, Ret.slot, Slot.free?, Slot.own?, Out.andThen, Out.thenS, opAdd, opSub, opMul, opDiv, opMod, opNeg, opIx, retOf, L2.atI, L2.ixN, cGt, cLt, cLe, cGe, bInt, bAbs, bLen, bMax, bMin, bTuple, bList, mLenG, mIxG, mSlG, mPart, mItR1, mItR2, mItV, itemsOf, sFor, asgT, asgTs, mLc, mLc2, freeAll, wipeR, restR, keepDat, lcFin, mMt, lApp, lExt, mSl, opSl, mYes, keyOf_int, keyOf_str, opIsa, PyData.plain, PyData.isInt, PyData.isBool, PyData.isTuple, PyData.isList, PyData.isStr]) (by omega)
  simp [fnSem, outsOf, outs_dat, outs_nil, argIn, sSeq, sIf, sAsgN, sAsgT, sSetIx, sStore, isDicS, sSetD, mDNew, mRg1, mRg2, rgRet, mItEn, mItZ, mIdx, sRet, sRetN, sNext, sExpr, sAug, sPar, sPar3, sNo, mNo, mTst, mTru, mNotT, mAndT, mOrT, mNotV, mAndV, mOrV, mIfE, mOp1, mOp2, mOps, mCons, mNil, mCst, mName, mMove, mBor, toB, mArg, mTup, mLst, mCallK, callB, argSls, argSl, argS, noTw, isSl, pick, putGo, newS, lookSl, reown, opnd1, opnd2, opnds, res, ress, valsOf, truth, Slot.data?, cmpRet, Ret.toD, Ret.slot, Slot.free?, Slot.own?, Out.andThen, Out.thenS, opAdd, opSub, opMul, opDiv, opMod, opNeg, opIx, retOf, L2.atI, L2.ixN, cGt, cLt, cLe, cGe, bInt, bAbs, bLen, bMax, bMin, bTuple, bList, mLenG, mIxG, mSlG, mPart, mItR1, mItR2, mItV, itemsOf, sFor, asgT, asgTs, mLc, mLc2, freeAll, wipeR, restR, keepDat, lcFin, mMt, lApp, lExt, mSl, opSl, mYes, keyOf_int, keyOf_str, opIsa, PyData.plain, PyData.isInt, PyData.isBool, PyData.isTuple, PyData.isList, PyData.isStr, h]
theorem bag_1 (ns : List Int) (hl : ns.length ≤ 63) : ∃ cs : List Int, cs.length ≤ 63 ∧ c__law_bag_1 [.giv (ns.map PyData.int), .un, .un, .un] = .nx [.giv (ns.map PyData.int), .lst true (cs.map PyData.int), .un, .un] := by
  obtain ⟨ms, em, lm⟩ := cut_ints ns none (some 63)
  refine ⟨ms, by omega, ?_⟩
  unfold c__law_bag_1
  have h := lcLoop_nil (own := [2]) (tg := .nm 2) (te := mOps bInt (mCons (mBor 2) mNil)) (e := PyData.int) (f := PyData.int) (ρ := [.giv (ns.map PyData.int), .un, .un, .un]) ms (fun c _ => by
      refine ⟨[.giv (ns.map PyData.int), .un, .dat (.int c), .un], .val (.int c), [.giv (ns.map PyData.int), .un, .dat (.int c), .un], ?_, ?_, rfl, ?_, ?_⟩
      · simp [fnSem, outsOf, outs_dat, outs_nil, argIn, sSeq, sIf, sAsgN, sAsgT, sSetIx, sStore, isDicS, sSetD, mDNew, mRg1, mRg2, rgRet, mItEn, mItZ, mIdx, sRet, sRetN, sNext, sExpr, sAug, sPar, sPar3, sNo, mNo, mTst, mTru, mNotT, mAndT, mOrT, mNotV, mAndV, mOrV, mIfE, mOp1, mOp2, mOps, mCons, mNil, mCst, mName, mMove, mBor, toB, mArg, mTup, mLst, mCallK, callB, argSls, argSl, argS, noTw, isSl, pick, putGo, newS, lookSl, reown, opnd1, opnd2, opnds, res, ress, valsOf, truth, Slot.data?, cmpRet, Ret.toD, Ret.slot, Slot.free?, Slot.own?, Out.andThen, Out.thenS, opAdd, opSub, opMul, opDiv, opMod, opNeg, opIx, retOf, L2.atI, L2.ixN, cGt, cLt, cLe, cGe, bInt, bAbs, bLen, bMax, bMin, bTuple, bList, mLenG, mIxG, mSlG, mPart, mItR1, mItR2, mItV, itemsOf, sFor, asgT, asgTs, mLc, mLc2, freeAll, wipeR, restR, keepDat, lcFin, mMt, lApp, lExt, mSl, opSl, mYes, keyOf_int, keyOf_str, opIsa, PyData.plain, PyData.isInt, PyData.isBool, PyData.isTuple, PyData.isList, PyData.isStr]
      · simp [fnSem, outsOf, outs_dat, outs_nil, argIn, sSeq, sIf, sAsgN, sAsgT, sSetIx, sStore, isDicS, sSetD, mDNew, mRg1, mRg2, rgRet, mItEn, mItZ, mIdx, sRet, sRetN, sNext, sExpr, sAug, sPar, sPar3, sNo, mNo, mTst, mTru, mNotT, mAndT, mOrT, mNotV, mAndV, mOrV, mIfE, mOp1, mOp2, mOps, mCons, mNil, mCst, mName, mMove, mBor, toB, mArg, mTup, mLst, mCallK, callB, argSls, argSl, argS, noTw, isSl, pick, putGo, newS, lookSl, reown, opnd1, opnd2, opnds, res, ress, valsOf, truth, Slot.data?, cmpRet, Ret.toD, Ret.slot, Slot.free?, Slot.own?, Out.andThen, Out.thenS, opAdd, opSub, opMul, opDiv, opMod, opNeg, opIx, retOf, L2.atI, L2.ixN, cGt, cLt, cLe, cGe, bInt, bAbs, bLen, bMax, bMin, bTuple, bList, mLenG, mIxG, mSlG, mPart, mItR1, mItR2, mItV, itemsOf, sFor, asgT, asgTs, mLc, mLc2, freeAll, wipeR, restR, keepDat, lcFin, mMt, lApp, lExt, mSl, opSl, mYes, keyOf_int, keyOf_str, opIsa, PyData.plain, PyData.isInt, PyData.isBool, PyData.isTuple, PyData.isList, PyData.isStr]
      · simp [fnSem, outsOf, outs_dat, outs_nil, argIn, sSeq, sIf, sAsgN, sAsgT, sSetIx, sStore, isDicS, sSetD, mDNew, mRg1, mRg2, rgRet, mItEn, mItZ, mIdx, sRet, sRetN, sNext, sExpr, sAug, sPar, sPar3, sNo, mNo, mTst, mTru, mNotT, mAndT, mOrT, mNotV, mAndV, mOrV, mIfE, mOp1, mOp2, mOps, mCons, mNil, mCst, mName, mMove, mBor, toB, mArg, mTup, mLst, mCallK, callB, argSls, argSl, argS, noTw, isSl, pick, putGo, newS, lookSl, reown, opnd1, opnd2, opnds, res, ress, valsOf, truth, Slot.data?, cmpRet, Ret.toD, Ret.slot, Slot.free?, Slot.own?, Out.andThen, Out.thenS, opAdd, opSub, opMul, opDiv, opMod, opNeg, opIx, retOf, L2.atI, L2.ixN, cGt, cLt, cLe, cGe, bInt, bAbs, bLen, bMax, bMin, bTuple, bList, mLenG, mIxG, mSlG, mPart, mItR1, mItR2, mItV, itemsOf, sFor, asgT, asgTs, mLc, mLc2, freeAll, wipeR, restR, keepDat, lcFin, mMt, lApp, lExt, mSl, opSl, mYes, keyOf_int, keyOf_str, opIsa, PyData.plain, PyData.isInt, PyData.isBool, PyData.isTuple, PyData.isList, PyData.isStr]
      · simp [fnSem, outsOf, outs_dat, outs_nil, argIn, sSeq, sIf, sAsgN, sAsgT, sSetIx, sStore, isDicS, sSetD, mDNew, mRg1, mRg2, rgRet, mItEn, mItZ, mIdx, sRet, sRetN, sNext, sExpr, sAug, sPar, sPar3, sNo, mNo, mTst, mTru, mNotT, mAndT, mOrT, mNotV, mAndV, mOrV, mIfE, mOp1, mOp2, mOps, mCons, mNil, mCst, mName, mMove, mBor, toB, mArg, mTup, mLst, mCallK, callB, argSls, argSl, argS, noTw, isSl, pick, putGo, newS, lookSl, reown, opnd1, opnd2, opnds, res, ress, valsOf, truth, Slot.data?, cmpRet, Ret.toD, Ret.slot, Slot.free?, Slot.own?, Out.andThen, Out.thenS, opAdd, opSub, opMul, opDiv, opMod, opNeg, opIx, retOf, L2.atI, L2.ixN, cGt, cLt, cLe, cGe, bInt, bAbs, bLen, bMax, bMin, bTuple, bList, mLenG, mIxG, mSlG, mPart, mItR1, mItR2, mItV, itemsOf, sFor, asgT, asgTs, mLc, mLc2, freeAll, wipeR, restR, keepDat, lcFin, mMt, lApp, lExt, mSl, opSl, mYes, keyOf_int, keyOf_str, opIsa, PyData.plain, PyData.isInt, PyData.isBool, PyData.isTuple, PyData.isList, PyData.isStr]) (by omega)
  simp [fnSem, outsOf, outs_dat, outs_nil, argIn, sSeq, sIf, sAsgN, sAsgT, sSetIx, sStore, isDicS, sSetD, mDNew, mRg1, mRg2, rgRet, mItEn, mItZ, mIdx, sRet, sRetN, sNext, sExpr, sAug, sPar, sPar3, sNo, mNo, mTst, mTru, mNotT, mAndT, mOrT, mNotV, mAndV, mOrV, mIfE, mOp1, mOp2, mOps, mCons, mNil, mCst, mName, mMove, mBor, toB, mArg, mTup, mLst, mCallK, callB, argSls, argSl, argS, noTw, isSl, pick, putGo, newS, lookSl, reown, opnd1, opnd2, opnds, res, ress, valsOf, truth, Slot.data?, cmpRet, Ret.toD, Ret.slot, Slot.free?, Slot.own?, Out.andThen, Out.thenS, opAdd, opSub, opMul, opDiv, opMod, opNeg, opIx, retOf, L2.atI, L2.ixN, cGt, cLt, cLe, cGe, bInt, bAbs, bLen, bMax, bMin, bTuple, bList, mLenG, mIxG, mSlG, mPart, mItR1, mItR2, mItV, itemsOf, sFor, asgT, asgTs, mLc, mLc2, freeAll, wipeR, restR, keepDat, lcFin, mMt, lApp, lExt, mSl, opSl, mYes, keyOf_int, keyOf_str, opIsa, PyData.plain, PyData.isInt, PyData.isBool, PyData.isTuple, PyData.isList, PyData.isStr, em, h]
theorem bag_2 (g : Ev.Slot) (cs : List Int) (hl : cs.length ≤ 63) : ∃ cs' : List Int, cs'.length ≤ 63 ∧ 0 < cs'.length ∧ c__law_bag_2 [g, .lst true (cs.map PyData.int), .un, .un] = .nx [g, .lst true (cs'.map PyData.int), .un, .un] := by
  unfold c__law_bag_2
  have h0 : cEq (.list (cs.map PyData.int)) (.list []) = some (decide (cs = [])) := by
    have := (show cEq (.list (intL cs)) (.list (intL [])) = some (decide (cs = [])) by
      unfold cEq
      rw [if_pos ⟨by simp [PyData.plain, plain_ints], by simp [PyData.plain, plain_ints], by unfold depthLe; simp [PyData.depth, depth_ints]⟩, eqv_lst]
      rw [show PyData.eqvAll (intL cs) (intL []) = decide (cs = []) from eqvAll_map eqv_int cs []])
    exact this
  by_cases hc : cs = []
  · subst hc
    refine ⟨[0], by decide, by decide, ?_⟩
    simp at h0
    simp [fnSem, outsOf, outs_dat, outs_nil, argIn, sSeq, sIf, sAsgN, sAsgT, sSetIx, sStore, isDicS, sSetD, mDNew, mRg1, mRg2, rgRet, mItEn, mItZ, mIdx, sRet, sRetN, sNext, sExpr, sAug, sPar, sPar3, sNo, mNo, mTst, mTru, mNotT, mAndT, mOrT, mNotV, mAndV, mOrV, mIfE, mOp1, mOp2, mOps, mCons, mNil, mCst, mName, mMove, mBor, toB, mArg, mTup, mLst, mCallK, callB, argSls, argSl, argS, noTw, isSl, pick, putGo, newS, lookSl, reown, opnd1, opnd2, opnds, res, ress, valsOf, truth, Slot.data?, cmpRet, Ret.toD, Ret.slot, Slot.free?, Slot.own?, Out.andThen, Out.thenS, opAdd, opSub, opMul, opDiv, opMod, opNeg, opIx, retOf, L2.atI, L2.ixN, cGt, cLt, cLe, cGe, bInt, bAbs, bLen, bMax, bMin, bTuple, bList, mLenG, mIxG, mSlG, mPart, mItR1, mItR2, mItV, itemsOf, sFor, asgT, asgTs, mLc, mLc2, freeAll, wipeR, restR, keepDat, lcFin, mMt, lApp, lExt, mSl, opSl, mYes, keyOf_int, keyOf_str, opIsa, PyData.plain, PyData.isInt, PyData.isBool, PyData.isTuple, PyData.isList, PyData.isStr, h0]
  · refine ⟨cs, hl, List.length_pos_iff.mpr hc, ?_⟩
    simp [fnSem, outsOf, outs_dat, outs_nil, argIn, sSeq, sIf, sAsgN, sAsgT, sSetIx, sStore, isDicS, sSetD, mDNew, mRg1, mRg2, rgRet, mItEn, mItZ, mIdx, sRet, sRetN, sNext, sExpr, sAug, sPar, sPar3, sNo, mNo, mTst, mTru, mNotT, mAndT, mOrT, mNotV, mAndV, mOrV, mIfE, mOp1, mOp2, mOps, mCons, mNil, mCst, mName, mMove, mBor, toB, mArg, mTup, mLst, mCallK, callB, argSls, argSl, argS, noTw, isSl, pick, putGo, newS, lookSl, reown, opnd1, opnd2, opnds, res, ress, valsOf, truth, Slot.data?, cmpRet, Ret.toD, Ret.slot, Slot.free?, Slot.own?, Out.andThen, Out.thenS, opAdd, opSub, opMul, opDiv, opMod, opNeg, opIx, retOf, L2.atI, L2.ixN, cGt, cLt, cLe, cGe, bInt, bAbs, bLen, bMax, bMin, bTuple, bList, mLenG, mIxG, mSlG, mPart, mItR1, mItR2, mItV, itemsOf, sFor, asgT, asgTs, mLc, mLc2, freeAll, wipeR, restR, keepDat, lcFin, mMt, lApp, lExt, mSl, opSl, mYes, keyOf_int, keyOf_str, opIsa, PyData.plain, PyData.isInt, PyData.isBool, PyData.isTuple, PyData.isList, PyData.isStr, h0, hc]
theorem bag_mk (ns : List Int) (hl : ns.length ≤ 63) : ∃ b : Bg, b.T = 0 ∧ s__law_bag ns = some (b.G, b.M) := by
  obtain ⟨cs, l1, e1⟩ := bag_1 ns hl
  obtain ⟨cs', l2, l3, e2⟩ := bag_2 (.giv (ns.map PyData.int)) cs l1
  have e3 := bag_3 (.giv (ns.map PyData.int)) cs' l2
  have e4 := bag_e2 (.giv (ns.map PyData.int)) (.lst true ((cs'.map fun c => if c18 ≤ c then c % cG else 0).map PyData.int)) cs' l2
  refine ⟨⟨cs'.map fun c => if c18 ≤ c then c % cG else 0, cs'.map fun c => c % 2305843009213693951, 0, by simpa using l3, by simp, by omega⟩, rfl, ?_⟩
  rw [s__law_bag_eq]
  have i1 := intsB_map (cs'.map fun c => if c18 ≤ c then c % cG else 0)
  have i2 := intsB_map (cs'.map fun c => c % 2305843009213693951)
  have e5 : ∀ ρ : Rho, e__law_bag_3 ρ = .ok (.fl [.int 0]) ρ := fun ρ => by unfold e__law_bag_3; simp [fnSem, outsOf, outs_dat, outs_nil, argIn, sSeq, sIf, sAsgN, sAsgT, sSetIx, sStore, isDicS, sSetD, mDNew, mRg1, mRg2, rgRet, mItEn, mItZ, mIdx, sRet, sRetN, sNext, sExpr, sAug, sPar, sPar3, sNo, mNo, mTst, mTru, mNotT, mAndT, mOrT, mNotV, mAndV, mOrV, mIfE, mOp1, mOp2, mOps, mCons, mNil, mCst, mName, mMove, mBor, toB, mArg, mTup, mLst, mCallK, callB, argSls, argSl, argS, noTw, isSl, pick, putGo, newS, lookSl, reown, opnd1, opnd2, opnds, res, ress, valsOf, truth, Slot.data?, cmpRet, Ret.toD, Ret.slot, Slot.free?, Slot.own?, Out.andThen, Out.thenS, opAdd, opSub, opMul, opDiv, opMod, opNeg, opIx, retOf, L2.atI, L2.ixN, cGt, cLt, cLe, cGe, bInt, bAbs, bLen, bMax, bMin, bTuple, bList, mLenG, mIxG, mSlG, mPart, mItR1, mItR2, mItV, itemsOf, sFor, asgT, asgTs, mLc, mLc2, freeAll, wipeR, restR, keepDat, lcFin, mMt, lApp, lExt, mSl, opSl, mYes, keyOf_int, keyOf_str, opIsa, PyData.plain, PyData.isInt, PyData.isBool, PyData.isTuple, PyData.isList, PyData.isStr]
  have e6 : b__law_bag (.giv (ns.map PyData.int) :: List.replicate (4 - 1) .un) = .nx [.giv (ns.map PyData.int), .dat (.list (cs'.map PyData.int)), .un, .lst true ((cs'.map fun c => if c18 ≤ c then c % cG else 0).map PyData.int)] := by
    show b__law_bag [.giv (ns.map PyData.int), .un, .un, .un] = _
    unfold b__law_bag
    simp only [sSeq, e1, e2, e3, sNext]
  unfold bagS
  rw [e6]
  simp only [List.getElem?_cons_succ, List.getElem?_cons_zero, e4, e5, i1, i2]
/-- a comprehension whose turns draw -/
theorem lcLoop_bag {α β : Type} {own : List Nat} {tg : Tgt} {te : M Ret} {e : α → D} (enc : β → D) (P : α → β → Prop) (st : Bg → Rho) : ∀ (xs : List α) (acc : List D) (b : Bg),
    (∀ a ∈ xs, ∀ b : Bg, ∃ ρ1 r ρ3 x, ∃ b' : Bg, asgT tg (e a) (st b) = some ρ1 ∧ te ρ1 = .ok r ρ3 ∧ r.toD = enc x ∧ P a x ∧ freeAll ρ3 own = true ∧ wipeR ρ3 own = st b') → acc.length + xs.length ≤ 16777216 →
    ∃ (out : List β) (b' : Bg), lcLoop own tg mYes te (xs.map e) acc (st b) = .ok (acc ++ out.map enc) (st b') ∧ out.length = xs.length ∧ ∀ (i : Nat) (a : α) (x : β), xs[i]? = some a → out[i]? = some x → P a x
  | [], acc, b, _, _ => ⟨[], b, by simp [lcLoop], rfl, fun i a d h => by simp at h⟩
  | a :: xs, acc, b, h, hl => by
    obtain ⟨ρ1, r, ρ3, x, b1, h1, h2, h3, h4, h5, h6⟩ := h a (List.mem_cons_self ..) b
    have hc : acc.length < 16777216 := by simp at hl; omega
    obtain ⟨out, b', e1, e2, e3⟩ := lcLoop_bag enc P st xs (acc ++ [r.toD]) b1 (fun c hc => h c (List.mem_cons_of_mem _ hc)) (by simp at hl ⊢; omega)
    refine ⟨x :: out, b', ?_, by simp [e2], fun i c y hc hy => ?_⟩
    · rw [List.map_cons, lcLoop, h1]
      simp only [mYes, andThen_ok, if_true, h2, hc, h5, and_self, h6]
      rw [e1]
      simp [h3]
    · cases i with
      | zero => simp at hc hy; subst hc hy; exact h4
      | succ i => exact e3 i c y (by simpa using hc) (by simpa using hy)
/-- .. all of one sort, with nothing ahead -/
theorem lcLoop_bag0 {α β : Type} {own : List Nat} {tg : Tgt} {te : M Ret} {e : α → D} (enc : β → D) (P : β → Prop) (st : Bg → Rho) (xs : List α) (b : Bg)
    (h : ∀ a ∈ xs, ∀ b : Bg, ∃ ρ1 r ρ3 x, ∃ b' : Bg, asgT tg (e a) (st b) = some ρ1 ∧ te ρ1 = .ok r ρ3 ∧ r.toD = enc x ∧ P x ∧ freeAll ρ3 own = true ∧ wipeR ρ3 own = st b') (hl : xs.length ≤ 16777216) :
    ∃ (out : List β) (b' : Bg), lcLoop own tg mYes te (xs.map e) [] (st b) = .ok (out.map enc) (st b') ∧ out.length = xs.length ∧ ∀ x ∈ out, P x := by
  obtain ⟨out, b', h1, h2, h3⟩ := lcLoop_bag enc (fun _ x => P x) st xs [] b h (by simpa using hl)
  refine ⟨out, b', by simpa using h1, h2, fun x hx => ?_⟩
  obtain ⟨i, hi, rfl⟩ := List.mem_iff_getElem.mp hx
  exact h3 i (xs[i]'(by omega)) _ (List.getElem?_eq_getElem (by omega)) (List.getElem?_eq_getElem hi)
/-- a loop over the state with a bag and things found -/
theorem forLoop_bag {α β : Type} {tg : Tgt} {body : MS} {e : α → D} (P : α → β → Prop) (I : List β → Bg → Rho → Prop) (N : Nat) : ∀ (xs : List α) (fd : List β) (ρ : Rho) (b : Bg), fd.length + xs.length ≤ N → I fd b ρ →
    (∀ a ∈ xs, ∀ (fd : List β) (b : Bg) (ρ : Rho), fd.length < N → I fd b ρ → ∃ ρ1 ρ2 x, ∃ b' : Bg, asgT tg (e a) ρ = some ρ1 ∧ body ρ1 = .nx ρ2 ∧ P a x ∧ I (fd ++ [x]) b' ρ2) →
    ∃ (out : List β) (b' : Bg) (ρ' : Rho), forLoop tg body (xs.map e) ρ = .nx ρ' ∧ I (fd ++ out) b' ρ' ∧ out.length = xs.length ∧ ∀ (i : Nat) (a : α) (x : β), xs[i]? = some a → out[i]? = some x → P a x
  | [], fd, ρ, b, _, hI, _ => ⟨[], b, ρ, rfl, by simpa using hI, rfl, fun i a d h => by simp at h⟩
  | a :: xs, fd, ρ, b, hN, hI, h => by
    obtain ⟨ρ1, ρ2, x, b1, h1, h2, h3, h4⟩ := h a (List.mem_cons_self ..) fd b ρ (by simp at hN; omega) hI
    obtain ⟨out, b', ρ', e1, e2, e3, e4⟩ := forLoop_bag P I N xs (fd ++ [x]) ρ2 b1 (by simp at hN ⊢; omega) h4 fun c hc => h c (List.mem_cons_of_mem _ hc)
    refine ⟨x :: out, b', ρ', ?_, by simpa using e2, by simp [e3], fun i c y hc hy => ?_⟩
    · rw [List.map_cons, forLoop, h1]
      simp only [h2]
      exact e1
    · cases i with
      | zero => simp at hc hy; subst hc hy; exact h3
      | succ i => exact e4 i c y (by simpa using hc) (by simpa using hy)
end Law
open PySem PySem.Spec PyProof.Rows L2 Ev
namespace Law
/-! ### programs -/
inductive Thing where
  | reg (i : Nat)
  | id (i : Nat)
  | no
def encT : Thing → D
  | .reg i => .tuple [.str "register", .int (i : Int)]
  | .id i => .tuple [.str "id", .int (i : Int)]
  | .no => .tuple [.str "nobody"]
inductive Tree where
  | go (there : Nat) (ts : List Thing)
  | iff (a b : Thing) (t u : Tree)
def encR : Tree → D
  | .go c ts => .tuple [.str "go", .int (c : Int), .tuple (ts.map encT)]
  | .iff a b t u => .tuple [.str "if", encT a, encT b, encR t, encR u]
def okT (R C : Nat) : Thing → Prop
  | .reg i => i < R
  | .id i => i < C
  | .no => True
def okR (N R C : Nat) : Tree → Prop
  | .go c ts => c < N ∧ ts.length = R ∧ ∀ t ∈ ts, okT R C t
  | .iff a b t u => okT R C a ∧ okT R C b ∧ okR N R C t ∧ okR N R C u
def Tree.ifs : Tree → Nat
  | .go _ _ => 0
  | .iff _ _ t u => t.ifs + u.ifs + 1
theorem thing_draw (b : Bg) (R C : Nat) (hR : R ≤ 1000) (hC : C ≤ 1000) : ∃ t, ∃ b' : Bg, okT R C t ∧ s__law_thing [.bag b.G b.M b.T, .dat (.int (R : Int)), .dat (.int (C : Int))] = .ret (.val (encT t)) [.bag b'.G b'.M b'.T, .un, .un] := by
  obtain ⟨v, b', hv, e⟩ := b.draw (n := 2 * R + 2 * C + 1) (by omega) (by omega)
  have m1 : mulOk 2 (R : Int) = true := mulL (by decide)
  have m2 : mulOk 2 (C : Int) = true := mulL (by decide)
  have e' : s__law_pick [.bag b.G b.M b.T, .dat (.int (2 * (R : Int) + 2 * (C : Int) + 1))] = .ret (.val (.int (v : Int))) [.bag b'.G b'.M b'.T, .un] := by
    have : ((2 * R + 2 * C + 1 : Nat) : Int) = 2 * (R : Int) + 2 * (C : Int) + 1 := by omega
    rw [← this]; exact e
  rw [s__law_thing_eq]
  unfold b__law_thing c__law_thing_1 c__law_thing_2 c__law_thing_3 c__law_thing_4
  by_cases h1 : v < 2 * R
  · have hR0 : 0 < R := by omega
    have h1' : (v : Int) < 2 * (R : Int) := by omega
    refine ⟨.reg (v % R), b', Nat.mod_lt _ hR0, ?_⟩
    simp [fnSem, outsOf, outs_dat, outs_nil, argIn, sSeq, sIf, sAsgN, sAsgT, sSetIx, sStore, isDicS, sSetD, mDNew, mRg1, mRg2, rgRet, mItEn, mItZ, mIdx, sRet, sRetN, sNext, sExpr, sAug, sPar, sPar3, sNo, mNo, mTst, mTru, mNotT, mAndT, mOrT, mNotV, mAndV, mOrV, mIfE, mOp1, mOp2, mOps, mCons, mNil, mCst, mName, mMove, mBor, toB, mArg, mTup, mLst, mCallK, callB, argSls, argSl, argS, noTw, isSl, pick, putGo, newS, lookSl, reown, opnd1, opnd2, opnds, res, ress, valsOf, truth, Slot.data?, cmpRet, Ret.toD, Ret.slot, Slot.free?, Slot.own?, Out.andThen, Out.thenS, opAdd, opSub, opMul, opDiv, opMod, opNeg, opIx, retOf, L2.atI, L2.ixN, cGt, cLt, cLe, cGe, bInt, bAbs, bLen, bMax, bMin, bTuple, bList, mLenG, mIxG, mSlG, mPart, mItR1, mItR2, mItV, itemsOf, sFor, asgT, asgTs, mLc, mLc2, freeAll, wipeR, restR, keepDat, lcFin, mMt, lApp, lExt, mSl, opSl, mYes, keyOf_int, keyOf_str, opIsa, PyData.plain, PyData.isInt, PyData.isBool, PyData.isTuple, PyData.isList, PyData.isStr, m1, m2, e', h1', hR0, encT]
  · have h1' : ¬ (v : Int) < 2 * (R : Int) := by omega
    by_cases h2 : v < 2 * R + 2 * C
    · have hC0 : 0 < C := by omega
      have h2' : (v : Int) < 2 * (R : Int) + 2 * (C : Int) := by omega
      refine ⟨.id (v % C), b', Nat.mod_lt _ hC0, ?_⟩
      simp [fnSem, outsOf, outs_dat, outs_nil, argIn, sSeq, sIf, sAsgN, sAsgT, sSetIx, sStore, isDicS, sSetD, mDNew, mRg1, mRg2, rgRet, mItEn, mItZ, mIdx, sRet, sRetN, sNext, sExpr, sAug, sPar, sPar3, sNo, mNo, mTst, mTru, mNotT, mAndT, mOrT, mNotV, mAndV, mOrV, mIfE, mOp1, mOp2, mOps, mCons, mNil, mCst, mName, mMove, mBor, toB, mArg, mTup, mLst, mCallK, callB, argSls, argSl, argS, noTw, isSl, pick, putGo, newS, lookSl, reown, opnd1, opnd2, opnds, res, ress, valsOf, truth, Slot.data?, cmpRet, Ret.toD, Ret.slot, Slot.free?, Slot.own?, Out.andThen, Out.thenS, opAdd, opSub, opMul, opDiv, opMod, opNeg, opIx, retOf, L2.atI, L2.ixN, cGt, cLt, cLe, cGe, bInt, bAbs, bLen, bMax, bMin, bTuple, bList, mLenG, mIxG, mSlG, mPart, mItR1, mItR2, mItV, itemsOf, sFor, asgT, asgTs, mLc, mLc2, freeAll, wipeR, restR, keepDat, lcFin, mMt, lApp, lExt, mSl, opSl, mYes, keyOf_int, keyOf_str, opIsa, PyData.plain, PyData.isInt, PyData.isBool, PyData.isTuple, PyData.isList, PyData.isStr, m1, m2, e', h1', h2', hC0, encT]
    · have h2' : ¬ (v : Int) < 2 * (R : Int) + 2 * (C : Int) := by omega
      refine ⟨.no, b', trivial, ?_⟩
      simp [fnSem, outsOf, outs_dat, outs_nil, argIn, sSeq, sIf, sAsgN, sAsgT, sSetIx, sStore, isDicS, sSetD, mDNew, mRg1, mRg2, rgRet, mItEn, mItZ, mIdx, sRet, sRetN, sNext, sExpr, sAug, sPar, sPar3, sNo, mNo, mTst, mTru, mNotT, mAndT, mOrT, mNotV, mAndV, mOrV, mIfE, mOp1, mOp2, mOps, mCons, mNil, mCst, mName, mMove, mBor, toB, mArg, mTup, mLst, mCallK, callB, argSls, argSl, argS, noTw, isSl, pick, putGo, newS, lookSl, reown, opnd1, opnd2, opnds, res, ress, valsOf, truth, Slot.data?, cmpRet, Ret.toD, Ret.slot, Slot.free?, Slot.own?, Out.andThen, Out.thenS, opAdd, opSub, opMul, opDiv, opMod, opNeg, opIx, retOf, L2.atI, L2.ixN, cGt, cLt, cLe, cGe, bInt, bAbs, bLen, bMax, bMin, bTuple, bList, mLenG, mIxG, mSlG, mPart, mItR1, mItR2, mItV, itemsOf, sFor, asgT, asgTs, mLc, mLc2, freeAll, wipeR, restR, keepDat, lcFin, mMt, lApp, lExt, mSl, opSl, mYes, keyOf_int, keyOf_str, opIsa, PyData.plain, PyData.isInt, PyData.isBool, PyData.isTuple, PyData.isList, PyData.isStr, m1, m2, e', h1', h2', encT]
theorem go_draw (b : Bg) (N R C : Nat) (hN : 0 < N) (hN2 : N ≤ 1000) (hR : R ≤ 1000) (hC : C ≤ 1000) : ∃ t, ∃ b' : Bg, okR N R C t ∧ t.ifs = 0 ∧ s__law_go [.bag b.G b.M b.T, .dat (.int (N : Int)), .dat (.int (R : Int)), .dat (.int (C : Int))] = .ret (.val (encR t)) [.bag b'.G b'.M b'.T, .un, .un, .un] := by
  obtain ⟨v, b1, hv, e1⟩ := b.draw (n := N) hN (by omega)
  obtain ⟨out, b', e2, h2, h3⟩ := lcLoop_bag0 (own := [5]) (tg := .nm 5) (te := mCallK s__law_thing [0, 1, 2] 3 0 (mCons (mArg 0) (mCons (toB (mName 2)) (mCons (toB (mName 3)) mNil))) mNil) (e := fun i : Nat => PyData.int (i : Int)) encT (okT R C)
    (fun b => [.bag b.G b.M b.T, .dat (.int (N : Int)), .dat (.int (R : Int)), .dat (.int (C : Int)), .dat (.int (v : Int)), .un]) (List.range R) b1 (fun a _ b => by
      obtain ⟨t, b', ht, e⟩ := thing_draw b R C hR hC
      refine ⟨[.bag b.G b.M b.T, .dat (.int (N : Int)), .dat (.int (R : Int)), .dat (.int (C : Int)), .dat (.int (v : Int)), .dat (.int (a : Int))], .val (encT t), [.bag b'.G b'.M b'.T, .dat (.int (N : Int)), .dat (.int (R : Int)), .dat (.int (C : Int)), .dat (.int (v : Int)), .dat (.int (a : Int))], t, b', ?_, ?_, rfl, ht, ?_, ?_⟩
      · simp [fnSem, outsOf, outs_dat, outs_nil, argIn, sSeq, sIf, sAsgN, sAsgT, sSetIx, sStore, isDicS, sSetD, mDNew, mRg1, mRg2, rgRet, mItEn, mItZ, mIdx, sRet, sRetN, sNext, sExpr, sAug, sPar, sPar3, sNo, mNo, mTst, mTru, mNotT, mAndT, mOrT, mNotV, mAndV, mOrV, mIfE, mOp1, mOp2, mOps, mCons, mNil, mCst, mName, mMove, mBor, toB, mArg, mTup, mLst, mCallK, callB, argSls, argSl, argS, noTw, isSl, pick, putGo, newS, lookSl, reown, opnd1, opnd2, opnds, res, ress, valsOf, truth, Slot.data?, cmpRet, Ret.toD, Ret.slot, Slot.free?, Slot.own?, Out.andThen, Out.thenS, opAdd, opSub, opMul, opDiv, opMod, opNeg, opIx, retOf, L2.atI, L2.ixN, cGt, cLt, cLe, cGe, bInt, bAbs, bLen, bMax, bMin, bTuple, bList, mLenG, mIxG, mSlG, mPart, mItR1, mItR2, mItV, itemsOf, sFor, asgT, asgTs, mLc, mLc2, freeAll, wipeR, restR, keepDat, lcFin, mMt, lApp, lExt, mSl, opSl, mYes, keyOf_int, keyOf_str, opIsa, PyData.plain, PyData.isInt, PyData.isBool, PyData.isTuple, PyData.isList, PyData.isStr]
      · simp [fnSem, outsOf, outs_dat, outs_nil, argIn, sSeq, sIf, sAsgN, sAsgT, sSetIx, sStore, isDicS, sSetD, mDNew, mRg1, mRg2, rgRet, mItEn, mItZ, mIdx, sRet, sRetN, sNext, sExpr, sAug, sPar, sPar3, sNo, mNo, mTst, mTru, mNotT, mAndT, mOrT, mNotV, mAndV, mOrV, mIfE, mOp1, mOp2, mOps, mCons, mNil, mCst, mName, mMove, mBor, toB, mArg, mTup, mLst, mCallK, callB, argSls, argSl, argS, noTw, isSl, pick, putGo, newS, lookSl, reown, opnd1, opnd2, opnds, res, ress, valsOf, truth, Slot.data?, cmpRet, Ret.toD, Ret.slot, Slot.free?, Slot.own?, Out.andThen, Out.thenS, opAdd, opSub, opMul, opDiv, opMod, opNeg, opIx, retOf, L2.atI, L2.ixN, cGt, cLt, cLe, cGe, bInt, bAbs, bLen, bMax, bMin, bTuple, bList, mLenG, mIxG, mSlG, mPart, mItR1, mItR2, mItV, itemsOf, sFor, asgT, asgTs, mLc, mLc2, freeAll, wipeR, restR, keepDat, lcFin, mMt, lApp, lExt, mSl, opSl, mYes, keyOf_int, keyOf_str, opIsa, PyData.plain, PyData.isInt, PyData.isBool, PyData.isTuple, PyData.isList, PyData.isStr, e]
      · simp [fnSem, outsOf, outs_dat, outs_nil, argIn, sSeq, sIf, sAsgN, sAsgT, sSetIx, sStore, isDicS, sSetD, mDNew, mRg1, mRg2, rgRet, mItEn, mItZ, mIdx, sRet, sRetN, sNext, sExpr, sAug, sPar, sPar3, sNo, mNo, mTst, mTru, mNotT, mAndT, mOrT, mNotV, mAndV, mOrV, mIfE, mOp1, mOp2, mOps, mCons, mNil, mCst, mName, mMove, mBor, toB, mArg, mTup, mLst, mCallK, callB, argSls, argSl, argS, noTw, isSl, pick, putGo, newS, lookSl, reown, opnd1, opnd2, opnds, res, ress, valsOf, truth, Slot.data?, cmpRet, Ret.toD, Ret.slot, Slot.free?, Slot.own?, Out.andThen, Out.thenS, opAdd, opSub, opMul, opDiv, opMod, opNeg, opIx, retOf, L2.atI, L2.ixN, cGt, cLt, cLe, cGe, bInt, bAbs, bLen, bMax, bMin, bTuple, bList, mLenG, mIxG, mSlG, mPart, mItR1, mItR2, mItV, itemsOf, sFor, asgT, asgTs, mLc, mLc2, freeAll, wipeR, restR, keepDat, lcFin, mMt, lApp, lExt, mSl, opSl, mYes, keyOf_int, keyOf_str, opIsa, PyData.plain, PyData.isInt, PyData.isBool, PyData.isTuple, PyData.isList, PyData.isStr]
      · simp [fnSem, outsOf, outs_dat, outs_nil, argIn, sSeq, sIf, sAsgN, sAsgT, sSetIx, sStore, isDicS, sSetD, mDNew, mRg1, mRg2, rgRet, mItEn, mItZ, mIdx, sRet, sRetN, sNext, sExpr, sAug, sPar, sPar3, sNo, mNo, mTst, mTru, mNotT, mAndT, mOrT, mNotV, mAndV, mOrV, mIfE, mOp1, mOp2, mOps, mCons, mNil, mCst, mName, mMove, mBor, toB, mArg, mTup, mLst, mCallK, callB, argSls, argSl, argS, noTw, isSl, pick, putGo, newS, lookSl, reown, opnd1, opnd2, opnds, res, ress, valsOf, truth, Slot.data?, cmpRet, Ret.toD, Ret.slot, Slot.free?, Slot.own?, Out.andThen, Out.thenS, opAdd, opSub, opMul, opDiv, opMod, opNeg, opIx, retOf, L2.atI, L2.ixN, cGt, cLt, cLe, cGe, bInt, bAbs, bLen, bMax, bMin, bTuple, bList, mLenG, mIxG, mSlG, mPart, mItR1, mItR2, mItV, itemsOf, sFor, asgT, asgTs, mLc, mLc2, freeAll, wipeR, restR, keepDat, lcFin, mMt, lApp, lExt, mSl, opSl, mYes, keyOf_int, keyOf_str, opIsa, PyData.plain, PyData.isInt, PyData.isBool, PyData.isTuple, PyData.isList, PyData.isStr]) (by simp; omega)
  refine ⟨.go v out, b', ⟨hv, by simpa using h2, h3⟩, rfl, ?_⟩
  have hr := rgOk_nat R (by omega)
  have hr2 := rangeD_eq R
  rw [s__law_go_eq]
  unfold b__law_go c__law_go_1 c__law_go_2
  have hb : R < 4611686018427387904 := by omega
  simp [fnSem, outsOf, outs_dat, outs_nil, argIn, sSeq, sIf, sAsgN, sAsgT, sSetIx, sStore, isDicS, sSetD, mDNew, mRg1, mRg2, rgRet, mItEn, mItZ, mIdx, sRet, sRetN, sNext, sExpr, sAug, sPar, sPar3, sNo, mNo, mTst, mTru, mNotT, mAndT, mOrT, mNotV, mAndV, mOrV, mIfE, mOp1, mOp2, mOps, mCons, mNil, mCst, mName, mMove, mBor, toB, mArg, mTup, mLst, mCallK, callB, argSls, argSl, argS, noTw, isSl, pick, putGo, newS, lookSl, reown, opnd1, opnd2, opnds, res, ress, valsOf, truth, Slot.data?, cmpRet, Ret.toD, Ret.slot, Slot.free?, Slot.own?, Out.andThen, Out.thenS, opAdd, opSub, opMul, opDiv, opMod, opNeg, opIx, retOf, L2.atI, L2.ixN, cGt, cLt, cLe, cGe, bInt, bAbs, bLen, bMax, bMin, bTuple, bList, mLenG, mIxG, mSlG, mPart, mItR1, mItR2, mItV, itemsOf, sFor, asgT, asgTs, mLc, mLc2, freeAll, wipeR, restR, keepDat, lcFin, mMt, lApp, lExt, mSl, opSl, mYes, keyOf_int, keyOf_str, opIsa, PyData.plain, PyData.isInt, PyData.isBool, PyData.isTuple, PyData.isList, PyData.isStr, e1, hr, hr2, hb, e2, encR]
theorem tree_draw (N R C : Nat) (hN : 0 < N) (hN2 : N ≤ 1000) (hR : R ≤ 1000) (hC : C ≤ 1000) : ∀ (n k : Nat) (b : Bg), k < n → k ≤ 1000 →
    ∃ t, ∃ b' : Bg, okR N R C t ∧ t.ifs = k ∧ s__law_tree n [.bag b.G b.M b.T, .dat (.int (N : Int)), .dat (.int (R : Int)), .dat (.int (C : Int)), .dat (.int (k : Int))] = .ret (.val (encR t)) [.bag b'.G b'.M b'.T, .un, .un, .un, .un]
  | 0, k, b, h, _ => absurd h (by omega)
  | n + 1, k, b, hk, hk2 => by
    rw [s__law_tree_eq]
    unfold b__law_tree c__law_tree_1 c__law_tree_2 c__law_tree_3 c__law_tree_4 c__law_tree_5
    by_cases k0 : k = 0
    · subst k0
      obtain ⟨t, b', h1, h2, e⟩ := go_draw b N R C hN hN2 hR hC
      refine ⟨t, b', h1, h2, ?_⟩
      have c0 := cEq_int 0 0
      simp at c0
      simp [fnSem, outsOf, outs_dat, outs_nil, argIn, sSeq, sIf, sAsgN, sAsgT, sSetIx, sStore, isDicS, sSetD, mDNew, mRg1, mRg2, rgRet, mItEn, mItZ, mIdx, sRet, sRetN, sNext, sExpr, sAug, sPar, sPar3, sNo, mNo, mTst, mTru, mNotT, mAndT, mOrT, mNotV, mAndV, mOrV, mIfE, mOp1, mOp2, mOps, mCons, mNil, mCst, mName, mMove, mBor, toB, mArg, mTup, mLst, mCallK, callB, argSls, argSl, argS, noTw, isSl, pick, putGo, newS, lookSl, reown, opnd1, opnd2, opnds, res, ress, valsOf, truth, Slot.data?, cmpRet, Ret.toD, Ret.slot, Slot.free?, Slot.own?, Out.andThen, Out.thenS, opAdd, opSub, opMul, opDiv, opMod, opNeg, opIx, retOf, L2.atI, L2.ixN, cGt, cLt, cLe, cGe, bInt, bAbs, bLen, bMax, bMin, bTuple, bList, mLenG, mIxG, mSlG, mPart, mItR1, mItR2, mItV, itemsOf, sFor, asgT, asgTs, mLc, mLc2, freeAll, wipeR, restR, keepDat, lcFin, mMt, lApp, lExt, mSl, opSl, mYes, keyOf_int, keyOf_str, opIsa, PyData.plain, PyData.isInt, PyData.isBool, PyData.isTuple, PyData.isList, PyData.isStr, c0, e]
    · obtain ⟨x, b1, hx, e1⟩ := thing_draw b R C hR hC
      obtain ⟨y, b2, hy, e2⟩ := thing_draw b1 R C hR hC
      obtain ⟨v, b3, hv, e3⟩ := b2.draw (n := k) (by omega) (by omega)
      obtain ⟨t, b4, ht, ht2, e4⟩ := tree_draw N R C hN hN2 hR hC n v b3 (by omega) (by omega)
      obtain ⟨u, b5, hu, hu2, e5⟩ := tree_draw N R C hN hN2 hR hC n (k - 1 - v) b4 (by omega) (by omega)
      refine ⟨.iff x y t u, b5, ⟨hx, hy, ht, hu⟩, by simp only [Tree.ifs]; omega, ?_⟩
      have c0 := cEq_int (k : Int) 0
      have c1 : ¬ ((k : Int) = 0) := by omega
      rw [decide_eq_false c1] at c0
      have e5' : s__law_tree n [.bag b4.G b4.M b4.T, .dat (.int (N : Int)), .dat (.int (R : Int)), .dat (.int (C : Int)), .dat (.int ((k : Int) - 1 - (v : Int)))] = .ret (.val (encR u)) [.bag b5.G b5.M b5.T, .un, .un, .un, .un] := by
        have : ((k - 1 - v : Nat) : Int) = (k : Int) - 1 - (v : Int) := by omega
        rw [← this]; exact e5
      simp [fnSem, outsOf, outs_dat, outs_nil, argIn, sSeq, sIf, sAsgN, sAsgT, sSetIx, sStore, isDicS, sSetD, mDNew, mRg1, mRg2, rgRet, mItEn, mItZ, mIdx, sRet, sRetN, sNext, sExpr, sAug, sPar, sPar3, sNo, mNo, mTst, mTru, mNotT, mAndT, mOrT, mNotV, mAndV, mOrV, mIfE, mOp1, mOp2, mOps, mCons, mNil, mCst, mName, mMove, mBor, toB, mArg, mTup, mLst, mCallK, callB, argSls, argSl, argS, noTw, isSl, pick, putGo, newS, lookSl, reown, opnd1, opnd2, opnds, res, ress, valsOf, truth, Slot.data?, cmpRet, Ret.toD, Ret.slot, Slot.free?, Slot.own?, Out.andThen, Out.thenS, opAdd, opSub, opMul, opDiv, opMod, opNeg, opIx, retOf, L2.atI, L2.ixN, cGt, cLt, cLe, cGe, bInt, bAbs, bLen, bMax, bMin, bTuple, bList, mLenG, mIxG, mSlG, mPart, mItR1, mItR2, mItV, itemsOf, sFor, asgT, asgTs, mLc, mLc2, freeAll, wipeR, restR, keepDat, lcFin, mMt, lApp, lExt, mSl, opSl, mYes, keyOf_int, keyOf_str, opIsa, PyData.plain, PyData.isInt, PyData.isBool, PyData.isTuple, PyData.isList, PyData.isStr, c0, e1, e2, e3, e4, e5', encR]
end Law
open PySem PySem.Spec PyProof.Rows L2 Ev
namespace Law
def natD (i : Nat) : D := .int (i : Int)
def encO : Option Nat → D
  | none => .none
  | some i => .int (i : Int)
def okO (R : Nat) : Option Nat → Prop
  | none => True
  | some i => i < R
def encK (ks : List Nat) : D := .tuple (ks.map natD)
abbrev Evt := Nat × List Int
def encE (e : Evt) : D := .tuple [natD e.1, .tuple (e.2.map PyData.int)]
def okE (ks : List Nat) (e : Evt) : Prop := ∃ c, ks[e.1]? = some c ∧ e.2.length = c ∧ ∀ x ∈ e.2, 0 ≤ x
structure Prog where
  ks : List Nat
  R : Nat
  trees : List (List Tree)
  answers : List (Nat × List (Option Nat))
def encA (a : Nat × List (Option Nat)) : D := .tuple [natD a.1, .tuple (a.2.map encO)]
def encP (p : Prog) : D := .tuple [encK p.ks, natD p.R, .tuple (p.trees.map fun row => .tuple (row.map encR)), .tuple (p.answers.map encA)]
def okRow (N R : Nat) (ks : List Nat) (row : List Tree) : Prop := row.length = ks.length ∧ ∀ (i c : Nat) (t : Tree), ks[i]? = some c → row[i]? = some t → okR N R c t ∧ t.ifs ≤ 3
structure OkP (p : Prog) : Prop where
  k1 : 0 < p.ks.length
  k2 : p.ks.length ≤ 2
  k3 : ∀ k ∈ p.ks, k ≤ 2
  r : p.R ≤ 3
  n1 : 0 < p.trees.length
  n2 : p.trees.length ≤ 4
  row : ∀ row ∈ p.trees, okRow p.trees.length p.R p.ks row
  al : p.answers.length = p.trees.length
  ans : ∀ a ∈ p.answers, a.2.length ≤ 2 ∧ ∀ o ∈ a.2, okO p.R o
theorem shown_draw (b : Bg) (R : Nat) (hR : R ≤ 1000) : ∃ os : List (Option Nat), ∃ b' : Bg, os.length ≤ 2 ∧ (∀ o ∈ os, okO R o) ∧ s__law_shown [.bag b.G b.M b.T, .dat (.int (R : Int))] = .ret (.val (.tuple (os.map encO))) [.bag b'.G b'.M b'.T, .un] := by
  obtain ⟨v, b1, hv, e1⟩ := b.draw (n := 3) (by omega) (by omega)
  obtain ⟨out, b', e2, h2, h3⟩ := lcLoop_bag0 (own := [3]) (tg := .nm 3) (te := mCallK s__law_pick [0, 1] 2 0 (mCons (mArg 0) (mCons (toB (mOp2 opAdd (mBor 1) (toB (mCst (.int 1))))) mNil)) mNil) (e := natD) natD (fun x => x ≤ R)
    (fun b => [.bag b.G b.M b.T, .dat (.int (R : Int)), .un, .un, .un]) (List.range v) b1 (fun a _ b => by
      obtain ⟨x, b', hx, e⟩ := b.draw (n := R + 1) (by omega) (by omega)
      have e' : s__law_pick [.bag b.G b.M b.T, .dat (.int ((R : Int) + 1))] = .ret (.val (.int (x : Int))) [.bag b'.G b'.M b'.T, .un] := by
        have : ((R + 1 : Nat) : Int) = (R : Int) + 1 := by omega
        rw [← this]; exact e
      refine ⟨[.bag b.G b.M b.T, .dat (.int (R : Int)), .un, .dat (natD a), .un], .val (natD x), [.bag b'.G b'.M b'.T, .dat (.int (R : Int)), .un, .dat (natD a), .un], x, b', ?_, ?_, rfl, by omega, ?_, ?_⟩
      · simp [fnSem, outsOf, outs_dat, outs_nil, argIn, sSeq, sIf, sAsgN, sAsgT, sSetIx, sStore, isDicS, sSetD, mDNew, mRg1, mRg2, rgRet, mItEn, mItZ, mIdx, sRet, sRetN, sNext, sExpr, sAug, sPar, sPar3, sNo, mNo, mTst, mTru, mNotT, mAndT, mOrT, mNotV, mAndV, mOrV, mIfE, mOp1, mOp2, mOps, mCons, mNil, mCst, mName, mMove, mBor, toB, mArg, mTup, mLst, mCallK, callB, argSls, argSl, argS, noTw, isSl, pick, putGo, newS, lookSl, reown, opnd1, opnd2, opnds, res, ress, valsOf, truth, Slot.data?, cmpRet, Ret.toD, Ret.slot, Slot.free?, Slot.own?, Out.andThen, Out.thenS, opAdd, opSub, opMul, opDiv, opMod, opNeg, opIx, retOf, L2.atI, L2.ixN, cGt, cLt, cLe, cGe, bInt, bAbs, bLen, bMax, bMin, bTuple, bList, mLenG, mIxG, mSlG, mPart, mItR1, mItR2, mItV, itemsOf, sFor, asgT, asgTs, mLc, mLc2, freeAll, wipeR, restR, keepDat, lcFin, mMt, lApp, lExt, mSl, opSl, mYes, keyOf_int, keyOf_str, opIsa, PyData.plain, PyData.isInt, PyData.isBool, PyData.isTuple, PyData.isList, PyData.isStr]
      · simp [fnSem, outsOf, outs_dat, outs_nil, argIn, sSeq, sIf, sAsgN, sAsgT, sSetIx, sStore, isDicS, sSetD, mDNew, mRg1, mRg2, rgRet, mItEn, mItZ, mIdx, sRet, sRetN, sNext, sExpr, sAug, sPar, sPar3, sNo, mNo, mTst, mTru, mNotT, mAndT, mOrT, mNotV, mAndV, mOrV, mIfE, mOp1, mOp2, mOps, mCons, mNil, mCst, mName, mMove, mBor, toB, mArg, mTup, mLst, mCallK, callB, argSls, argSl, argS, noTw, isSl, pick, putGo, newS, lookSl, reown, opnd1, opnd2, opnds, res, ress, valsOf, truth, Slot.data?, cmpRet, Ret.toD, Ret.slot, Slot.free?, Slot.own?, Out.andThen, Out.thenS, opAdd, opSub, opMul, opDiv, opMod, opNeg, opIx, retOf, L2.atI, L2.ixN, cGt, cLt, cLe, cGe, bInt, bAbs, bLen, bMax, bMin, bTuple, bList, mLenG, mIxG, mSlG, mPart, mItR1, mItR2, mItV, itemsOf, sFor, asgT, asgTs, mLc, mLc2, freeAll, wipeR, restR, keepDat, lcFin, mMt, lApp, lExt, mSl, opSl, mYes, keyOf_int, keyOf_str, opIsa, PyData.plain, PyData.isInt, PyData.isBool, PyData.isTuple, PyData.isList, PyData.isStr, e', natD]
      · simp [fnSem, outsOf, outs_dat, outs_nil, argIn, sSeq, sIf, sAsgN, sAsgT, sSetIx, sStore, isDicS, sSetD, mDNew, mRg1, mRg2, rgRet, mItEn, mItZ, mIdx, sRet, sRetN, sNext, sExpr, sAug, sPar, sPar3, sNo, mNo, mTst, mTru, mNotT, mAndT, mOrT, mNotV, mAndV, mOrV, mIfE, mOp1, mOp2, mOps, mCons, mNil, mCst, mName, mMove, mBor, toB, mArg, mTup, mLst, mCallK, callB, argSls, argSl, argS, noTw, isSl, pick, putGo, newS, lookSl, reown, opnd1, opnd2, opnds, res, ress, valsOf, truth, Slot.data?, cmpRet, Ret.toD, Ret.slot, Slot.free?, Slot.own?, Out.andThen, Out.thenS, opAdd, opSub, opMul, opDiv, opMod, opNeg, opIx, retOf, L2.atI, L2.ixN, cGt, cLt, cLe, cGe, bInt, bAbs, bLen, bMax, bMin, bTuple, bList, mLenG, mIxG, mSlG, mPart, mItR1, mItR2, mItV, itemsOf, sFor, asgT, asgTs, mLc, mLc2, freeAll, wipeR, restR, keepDat, lcFin, mMt, lApp, lExt, mSl, opSl, mYes, keyOf_int, keyOf_str, opIsa, PyData.plain, PyData.isInt, PyData.isBool, PyData.isTuple, PyData.isList, PyData.isStr]
      · simp [fnSem, outsOf, outs_dat, outs_nil, argIn, sSeq, sIf, sAsgN, sAsgT, sSetIx, sStore, isDicS, sSetD, mDNew, mRg1, mRg2, rgRet, mItEn, mItZ, mIdx, sRet, sRetN, sNext, sExpr, sAug, sPar, sPar3, sNo, mNo, mTst, mTru, mNotT, mAndT, mOrT, mNotV, mAndV, mOrV, mIfE, mOp1, mOp2, mOps, mCons, mNil, mCst, mName, mMove, mBor, toB, mArg, mTup, mLst, mCallK, callB, argSls, argSl, argS, noTw, isSl, pick, putGo, newS, lookSl, reown, opnd1, opnd2, opnds, res, ress, valsOf, truth, Slot.data?, cmpRet, Ret.toD, Ret.slot, Slot.free?, Slot.own?, Out.andThen, Out.thenS, opAdd, opSub, opMul, opDiv, opMod, opNeg, opIx, retOf, L2.atI, L2.ixN, cGt, cLt, cLe, cGe, bInt, bAbs, bLen, bMax, bMin, bTuple, bList, mLenG, mIxG, mSlG, mPart, mItR1, mItR2, mItV, itemsOf, sFor, asgT, asgTs, mLc, mLc2, freeAll, wipeR, restR, keepDat, lcFin, mMt, lApp, lExt, mSl, opSl, mYes, keyOf_int, keyOf_str, opIsa, PyData.plain, PyData.isInt, PyData.isBool, PyData.isTuple, PyData.isList, PyData.isStr]) (by simp; omega)
  have h4 : out.length ≤ 2 := by rw [h2, List.length_range]; omega
  have q := lcLoop_nil (own := [4]) (tg := .nm 4) (te := mIfE (mTst (mOp2 (cmpRet cEq) (mBor 4) (mBor 1))) (mCst .none) (mName 4)) (e := natD) (f := fun x => encO (if x = R then none else some x))
    (ρ := [.bag b'.G b'.M b'.T, .dat (.int (R : Int)), .dat (.list (out.map natD)), .un, .un]) out (fun x _ => by
      have c0 := cEq_int (x : Int) (R : Int)
      refine ⟨[.bag b'.G b'.M b'.T, .dat (.int (R : Int)), .dat (.list (out.map natD)), .un, .dat (natD x)], .val (encO (if x = R then none else some x)), [.bag b'.G b'.M b'.T, .dat (.int (R : Int)), .dat (.list (out.map natD)), .un, .dat (natD x)], ?_, ?_, rfl, ?_, ?_⟩
      · simp [fnSem, outsOf, outs_dat, outs_nil, argIn, sSeq, sIf, sAsgN, sAsgT, sSetIx, sStore, isDicS, sSetD, mDNew, mRg1, mRg2, rgRet, mItEn, mItZ, mIdx, sRet, sRetN, sNext, sExpr, sAug, sPar, sPar3, sNo, mNo, mTst, mTru, mNotT, mAndT, mOrT, mNotV, mAndV, mOrV, mIfE, mOp1, mOp2, mOps, mCons, mNil, mCst, mName, mMove, mBor, toB, mArg, mTup, mLst, mCallK, callB, argSls, argSl, argS, noTw, isSl, pick, putGo, newS, lookSl, reown, opnd1, opnd2, opnds, res, ress, valsOf, truth, Slot.data?, cmpRet, Ret.toD, Ret.slot, Slot.free?, Slot.own?, Out.andThen, Out.thenS, opAdd, opSub, opMul, opDiv, opMod, opNeg, opIx, retOf, L2.atI, L2.ixN, cGt, cLt, cLe, cGe, bInt, bAbs, bLen, bMax, bMin, bTuple, bList, mLenG, mIxG, mSlG, mPart, mItR1, mItR2, mItV, itemsOf, sFor, asgT, asgTs, mLc, mLc2, freeAll, wipeR, restR, keepDat, lcFin, mMt, lApp, lExt, mSl, opSl, mYes, keyOf_int, keyOf_str, opIsa, PyData.plain, PyData.isInt, PyData.isBool, PyData.isTuple, PyData.isList, PyData.isStr]
      · unfold natD
        by_cases hx : x = R
        · subst hx
          simp at c0
          simp [fnSem, outsOf, outs_dat, outs_nil, argIn, sSeq, sIf, sAsgN, sAsgT, sSetIx, sStore, isDicS, sSetD, mDNew, mRg1, mRg2, rgRet, mItEn, mItZ, mIdx, sRet, sRetN, sNext, sExpr, sAug, sPar, sPar3, sNo, mNo, mTst, mTru, mNotT, mAndT, mOrT, mNotV, mAndV, mOrV, mIfE, mOp1, mOp2, mOps, mCons, mNil, mCst, mName, mMove, mBor, toB, mArg, mTup, mLst, mCallK, callB, argSls, argSl, argS, noTw, isSl, pick, putGo, newS, lookSl, reown, opnd1, opnd2, opnds, res, ress, valsOf, truth, Slot.data?, cmpRet, Ret.toD, Ret.slot, Slot.free?, Slot.own?, Out.andThen, Out.thenS, opAdd, opSub, opMul, opDiv, opMod, opNeg, opIx, retOf, L2.atI, L2.ixN, cGt, cLt, cLe, cGe, bInt, bAbs, bLen, bMax, bMin, bTuple, bList, mLenG, mIxG, mSlG, mPart, mItR1, mItR2, mItV, itemsOf, sFor, asgT, asgTs, mLc, mLc2, freeAll, wipeR, restR, keepDat, lcFin, mMt, lApp, lExt, mSl, opSl, mYes, keyOf_int, keyOf_str, opIsa, PyData.plain, PyData.isInt, PyData.isBool, PyData.isTuple, PyData.isList, PyData.isStr, c0, encO]
        · have hx' : ¬ ((x : Int) = (R : Int)) := by omega
          rw [decide_eq_false hx'] at c0
          simp [fnSem, outsOf, outs_dat, outs_nil, argIn, sSeq, sIf, sAsgN, sAsgT, sSetIx, sStore, isDicS, sSetD, mDNew, mRg1, mRg2, rgRet, mItEn, mItZ, mIdx, sRet, sRetN, sNext, sExpr, sAug, sPar, sPar3, sNo, mNo, mTst, mTru, mNotT, mAndT, mOrT, mNotV, mAndV, mOrV, mIfE, mOp1, mOp2, mOps, mCons, mNil, mCst, mName, mMove, mBor, toB, mArg, mTup, mLst, mCallK, callB, argSls, argSl, argS, noTw, isSl, pick, putGo, newS, lookSl, reown, opnd1, opnd2, opnds, res, ress, valsOf, truth, Slot.data?, cmpRet, Ret.toD, Ret.slot, Slot.free?, Slot.own?, Out.andThen, Out.thenS, opAdd, opSub, opMul, opDiv, opMod, opNeg, opIx, retOf, L2.atI, L2.ixN, cGt, cLt, cLe, cGe, bInt, bAbs, bLen, bMax, bMin, bTuple, bList, mLenG, mIxG, mSlG, mPart, mItR1, mItR2, mItV, itemsOf, sFor, asgT, asgTs, mLc, mLc2, freeAll, wipeR, restR, keepDat, lcFin, mMt, lApp, lExt, mSl, opSl, mYes, keyOf_int, keyOf_str, opIsa, PyData.plain, PyData.isInt, PyData.isBool, PyData.isTuple, PyData.isList, PyData.isStr, c0, encO, hx]
      · simp [fnSem, outsOf, outs_dat, outs_nil, argIn, sSeq, sIf, sAsgN, sAsgT, sSetIx, sStore, isDicS, sSetD, mDNew, mRg1, mRg2, rgRet, mItEn, mItZ, mIdx, sRet, sRetN, sNext, sExpr, sAug, sPar, sPar3, sNo, mNo, mTst, mTru, mNotT, mAndT, mOrT, mNotV, mAndV, mOrV, mIfE, mOp1, mOp2, mOps, mCons, mNil, mCst, mName, mMove, mBor, toB, mArg, mTup, mLst, mCallK, callB, argSls, argSl, argS, noTw, isSl, pick, putGo, newS, lookSl, reown, opnd1, opnd2, opnds, res, ress, valsOf, truth, Slot.data?, cmpRet, Ret.toD, Ret.slot, Slot.free?, Slot.own?, Out.andThen, Out.thenS, opAdd, opSub, opMul, opDiv, opMod, opNeg, opIx, retOf, L2.atI, L2.ixN, cGt, cLt, cLe, cGe, bInt, bAbs, bLen, bMax, bMin, bTuple, bList, mLenG, mIxG, mSlG, mPart, mItR1, mItR2, mItV, itemsOf, sFor, asgT, asgTs, mLc, mLc2, freeAll, wipeR, restR, keepDat, lcFin, mMt, lApp, lExt, mSl, opSl, mYes, keyOf_int, keyOf_str, opIsa, PyData.plain, PyData.isInt, PyData.isBool, PyData.isTuple, PyData.isList, PyData.isStr]
      · simp [fnSem, outsOf, outs_dat, outs_nil, argIn, sSeq, sIf, sAsgN, sAsgT, sSetIx, sStore, isDicS, sSetD, mDNew, mRg1, mRg2, rgRet, mItEn, mItZ, mIdx, sRet, sRetN, sNext, sExpr, sAug, sPar, sPar3, sNo, mNo, mTst, mTru, mNotT, mAndT, mOrT, mNotV, mAndV, mOrV, mIfE, mOp1, mOp2, mOps, mCons, mNil, mCst, mName, mMove, mBor, toB, mArg, mTup, mLst, mCallK, callB, argSls, argSl, argS, noTw, isSl, pick, putGo, newS, lookSl, reown, opnd1, opnd2, opnds, res, ress, valsOf, truth, Slot.data?, cmpRet, Ret.toD, Ret.slot, Slot.free?, Slot.own?, Out.andThen, Out.thenS, opAdd, opSub, opMul, opDiv, opMod, opNeg, opIx, retOf, L2.atI, L2.ixN, cGt, cLt, cLe, cGe, bInt, bAbs, bLen, bMax, bMin, bTuple, bList, mLenG, mIxG, mSlG, mPart, mItR1, mItR2, mItV, itemsOf, sFor, asgT, asgTs, mLc, mLc2, freeAll, wipeR, restR, keepDat, lcFin, mMt, lApp, lExt, mSl, opSl, mYes, keyOf_int, keyOf_str, opIsa, PyData.plain, PyData.isInt, PyData.isBool, PyData.isTuple, PyData.isList, PyData.isStr]) (by omega)
  refine ⟨out.map fun x => if x = R then none else some x, b', by simpa using h4, fun o ho => ?_, ?_⟩
  · obtain ⟨x, hx, rfl⟩ := List.mem_map.mp ho
    have := h3 x hx
    split
    · trivial
    · show x < R
      omega
  · have hr := rgOk_nat v (by omega)
    have hr2 : rangeD 0 v = (List.range v).map natD := rangeD_eq v
    have hb : v < 4611686018427387904 := by omega
    have e1' : s__law_pick [.bag b.G b.M b.T, .dat (.int 3)] = .ret (.val (.int (v : Int))) [.bag b1.G b1.M b1.T, .un] := e1
    rw [s__law_shown_eq]
    unfold b__law_shown c__law_shown_1 c__law_shown_2
    simp [fnSem, outsOf, outs_dat, outs_nil, argIn, sSeq, sIf, sAsgN, sAsgT, sSetIx, sStore, isDicS, sSetD, mDNew, mRg1, mRg2, rgRet, mItEn, mItZ, mIdx, sRet, sRetN, sNext, sExpr, sAug, sPar, sPar3, sNo, mNo, mTst, mTru, mNotT, mAndT, mOrT, mNotV, mAndV, mOrV, mIfE, mOp1, mOp2, mOps, mCons, mNil, mCst, mName, mMove, mBor, toB, mArg, mTup, mLst, mCallK, callB, argSls, argSl, argS, noTw, isSl, pick, putGo, newS, lookSl, reown, opnd1, opnd2, opnds, res, ress, valsOf, truth, Slot.data?, cmpRet, Ret.toD, Ret.slot, Slot.free?, Slot.own?, Out.andThen, Out.thenS, opAdd, opSub, opMul, opDiv, opMod, opNeg, opIx, retOf, L2.atI, L2.ixN, cGt, cLt, cLe, cGe, bInt, bAbs, bLen, bMax, bMin, bTuple, bList, mLenG, mIxG, mSlG, mPart, mItR1, mItR2, mItV, itemsOf, sFor, asgT, asgTs, mLc, mLc2, freeAll, wipeR, restR, keepDat, lcFin, mMt, lApp, lExt, mSl, opSl, mYes, keyOf_int, keyOf_str, opIsa, PyData.plain, PyData.isInt, PyData.isBool, PyData.isTuple, PyData.isList, PyData.isStr, e1', hr, hr2, hb, e2, q]
theorem kinds_draw (b : Bg) : ∃ ks : List Nat, ∃ b' : Bg, 0 < ks.length ∧ ks.length ≤ 2 ∧ (∀ k ∈ ks, k ≤ 2) ∧ s__law_kinds [.bag b.G b.M b.T, .dat (.int 0), .dat (.int 2)] = .ret (.val (encK ks)) [.bag b'.G b'.M b'.T, .un, .un] := by
  obtain ⟨v, b1, hv, e1⟩ := b.draw (n := 2) (by omega) (by omega)
  have e1' : s__law_pick [.bag b.G b.M b.T, .dat (.int 2)] = .ret (.val (.int (v : Int))) [.bag b1.G b1.M b1.T, .un] := e1
  obtain ⟨out, b', e2, h2, h3⟩ := lcLoop_bag0 (own := [4]) (tg := .nm 4) (te := mOp2 opMod (toB (mOps bInt (mCons (toB (mOp2 opAdd (toB (mCst (.int 1))) (toB (mCallK s__law_pick [0, 1] 2 0 (mCons (mArg 0) (mCons (toB (mCst (.int 6))) mNil)) mNil)))) mNil))) (toB (mCst (.int 3)))) (e := natD) natD (fun x => x ≤ 2)
    (fun b => [.bag b.G b.M b.T, .dat (.int 0), .dat (.int 2), .un, .un, .un]) (List.range (1 + v)) b1 (fun a _ b => by
      obtain ⟨x, b', hx, e⟩ := b.draw (n := 6) (by omega) (by omega)
      have e' : s__law_pick [.bag b.G b.M b.T, .dat (.int 6)] = .ret (.val (.int (x : Int))) [.bag b'.G b'.M b'.T, .un] := e
      have hm : (1 + (x : Int)) % 3 = ((1 + x) % 3 : Nat) := by omega
      refine ⟨[.bag b.G b.M b.T, .dat (.int 0), .dat (.int 2), .un, .dat (natD a), .un], .val (.int ((1 + (x : Int)) % 3)), [.bag b'.G b'.M b'.T, .dat (.int 0), .dat (.int 2), .un, .dat (natD a), .un], (1 + x) % 3, b', ?_, ?_, congrArg PyData.int hm, by omega, ?_, ?_⟩
      · simp [fnSem, outsOf, outs_dat, outs_nil, argIn, sSeq, sIf, sAsgN, sAsgT, sSetIx, sStore, isDicS, sSetD, mDNew, mRg1, mRg2, rgRet, mItEn, mItZ, mIdx, sRet, sRetN, sNext, sExpr, sAug, sPar, sPar3, sNo, mNo, mTst, mTru, mNotT, mAndT, mOrT, mNotV, mAndV, mOrV, mIfE, mOp1, mOp2, mOps, mCons, mNil, mCst, mName, mMove, mBor, toB, mArg, mTup, mLst, mCallK, callB, argSls, argSl, argS, noTw, isSl, pick, putGo, newS, lookSl, reown, opnd1, opnd2, opnds, res, ress, valsOf, truth, Slot.data?, cmpRet, Ret.toD, Ret.slot, Slot.free?, Slot.own?, Out.andThen, Out.thenS, opAdd, opSub, opMul, opDiv, opMod, opNeg, opIx, retOf, L2.atI, L2.ixN, cGt, cLt, cLe, cGe, bInt, bAbs, bLen, bMax, bMin, bTuple, bList, mLenG, mIxG, mSlG, mPart, mItR1, mItR2, mItV, itemsOf, sFor, asgT, asgTs, mLc, mLc2, freeAll, wipeR, restR, keepDat, lcFin, mMt, lApp, lExt, mSl, opSl, mYes, keyOf_int, keyOf_str, opIsa, PyData.plain, PyData.isInt, PyData.isBool, PyData.isTuple, PyData.isList, PyData.isStr]
      · simp [fnSem, outsOf, outs_dat, outs_nil, argIn, sSeq, sIf, sAsgN, sAsgT, sSetIx, sStore, isDicS, sSetD, mDNew, mRg1, mRg2, rgRet, mItEn, mItZ, mIdx, sRet, sRetN, sNext, sExpr, sAug, sPar, sPar3, sNo, mNo, mTst, mTru, mNotT, mAndT, mOrT, mNotV, mAndV, mOrV, mIfE, mOp1, mOp2, mOps, mCons, mNil, mCst, mName, mMove, mBor, toB, mArg, mTup, mLst, mCallK, callB, argSls, argSl, argS, noTw, isSl, pick, putGo, newS, lookSl, reown, opnd1, opnd2, opnds, res, ress, valsOf, truth, Slot.data?, cmpRet, Ret.toD, Ret.slot, Slot.free?, Slot.own?, Out.andThen, Out.thenS, opAdd, opSub, opMul, opDiv, opMod, opNeg, opIx, retOf, L2.atI, L2.ixN, cGt, cLt, cLe, cGe, bInt, bAbs, bLen, bMax, bMin, bTuple, bList, mLenG, mIxG, mSlG, mPart, mItR1, mItR2, mItV, itemsOf, sFor, asgT, asgTs, mLc, mLc2, freeAll, wipeR, restR, keepDat, lcFin, mMt, lApp, lExt, mSl, opSl, mYes, keyOf_int, keyOf_str, opIsa, PyData.plain, PyData.isInt, PyData.isBool, PyData.isTuple, PyData.isList, PyData.isStr, e', natD]
      · simp [fnSem, outsOf, outs_dat, outs_nil, argIn, sSeq, sIf, sAsgN, sAsgT, sSetIx, sStore, isDicS, sSetD, mDNew, mRg1, mRg2, rgRet, mItEn, mItZ, mIdx, sRet, sRetN, sNext, sExpr, sAug, sPar, sPar3, sNo, mNo, mTst, mTru, mNotT, mAndT, mOrT, mNotV, mAndV, mOrV, mIfE, mOp1, mOp2, mOps, mCons, mNil, mCst, mName, mMove, mBor, toB, mArg, mTup, mLst, mCallK, callB, argSls, argSl, argS, noTw, isSl, pick, putGo, newS, lookSl, reown, opnd1, opnd2, opnds, res, ress, valsOf, truth, Slot.data?, cmpRet, Ret.toD, Ret.slot, Slot.free?, Slot.own?, Out.andThen, Out.thenS, opAdd, opSub, opMul, opDiv, opMod, opNeg, opIx, retOf, L2.atI, L2.ixN, cGt, cLt, cLe, cGe, bInt, bAbs, bLen, bMax, bMin, bTuple, bList, mLenG, mIxG, mSlG, mPart, mItR1, mItR2, mItV, itemsOf, sFor, asgT, asgTs, mLc, mLc2, freeAll, wipeR, restR, keepDat, lcFin, mMt, lApp, lExt, mSl, opSl, mYes, keyOf_int, keyOf_str, opIsa, PyData.plain, PyData.isInt, PyData.isBool, PyData.isTuple, PyData.isList, PyData.isStr]
      · simp [fnSem, outsOf, outs_dat, outs_nil, argIn, sSeq, sIf, sAsgN, sAsgT, sSetIx, sStore, isDicS, sSetD, mDNew, mRg1, mRg2, rgRet, mItEn, mItZ, mIdx, sRet, sRetN, sNext, sExpr, sAug, sPar, sPar3, sNo, mNo, mTst, mTru, mNotT, mAndT, mOrT, mNotV, mAndV, mOrV, mIfE, mOp1, mOp2, mOps, mCons, mNil, mCst, mName, mMove, mBor, toB, mArg, mTup, mLst, mCallK, callB, argSls, argSl, argS, noTw, isSl, pick, putGo, newS, lookSl, reown, opnd1, opnd2, opnds, res, ress, valsOf, truth, Slot.data?, cmpRet, Ret.toD, Ret.slot, Slot.free?, Slot.own?, Out.andThen, Out.thenS, opAdd, opSub, opMul, opDiv, opMod, opNeg, opIx, retOf, L2.atI, L2.ixN, cGt, cLt, cLe, cGe, bInt, bAbs, bLen, bMax, bMin, bTuple, bList, mLenG, mIxG, mSlG, mPart, mItR1, mItR2, mItV, itemsOf, sFor, asgT, asgTs, mLc, mLc2, freeAll, wipeR, restR, keepDat, lcFin, mMt, lApp, lExt, mSl, opSl, mYes, keyOf_int, keyOf_str, opIsa, PyData.plain, PyData.isInt, PyData.isBool, PyData.isTuple, PyData.isList, PyData.isStr]) (by simp; omega)
  have h4 : out.length = 1 + v := by rw [h2, List.length_range]
  have q := lcLoop_nil (own := [5]) (tg := .nm 5) (te := mOps bMax (mCons (mBor 5) (mCons (mBor 1) mNil))) (e := natD) (f := natD)
    (ρ := [.bag b'.G b'.M b'.T, .dat (.int 0), .dat (.int 2), .dat (.list (out.map natD)), .un, .un]) out (fun x _ => by
      refine ⟨[.bag b'.G b'.M b'.T, .dat (.int 0), .dat (.int 2), .dat (.list (out.map natD)), .un, .dat (natD x)], .val (natD x), [.bag b'.G b'.M b'.T, .dat (.int 0), .dat (.int 2), .dat (.list (out.map natD)), .un, .dat (natD x)], ?_, ?_, rfl, ?_, ?_⟩
      · simp [fnSem, outsOf, outs_dat, outs_nil, argIn, sSeq, sIf, sAsgN, sAsgT, sSetIx, sStore, isDicS, sSetD, mDNew, mRg1, mRg2, rgRet, mItEn, mItZ, mIdx, sRet, sRetN, sNext, sExpr, sAug, sPar, sPar3, sNo, mNo, mTst, mTru, mNotT, mAndT, mOrT, mNotV, mAndV, mOrV, mIfE, mOp1, mOp2, mOps, mCons, mNil, mCst, mName, mMove, mBor, toB, mArg, mTup, mLst, mCallK, callB, argSls, argSl, argS, noTw, isSl, pick, putGo, newS, lookSl, reown, opnd1, opnd2, opnds, res, ress, valsOf, truth, Slot.data?, cmpRet, Ret.toD, Ret.slot, Slot.free?, Slot.own?, Out.andThen, Out.thenS, opAdd, opSub, opMul, opDiv, opMod, opNeg, opIx, retOf, L2.atI, L2.ixN, cGt, cLt, cLe, cGe, bInt, bAbs, bLen, bMax, bMin, bTuple, bList, mLenG, mIxG, mSlG, mPart, mItR1, mItR2, mItV, itemsOf, sFor, asgT, asgTs, mLc, mLc2, freeAll, wipeR, restR, keepDat, lcFin, mMt, lApp, lExt, mSl, opSl, mYes, keyOf_int, keyOf_str, opIsa, PyData.plain, PyData.isInt, PyData.isBool, PyData.isTuple, PyData.isList, PyData.isStr]
      · have hx : natD x = .int (x : Int) := rfl
        have hm : bMax [.int (x : Int), .int 0] = some (.val (.int (x : Int))) := by
          show some (Ret.val (PyData.int (if (0 : Int) > (x : Int) then 0 else (x : Int)))) = _
          rw [if_neg (by omega)]
        have hd : res [.bag b'.G b'.M b'.T, .dat (.int 0), .dat (.int 2), .dat (.list (out.map natD)), .un, .dat (natD x)] (.slot 5) = some (.int (x : Int)) := rfl
        have hd1 : res [.bag b'.G b'.M b'.T, .dat (.int 0), .dat (.int 2), .dat (.list (out.map natD)), .un, .dat (natD x)] (.slot 1) = some (.int 0) := rfl
        show (Out.ok [BV.slot 5, .slot 1] _).andThen (opnds bMax) = _
        unfold opnds
        simp only [andThen_ok, ress, hd, hd1, hm]; rfl
      · simp [fnSem, outsOf, outs_dat, outs_nil, argIn, sSeq, sIf, sAsgN, sAsgT, sSetIx, sStore, isDicS, sSetD, mDNew, mRg1, mRg2, rgRet, mItEn, mItZ, mIdx, sRet, sRetN, sNext, sExpr, sAug, sPar, sPar3, sNo, mNo, mTst, mTru, mNotT, mAndT, mOrT, mNotV, mAndV, mOrV, mIfE, mOp1, mOp2, mOps, mCons, mNil, mCst, mName, mMove, mBor, toB, mArg, mTup, mLst, mCallK, callB, argSls, argSl, argS, noTw, isSl, pick, putGo, newS, lookSl, reown, opnd1, opnd2, opnds, res, ress, valsOf, truth, Slot.data?, cmpRet, Ret.toD, Ret.slot, Slot.free?, Slot.own?, Out.andThen, Out.thenS, opAdd, opSub, opMul, opDiv, opMod, opNeg, opIx, retOf, L2.atI, L2.ixN, cGt, cLt, cLe, cGe, bInt, bAbs, bLen, bMax, bMin, bTuple, bList, mLenG, mIxG, mSlG, mPart, mItR1, mItR2, mItV, itemsOf, sFor, asgT, asgTs, mLc, mLc2, freeAll, wipeR, restR, keepDat, lcFin, mMt, lApp, lExt, mSl, opSl, mYes, keyOf_int, keyOf_str, opIsa, PyData.plain, PyData.isInt, PyData.isBool, PyData.isTuple, PyData.isList, PyData.isStr]
      · simp [fnSem, outsOf, outs_dat, outs_nil, argIn, sSeq, sIf, sAsgN, sAsgT, sSetIx, sStore, isDicS, sSetD, mDNew, mRg1, mRg2, rgRet, mItEn, mItZ, mIdx, sRet, sRetN, sNext, sExpr, sAug, sPar, sPar3, sNo, mNo, mTst, mTru, mNotT, mAndT, mOrT, mNotV, mAndV, mOrV, mIfE, mOp1, mOp2, mOps, mCons, mNil, mCst, mName, mMove, mBor, toB, mArg, mTup, mLst, mCallK, callB, argSls, argSl, argS, noTw, isSl, pick, putGo, newS, lookSl, reown, opnd1, opnd2, opnds, res, ress, valsOf, truth, Slot.data?, cmpRet, Ret.toD, Ret.slot, Slot.free?, Slot.own?, Out.andThen, Out.thenS, opAdd, opSub, opMul, opDiv, opMod, opNeg, opIx, retOf, L2.atI, L2.ixN, cGt, cLt, cLe, cGe, bInt, bAbs, bLen, bMax, bMin, bTuple, bList, mLenG, mIxG, mSlG, mPart, mItR1, mItR2, mItV, itemsOf, sFor, asgT, asgTs, mLc, mLc2, freeAll, wipeR, restR, keepDat, lcFin, mMt, lApp, lExt, mSl, opSl, mYes, keyOf_int, keyOf_str, opIsa, PyData.plain, PyData.isInt, PyData.isBool, PyData.isTuple, PyData.isList, PyData.isStr]) (by omega)
  refine ⟨out, b', by omega, by omega, h3, ?_⟩
  have hr : rgOk 0 (1 + (v : Int)) = true := by
    have := rgOk_nat (1 + v) (by omega)
    rw [show ((1 + v : Nat) : Int) = 1 + (v : Int) by omega] at this
    exact this
  have hr2 : rangeD 0 (1 + (v : Int)).toNat = (List.range (1 + v)).map natD := by
    rw [show (1 + (v : Int)).toNat = 1 + v by omega]
    exact rangeD_eq _
  have hb : (1 + (v : Int)).natAbs < 4611686018427387904 := by omega
  rw [s__law_kinds_eq]
  unfold b__law_kinds c__law_kinds_1 c__law_kinds_2
  simp [fnSem, outsOf, outs_dat, outs_nil, argIn, sSeq, sIf, sAsgN, sAsgT, sSetIx, sStore, isDicS, sSetD, mDNew, mRg1, mRg2, rgRet, mItEn, mItZ, mIdx, sRet, sRetN, sNext, sExpr, sAug, sPar, sPar3, sNo, mNo, mTst, mTru, mNotT, mAndT, mOrT, mNotV, mAndV, mOrV, mIfE, mOp1, mOp2, mOps, mCons, mNil, mCst, mName, mMove, mBor, toB, mArg, mTup, mLst, mCallK, callB, argSls, argSl, argS, noTw, isSl, pick, putGo, newS, lookSl, reown, opnd1, opnd2, opnds, res, ress, valsOf, truth, Slot.data?, cmpRet, Ret.toD, Ret.slot, Slot.free?, Slot.own?, Out.andThen, Out.thenS, opAdd, opSub, opMul, opDiv, opMod, opNeg, opIx, retOf, L2.atI, L2.ixN, cGt, cLt, cLe, cGe, bInt, bAbs, bLen, bMax, bMin, bTuple, bList, mLenG, mIxG, mSlG, mPart, mItR1, mItR2, mItV, itemsOf, sFor, asgT, asgTs, mLc, mLc2, freeAll, wipeR, restR, keepDat, lcFin, mMt, lApp, lExt, mSl, opSl, mYes, keyOf_int, keyOf_str, opIsa, PyData.plain, PyData.isInt, PyData.isBool, PyData.isTuple, PyData.isList, PyData.isStr, e1', hr, hr2, hb, e2, q, encK]
end Law
open PySem PySem.Spec PyProof.Rows L2 Ev
namespace Law
def c29 : Int := 10 ^ 29
def c9 : Nat := 1000000000
theorem pow29 : opPow (.int 10) (.int 29) = some (.val (.int c29)) := by kernel_rfl
theorem pow9 : opPow (.int 10) (.int 9) = some (.val (.int (c9 : Int))) := by kernel_rfl
theorem c29_pos : 0 < c29 := by decide +kernel
def nnL (l : List Int) : Prop := ∀ x ∈ l, 0 ≤ x
theorem pow29' : c29 = 100000000000000000000000000000 := by decide +kernel
theorem ids_turn (b : Bg) (l : List Int) (hl : nnL l) (hl2 : l.length < 1000) (one : Int) (h1 : 0 ≤ one) (turn : Nat) (ht : turn < 1000) (m : Int) (s5 : Ev.Slot) (h5 : frS s5) :
    ∃ (l' : List Int) (one' : Int) (b' : Bg) (s5' : Ev.Slot), nnL l' ∧ l'.length = l.length + 1 ∧ 0 ≤ one' ∧ frS s5' ∧
      l__law_ids_1 [.bag b.G b.M b.T, .dat (.int m), .lst true (l.map PyData.int), .dat (.int one), .dat (natD turn), s5] = .nx [.bag b'.G b'.M b'.T, .dat (.int m), .lst true (l'.map PyData.int), .dat (.int one'), .dat (natD turn), s5'] := by
  obtain ⟨v, b1, hv, e1⟩ := b.draw (n := turn + 1) (by omega) (by omega)
  obtain ⟨gap, b2, hg, e2⟩ := b1.draw (n := 9) (by omega) (by omega)
  have e1' : s__law_pick [.bag b.G b.M b.T, .dat (.int ((turn : Int) + 1))] = .ret (.val (.int (v : Int))) [.bag b1.G b1.M b1.T, .un] := by
    rw [show ((turn : Int) + 1) = ((turn + 1 : Nat) : Int) by omega]; exact e1
  have e2' : s__law_pick [.bag b1.G b1.M b1.T, .dat (.int 9)] = .ret (.val (.int (gap : Int))) [.bag b2.G b2.M b2.T, .un] := e2
  have hins : lIns (l.map PyData.int) [.val (.int (v : Int)), .val (.int one)] [.int (v : Int), .int one] = some (.none, (l.take v ++ [one] ++ l.drop v).map PyData.int) := by
    show (if (l.map PyData.int).length < 16777216 ∧ 0 ≤ (v : Int) ∧ (v : Int).natAbs < 2 ^ 62 then some (PyData.none, (l.map PyData.int).take (v : Int).toNat ++ [.int one] ++ (l.map PyData.int).drop (v : Int).toNat) else none) = _
    rw [if_pos ⟨by rw [List.length_map]; omega, by omega, by omega⟩, Int.toNat_natCast, List.map_append, List.map_append, List.map_take, List.map_drop]
    rfl
  have nn : nnL (l.take v ++ [one] ++ l.drop v) := fun x hx => by
    simp only [List.mem_append, List.mem_singleton] at hx
    rcases hx with (h | rfl) | h
    · exact hl x (List.mem_of_mem_take h)
    · exact h1
    · exact hl x (List.mem_of_mem_drop h)
  have ll : (l.take v ++ [one] ++ l.drop v).length = l.length + 1 := by
    simp only [List.length_append, List.length_take, List.length_drop, List.length_singleton]
    omega
  generalize hL : l.take v ++ [one] ++ l.drop v = l' at hins nn ll
  unfold l__law_ids_1
  by_cases h8 : gap < 8
  · have h8' : (gap : Int) < 8 := by omega
    refine ⟨l', one + 1 + (gap : Int) % 3, b2, .dat (.int (gap : Int)), nn, ll, by omega, frS_dat, ?_⟩
    rcases h5 with rfl | ⟨d, rfl⟩ <;> simp [fnSem, outsOf, outs_dat, outs_nil, argIn, sSeq, sIf, sAsgN, sAsgT, sSetIx, sStore, isDicS, sSetD, mDNew, mRg1, mRg2, rgRet, mItEn, mItZ, mIdx, sRet, sRetN, sNext, sExpr, sAug, sPar, sPar3, sNo, mNo, mTst, mTru, mNotT, mAndT, mOrT, mNotV, mAndV, mOrV, mIfE, mOp1, mOp2, mOps, mCons, mNil, mCst, mName, mMove, mBor, toB, mArg, mTup, mLst, mCallK, callB, argSls, argSl, argS, noTw, isSl, pick, putGo, newS, lookSl, reown, opnd1, opnd2, opnds, res, ress, valsOf, truth, Slot.data?, cmpRet, Ret.toD, Ret.slot, Slot.free?, Slot.own?, Out.andThen, Out.thenS, opAdd, opSub, opMul, opDiv, opMod, opNeg, opIx, retOf, L2.atI, L2.ixN, cGt, cLt, cLe, cGe, bInt, bAbs, bLen, bMax, bMin, bTuple, bList, mLenG, mIxG, mSlG, mPart, mItR1, mItR2, mItV, itemsOf, sFor, asgT, asgTs, mLc, mLc2, freeAll, wipeR, restR, keepDat, lcFin, mMt, lApp, lExt, mSl, opSl, mYes, keyOf_int, keyOf_str, opIsa, PyData.plain, PyData.isInt, PyData.isBool, PyData.isTuple, PyData.isList, PyData.isStr, natD, e1', hins, e2', h8']
  · have h8' : ¬ (gap : Int) < 8 := by omega
    obtain ⟨w, b3, hw, e3⟩ := b2.draw (n := c9) (by unfold c9; omega) (by unfold c9; omega)
    refine ⟨l', one + 1 + (c29 + (w : Int)), b3, .dat (.int (gap : Int)), nn, ll, by have := c29_pos; omega, frS_dat, ?_⟩
    rcases h5 with rfl | ⟨d, rfl⟩ <;> simp [fnSem, outsOf, outs_dat, outs_nil, argIn, sSeq, sIf, sAsgN, sAsgT, sSetIx, sStore, isDicS, sSetD, mDNew, mRg1, mRg2, rgRet, mItEn, mItZ, mIdx, sRet, sRetN, sNext, sExpr, sAug, sPar, sPar3, sNo, mNo, mTst, mTru, mNotT, mAndT, mOrT, mNotV, mAndV, mOrV, mIfE, mOp1, mOp2, mOps, mCons, mNil, mCst, mName, mMove, mBor, toB, mArg, mTup, mLst, mCallK, callB, argSls, argSl, argS, noTw, isSl, pick, putGo, newS, lookSl, reown, opnd1, opnd2, opnds, res, ress, valsOf, truth, Slot.data?, cmpRet, Ret.toD, Ret.slot, Slot.free?, Slot.own?, Out.andThen, Out.thenS, opAdd, opSub, opMul, opDiv, opMod, opNeg, opIx, retOf, L2.atI, L2.ixN, cGt, cLt, cLe, cGe, bInt, bAbs, bLen, bMax, bMin, bTuple, bList, mLenG, mIxG, mSlG, mPart, mItR1, mItR2, mItV, itemsOf, sFor, asgT, asgTs, mLc, mLc2, freeAll, wipeR, restR, keepDat, lcFin, mMt, lApp, lExt, mSl, opSl, mYes, keyOf_int, keyOf_str, opIsa, PyData.plain, PyData.isInt, PyData.isBool, PyData.isTuple, PyData.isList, PyData.isStr, natD, e1', hins, e2', h8', pow29, pow9, e3]
theorem ids_draw (b : Bg) (n : Nat) (hn : n < 1000) : ∃ (l : List Int) (b' : Bg), nnL l ∧ l.length = n ∧ s__law_ids [.bag b.G b.M b.T, .dat (.int (n : Int))] = .ret (.fl (l.map PyData.int)) [.bag b'.G b'.M b'.T, .un] := by
  obtain ⟨v, b1, hv, e1⟩ := b.draw (n := 4) (by omega) (by omega)
  have e1' : s__law_pick [.bag b.G b.M b.T, .dat (.int 4)] = .ret (.val (.int (v : Int))) [.bag b1.G b1.M b1.T, .un] := e1
  obtain ⟨ρ', h1, l, one, b', s4, s5, q1, q2, q3, q4, q5, rfl⟩ := forLoop_st (tg := .nm 4) (body := l__law_ids_1) natD (fun rest ρ => ∃ (l : List Int) (one : Int) (b : Bg) (s4 s5 : Ev.Slot), nnL l ∧ l.length + rest.length = n ∧ 0 ≤ one ∧ frS s4 ∧ frS s5 ∧
      ρ = [.bag b.G b.M b.T, .dat (.int (n : Int)), .lst true (l.map PyData.int), .dat (.int one), s4, s5]) (List.range n) (by
    rintro a r ρ ⟨l, one, b, s4, s5, q1, q2, q3, q4, q5, rfl⟩ hm
    have ha : a < n := List.mem_range.mp hm
    obtain ⟨l', one', b', s5', p1, p2, p3, p4, p5⟩ := ids_turn b l q1 (by simp at q2; omega) one q3 a (by omega) n s5 q5
    refine ⟨[.bag b.G b.M b.T, .dat (.int (n : Int)), .lst true (l.map PyData.int), .dat (.int one), .dat (natD a), s5], _, ?_, .inl p5, l', one', b', .dat (natD a), s5', p1, by simp at q2; omega, p3, frS_dat, p4, rfl⟩
    rcases q4 with rfl | ⟨d, rfl⟩ <;> simp [fnSem, outsOf, outs_dat, outs_nil, argIn, sSeq, sIf, sAsgN, sAsgT, sSetIx, sStore, isDicS, sSetD, mDNew, mRg1, mRg2, rgRet, mItEn, mItZ, mIdx, sRet, sRetN, sNext, sExpr, sAug, sPar, sPar3, sNo, mNo, mTst, mTru, mNotT, mAndT, mOrT, mNotV, mAndV, mOrV, mIfE, mOp1, mOp2, mOps, mCons, mNil, mCst, mName, mMove, mBor, toB, mArg, mTup, mLst, mCallK, callB, argSls, argSl, argS, noTw, isSl, pick, putGo, newS, lookSl, reown, opnd1, opnd2, opnds, res, ress, valsOf, truth, Slot.data?, cmpRet, Ret.toD, Ret.slot, Slot.free?, Slot.own?, Out.andThen, Out.thenS, opAdd, opSub, opMul, opDiv, opMod, opNeg, opIx, retOf, L2.atI, L2.ixN, cGt, cLt, cLe, cGe, bInt, bAbs, bLen, bMax, bMin, bTuple, bList, mLenG, mIxG, mSlG, mPart, mItR1, mItR2, mItV, itemsOf, sFor, asgT, asgTs, mLc, mLc2, freeAll, wipeR, restR, keepDat, lcFin, mMt, lApp, lExt, mSl, opSl, mYes, keyOf_int, keyOf_str, opIsa, PyData.plain, PyData.isInt, PyData.isBool, PyData.isTuple, PyData.isList, PyData.isStr]) [.bag b1.G b1.M b1.T, .dat (.int (n : Int)), .lst true [], .dat (.int (v : Int)), .un, .un] ⟨[], v, b1, .un, .un, fun x hx => absurd hx (by simp), by simp, by omega, frS_un, frS_un, rfl⟩
  refine ⟨l, b', q1, by simpa using q2, ?_⟩
  have hr := rgOk_nat n (by omega)
  have hr2 : rangeD 0 n = (List.range n).map natD := rangeD_eq n
  have hb : n < 4611686018427387904 := by omega
  rw [s__law_ids_eq]
  unfold b__law_ids c__law_ids_1 c__law_ids_2 c__law_ids_3
  simp [fnSem, outsOf, outs_dat, outs_nil, argIn, sSeq, sIf, sAsgN, sAsgT, sSetIx, sStore, isDicS, sSetD, mDNew, mRg1, mRg2, rgRet, mItEn, mItZ, mIdx, sRet, sRetN, sNext, sExpr, sAug, sPar, sPar3, sNo, mNo, mTst, mTru, mNotT, mAndT, mOrT, mNotV, mAndV, mOrV, mIfE, mOp1, mOp2, mOps, mCons, mNil, mCst, mName, mMove, mBor, toB, mArg, mTup, mLst, mCallK, callB, argSls, argSl, argS, noTw, isSl, pick, putGo, newS, lookSl, reown, opnd1, opnd2, opnds, res, ress, valsOf, truth, Slot.data?, cmpRet, Ret.toD, Ret.slot, Slot.free?, Slot.own?, Out.andThen, Out.thenS, opAdd, opSub, opMul, opDiv, opMod, opNeg, opIx, retOf, L2.atI, L2.ixN, cGt, cLt, cLe, cGe, bInt, bAbs, bLen, bMax, bMin, bTuple, bList, mLenG, mIxG, mSlG, mPart, mItR1, mItR2, mItV, itemsOf, sFor, asgT, asgTs, mLc, mLc2, freeAll, wipeR, restR, keepDat, lcFin, mMt, lApp, lExt, mSl, opSl, mYes, keyOf_int, keyOf_str, opIsa, PyData.plain, PyData.isInt, PyData.isBool, PyData.isTuple, PyData.isList, PyData.isStr, e1', hr, hr2, hb, h1]
theorem stream_draw (b : Bg) (ks : List Nat) (k1 : 0 < ks.length) (k2 : ks.length ≤ 2) (k3 : ∀ k ∈ ks, k ≤ 2) (l : List Int) (hl : nnL l) (l1 : 0 < l.length) (l2 : l.length < 1000) (n : Nat) (hn : n < 1000) :
    ∃ (s : List Evt) (b' : Bg), s.length = n ∧ (∀ e ∈ s, okE ks e) ∧ s__law_stream [.bag b.G b.M b.T, .dat (encK ks), .dat (.list (l.map PyData.int)), .dat (.int (n : Int))] = .ret (.val (.tuple (s.map encE))) [.bag b'.G b'.M b'.T, .un, .un, .un] := by
  obtain ⟨out, b', ρ', h1, ⟨s5, s6, q5, q6, rfl⟩, h2, h3⟩ := forLoop_bag (tg := .nm 5) (body := l__law_stream_1) (e := natD) (fun _ x => okE ks x) (fun (fd : List Evt) (b : Bg) ρ => ∃ s5 s6, frS s5 ∧ frS s6 ∧ ρ = [.bag b.G b.M b.T, .dat (encK ks), .dat (.list (l.map PyData.int)), .dat (.int (n : Int)), .lst true (fd.map encE), s5, s6, .un])
    n (List.range n) [] [.bag b.G b.M b.T, .dat (encK ks), .dat (.list (l.map PyData.int)), .dat (.int (n : Int)), .lst true [], .un, .un, .un] b (by simp) ⟨.un, .un, frS_un, frS_un, rfl⟩ (by
    rintro a ha fd b ρ hfd ⟨s5, s6, q5, q6, rfl⟩
    obtain ⟨k, b1, hk, e1⟩ := b.draw (n := ks.length) k1 (by omega)
    have hkk : ks[k]? = some ks[k] := List.getElem?_eq_getElem hk
    have hk2 : ks[k] ≤ 2 := k3 _ (List.getElem_mem hk)
    obtain ⟨out, b2, e2, g2, g3⟩ := lcLoop_bag0 (own := [7]) (tg := .nm 7) (te := mOp2 opIx (mBor 2) (toB (mCallK s__law_pick [0, 1] 2 0 (mCons (mArg 0) (mCons (toB (mOps bLen (mCons (mBor 2) mNil))) mNil)) mNil))) (e := natD) PyData.int (fun x => 0 ≤ x)
      (fun b => [.bag b.G b.M b.T, .dat (encK ks), .dat (.list (l.map PyData.int)), .dat (.int (n : Int)), .lst true (fd.map encE), .dat (natD a), .dat (natD k), .un]) (List.range ks[k]) b1 (fun a2 _ b => by
        obtain ⟨x, b', hx, e⟩ := b.draw (n := l.length) l1 (by omega)
        refine ⟨[.bag b.G b.M b.T, .dat (encK ks), .dat (.list (l.map PyData.int)), .dat (.int (n : Int)), .lst true (fd.map encE), .dat (natD a), .dat (natD k), .dat (natD a2)], .val (.int l[x]), [.bag b'.G b'.M b'.T, .dat (encK ks), .dat (.list (l.map PyData.int)), .dat (.int (n : Int)), .lst true (fd.map encE), .dat (natD a), .dat (natD k), .dat (natD a2)], l[x], b', ?_, ?_, rfl, hl _ (List.getElem_mem hx), ?_, ?_⟩
        · simp [fnSem, outsOf, outs_dat, outs_nil, argIn, sSeq, sIf, sAsgN, sAsgT, sSetIx, sStore, isDicS, sSetD, mDNew, mRg1, mRg2, rgRet, mItEn, mItZ, mIdx, sRet, sRetN, sNext, sExpr, sAug, sPar, sPar3, sNo, mNo, mTst, mTru, mNotT, mAndT, mOrT, mNotV, mAndV, mOrV, mIfE, mOp1, mOp2, mOps, mCons, mNil, mCst, mName, mMove, mBor, toB, mArg, mTup, mLst, mCallK, callB, argSls, argSl, argS, noTw, isSl, pick, putGo, newS, lookSl, reown, opnd1, opnd2, opnds, res, ress, valsOf, truth, Slot.data?, cmpRet, Ret.toD, Ret.slot, Slot.free?, Slot.own?, Out.andThen, Out.thenS, opAdd, opSub, opMul, opDiv, opMod, opNeg, opIx, retOf, L2.atI, L2.ixN, cGt, cLt, cLe, cGe, bInt, bAbs, bLen, bMax, bMin, bTuple, bList, mLenG, mIxG, mSlG, mPart, mItR1, mItR2, mItV, itemsOf, sFor, asgT, asgTs, mLc, mLc2, freeAll, wipeR, restR, keepDat, lcFin, mMt, lApp, lExt, mSl, opSl, mYes, keyOf_int, keyOf_str, opIsa, PyData.plain, PyData.isInt, PyData.isBool, PyData.isTuple, PyData.isList, PyData.isStr]
        · simp [fnSem, outsOf, outs_dat, outs_nil, argIn, sSeq, sIf, sAsgN, sAsgT, sSetIx, sStore, isDicS, sSetD, mDNew, mRg1, mRg2, rgRet, mItEn, mItZ, mIdx, sRet, sRetN, sNext, sExpr, sAug, sPar, sPar3, sNo, mNo, mTst, mTru, mNotT, mAndT, mOrT, mNotV, mAndV, mOrV, mIfE, mOp1, mOp2, mOps, mCons, mNil, mCst, mName, mMove, mBor, toB, mArg, mTup, mLst, mCallK, callB, argSls, argSl, argS, noTw, isSl, pick, putGo, newS, lookSl, reown, opnd1, opnd2, opnds, res, ress, valsOf, truth, Slot.data?, cmpRet, Ret.toD, Ret.slot, Slot.free?, Slot.own?, Out.andThen, Out.thenS, opAdd, opSub, opMul, opDiv, opMod, opNeg, opIx, retOf, L2.atI, L2.ixN, cGt, cLt, cLe, cGe, bInt, bAbs, bLen, bMax, bMin, bTuple, bList, mLenG, mIxG, mSlG, mPart, mItR1, mItR2, mItV, itemsOf, sFor, asgT, asgTs, mLc, mLc2, freeAll, wipeR, restR, keepDat, lcFin, mMt, lApp, lExt, mSl, opSl, mYes, keyOf_int, keyOf_str, opIsa, PyData.plain, PyData.isInt, PyData.isBool, PyData.isTuple, PyData.isList, PyData.isStr, e, hx]
        · simp [fnSem, outsOf, outs_dat, outs_nil, argIn, sSeq, sIf, sAsgN, sAsgT, sSetIx, sStore, isDicS, sSetD, mDNew, mRg1, mRg2, rgRet, mItEn, mItZ, mIdx, sRet, sRetN, sNext, sExpr, sAug, sPar, sPar3, sNo, mNo, mTst, mTru, mNotT, mAndT, mOrT, mNotV, mAndV, mOrV, mIfE, mOp1, mOp2, mOps, mCons, mNil, mCst, mName, mMove, mBor, toB, mArg, mTup, mLst, mCallK, callB, argSls, argSl, argS, noTw, isSl, pick, putGo, newS, lookSl, reown, opnd1, opnd2, opnds, res, ress, valsOf, truth, Slot.data?, cmpRet, Ret.toD, Ret.slot, Slot.free?, Slot.own?, Out.andThen, Out.thenS, opAdd, opSub, opMul, opDiv, opMod, opNeg, opIx, retOf, L2.atI, L2.ixN, cGt, cLt, cLe, cGe, bInt, bAbs, bLen, bMax, bMin, bTuple, bList, mLenG, mIxG, mSlG, mPart, mItR1, mItR2, mItV, itemsOf, sFor, asgT, asgTs, mLc, mLc2, freeAll, wipeR, restR, keepDat, lcFin, mMt, lApp, lExt, mSl, opSl, mYes, keyOf_int, keyOf_str, opIsa, PyData.plain, PyData.isInt, PyData.isBool, PyData.isTuple, PyData.isList, PyData.isStr]
        · simp [fnSem, outsOf, outs_dat, outs_nil, argIn, sSeq, sIf, sAsgN, sAsgT, sSetIx, sStore, isDicS, sSetD, mDNew, mRg1, mRg2, rgRet, mItEn, mItZ, mIdx, sRet, sRetN, sNext, sExpr, sAug, sPar, sPar3, sNo, mNo, mTst, mTru, mNotT, mAndT, mOrT, mNotV, mAndV, mOrV, mIfE, mOp1, mOp2, mOps, mCons, mNil, mCst, mName, mMove, mBor, toB, mArg, mTup, mLst, mCallK, callB, argSls, argSl, argS, noTw, isSl, pick, putGo, newS, lookSl, reown, opnd1, opnd2, opnds, res, ress, valsOf, truth, Slot.data?, cmpRet, Ret.toD, Ret.slot, Slot.free?, Slot.own?, Out.andThen, Out.thenS, opAdd, opSub, opMul, opDiv, opMod, opNeg, opIx, retOf, L2.atI, L2.ixN, cGt, cLt, cLe, cGe, bInt, bAbs, bLen, bMax, bMin, bTuple, bList, mLenG, mIxG, mSlG, mPart, mItR1, mItR2, mItV, itemsOf, sFor, asgT, asgTs, mLc, mLc2, freeAll, wipeR, restR, keepDat, lcFin, mMt, lApp, lExt, mSl, opSl, mYes, keyOf_int, keyOf_str, opIsa, PyData.plain, PyData.isInt, PyData.isBool, PyData.isTuple, PyData.isList, PyData.isStr]) (by simp; omega)
    refine ⟨[.bag b.G b.M b.T, .dat (encK ks), .dat (.list (l.map PyData.int)), .dat (.int (n : Int)), .lst true (fd.map encE), .dat (natD a), s6, .un], [.bag b2.G b2.M b2.T, .dat (encK ks), .dat (.list (l.map PyData.int)), .dat (.int (n : Int)), .lst true ((fd ++ [((k, out) : Evt)]).map encE), .dat (natD a), .dat (natD k), .un], (k, out), b2, ?_, ?_, ⟨ks[k], hkk, by simpa using g2, g3⟩, _, _, frS_dat, frS_dat, rfl⟩
    · rcases q5 with rfl | ⟨d, rfl⟩ <;> simp [fnSem, outsOf, outs_dat, outs_nil, argIn, sSeq, sIf, sAsgN, sAsgT, sSetIx, sStore, isDicS, sSetD, mDNew, mRg1, mRg2, rgRet, mItEn, mItZ, mIdx, sRet, sRetN, sNext, sExpr, sAug, sPar, sPar3, sNo, mNo, mTst, mTru, mNotT, mAndT, mOrT, mNotV, mAndV, mOrV, mIfE, mOp1, mOp2, mOps, mCons, mNil, mCst, mName, mMove, mBor, toB, mArg, mTup, mLst, mCallK, callB, argSls, argSl, argS, noTw, isSl, pick, putGo, newS, lookSl, reown, opnd1, opnd2, opnds, res, ress, valsOf, truth, Slot.data?, cmpRet, Ret.toD, Ret.slot, Slot.free?, Slot.own?, Out.andThen, Out.thenS, opAdd, opSub, opMul, opDiv, opMod, opNeg, opIx, retOf, L2.atI, L2.ixN, cGt, cLt, cLe, cGe, bInt, bAbs, bLen, bMax, bMin, bTuple, bList, mLenG, mIxG, mSlG, mPart, mItR1, mItR2, mItV, itemsOf, sFor, asgT, asgTs, mLc, mLc2, freeAll, wipeR, restR, keepDat, lcFin, mMt, lApp, lExt, mSl, opSl, mYes, keyOf_int, keyOf_str, opIsa, PyData.plain, PyData.isInt, PyData.isBool, PyData.isTuple, PyData.isList, PyData.isStr]
    · have hr := rgOk_nat ks[k] (by omega)
      have hr2 : rangeD 0 ks[k] = (List.range ks[k]).map natD := rangeD_eq _
      have hb : ks[k] < 4611686018427387904 := by omega
      have hf : fd.length < 16777216 := by omega
      have hr3 := rangeD_eq ks[k]
      unfold encK natD at e2 ⊢
      unfold l__law_stream_1
      rcases q6 with rfl | ⟨d, rfl⟩ <;> simp [fnSem, outsOf, outs_dat, outs_nil, argIn, sSeq, sIf, sAsgN, sAsgT, sSetIx, sStore, isDicS, sSetD, mDNew, mRg1, mRg2, rgRet, mItEn, mItZ, mIdx, sRet, sRetN, sNext, sExpr, sAug, sPar, sPar3, sNo, mNo, mTst, mTru, mNotT, mAndT, mOrT, mNotV, mAndV, mOrV, mIfE, mOp1, mOp2, mOps, mCons, mNil, mCst, mName, mMove, mBor, toB, mArg, mTup, mLst, mCallK, callB, argSls, argSl, argS, noTw, isSl, pick, putGo, newS, lookSl, reown, opnd1, opnd2, opnds, res, ress, valsOf, truth, Slot.data?, cmpRet, Ret.toD, Ret.slot, Slot.free?, Slot.own?, Out.andThen, Out.thenS, opAdd, opSub, opMul, opDiv, opMod, opNeg, opIx, retOf, L2.atI, L2.ixN, cGt, cLt, cLe, cGe, bInt, bAbs, bLen, bMax, bMin, bTuple, bList, mLenG, mIxG, mSlG, mPart, mItR1, mItR2, mItV, itemsOf, sFor, asgT, asgTs, mLc, mLc2, freeAll, wipeR, restR, keepDat, lcFin, mMt, lApp, lExt, mSl, opSl, mYes, keyOf_int, keyOf_str, opIsa, PyData.plain, PyData.isInt, PyData.isBool, PyData.isTuple, PyData.isList, PyData.isStr, hk, e1, hr, hr3, hb, e2, hf, encE, natD])
  refine ⟨out, b', by simpa using h2, fun e he => ?_, ?_⟩
  · obtain ⟨i, hi, rfl⟩ := List.mem_iff_getElem.mp he
    exact h3 i ((List.range n)[i]'(by omega)) _ (List.getElem?_eq_getElem (by omega)) (List.getElem?_eq_getElem hi)
  · have hr := rgOk_nat n (by omega)
    have hr2 : rangeD 0 n = (List.range n).map natD := rangeD_eq n
    have hb : n < 4611686018427387904 := by omega
    rw [s__law_stream_eq]
    unfold b__law_stream c__law_stream_1 c__law_stream_2 c__law_stream_3
    simp [fnSem, outsOf, outs_dat, outs_nil, argIn, sSeq, sIf, sAsgN, sAsgT, sSetIx, sStore, isDicS, sSetD, mDNew, mRg1, mRg2, rgRet, mItEn, mItZ, mIdx, sRet, sRetN, sNext, sExpr, sAug, sPar, sPar3, sNo, mNo, mTst, mTru, mNotT, mAndT, mOrT, mNotV, mAndV, mOrV, mIfE, mOp1, mOp2, mOps, mCons, mNil, mCst, mName, mMove, mBor, toB, mArg, mTup, mLst, mCallK, callB, argSls, argSl, argS, noTw, isSl, pick, putGo, newS, lookSl, reown, opnd1, opnd2, opnds, res, ress, valsOf, truth, Slot.data?, cmpRet, Ret.toD, Ret.slot, Slot.free?, Slot.own?, Out.andThen, Out.thenS, opAdd, opSub, opMul, opDiv, opMod, opNeg, opIx, retOf, L2.atI, L2.ixN, cGt, cLt, cLe, cGe, bInt, bAbs, bLen, bMax, bMin, bTuple, bList, mLenG, mIxG, mSlG, mPart, mItR1, mItR2, mItV, itemsOf, sFor, asgT, asgTs, mLc, mLc2, freeAll, wipeR, restR, keepDat, lcFin, mMt, lApp, lExt, mSl, opSl, mYes, keyOf_int, keyOf_str, opIsa, PyData.plain, PyData.isInt, PyData.isBool, PyData.isTuple, PyData.isList, PyData.isStr, hr, hr2, hb, h1]
end Law
open PySem PySem.Spec PyProof.Rows L2 Ev
namespace Law
def encRow (row : List Tree) : D := .tuple (row.map encR)
theorem row_draw (b : Bg) (ks : List Nat) (k2 : ks.length ≤ 2) (k3 : ∀ k ∈ ks, k ≤ 2) (N R : Nat) (hN : 0 < N) (hN2 : N ≤ 4) (hR : R ≤ 3) (fd : List (List Tree)) (hfd : fd.length < 100) (d0 : D) (s7 : Ev.Slot) (h7 : frS s7) :
    ∃ (row : List Tree) (b' : Bg) (s7' : Ev.Slot), okRow N R ks row ∧ frS s7' ∧ l__law_program_1 [.bag b.G b.M b.T, .dat (encK ks), .dat (natD N), .dat (natD R), .dat (.int 3), .lst true (fd.map encRow), .dat d0, s7, .un] =
      .nx [.bag b'.G b'.M b'.T, .dat (encK ks), .dat (natD N), .dat (natD R), .dat (.int 3), .lst true ((fd ++ [row]).map encRow), .dat d0, s7', .un] := by
  have hen : ∀ s7 : Ev.Slot, frS s7 → ∃ (row : List Tree) (b' : Bg), okRow N R ks row ∧ lcLoop [7] (.nm 7) mYes (mCallK (s__law_tree 12) [0, 1, 2, 3, 4] 5 0 (mCons (mArg 0) (mCons (toB (mName 2)) (mCons (toB (mName 3)) (mCons (toB (mName 7)) (mCons (toB (mCallK s__law_pick [0, 1] 2 0 (mCons (mArg 0) (mCons (toB (mOp2 opAdd (mBor 4) (toB (mCst (.int 1))))) mNil)) mNil)) mNil))))) mNil) (ks.map natD) []
      [.bag b.G b.M b.T, .dat (encK ks), .dat (natD N), .dat (natD R), .dat (.int 3), .lst true (fd.map encRow), .dat d0, .un, .un] = .ok (row.map encR) [.bag b'.G b'.M b'.T, .dat (encK ks), .dat (natD N), .dat (natD R), .dat (.int 3), .lst true (fd.map encRow), .dat d0, .un, .un] := fun s7 h7 => by
    obtain ⟨out, b', e1, e2, e3⟩ := lcLoop_bag (own := [7]) (tg := .nm 7) (te := mCallK (s__law_tree 12) [0, 1, 2, 3, 4] 5 0 (mCons (mArg 0) (mCons (toB (mName 2)) (mCons (toB (mName 3)) (mCons (toB (mName 7)) (mCons (toB (mCallK s__law_pick [0, 1] 2 0 (mCons (mArg 0) (mCons (toB (mOp2 opAdd (mBor 4) (toB (mCst (.int 1))))) mNil)) mNil)) mNil))))) mNil) (e := natD) encR (fun k t => okR N R k t ∧ t.ifs ≤ 3)
      (fun b => [.bag b.G b.M b.T, .dat (encK ks), .dat (natD N), .dat (natD R), .dat (.int 3), .lst true (fd.map encRow), .dat d0, .un, .un]) ks [] b (fun k hk b => by
        have hk2 := k3 k hk
        obtain ⟨v, b1, hv, q1⟩ := b.draw (n := 4) (by omega) (by omega)
        have q1' : s__law_pick [.bag b.G b.M b.T, .dat (.int 4)] = .ret (.val (.int (v : Int))) [.bag b1.G b1.M b1.T, .un] := q1
        obtain ⟨t, b2, ht, hi, q2⟩ := tree_draw N R k hN (by omega) (by omega) (by omega) 12 v b1 (by omega) (by omega)
        refine ⟨[.bag b.G b.M b.T, .dat (encK ks), .dat (natD N), .dat (natD R), .dat (.int 3), .lst true (fd.map encRow), .dat d0, .dat (natD k), .un], .val (encR t), [.bag b2.G b2.M b2.T, .dat (encK ks), .dat (natD N), .dat (natD R), .dat (.int 3), .lst true (fd.map encRow), .dat d0, .dat (natD k), .un], t, b2, ?_, ?_, rfl, ⟨ht, by omega⟩, ?_, ?_⟩
        · simp [fnSem, outsOf, outs_dat, outs_nil, argIn, sSeq, sIf, sAsgN, sAsgT, sSetIx, sStore, isDicS, sSetD, mDNew, mRg1, mRg2, rgRet, mItEn, mItZ, mIdx, sRet, sRetN, sNext, sExpr, sAug, sPar, sPar3, sNo, mNo, mTst, mTru, mNotT, mAndT, mOrT, mNotV, mAndV, mOrV, mIfE, mOp1, mOp2, mOps, mCons, mNil, mCst, mName, mMove, mBor, toB, mArg, mTup, mLst, mCallK, callB, argSls, argSl, argS, noTw, isSl, pick, putGo, newS, lookSl, reown, opnd1, opnd2, opnds, res, ress, valsOf, truth, Slot.data?, cmpRet, Ret.toD, Ret.slot, Slot.free?, Slot.own?, Out.andThen, Out.thenS, opAdd, opSub, opMul, opDiv, opMod, opNeg, opIx, retOf, L2.atI, L2.ixN, cGt, cLt, cLe, cGe, bInt, bAbs, bLen, bMax, bMin, bTuple, bList, mLenG, mIxG, mSlG, mPart, mItR1, mItR2, mItV, itemsOf, sFor, asgT, asgTs, mLc, mLc2, freeAll, wipeR, restR, keepDat, lcFin, mMt, lApp, lExt, mSl, opSl, mYes, keyOf_int, keyOf_str, opIsa, PyData.plain, PyData.isInt, PyData.isBool, PyData.isTuple, PyData.isList, PyData.isStr]
        · unfold natD
          simp [fnSem, outsOf, outs_dat, outs_nil, argIn, sSeq, sIf, sAsgN, sAsgT, sSetIx, sStore, isDicS, sSetD, mDNew, mRg1, mRg2, rgRet, mItEn, mItZ, mIdx, sRet, sRetN, sNext, sExpr, sAug, sPar, sPar3, sNo, mNo, mTst, mTru, mNotT, mAndT, mOrT, mNotV, mAndV, mOrV, mIfE, mOp1, mOp2, mOps, mCons, mNil, mCst, mName, mMove, mBor, toB, mArg, mTup, mLst, mCallK, callB, argSls, argSl, argS, noTw, isSl, pick, putGo, newS, lookSl, reown, opnd1, opnd2, opnds, res, ress, valsOf, truth, Slot.data?, cmpRet, Ret.toD, Ret.slot, Slot.free?, Slot.own?, Out.andThen, Out.thenS, opAdd, opSub, opMul, opDiv, opMod, opNeg, opIx, retOf, L2.atI, L2.ixN, cGt, cLt, cLe, cGe, bInt, bAbs, bLen, bMax, bMin, bTuple, bList, mLenG, mIxG, mSlG, mPart, mItR1, mItR2, mItV, itemsOf, sFor, asgT, asgTs, mLc, mLc2, freeAll, wipeR, restR, keepDat, lcFin, mMt, lApp, lExt, mSl, opSl, mYes, keyOf_int, keyOf_str, opIsa, PyData.plain, PyData.isInt, PyData.isBool, PyData.isTuple, PyData.isList, PyData.isStr, q1', q2]
        · simp [fnSem, outsOf, outs_dat, outs_nil, argIn, sSeq, sIf, sAsgN, sAsgT, sSetIx, sStore, isDicS, sSetD, mDNew, mRg1, mRg2, rgRet, mItEn, mItZ, mIdx, sRet, sRetN, sNext, sExpr, sAug, sPar, sPar3, sNo, mNo, mTst, mTru, mNotT, mAndT, mOrT, mNotV, mAndV, mOrV, mIfE, mOp1, mOp2, mOps, mCons, mNil, mCst, mName, mMove, mBor, toB, mArg, mTup, mLst, mCallK, callB, argSls, argSl, argS, noTw, isSl, pick, putGo, newS, lookSl, reown, opnd1, opnd2, opnds, res, ress, valsOf, truth, Slot.data?, cmpRet, Ret.toD, Ret.slot, Slot.free?, Slot.own?, Out.andThen, Out.thenS, opAdd, opSub, opMul, opDiv, opMod, opNeg, opIx, retOf, L2.atI, L2.ixN, cGt, cLt, cLe, cGe, bInt, bAbs, bLen, bMax, bMin, bTuple, bList, mLenG, mIxG, mSlG, mPart, mItR1, mItR2, mItV, itemsOf, sFor, asgT, asgTs, mLc, mLc2, freeAll, wipeR, restR, keepDat, lcFin, mMt, lApp, lExt, mSl, opSl, mYes, keyOf_int, keyOf_str, opIsa, PyData.plain, PyData.isInt, PyData.isBool, PyData.isTuple, PyData.isList, PyData.isStr]
        · simp [fnSem, outsOf, outs_dat, outs_nil, argIn, sSeq, sIf, sAsgN, sAsgT, sSetIx, sStore, isDicS, sSetD, mDNew, mRg1, mRg2, rgRet, mItEn, mItZ, mIdx, sRet, sRetN, sNext, sExpr, sAug, sPar, sPar3, sNo, mNo, mTst, mTru, mNotT, mAndT, mOrT, mNotV, mAndV, mOrV, mIfE, mOp1, mOp2, mOps, mCons, mNil, mCst, mName, mMove, mBor, toB, mArg, mTup, mLst, mCallK, callB, argSls, argSl, argS, noTw, isSl, pick, putGo, newS, lookSl, reown, opnd1, opnd2, opnds, res, ress, valsOf, truth, Slot.data?, cmpRet, Ret.toD, Ret.slot, Slot.free?, Slot.own?, Out.andThen, Out.thenS, opAdd, opSub, opMul, opDiv, opMod, opNeg, opIx, retOf, L2.atI, L2.ixN, cGt, cLt, cLe, cGe, bInt, bAbs, bLen, bMax, bMin, bTuple, bList, mLenG, mIxG, mSlG, mPart, mItR1, mItR2, mItV, itemsOf, sFor, asgT, asgTs, mLc, mLc2, freeAll, wipeR, restR, keepDat, lcFin, mMt, lApp, lExt, mSl, opSl, mYes, keyOf_int, keyOf_str, opIsa, PyData.plain, PyData.isInt, PyData.isBool, PyData.isTuple, PyData.isList, PyData.isStr]) (by simp; omega)
    exact ⟨out, b', ⟨e2, fun i c t hc ht => e3 i c t hc ht⟩, by simpa using e1⟩
  obtain ⟨row, b', h1, h2⟩ := hen s7 h7
  have hf : fd.length < 16777216 := by omega
  unfold l__law_program_1
  rcases h7 with rfl | ⟨d, rfl⟩
  · refine ⟨row, b', .un, h1, frS_un, ?_⟩
    unfold encK at h2 ⊢
    simp [fnSem, outsOf, outs_dat, outs_nil, argIn, sSeq, sIf, sAsgN, sAsgT, sSetIx, sStore, isDicS, sSetD, mDNew, mRg1, mRg2, rgRet, mItEn, mItZ, mIdx, sRet, sRetN, sNext, sExpr, sAug, sPar, sPar3, sNo, mNo, mTst, mTru, mNotT, mAndT, mOrT, mNotV, mAndV, mOrV, mIfE, mOp1, mOp2, mOps, mCons, mNil, mCst, mName, mMove, mBor, toB, mArg, mTup, mLst, mCallK, callB, argSls, argSl, argS, noTw, isSl, pick, putGo, newS, lookSl, reown, opnd1, opnd2, opnds, res, ress, valsOf, truth, Slot.data?, cmpRet, Ret.toD, Ret.slot, Slot.free?, Slot.own?, Out.andThen, Out.thenS, opAdd, opSub, opMul, opDiv, opMod, opNeg, opIx, retOf, L2.atI, L2.ixN, cGt, cLt, cLe, cGe, bInt, bAbs, bLen, bMax, bMin, bTuple, bList, mLenG, mIxG, mSlG, mPart, mItR1, mItR2, mItV, itemsOf, sFor, asgT, asgTs, mLc, mLc2, freeAll, wipeR, restR, keepDat, lcFin, mMt, lApp, lExt, mSl, opSl, mYes, keyOf_int, keyOf_str, opIsa, PyData.plain, PyData.isInt, PyData.isBool, PyData.isTuple, PyData.isList, PyData.isStr, h2, hf, encRow]
  · refine ⟨row, b', .dat d, h1, frS_dat, ?_⟩
    unfold encK at h2 ⊢
    simp [fnSem, outsOf, outs_dat, outs_nil, argIn, sSeq, sIf, sAsgN, sAsgT, sSetIx, sStore, isDicS, sSetD, mDNew, mRg1, mRg2, rgRet, mItEn, mItZ, mIdx, sRet, sRetN, sNext, sExpr, sAug, sPar, sPar3, sNo, mNo, mTst, mTru, mNotT, mAndT, mOrT, mNotV, mAndV, mOrV, mIfE, mOp1, mOp2, mOps, mCons, mNil, mCst, mName, mMove, mBor, toB, mArg, mTup, mLst, mCallK, callB, argSls, argSl, argS, noTw, isSl, pick, putGo, newS, lookSl, reown, opnd1, opnd2, opnds, res, ress, valsOf, truth, Slot.data?, cmpRet, Ret.toD, Ret.slot, Slot.free?, Slot.own?, Out.andThen, Out.thenS, opAdd, opSub, opMul, opDiv, opMod, opNeg, opIx, retOf, L2.atI, L2.ixN, cGt, cLt, cLe, cGe, bInt, bAbs, bLen, bMax, bMin, bTuple, bList, mLenG, mIxG, mSlG, mPart, mItR1, mItR2, mItV, itemsOf, sFor, asgT, asgTs, mLc, mLc2, freeAll, wipeR, restR, keepDat, lcFin, mMt, lApp, lExt, mSl, opSl, mYes, keyOf_int, keyOf_str, opIsa, PyData.plain, PyData.isInt, PyData.isBool, PyData.isTuple, PyData.isList, PyData.isStr, h2, hf, encRow]
theorem program_draw (b : Bg) (ks : List Nat) (k1 : 0 < ks.length) (k2 : ks.length ≤ 2) (k3 : ∀ k ∈ ks, k ≤ 2) (N R : Nat) (hN : 0 < N) (hN2 : N ≤ 4) (hR : R ≤ 3) :
    ∃ (p : Prog) (b' : Bg), OkP p ∧ p.ks = ks ∧ p.R = R ∧ p.trees.length = N ∧ s__law_program [.bag b.G b.M b.T, .dat (encK ks), .dat (.int (N : Int)), .dat (.int (R : Int)), .dat (.int 3)] = .ret (.val (encP p)) [.bag b'.G b'.M b'.T, .un, .un, .un, .un] := by
  have hr := rgOk_nat N (by omega)
  have hr2 : rangeD 0 N = (List.range N).map natD := rangeD_eq N
  have hb : N < 4611686018427387904 := by omega
  obtain ⟨rows, b1, ρ', h1, ⟨s6, s7, q6, q7, rfl⟩, h2, h3⟩ := forLoop_bag (tg := .nm 6) (body := l__law_program_1) (e := natD) (fun _ x => okRow N R ks x) (fun (fd : List (List Tree)) (b : Bg) ρ => ∃ s6 s7, frS s6 ∧ frS s7 ∧ ρ = [.bag b.G b.M b.T, .dat (encK ks), .dat (natD N), .dat (natD R), .dat (.int 3), .lst true (fd.map encRow), s6, s7, .un])
    N (List.range N) [] [.bag b.G b.M b.T, .dat (encK ks), .dat (natD N), .dat (natD R), .dat (.int 3), .lst true [], .un, .un, .un] b (by simp) ⟨.un, .un, frS_un, frS_un, rfl⟩ (by
    rintro a ha fd b ρ hfd ⟨s6, s7, q6, q7, rfl⟩
    obtain ⟨row, b', s7', g1, g2, g3⟩ := row_draw b ks k2 k3 N R hN hN2 hR fd (by omega) (natD a) s7 q7
    refine ⟨[.bag b.G b.M b.T, .dat (encK ks), .dat (natD N), .dat (natD R), .dat (.int 3), .lst true (fd.map encRow), .dat (natD a), s7, .un], _, row, b', ?_, g3, g1, .dat (natD a), s7', frS_dat, g2, rfl⟩
    rcases q6 with rfl | ⟨d, rfl⟩ <;> simp [fnSem, outsOf, outs_dat, outs_nil, argIn, sSeq, sIf, sAsgN, sAsgT, sSetIx, sStore, isDicS, sSetD, mDNew, mRg1, mRg2, rgRet, mItEn, mItZ, mIdx, sRet, sRetN, sNext, sExpr, sAug, sPar, sPar3, sNo, mNo, mTst, mTru, mNotT, mAndT, mOrT, mNotV, mAndV, mOrV, mIfE, mOp1, mOp2, mOps, mCons, mNil, mCst, mName, mMove, mBor, toB, mArg, mTup, mLst, mCallK, callB, argSls, argSl, argS, noTw, isSl, pick, putGo, newS, lookSl, reown, opnd1, opnd2, opnds, res, ress, valsOf, truth, Slot.data?, cmpRet, Ret.toD, Ret.slot, Slot.free?, Slot.own?, Out.andThen, Out.thenS, opAdd, opSub, opMul, opDiv, opMod, opNeg, opIx, retOf, L2.atI, L2.ixN, cGt, cLt, cLe, cGe, bInt, bAbs, bLen, bMax, bMin, bTuple, bList, mLenG, mIxG, mSlG, mPart, mItR1, mItR2, mItV, itemsOf, sFor, asgT, asgTs, mLc, mLc2, freeAll, wipeR, restR, keepDat, lcFin, mMt, lApp, lExt, mSl, opSl, mYes, keyOf_int, keyOf_str, opIsa, PyData.plain, PyData.isInt, PyData.isBool, PyData.isTuple, PyData.isList, PyData.isStr])
  have hrows : ∀ row ∈ rows, okRow N R ks row := fun row hr => by
    obtain ⟨i, hi, rfl⟩ := List.mem_iff_getElem.mp hr
    exact h3 i ((List.range N)[i]'(by omega)) _ (List.getElem?_eq_getElem (by omega)) (List.getElem?_eq_getElem hi)
  have hrl : rows.length = N := by simpa using h2
  obtain ⟨ans, b2, e2, g2, g3⟩ := lcLoop_bag0 (own := [6]) (tg := .nm 6) (te := mTup (mCons (toB (mCallK s__law_pick [0, 1] 2 0 (mCons (mArg 0) (mCons (toB (mCst (.int 3))) mNil)) mNil)) (mCons (toB (mCallK s__law_shown [0, 1] 2 0 (mCons (mArg 0) (mCons (toB (mName 3)) mNil)) mNil)) mNil))) (e := natD) encA (fun a => a.2.length ≤ 2 ∧ ∀ o ∈ a.2, okO R o)
    (fun b => [.bag b.G b.M b.T, .dat (encK ks), .dat (natD N), .dat (natD R), .dat (.int 3), .lst true (rows.map encRow), .un, s7, .un]) (List.range N) b1 (fun a _ b => by
      obtain ⟨v, b1, hv, q1⟩ := b.draw (n := 3) (by omega) (by omega)
      have q1' : s__law_pick [.bag b.G b.M b.T, .dat (.int 3)] = .ret (.val (.int (v : Int))) [.bag b1.G b1.M b1.T, .un] := q1
      obtain ⟨os, b2, ho, hp, q2⟩ := shown_draw b1 R (by omega)
      refine ⟨[.bag b.G b.M b.T, .dat (encK ks), .dat (natD N), .dat (natD R), .dat (.int 3), .lst true (rows.map encRow), .dat (natD a), s7, .un], .val (encA (v, os)), [.bag b2.G b2.M b2.T, .dat (encK ks), .dat (natD N), .dat (natD R), .dat (.int 3), .lst true (rows.map encRow), .dat (natD a), s7, .un], (v, os), b2, ?_, ?_, rfl, ⟨ho, hp⟩, ?_, ?_⟩
      · rcases q7 with rfl | ⟨d, rfl⟩ <;> simp [fnSem, outsOf, outs_dat, outs_nil, argIn, sSeq, sIf, sAsgN, sAsgT, sSetIx, sStore, isDicS, sSetD, mDNew, mRg1, mRg2, rgRet, mItEn, mItZ, mIdx, sRet, sRetN, sNext, sExpr, sAug, sPar, sPar3, sNo, mNo, mTst, mTru, mNotT, mAndT, mOrT, mNotV, mAndV, mOrV, mIfE, mOp1, mOp2, mOps, mCons, mNil, mCst, mName, mMove, mBor, toB, mArg, mTup, mLst, mCallK, callB, argSls, argSl, argS, noTw, isSl, pick, putGo, newS, lookSl, reown, opnd1, opnd2, opnds, res, ress, valsOf, truth, Slot.data?, cmpRet, Ret.toD, Ret.slot, Slot.free?, Slot.own?, Out.andThen, Out.thenS, opAdd, opSub, opMul, opDiv, opMod, opNeg, opIx, retOf, L2.atI, L2.ixN, cGt, cLt, cLe, cGe, bInt, bAbs, bLen, bMax, bMin, bTuple, bList, mLenG, mIxG, mSlG, mPart, mItR1, mItR2, mItV, itemsOf, sFor, asgT, asgTs, mLc, mLc2, freeAll, wipeR, restR, keepDat, lcFin, mMt, lApp, lExt, mSl, opSl, mYes, keyOf_int, keyOf_str, opIsa, PyData.plain, PyData.isInt, PyData.isBool, PyData.isTuple, PyData.isList, PyData.isStr]
      · unfold natD
        rcases q7 with rfl | ⟨d, rfl⟩ <;> simp [fnSem, outsOf, outs_dat, outs_nil, argIn, sSeq, sIf, sAsgN, sAsgT, sSetIx, sStore, isDicS, sSetD, mDNew, mRg1, mRg2, rgRet, mItEn, mItZ, mIdx, sRet, sRetN, sNext, sExpr, sAug, sPar, sPar3, sNo, mNo, mTst, mTru, mNotT, mAndT, mOrT, mNotV, mAndV, mOrV, mIfE, mOp1, mOp2, mOps, mCons, mNil, mCst, mName, mMove, mBor, toB, mArg, mTup, mLst, mCallK, callB, argSls, argSl, argS, noTw, isSl, pick, putGo, newS, lookSl, reown, opnd1, opnd2, opnds, res, ress, valsOf, truth, Slot.data?, cmpRet, Ret.toD, Ret.slot, Slot.free?, Slot.own?, Out.andThen, Out.thenS, opAdd, opSub, opMul, opDiv, opMod, opNeg, opIx, retOf, L2.atI, L2.ixN, cGt, cLt, cLe, cGe, bInt, bAbs, bLen, bMax, bMin, bTuple, bList, mLenG, mIxG, mSlG, mPart, mItR1, mItR2, mItV, itemsOf, sFor, asgT, asgTs, mLc, mLc2, freeAll, wipeR, restR, keepDat, lcFin, mMt, lApp, lExt, mSl, opSl, mYes, keyOf_int, keyOf_str, opIsa, PyData.plain, PyData.isInt, PyData.isBool, PyData.isTuple, PyData.isList, PyData.isStr, q1', q2, encA, natD]
      · rcases q7 with rfl | ⟨d, rfl⟩ <;> simp [fnSem, outsOf, outs_dat, outs_nil, argIn, sSeq, sIf, sAsgN, sAsgT, sSetIx, sStore, isDicS, sSetD, mDNew, mRg1, mRg2, rgRet, mItEn, mItZ, mIdx, sRet, sRetN, sNext, sExpr, sAug, sPar, sPar3, sNo, mNo, mTst, mTru, mNotT, mAndT, mOrT, mNotV, mAndV, mOrV, mIfE, mOp1, mOp2, mOps, mCons, mNil, mCst, mName, mMove, mBor, toB, mArg, mTup, mLst, mCallK, callB, argSls, argSl, argS, noTw, isSl, pick, putGo, newS, lookSl, reown, opnd1, opnd2, opnds, res, ress, valsOf, truth, Slot.data?, cmpRet, Ret.toD, Ret.slot, Slot.free?, Slot.own?, Out.andThen, Out.thenS, opAdd, opSub, opMul, opDiv, opMod, opNeg, opIx, retOf, L2.atI, L2.ixN, cGt, cLt, cLe, cGe, bInt, bAbs, bLen, bMax, bMin, bTuple, bList, mLenG, mIxG, mSlG, mPart, mItR1, mItR2, mItV, itemsOf, sFor, asgT, asgTs, mLc, mLc2, freeAll, wipeR, restR, keepDat, lcFin, mMt, lApp, lExt, mSl, opSl, mYes, keyOf_int, keyOf_str, opIsa, PyData.plain, PyData.isInt, PyData.isBool, PyData.isTuple, PyData.isList, PyData.isStr]
      · rcases q7 with rfl | ⟨d, rfl⟩ <;> simp [fnSem, outsOf, outs_dat, outs_nil, argIn, sSeq, sIf, sAsgN, sAsgT, sSetIx, sStore, isDicS, sSetD, mDNew, mRg1, mRg2, rgRet, mItEn, mItZ, mIdx, sRet, sRetN, sNext, sExpr, sAug, sPar, sPar3, sNo, mNo, mTst, mTru, mNotT, mAndT, mOrT, mNotV, mAndV, mOrV, mIfE, mOp1, mOp2, mOps, mCons, mNil, mCst, mName, mMove, mBor, toB, mArg, mTup, mLst, mCallK, callB, argSls, argSl, argS, noTw, isSl, pick, putGo, newS, lookSl, reown, opnd1, opnd2, opnds, res, ress, valsOf, truth, Slot.data?, cmpRet, Ret.toD, Ret.slot, Slot.free?, Slot.own?, Out.andThen, Out.thenS, opAdd, opSub, opMul, opDiv, opMod, opNeg, opIx, retOf, L2.atI, L2.ixN, cGt, cLt, cLe, cGe, bInt, bAbs, bLen, bMax, bMin, bTuple, bList, mLenG, mIxG, mSlG, mPart, mItR1, mItR2, mItV, itemsOf, sFor, asgT, asgTs, mLc, mLc2, freeAll, wipeR, restR, keepDat, lcFin, mMt, lApp, lExt, mSl, opSl, mYes, keyOf_int, keyOf_str, opIsa, PyData.plain, PyData.isInt, PyData.isBool, PyData.isTuple, PyData.isList, PyData.isStr]) (by simp; omega)
  refine ⟨⟨ks, R, rows, ans⟩, b2, ⟨k1, k2, k3, hR, by show 0 < rows.length; omega, by show rows.length ≤ 4; omega, fun row hr => by show okRow rows.length R ks row; rw [hrl]; exact hrows row hr, by show ans.length = rows.length; rw [g2, hrl]; simp, g3⟩, rfl, rfl, hrl, ?_⟩
  rw [s__law_program_eq]
  unfold b__law_program c__law_program_1 c__law_program_2 c__law_program_3 c__law_program_4
  have x1 : (PyData.int (N : Int)) = natD N := rfl
  have x2 : (PyData.int (R : Int)) = natD R := rfl
  have hr' : mItR1 (mBor 2) = mItR1 (mBor 2) := rfl
  unfold natD at h1 e2
  unfold encK at h1 e2 ⊢
  have hr2' := rangeD_eq N
  rcases q6 with rfl | ⟨d6, rfl⟩ <;> rcases q7 with rfl | ⟨d7, rfl⟩ <;> simp [fnSem, outsOf, outs_dat, outs_nil, argIn, sSeq, sIf, sAsgN, sAsgT, sSetIx, sStore, isDicS, sSetD, mDNew, mRg1, mRg2, rgRet, mItEn, mItZ, mIdx, sRet, sRetN, sNext, sExpr, sAug, sPar, sPar3, sNo, mNo, mTst, mTru, mNotT, mAndT, mOrT, mNotV, mAndV, mOrV, mIfE, mOp1, mOp2, mOps, mCons, mNil, mCst, mName, mMove, mBor, toB, mArg, mTup, mLst, mCallK, callB, argSls, argSl, argS, noTw, isSl, pick, putGo, newS, lookSl, reown, opnd1, opnd2, opnds, res, ress, valsOf, truth, Slot.data?, cmpRet, Ret.toD, Ret.slot, Slot.free?, Slot.own?, Out.andThen, Out.thenS, opAdd, opSub, opMul, opDiv, opMod, opNeg, opIx, retOf, L2.atI, L2.ixN, cGt, cLt, cLe, cGe, bInt, bAbs, bLen, bMax, bMin, bTuple, bList, mLenG, mIxG, mSlG, mPart, mItR1, mItR2, mItV, itemsOf, sFor, asgT, asgTs, mLc, mLc2, freeAll, wipeR, restR, keepDat, lcFin, mMt, lApp, lExt, mSl, opSl, mYes, keyOf_int, keyOf_str, opIsa, PyData.plain, PyData.isInt, PyData.isBool, PyData.isTuple, PyData.isList, PyData.isStr, hr, hr2', hb, h1, e2, encP, encK, natD, encRow]
end Law
open PySem PySem.Spec PyProof.Rows L2 Ev
namespace Law
/-! ### the program's looks at what it is handed -/
theorem is_integer_int (i : Int) : s_is_integer [.dat (.int i)] = .ret (.val (.bool true)) [.un] := by
  rw [s_is_integer_eq]; unfold b_is_integer c_is_integer_1; simp [fnSem, outsOf, outs_dat, outs_nil, argIn, sSeq, sIf, sAsgN, sAsgT, sSetIx, sStore, isDicS, sSetD, mDNew, mRg1, mRg2, rgRet, mItEn, mItZ, mIdx, sRet, sRetN, sNext, sExpr, sAug, sPar, sPar3, sNo, mNo, mTst, mTru, mNotT, mAndT, mOrT, mNotV, mAndV, mOrV, mIfE, mOp1, mOp2, mOps, mCons, mNil, mCst, mName, mMove, mBor, toB, mArg, mTup, mLst, mCallK, callB, argSls, argSl, argS, noTw, isSl, pick, putGo, newS, lookSl, reown, opnd1, opnd2, opnds, res, ress, valsOf, truth, Slot.data?, cmpRet, Ret.toD, Ret.slot, Slot.free?, Slot.own?, Out.andThen, Out.thenS, opAdd, opSub, opMul, opDiv, opMod, opNeg, opIx, retOf, L2.atI, L2.ixN, cGt, cLt, cLe, cGe, bInt, bAbs, bLen, bMax, bMin, bTuple, bList, mLenG, mIxG, mSlG, mPart, mItR1, mItR2, mItV, itemsOf, sFor, asgT, asgTs, mLc, mLc2, freeAll, wipeR, restR, keepDat, lcFin, mMt, lApp, lExt, mSl, opSl, mYes, keyOf_int, keyOf_str, opIsa, PyData.plain, PyData.isInt, PyData.isBool, PyData.isTuple, PyData.isList, PyData.isStr]
theorem is_from_int (low i : Int) : s_is_from [.dat (.int low), .dat (.int i)] = .ret (.val (.bool (decide (low ≤ i)))) [.un, .un] := by
  have h := is_integer_int i
  rw [s_is_from_eq]; unfold b_is_from c_is_from_1; simp [fnSem, outsOf, outs_dat, outs_nil, argIn, sSeq, sIf, sAsgN, sAsgT, sSetIx, sStore, isDicS, sSetD, mDNew, mRg1, mRg2, rgRet, mItEn, mItZ, mIdx, sRet, sRetN, sNext, sExpr, sAug, sPar, sPar3, sNo, mNo, mTst, mTru, mNotT, mAndT, mOrT, mNotV, mAndV, mOrV, mIfE, mOp1, mOp2, mOps, mCons, mNil, mCst, mName, mMove, mBor, toB, mArg, mTup, mLst, mCallK, callB, argSls, argSl, argS, noTw, isSl, pick, putGo, newS, lookSl, reown, opnd1, opnd2, opnds, res, ress, valsOf, truth, Slot.data?, cmpRet, Ret.toD, Ret.slot, Slot.free?, Slot.own?, Out.andThen, Out.thenS, opAdd, opSub, opMul, opDiv, opMod, opNeg, opIx, retOf, L2.atI, L2.ixN, cGt, cLt, cLe, cGe, bInt, bAbs, bLen, bMax, bMin, bTuple, bList, mLenG, mIxG, mSlG, mPart, mItR1, mItR2, mItV, itemsOf, sFor, asgT, asgTs, mLc, mLc2, freeAll, wipeR, restR, keepDat, lcFin, mMt, lApp, lExt, mSl, opSl, mYes, keyOf_int, keyOf_str, opIsa, PyData.plain, PyData.isInt, PyData.isBool, PyData.isTuple, PyData.isList, PyData.isStr, h]
theorem is_below_int (n i : Int) (h0 : 0 ≤ i) (h1 : i < n) : s_is_below [.dat (.int n), .dat (.int i)] = .ret (.val (.bool true)) [.un, .un] := by
  have h := is_from_int 0 i
  rw [decide_eq_true h0] at h
  rw [s_is_below_eq]; unfold b_is_below c_is_below_1; simp [fnSem, outsOf, outs_dat, outs_nil, argIn, sSeq, sIf, sAsgN, sAsgT, sSetIx, sStore, isDicS, sSetD, mDNew, mRg1, mRg2, rgRet, mItEn, mItZ, mIdx, sRet, sRetN, sNext, sExpr, sAug, sPar, sPar3, sNo, mNo, mTst, mTru, mNotT, mAndT, mOrT, mNotV, mAndV, mOrV, mIfE, mOp1, mOp2, mOps, mCons, mNil, mCst, mName, mMove, mBor, toB, mArg, mTup, mLst, mCallK, callB, argSls, argSl, argS, noTw, isSl, pick, putGo, newS, lookSl, reown, opnd1, opnd2, opnds, res, ress, valsOf, truth, Slot.data?, cmpRet, Ret.toD, Ret.slot, Slot.free?, Slot.own?, Out.andThen, Out.thenS, opAdd, opSub, opMul, opDiv, opMod, opNeg, opIx, retOf, L2.atI, L2.ixN, cGt, cLt, cLe, cGe, bInt, bAbs, bLen, bMax, bMin, bTuple, bList, mLenG, mIxG, mSlG, mPart, mItR1, mItR2, mItV, itemsOf, sFor, asgT, asgTs, mLc, mLc2, freeAll, wipeR, restR, keepDat, lcFin, mMt, lApp, lExt, mSl, opSl, mYes, keyOf_int, keyOf_str, opIsa, PyData.plain, PyData.isInt, PyData.isBool, PyData.isTuple, PyData.isList, PyData.isStr, h, h1]
theorem is_tuple_len (n : Int) (ds : List D) (hp : PyData.plainAll ds = true) : s_is_tuple [.dat (.int n), .dat (.tuple ds)] = .ret (.val (.bool (decide ((ds.length : Int) = n)))) [.un, .un] := by
  have h := cEq_int (ds.length : Int) n
  rw [s_is_tuple_eq]; unfold b_is_tuple c_is_tuple_1; simp [fnSem, outsOf, outs_dat, outs_nil, argIn, sSeq, sIf, sAsgN, sAsgT, sSetIx, sStore, isDicS, sSetD, mDNew, mRg1, mRg2, rgRet, mItEn, mItZ, mIdx, sRet, sRetN, sNext, sExpr, sAug, sPar, sPar3, sNo, mNo, mTst, mTru, mNotT, mAndT, mOrT, mNotV, mAndV, mOrV, mIfE, mOp1, mOp2, mOps, mCons, mNil, mCst, mName, mMove, mBor, toB, mArg, mTup, mLst, mCallK, callB, argSls, argSl, argS, noTw, isSl, pick, putGo, newS, lookSl, reown, opnd1, opnd2, opnds, res, ress, valsOf, truth, Slot.data?, cmpRet, Ret.toD, Ret.slot, Slot.free?, Slot.own?, Out.andThen, Out.thenS, opAdd, opSub, opMul, opDiv, opMod, opNeg, opIx, retOf, L2.atI, L2.ixN, cGt, cLt, cLe, cGe, bInt, bAbs, bLen, bMax, bMin, bTuple, bList, mLenG, mIxG, mSlG, mPart, mItR1, mItR2, mItV, itemsOf, sFor, asgT, asgTs, mLc, mLc2, freeAll, wipeR, restR, keepDat, lcFin, mMt, lApp, lExt, mSl, opSl, mYes, keyOf_int, keyOf_str, opIsa, PyData.plain, PyData.isInt, PyData.isBool, PyData.isTuple, PyData.isList, PyData.isStr, h, hp, cIsNone]
theorem is_mark_int (i : Int) (h0 : 0 ≤ i) : s_is_mark [.dat (.int i)] = .ret (.val (.bool true)) [.un] := by
  have h := is_from_int 0 i
  rw [decide_eq_true h0] at h
  rw [s_is_mark_eq]; unfold b_is_mark c_is_mark_1; simp [fnSem, outsOf, outs_dat, outs_nil, argIn, sSeq, sIf, sAsgN, sAsgT, sSetIx, sStore, isDicS, sSetD, mDNew, mRg1, mRg2, rgRet, mItEn, mItZ, mIdx, sRet, sRetN, sNext, sExpr, sAug, sPar, sPar3, sNo, mNo, mTst, mTru, mNotT, mAndT, mOrT, mNotV, mAndV, mOrV, mIfE, mOp1, mOp2, mOps, mCons, mNil, mCst, mName, mMove, mBor, toB, mArg, mTup, mLst, mCallK, callB, argSls, argSl, argS, noTw, isSl, pick, putGo, newS, lookSl, reown, opnd1, opnd2, opnds, res, ress, valsOf, truth, Slot.data?, cmpRet, Ret.toD, Ret.slot, Slot.free?, Slot.own?, Out.andThen, Out.thenS, opAdd, opSub, opMul, opDiv, opMod, opNeg, opIx, retOf, L2.atI, L2.ixN, cGt, cLt, cLe, cGe, bInt, bAbs, bLen, bMax, bMin, bTuple, bList, mLenG, mIxG, mSlG, mPart, mItR1, mItR2, mItV, itemsOf, sFor, asgT, asgTs, mLc, mLc2, freeAll, wipeR, restR, keepDat, lcFin, mMt, lApp, lExt, mSl, opSl, mYes, keyOf_int, keyOf_str, opIsa, PyData.plain, PyData.isInt, PyData.isBool, PyData.isTuple, PyData.isList, PyData.isStr, h]
theorem is_tuple_yes (n : Int) (ds : List D) (hp : PyData.plainAll ds = true) (h : (ds.length : Int) = n) : s_is_tuple [.dat (.int n), .dat (.tuple ds)] = .ret (.val (.bool true)) [.un, .un] := by
  have := is_tuple_len n ds hp
  rw [decide_eq_true h] at this
  exact this
end Law
open PySem PySem.Spec PyProof.Rows L2 Ev
namespace Law
theorem plain_nat : ∀ ks : List Nat, PyData.plainAll (ks.map natD) = true
  | [] => rfl
  | k :: ks => by
    have ih := plain_nat ks
    simp [PyData.plainAll, PyData.plain, ih, natD]
theorem is_kinds_ok (ks : List Nat) (k1 : 0 < ks.length) (k2 : ks.length ≤ 2) (k3 : ∀ k ∈ ks, k ≤ 2) : s_is_kinds_in [.dat (encK ks)] = .ret (.val (.bool true)) [.un] := by
  have e : encK ks = .tuple (intL (ks.map fun k : Nat => (k : Int))) := by
    unfold encK intL natD
    rw [List.map_map]
    rfl
  have hne : cNe (encK ks) (.tuple []) = some true := by
    rw [e]
    unfold cNe
    rw [if_pos ⟨by simp [PyData.plain, plain_ints], rfl, by unfold depthLe; simp [PyData.depth, depth_ints, PyData.depthAll]⟩]
    rw [show PyData.tuple [] = .tuple (intL []) from rfl, eqv_ints]
    have : ¬ (ks.map fun k : Nat => (k : Int)) = [] := fun z => by
      have := congrArg List.length z
      simp at this
      rw [this] at k1
      simp at k1
    rw [decide_eq_false this]
    rfl
  have q := lcLoop_true (own := [1]) (tg := .nm 1) (te := mCallK s_is_below [0, 1] 2 0 (mCons (toB (mCst (.int 3))) (mCons (toB (mName 1)) mNil)) mNil) (e := natD) (ρ := [.dat (encK ks), .un]) ks (fun k hk => by
    have h := is_below_int 3 (k : Int) (by omega) (by have := k3 k hk; omega)
    refine ⟨[.dat (encK ks), .dat (natD k)], [.dat (encK ks), .dat (natD k)], by simp [fnSem, outsOf, outs_dat, outs_nil, argIn, sSeq, sIf, sAsgN, sAsgT, sSetIx, sStore, isDicS, sSetD, mDNew, mRg1, mRg2, rgRet, mItEn, mItZ, mIdx, sRet, sRetN, sNext, sExpr, sAug, sPar, sPar3, sNo, mNo, mTst, mTru, mNotT, mAndT, mOrT, mNotV, mAndV, mOrV, mIfE, mOp1, mOp2, mOps, mCons, mNil, mCst, mName, mMove, mBor, toB, mArg, mTup, mLst, mCallK, callB, argSls, argSl, argS, noTw, isSl, pick, putGo, newS, lookSl, reown, opnd1, opnd2, opnds, res, ress, valsOf, truth, Slot.data?, cmpRet, Ret.toD, Ret.slot, Slot.free?, Slot.own?, Out.andThen, Out.thenS, opAdd, opSub, opMul, opDiv, opMod, opNeg, opIx, retOf, L2.atI, L2.ixN, cGt, cLt, cLe, cGe, bInt, bAbs, bLen, bMax, bMin, bTuple, bList, mLenG, mIxG, mSlG, mPart, mItR1, mItR2, mItV, itemsOf, sFor, asgT, asgTs, mLc, mLc2, freeAll, wipeR, restR, keepDat, lcFin, mMt, lApp, lExt, mSl, opSl, mYes, keyOf_int, keyOf_str, opIsa, PyData.plain, PyData.isInt, PyData.isBool, PyData.isTuple, PyData.isList, PyData.isStr], ?_, by simp [fnSem, outsOf, outs_dat, outs_nil, argIn, sSeq, sIf, sAsgN, sAsgT, sSetIx, sStore, isDicS, sSetD, mDNew, mRg1, mRg2, rgRet, mItEn, mItZ, mIdx, sRet, sRetN, sNext, sExpr, sAug, sPar, sPar3, sNo, mNo, mTst, mTru, mNotT, mAndT, mOrT, mNotV, mAndV, mOrV, mIfE, mOp1, mOp2, mOps, mCons, mNil, mCst, mName, mMove, mBor, toB, mArg, mTup, mLst, mCallK, callB, argSls, argSl, argS, noTw, isSl, pick, putGo, newS, lookSl, reown, opnd1, opnd2, opnds, res, ress, valsOf, truth, Slot.data?, cmpRet, Ret.toD, Ret.slot, Slot.free?, Slot.own?, Out.andThen, Out.thenS, opAdd, opSub, opMul, opDiv, opMod, opNeg, opIx, retOf, L2.atI, L2.ixN, cGt, cLt, cLe, cGe, bInt, bAbs, bLen, bMax, bMin, bTuple, bList, mLenG, mIxG, mSlG, mPart, mItR1, mItR2, mItV, itemsOf, sFor, asgT, asgTs, mLc, mLc2, freeAll, wipeR, restR, keepDat, lcFin, mMt, lApp, lExt, mSl, opSl, mYes, keyOf_int, keyOf_str, opIsa, PyData.plain, PyData.isInt, PyData.isBool, PyData.isTuple, PyData.isList, PyData.isStr], by simp [fnSem, outsOf, outs_dat, outs_nil, argIn, sSeq, sIf, sAsgN, sAsgT, sSetIx, sStore, isDicS, sSetD, mDNew, mRg1, mRg2, rgRet, mItEn, mItZ, mIdx, sRet, sRetN, sNext, sExpr, sAug, sPar, sPar3, sNo, mNo, mTst, mTru, mNotT, mAndT, mOrT, mNotV, mAndV, mOrV, mIfE, mOp1, mOp2, mOps, mCons, mNil, mCst, mName, mMove, mBor, toB, mArg, mTup, mLst, mCallK, callB, argSls, argSl, argS, noTw, isSl, pick, putGo, newS, lookSl, reown, opnd1, opnd2, opnds, res, ress, valsOf, truth, Slot.data?, cmpRet, Ret.toD, Ret.slot, Slot.free?, Slot.own?, Out.andThen, Out.thenS, opAdd, opSub, opMul, opDiv, opMod, opNeg, opIx, retOf, L2.atI, L2.ixN, cGt, cLt, cLe, cGe, bInt, bAbs, bLen, bMax, bMin, bTuple, bList, mLenG, mIxG, mSlG, mPart, mItR1, mItR2, mItV, itemsOf, sFor, asgT, asgTs, mLc, mLc2, freeAll, wipeR, restR, keepDat, lcFin, mMt, lApp, lExt, mSl, opSl, mYes, keyOf_int, keyOf_str, opIsa, PyData.plain, PyData.isInt, PyData.isBool, PyData.isTuple, PyData.isList, PyData.isStr]⟩
    unfold natD
    simp [fnSem, outsOf, outs_dat, outs_nil, argIn, sSeq, sIf, sAsgN, sAsgT, sSetIx, sStore, isDicS, sSetD, mDNew, mRg1, mRg2, rgRet, mItEn, mItZ, mIdx, sRet, sRetN, sNext, sExpr, sAug, sPar, sPar3, sNo, mNo, mTst, mTru, mNotT, mAndT, mOrT, mNotV, mAndV, mOrV, mIfE, mOp1, mOp2, mOps, mCons, mNil, mCst, mName, mMove, mBor, toB, mArg, mTup, mLst, mCallK, callB, argSls, argSl, argS, noTw, isSl, pick, putGo, newS, lookSl, reown, opnd1, opnd2, opnds, res, ress, valsOf, truth, Slot.data?, cmpRet, Ret.toD, Ret.slot, Slot.free?, Slot.own?, Out.andThen, Out.thenS, opAdd, opSub, opMul, opDiv, opMod, opNeg, opIx, retOf, L2.atI, L2.ixN, cGt, cLt, cLe, cGe, bInt, bAbs, bLen, bMax, bMin, bTuple, bList, mLenG, mIxG, mSlG, mPart, mItR1, mItR2, mItV, itemsOf, sFor, asgT, asgTs, mLc, mLc2, freeAll, wipeR, restR, keepDat, lcFin, mMt, lApp, lExt, mSl, opSl, mYes, keyOf_int, keyOf_str, opIsa, PyData.plain, PyData.isInt, PyData.isBool, PyData.isTuple, PyData.isList, PyData.isStr, h]) (by omega)
  have b := bAll_true ks
  rw [s_is_kinds_in_eq]
  unfold b_is_kinds_in c_is_kinds_in_1
  unfold encK at hne q ⊢
  have hp := plain_nat ks
  simp [fnSem, outsOf, outs_dat, outs_nil, argIn, sSeq, sIf, sAsgN, sAsgT, sSetIx, sStore, isDicS, sSetD, mDNew, mRg1, mRg2, rgRet, mItEn, mItZ, mIdx, sRet, sRetN, sNext, sExpr, sAug, sPar, sPar3, sNo, mNo, mTst, mTru, mNotT, mAndT, mOrT, mNotV, mAndV, mOrV, mIfE, mOp1, mOp2, mOps, mCons, mNil, mCst, mName, mMove, mBor, toB, mArg, mTup, mLst, mCallK, callB, argSls, argSl, argS, noTw, isSl, pick, putGo, newS, lookSl, reown, opnd1, opnd2, opnds, res, ress, valsOf, truth, Slot.data?, cmpRet, Ret.toD, Ret.slot, Slot.free?, Slot.own?, Out.andThen, Out.thenS, opAdd, opSub, opMul, opDiv, opMod, opNeg, opIx, retOf, L2.atI, L2.ixN, cGt, cLt, cLe, cGe, bInt, bAbs, bLen, bMax, bMin, bTuple, bList, mLenG, mIxG, mSlG, mPart, mItR1, mItR2, mItV, itemsOf, sFor, asgT, asgTs, mLc, mLc2, freeAll, wipeR, restR, keepDat, lcFin, mMt, lApp, lExt, mSl, opSl, mYes, keyOf_int, keyOf_str, opIsa, PyData.plain, PyData.isInt, PyData.isBool, PyData.isTuple, PyData.isList, PyData.isStr, hp, hne, q, b]
end Law
open PySem PySem.Spec PyProof.Rows L2 Ev
namespace Law
theorem is_event_ok (ks : List Nat) (k2 : ks.length ≤ 2) (k3 : ∀ k ∈ ks, k ≤ 2) (e : Evt) (he : okE ks e) : s_is_event_of [.dat (encK ks), .dat (encE e)] = .ret (.val (.bool true)) [.un, .un] := by
  obtain ⟨k, xs⟩ := e
  obtain ⟨c, h1, h2, h3⟩ := he
  have hk : k < ks.length := (List.getElem?_eq_some_iff.mp h1).1
  have hc : ks[k] = c := (List.getElem?_eq_some_iff.mp h1).2
  have hc2 : c ≤ 2 := by rw [← hc]; exact k3 _ (List.getElem_mem hk)
  have px := plain_ints xs
  unfold intL at px
  have t1 := is_tuple_yes 2 [.int (k : Int), .tuple (xs.map PyData.int)] (by simp [PyData.plainAll, PyData.plain, px]) rfl
  have t2 := is_below_int (ks.length : Int) (k : Int) (by omega) (by omega)
  have t3 := is_tuple_yes (c : Int) (xs.map PyData.int) px (by rw [List.length_map]; exact congrArg Nat.cast h2)
  have q := lcLoop_true (own := [2]) (tg := .nm 2) (te := mCallK s_is_from [0, 1] 2 0 (mCons (toB (mCst (.int 0))) (mCons (toB (mName 2)) mNil)) mNil) (e := PyData.int) (ρ := [.dat (encK ks), .dat (encE (k, xs)), .un]) xs (fun x hx => by
    have h := is_from_int 0 x
    rw [decide_eq_true (h3 x hx)] at h
    exact ⟨[.dat (encK ks), .dat (encE (k, xs)), .dat (.int x)], [.dat (encK ks), .dat (encE (k, xs)), .dat (.int x)], by simp [fnSem, outsOf, outs_dat, outs_nil, argIn, sSeq, sIf, sAsgN, sAsgT, sSetIx, sStore, isDicS, sSetD, mDNew, mRg1, mRg2, rgRet, mItEn, mItZ, mIdx, sRet, sRetN, sNext, sExpr, sAug, sPar, sPar3, sNo, mNo, mTst, mTru, mNotT, mAndT, mOrT, mNotV, mAndV, mOrV, mIfE, mOp1, mOp2, mOps, mCons, mNil, mCst, mName, mMove, mBor, toB, mArg, mTup, mLst, mCallK, callB, argSls, argSl, argS, noTw, isSl, pick, putGo, newS, lookSl, reown, opnd1, opnd2, opnds, res, ress, valsOf, truth, Slot.data?, cmpRet, Ret.toD, Ret.slot, Slot.free?, Slot.own?, Out.andThen, Out.thenS, opAdd, opSub, opMul, opDiv, opMod, opNeg, opIx, retOf, L2.atI, L2.ixN, cGt, cLt, cLe, cGe, bInt, bAbs, bLen, bMax, bMin, bTuple, bList, mLenG, mIxG, mSlG, mPart, mItR1, mItR2, mItV, itemsOf, sFor, asgT, asgTs, mLc, mLc2, freeAll, wipeR, restR, keepDat, lcFin, mMt, lApp, lExt, mSl, opSl, mYes, keyOf_int, keyOf_str, opIsa, PyData.plain, PyData.isInt, PyData.isBool, PyData.isTuple, PyData.isList, PyData.isStr], by simp [fnSem, outsOf, outs_dat, outs_nil, argIn, sSeq, sIf, sAsgN, sAsgT, sSetIx, sStore, isDicS, sSetD, mDNew, mRg1, mRg2, rgRet, mItEn, mItZ, mIdx, sRet, sRetN, sNext, sExpr, sAug, sPar, sPar3, sNo, mNo, mTst, mTru, mNotT, mAndT, mOrT, mNotV, mAndV, mOrV, mIfE, mOp1, mOp2, mOps, mCons, mNil, mCst, mName, mMove, mBor, toB, mArg, mTup, mLst, mCallK, callB, argSls, argSl, argS, noTw, isSl, pick, putGo, newS, lookSl, reown, opnd1, opnd2, opnds, res, ress, valsOf, truth, Slot.data?, cmpRet, Ret.toD, Ret.slot, Slot.free?, Slot.own?, Out.andThen, Out.thenS, opAdd, opSub, opMul, opDiv, opMod, opNeg, opIx, retOf, L2.atI, L2.ixN, cGt, cLt, cLe, cGe, bInt, bAbs, bLen, bMax, bMin, bTuple, bList, mLenG, mIxG, mSlG, mPart, mItR1, mItR2, mItV, itemsOf, sFor, asgT, asgTs, mLc, mLc2, freeAll, wipeR, restR, keepDat, lcFin, mMt, lApp, lExt, mSl, opSl, mYes, keyOf_int, keyOf_str, opIsa, PyData.plain, PyData.isInt, PyData.isBool, PyData.isTuple, PyData.isList, PyData.isStr, h], by simp [fnSem, outsOf, outs_dat, outs_nil, argIn, sSeq, sIf, sAsgN, sAsgT, sSetIx, sStore, isDicS, sSetD, mDNew, mRg1, mRg2, rgRet, mItEn, mItZ, mIdx, sRet, sRetN, sNext, sExpr, sAug, sPar, sPar3, sNo, mNo, mTst, mTru, mNotT, mAndT, mOrT, mNotV, mAndV, mOrV, mIfE, mOp1, mOp2, mOps, mCons, mNil, mCst, mName, mMove, mBor, toB, mArg, mTup, mLst, mCallK, callB, argSls, argSl, argS, noTw, isSl, pick, putGo, newS, lookSl, reown, opnd1, opnd2, opnds, res, ress, valsOf, truth, Slot.data?, cmpRet, Ret.toD, Ret.slot, Slot.free?, Slot.own?, Out.andThen, Out.thenS, opAdd, opSub, opMul, opDiv, opMod, opNeg, opIx, retOf, L2.atI, L2.ixN, cGt, cLt, cLe, cGe, bInt, bAbs, bLen, bMax, bMin, bTuple, bList, mLenG, mIxG, mSlG, mPart, mItR1, mItR2, mItV, itemsOf, sFor, asgT, asgTs, mLc, mLc2, freeAll, wipeR, restR, keepDat, lcFin, mMt, lApp, lExt, mSl, opSl, mYes, keyOf_int, keyOf_str, opIsa, PyData.plain, PyData.isInt, PyData.isBool, PyData.isTuple, PyData.isList, PyData.isStr], by simp [fnSem, outsOf, outs_dat, outs_nil, argIn, sSeq, sIf, sAsgN, sAsgT, sSetIx, sStore, isDicS, sSetD, mDNew, mRg1, mRg2, rgRet, mItEn, mItZ, mIdx, sRet, sRetN, sNext, sExpr, sAug, sPar, sPar3, sNo, mNo, mTst, mTru, mNotT, mAndT, mOrT, mNotV, mAndV, mOrV, mIfE, mOp1, mOp2, mOps, mCons, mNil, mCst, mName, mMove, mBor, toB, mArg, mTup, mLst, mCallK, callB, argSls, argSl, argS, noTw, isSl, pick, putGo, newS, lookSl, reown, opnd1, opnd2, opnds, res, ress, valsOf, truth, Slot.data?, cmpRet, Ret.toD, Ret.slot, Slot.free?, Slot.own?, Out.andThen, Out.thenS, opAdd, opSub, opMul, opDiv, opMod, opNeg, opIx, retOf, L2.atI, L2.ixN, cGt, cLt, cLe, cGe, bInt, bAbs, bLen, bMax, bMin, bTuple, bList, mLenG, mIxG, mSlG, mPart, mItR1, mItR2, mItV, itemsOf, sFor, asgT, asgTs, mLc, mLc2, freeAll, wipeR, restR, keepDat, lcFin, mMt, lApp, lExt, mSl, opSl, mYes, keyOf_int, keyOf_str, opIsa, PyData.plain, PyData.isInt, PyData.isBool, PyData.isTuple, PyData.isList, PyData.isStr]⟩) (by show xs.length ≤ _; have : xs.length = c := h2; omega)
  have b := bAll_true xs
  rw [s_is_event_of_eq]
  unfold b_is_event_of c_is_event_of_1 c_is_event_of_2
  unfold encK encE natD at q ⊢
  simp only [] at q ⊢
  simp [fnSem, outsOf, outs_dat, outs_nil, argIn, sSeq, sIf, sAsgN, sAsgT, sSetIx, sStore, isDicS, sSetD, mDNew, mRg1, mRg2, rgRet, mItEn, mItZ, mIdx, sRet, sRetN, sNext, sExpr, sAug, sPar, sPar3, sNo, mNo, mTst, mTru, mNotT, mAndT, mOrT, mNotV, mAndV, mOrV, mIfE, mOp1, mOp2, mOps, mCons, mNil, mCst, mName, mMove, mBor, toB, mArg, mTup, mLst, mCallK, callB, argSls, argSl, argS, noTw, isSl, pick, putGo, newS, lookSl, reown, opnd1, opnd2, opnds, res, ress, valsOf, truth, Slot.data?, cmpRet, Ret.toD, Ret.slot, Slot.free?, Slot.own?, Out.andThen, Out.thenS, opAdd, opSub, opMul, opDiv, opMod, opNeg, opIx, retOf, L2.atI, L2.ixN, cGt, cLt, cLe, cGe, bInt, bAbs, bLen, bMax, bMin, bTuple, bList, mLenG, mIxG, mSlG, mPart, mItR1, mItR2, mItV, itemsOf, sFor, asgT, asgTs, mLc, mLc2, freeAll, wipeR, restR, keepDat, lcFin, mMt, lApp, lExt, mSl, opSl, mYes, keyOf_int, keyOf_str, opIsa, PyData.plain, PyData.isInt, PyData.isBool, PyData.isTuple, PyData.isList, PyData.isStr, t1, t2, hk, hc, t3, q, b]
end Law
open PySem PySem.Spec PyProof.Rows L2 Ev
namespace Law
theorem plain_encE (e : Evt) : (encE e).plain = true := by
  have h := plain_ints e.2
  unfold intL at h
  unfold encE natD
  simp [PyData.plain, PyData.plainAll, h]
theorem stream_ok (ks : List Nat) (k2 : ks.length ≤ 2) (k3 : ∀ k ∈ ks, k ≤ 2) (s : List Evt) (hs : ∀ e ∈ s, okE ks e) : s_stream_fault [.dat (encK ks), .dat (.tuple (s.map encE))] = .ret (.val .none) [.un, .un] := by
  obtain ⟨ρ', h1, s2, s3, q2, q3, rfl⟩ := forLoop_en (tg := .tp [.nm 2, .nm 3]) (body := l_stream_fault_1) encE (fun ρ => ∃ s2 s3, frS s2 ∧ frS s3 ∧ ρ = [.dat (encK ks), .dat (.tuple (s.map encE)), s2, s3]) s 0 (by
    rintro i e ρ hi ⟨s2, s3, q2, q3, rfl⟩
    have h := is_event_ok ks k2 k3 e (hs e (List.mem_of_getElem? hi))
    refine ⟨[.dat (encK ks), .dat (.tuple (s.map encE)), .dat (.int ((0 + i : Nat) : Int)), .dat (encE e)], [.dat (encK ks), .dat (.tuple (s.map encE)), .dat (.int ((0 + i : Nat) : Int)), .dat (encE e)], ?_, ?_, _, _, frS_dat, frS_dat, rfl⟩
    · rcases q2 with rfl | ⟨d, rfl⟩ <;> rcases q3 with rfl | ⟨d', rfl⟩ <;> simp [fnSem, outsOf, outs_dat, outs_nil, argIn, sSeq, sIf, sAsgN, sAsgT, sSetIx, sStore, isDicS, sSetD, mDNew, mRg1, mRg2, rgRet, mItEn, mItZ, mIdx, sRet, sRetN, sNext, sExpr, sAug, sPar, sPar3, sNo, mNo, mTst, mTru, mNotT, mAndT, mOrT, mNotV, mAndV, mOrV, mIfE, mOp1, mOp2, mOps, mCons, mNil, mCst, mName, mMove, mBor, toB, mArg, mTup, mLst, mCallK, callB, argSls, argSl, argS, noTw, isSl, pick, putGo, newS, lookSl, reown, opnd1, opnd2, opnds, res, ress, valsOf, truth, Slot.data?, cmpRet, Ret.toD, Ret.slot, Slot.free?, Slot.own?, Out.andThen, Out.thenS, opAdd, opSub, opMul, opDiv, opMod, opNeg, opIx, retOf, L2.atI, L2.ixN, cGt, cLt, cLe, cGe, bInt, bAbs, bLen, bMax, bMin, bTuple, bList, mLenG, mIxG, mSlG, mPart, mItR1, mItR2, mItV, itemsOf, sFor, asgT, asgTs, mLc, mLc2, freeAll, wipeR, restR, keepDat, lcFin, mMt, lApp, lExt, mSl, opSl, mYes, keyOf_int, keyOf_str, opIsa, PyData.plain, PyData.isInt, PyData.isBool, PyData.isTuple, PyData.isList, PyData.isStr]
    · unfold l_stream_fault_1
      simp [fnSem, outsOf, outs_dat, outs_nil, argIn, sSeq, sIf, sAsgN, sAsgT, sSetIx, sStore, isDicS, sSetD, mDNew, mRg1, mRg2, rgRet, mItEn, mItZ, mIdx, sRet, sRetN, sNext, sExpr, sAug, sPar, sPar3, sNo, mNo, mTst, mTru, mNotT, mAndT, mOrT, mNotV, mAndV, mOrV, mIfE, mOp1, mOp2, mOps, mCons, mNil, mCst, mName, mMove, mBor, toB, mArg, mTup, mLst, mCallK, callB, argSls, argSl, argS, noTw, isSl, pick, putGo, newS, lookSl, reown, opnd1, opnd2, opnds, res, ress, valsOf, truth, Slot.data?, cmpRet, Ret.toD, Ret.slot, Slot.free?, Slot.own?, Out.andThen, Out.thenS, opAdd, opSub, opMul, opDiv, opMod, opNeg, opIx, retOf, L2.atI, L2.ixN, cGt, cLt, cLe, cGe, bInt, bAbs, bLen, bMax, bMin, bTuple, bList, mLenG, mIxG, mSlG, mPart, mItR1, mItR2, mItV, itemsOf, sFor, asgT, asgTs, mLc, mLc2, freeAll, wipeR, restR, keepDat, lcFin, mMt, lApp, lExt, mSl, opSl, mYes, keyOf_int, keyOf_str, opIsa, PyData.plain, PyData.isInt, PyData.isBool, PyData.isTuple, PyData.isList, PyData.isStr, h]) [.dat (encK ks), .dat (.tuple (s.map encE)), .un, .un] ⟨.un, .un, frS_un, frS_un, rfl⟩
  rw [s_stream_fault_eq]
  unfold b_stream_fault c_stream_fault_1 c_stream_fault_2 c_stream_fault_3
  have hp := plain_map s fun e _ => plain_encE e
  simp [fnSem, outsOf, outs_dat, outs_nil, argIn, sSeq, sIf, sAsgN, sAsgT, sSetIx, sStore, isDicS, sSetD, mDNew, mRg1, mRg2, rgRet, mItEn, mItZ, mIdx, sRet, sRetN, sNext, sExpr, sAug, sPar, sPar3, sNo, mNo, mTst, mTru, mNotT, mAndT, mOrT, mNotV, mAndV, mOrV, mIfE, mOp1, mOp2, mOps, mCons, mNil, mCst, mName, mMove, mBor, toB, mArg, mTup, mLst, mCallK, callB, argSls, argSl, argS, noTw, isSl, pick, putGo, newS, lookSl, reown, opnd1, opnd2, opnds, res, ress, valsOf, truth, Slot.data?, cmpRet, Ret.toD, Ret.slot, Slot.free?, Slot.own?, Out.andThen, Out.thenS, opAdd, opSub, opMul, opDiv, opMod, opNeg, opIx, retOf, L2.atI, L2.ixN, cGt, cLt, cLe, cGe, bInt, bAbs, bLen, bMax, bMin, bTuple, bList, mLenG, mIxG, mSlG, mPart, mItR1, mItR2, mItV, itemsOf, sFor, asgT, asgTs, mLc, mLc2, freeAll, wipeR, restR, keepDat, lcFin, mMt, lApp, lExt, mSl, opSl, mYes, keyOf_int, keyOf_str, opIsa, PyData.plain, PyData.isInt, PyData.isBool, PyData.isTuple, PyData.isList, PyData.isStr, hp, h1]
theorem check_stream_ok (ks : List Nat) (k2 : ks.length ≤ 2) (k3 : ∀ k ∈ ks, k ≤ 2) (s : List Evt) (hs : ∀ e ∈ s, okE ks e) : s_check_stream [.dat (encK ks), .dat (.tuple (s.map encE))] = .ret (.val .none) [.un, .un] := by
  have h := stream_ok ks k2 k3 s hs
  rw [s_check_stream_eq]
  unfold b_check_stream c_check_stream_1 c_check_stream_2
  simp [fnSem, outsOf, outs_dat, outs_nil, argIn, sSeq, sIf, sAsgN, sAsgT, sSetIx, sStore, isDicS, sSetD, mDNew, mRg1, mRg2, rgRet, mItEn, mItZ, mIdx, sRet, sRetN, sNext, sExpr, sAug, sPar, sPar3, sNo, mNo, mTst, mTru, mNotT, mAndT, mOrT, mNotV, mAndV, mOrV, mIfE, mOp1, mOp2, mOps, mCons, mNil, mCst, mName, mMove, mBor, toB, mArg, mTup, mLst, mCallK, callB, argSls, argSl, argS, noTw, isSl, pick, putGo, newS, lookSl, reown, opnd1, opnd2, opnds, res, ress, valsOf, truth, Slot.data?, cmpRet, Ret.toD, Ret.slot, Slot.free?, Slot.own?, Out.andThen, Out.thenS, opAdd, opSub, opMul, opDiv, opMod, opNeg, opIx, retOf, L2.atI, L2.ixN, cGt, cLt, cLe, cGe, bInt, bAbs, bLen, bMax, bMin, bTuple, bList, mLenG, mIxG, mSlG, mPart, mItR1, mItR2, mItV, itemsOf, sFor, asgT, asgTs, mLc, mLc2, freeAll, wipeR, restR, keepDat, lcFin, mMt, lApp, lExt, mSl, opSl, mYes, keyOf_int, keyOf_str, opIsa, PyData.plain, PyData.isInt, PyData.isBool, PyData.isTuple, PyData.isList, PyData.isStr, h, cNotNone, cIsNone]
end Law
open PySem PySem.Spec PyProof.Rows L2 Ev
namespace Law
theorem plain_encT (t : Thing) : (encT t).plain = true := by cases t <;> rfl
theorem plain_encO (o : Option Nat) : (encO o).plain = true := by cases o <;> rfl
theorem plain_encR : ∀ t : Tree, (encR t).plain = true
  | .go c ts => by
    have h := plain_map ts fun t _ => plain_encT t
    simp [encR, PyData.plain, PyData.plainAll, h]
  | .iff a b t u => by
    have h1 := plain_encR t
    have h2 := plain_encR u
    have h3 := plain_encT a
    have h4 := plain_encT b
    simp [encR, PyData.plain, PyData.plainAll, h1, h2, h3, h4]
theorem told_ok (R : Nat) (a : Nat × List (Option Nat)) (h : a.2.length ≤ 2 ∧ ∀ o ∈ a.2, okO R o) : s_is_told [.dat (.int (R : Int)), .dat (encA a)] = .ret (.val (.bool true)) [.un, .un] := by
  obtain ⟨m, os⟩ := a
  have px := plain_map os fun o _ => plain_encO o
  have t1 := is_tuple_yes 2 [.int (m : Int), .tuple (os.map encO)] (by simp [PyData.plainAll, PyData.plain, px]) rfl
  have t2 := is_mark_int (m : Int) (by omega)
  have q := lcLoop_true (own := [2]) (tg := .nm 2) (te := mOrV (mOp2 (cmpRet cIsNone) (mBor 2) (toB (mCst .none))) (mCallK s_is_below [0, 1] 2 0 (mCons (toB (mName 0)) (mCons (toB (mName 2)) mNil)) mNil)) (e := encO) (ρ := [.dat (.int (R : Int)), .dat (encA (m, os)), .un]) os (fun o ho => by
    have h2 := h.2 o ho
    refine ⟨[.dat (.int (R : Int)), .dat (encA (m, os)), .dat (encO o)], [.dat (.int (R : Int)), .dat (encA (m, os)), .dat (encO o)], by simp [fnSem, outsOf, outs_dat, outs_nil, argIn, sSeq, sIf, sAsgN, sAsgT, sSetIx, sStore, isDicS, sSetD, mDNew, mRg1, mRg2, rgRet, mItEn, mItZ, mIdx, sRet, sRetN, sNext, sExpr, sAug, sPar, sPar3, sNo, mNo, mTst, mTru, mNotT, mAndT, mOrT, mNotV, mAndV, mOrV, mIfE, mOp1, mOp2, mOps, mCons, mNil, mCst, mName, mMove, mBor, toB, mArg, mTup, mLst, mCallK, callB, argSls, argSl, argS, noTw, isSl, pick, putGo, newS, lookSl, reown, opnd1, opnd2, opnds, res, ress, valsOf, truth, Slot.data?, cmpRet, Ret.toD, Ret.slot, Slot.free?, Slot.own?, Out.andThen, Out.thenS, opAdd, opSub, opMul, opDiv, opMod, opNeg, opIx, retOf, L2.atI, L2.ixN, cGt, cLt, cLe, cGe, bInt, bAbs, bLen, bMax, bMin, bTuple, bList, mLenG, mIxG, mSlG, mPart, mItR1, mItR2, mItV, itemsOf, sFor, asgT, asgTs, mLc, mLc2, freeAll, wipeR, restR, keepDat, lcFin, mMt, lApp, lExt, mSl, opSl, mYes, keyOf_int, keyOf_str, opIsa, PyData.plain, PyData.isInt, PyData.isBool, PyData.isTuple, PyData.isList, PyData.isStr], ?_, by simp [fnSem, outsOf, outs_dat, outs_nil, argIn, sSeq, sIf, sAsgN, sAsgT, sSetIx, sStore, isDicS, sSetD, mDNew, mRg1, mRg2, rgRet, mItEn, mItZ, mIdx, sRet, sRetN, sNext, sExpr, sAug, sPar, sPar3, sNo, mNo, mTst, mTru, mNotT, mAndT, mOrT, mNotV, mAndV, mOrV, mIfE, mOp1, mOp2, mOps, mCons, mNil, mCst, mName, mMove, mBor, toB, mArg, mTup, mLst, mCallK, callB, argSls, argSl, argS, noTw, isSl, pick, putGo, newS, lookSl, reown, opnd1, opnd2, opnds, res, ress, valsOf, truth, Slot.data?, cmpRet, Ret.toD, Ret.slot, Slot.free?, Slot.own?, Out.andThen, Out.thenS, opAdd, opSub, opMul, opDiv, opMod, opNeg, opIx, retOf, L2.atI, L2.ixN, cGt, cLt, cLe, cGe, bInt, bAbs, bLen, bMax, bMin, bTuple, bList, mLenG, mIxG, mSlG, mPart, mItR1, mItR2, mItV, itemsOf, sFor, asgT, asgTs, mLc, mLc2, freeAll, wipeR, restR, keepDat, lcFin, mMt, lApp, lExt, mSl, opSl, mYes, keyOf_int, keyOf_str, opIsa, PyData.plain, PyData.isInt, PyData.isBool, PyData.isTuple, PyData.isList, PyData.isStr], by simp [fnSem, outsOf, outs_dat, outs_nil, argIn, sSeq, sIf, sAsgN, sAsgT, sSetIx, sStore, isDicS, sSetD, mDNew, mRg1, mRg2, rgRet, mItEn, mItZ, mIdx, sRet, sRetN, sNext, sExpr, sAug, sPar, sPar3, sNo, mNo, mTst, mTru, mNotT, mAndT, mOrT, mNotV, mAndV, mOrV, mIfE, mOp1, mOp2, mOps, mCons, mNil, mCst, mName, mMove, mBor, toB, mArg, mTup, mLst, mCallK, callB, argSls, argSl, argS, noTw, isSl, pick, putGo, newS, lookSl, reown, opnd1, opnd2, opnds, res, ress, valsOf, truth, Slot.data?, cmpRet, Ret.toD, Ret.slot, Slot.free?, Slot.own?, Out.andThen, Out.thenS, opAdd, opSub, opMul, opDiv, opMod, opNeg, opIx, retOf, L2.atI, L2.ixN, cGt, cLt, cLe, cGe, bInt, bAbs, bLen, bMax, bMin, bTuple, bList, mLenG, mIxG, mSlG, mPart, mItR1, mItR2, mItV, itemsOf, sFor, asgT, asgTs, mLc, mLc2, freeAll, wipeR, restR, keepDat, lcFin, mMt, lApp, lExt, mSl, opSl, mYes, keyOf_int, keyOf_str, opIsa, PyData.plain, PyData.isInt, PyData.isBool, PyData.isTuple, PyData.isList, PyData.isStr]⟩
    cases o with
    | none => simp [fnSem, outsOf, outs_dat, outs_nil, argIn, sSeq, sIf, sAsgN, sAsgT, sSetIx, sStore, isDicS, sSetD, mDNew, mRg1, mRg2, rgRet, mItEn, mItZ, mIdx, sRet, sRetN, sNext, sExpr, sAug, sPar, sPar3, sNo, mNo, mTst, mTru, mNotT, mAndT, mOrT, mNotV, mAndV, mOrV, mIfE, mOp1, mOp2, mOps, mCons, mNil, mCst, mName, mMove, mBor, toB, mArg, mTup, mLst, mCallK, callB, argSls, argSl, argS, noTw, isSl, pick, putGo, newS, lookSl, reown, opnd1, opnd2, opnds, res, ress, valsOf, truth, Slot.data?, cmpRet, Ret.toD, Ret.slot, Slot.free?, Slot.own?, Out.andThen, Out.thenS, opAdd, opSub, opMul, opDiv, opMod, opNeg, opIx, retOf, L2.atI, L2.ixN, cGt, cLt, cLe, cGe, bInt, bAbs, bLen, bMax, bMin, bTuple, bList, mLenG, mIxG, mSlG, mPart, mItR1, mItR2, mItV, itemsOf, sFor, asgT, asgTs, mLc, mLc2, freeAll, wipeR, restR, keepDat, lcFin, mMt, lApp, lExt, mSl, opSl, mYes, keyOf_int, keyOf_str, opIsa, PyData.plain, PyData.isInt, PyData.isBool, PyData.isTuple, PyData.isList, PyData.isStr, encO, cIsNone]
    | some i =>
      have h3 := is_below_int (R : Int) (i : Int) (by omega) (by have : i < R := h2; omega)
      simp [fnSem, outsOf, outs_dat, outs_nil, argIn, sSeq, sIf, sAsgN, sAsgT, sSetIx, sStore, isDicS, sSetD, mDNew, mRg1, mRg2, rgRet, mItEn, mItZ, mIdx, sRet, sRetN, sNext, sExpr, sAug, sPar, sPar3, sNo, mNo, mTst, mTru, mNotT, mAndT, mOrT, mNotV, mAndV, mOrV, mIfE, mOp1, mOp2, mOps, mCons, mNil, mCst, mName, mMove, mBor, toB, mArg, mTup, mLst, mCallK, callB, argSls, argSl, argS, noTw, isSl, pick, putGo, newS, lookSl, reown, opnd1, opnd2, opnds, res, ress, valsOf, truth, Slot.data?, cmpRet, Ret.toD, Ret.slot, Slot.free?, Slot.own?, Out.andThen, Out.thenS, opAdd, opSub, opMul, opDiv, opMod, opNeg, opIx, retOf, L2.atI, L2.ixN, cGt, cLt, cLe, cGe, bInt, bAbs, bLen, bMax, bMin, bTuple, bList, mLenG, mIxG, mSlG, mPart, mItR1, mItR2, mItV, itemsOf, sFor, asgT, asgTs, mLc, mLc2, freeAll, wipeR, restR, keepDat, lcFin, mMt, lApp, lExt, mSl, opSl, mYes, keyOf_int, keyOf_str, opIsa, PyData.plain, PyData.isInt, PyData.isBool, PyData.isTuple, PyData.isList, PyData.isStr, encO, cIsNone, h3]) (by have := h.1; simp at this; omega)
  have b := bAll_true os
  rw [s_is_told_eq]
  unfold b_is_told c_is_told_1 c_is_told_2
  unfold encA natD at q ⊢
  simp only [] at q ⊢
  simp [fnSem, outsOf, outs_dat, outs_nil, argIn, sSeq, sIf, sAsgN, sAsgT, sSetIx, sStore, isDicS, sSetD, mDNew, mRg1, mRg2, rgRet, mItEn, mItZ, mIdx, sRet, sRetN, sNext, sExpr, sAug, sPar, sPar3, sNo, mNo, mTst, mTru, mNotT, mAndT, mOrT, mNotV, mAndV, mOrV, mIfE, mOp1, mOp2, mOps, mCons, mNil, mCst, mName, mMove, mBor, toB, mArg, mTup, mLst, mCallK, callB, argSls, argSl, argS, noTw, isSl, pick, putGo, newS, lookSl, reown, opnd1, opnd2, opnds, res, ress, valsOf, truth, Slot.data?, cmpRet, Ret.toD, Ret.slot, Slot.free?, Slot.own?, Out.andThen, Out.thenS, opAdd, opSub, opMul, opDiv, opMod, opNeg, opIx, retOf, L2.atI, L2.ixN, cGt, cLt, cLe, cGe, bInt, bAbs, bLen, bMax, bMin, bTuple, bList, mLenG, mIxG, mSlG, mPart, mItR1, mItR2, mItV, itemsOf, sFor, asgT, asgTs, mLc, mLc2, freeAll, wipeR, restR, keepDat, lcFin, mMt, lApp, lExt, mSl, opSl, mYes, keyOf_int, keyOf_str, opIsa, PyData.plain, PyData.isInt, PyData.isBool, PyData.isTuple, PyData.isList, PyData.isStr, t1, t2, px, q, b]
theorem str_ne {a b : Str} (h : ¬ a = b) : decide (a = b) = false := decide_eq_false h
theorem thing_ok (R C : Nat) (t : Thing) (h : okT R C t) : s_is_thing [.dat (.int (R : Int)), .dat (.int (C : Int)), .dat (encT t)] = .ret (.val (.bool true)) [.un, .un, .un] := by
  rw [s_is_thing_eq]
  unfold b_is_thing c_is_thing_1 c_is_thing_2 c_is_thing_3 c_is_thing_4
  have e1 : cEq (.str "nobody") (.str "nobody") = some true := by rw [cEq_str]; rfl
  have e2 : cEq (.str "register") (.str "register") = some true := by rw [cEq_str]; rfl
  have e3 : cEq (.str "id") (.str "register") = some false := by rw [cEq_str]; rfl
  have e4 : cEq (.str "id") (.str "id") = some true := by rw [cEq_str]; rfl
  cases t with
  | no =>
    have t1 := is_tuple_yes 1 [.str "nobody"] rfl rfl
    simp [fnSem, outsOf, outs_dat, outs_nil, argIn, sSeq, sIf, sAsgN, sAsgT, sSetIx, sStore, isDicS, sSetD, mDNew, mRg1, mRg2, rgRet, mItEn, mItZ, mIdx, sRet, sRetN, sNext, sExpr, sAug, sPar, sPar3, sNo, mNo, mTst, mTru, mNotT, mAndT, mOrT, mNotV, mAndV, mOrV, mIfE, mOp1, mOp2, mOps, mCons, mNil, mCst, mName, mMove, mBor, toB, mArg, mTup, mLst, mCallK, callB, argSls, argSl, argS, noTw, isSl, pick, putGo, newS, lookSl, reown, opnd1, opnd2, opnds, res, ress, valsOf, truth, Slot.data?, cmpRet, Ret.toD, Ret.slot, Slot.free?, Slot.own?, Out.andThen, Out.thenS, opAdd, opSub, opMul, opDiv, opMod, opNeg, opIx, retOf, L2.atI, L2.ixN, cGt, cLt, cLe, cGe, bInt, bAbs, bLen, bMax, bMin, bTuple, bList, mLenG, mIxG, mSlG, mPart, mItR1, mItR2, mItV, itemsOf, sFor, asgT, asgTs, mLc, mLc2, freeAll, wipeR, restR, keepDat, lcFin, mMt, lApp, lExt, mSl, opSl, mYes, keyOf_int, keyOf_str, opIsa, PyData.plain, PyData.isInt, PyData.isBool, PyData.isTuple, PyData.isList, PyData.isStr, encT, t1, e1]
  | reg i =>
    have t1 := is_tuple_len 1 [.str "register", .int (i : Int)] rfl
    have t2 := is_tuple_len 2 [.str "register", .int (i : Int)] rfl
    have h3 := is_below_int (R : Int) (i : Int) (by omega) (by have : i < R := h; omega)
    simp at t1 t2
    simp [fnSem, outsOf, outs_dat, outs_nil, argIn, sSeq, sIf, sAsgN, sAsgT, sSetIx, sStore, isDicS, sSetD, mDNew, mRg1, mRg2, rgRet, mItEn, mItZ, mIdx, sRet, sRetN, sNext, sExpr, sAug, sPar, sPar3, sNo, mNo, mTst, mTru, mNotT, mAndT, mOrT, mNotV, mAndV, mOrV, mIfE, mOp1, mOp2, mOps, mCons, mNil, mCst, mName, mMove, mBor, toB, mArg, mTup, mLst, mCallK, callB, argSls, argSl, argS, noTw, isSl, pick, putGo, newS, lookSl, reown, opnd1, opnd2, opnds, res, ress, valsOf, truth, Slot.data?, cmpRet, Ret.toD, Ret.slot, Slot.free?, Slot.own?, Out.andThen, Out.thenS, opAdd, opSub, opMul, opDiv, opMod, opNeg, opIx, retOf, L2.atI, L2.ixN, cGt, cLt, cLe, cGe, bInt, bAbs, bLen, bMax, bMin, bTuple, bList, mLenG, mIxG, mSlG, mPart, mItR1, mItR2, mItV, itemsOf, sFor, asgT, asgTs, mLc, mLc2, freeAll, wipeR, restR, keepDat, lcFin, mMt, lApp, lExt, mSl, opSl, mYes, keyOf_int, keyOf_str, opIsa, PyData.plain, PyData.isInt, PyData.isBool, PyData.isTuple, PyData.isList, PyData.isStr, encT, t1, t2, e2, h3]
  | id i =>
    have t1 := is_tuple_len 1 [.str "id", .int (i : Int)] rfl
    have t2 := is_tuple_len 2 [.str "id", .int (i : Int)] rfl
    have h3 := is_below_int (C : Int) (i : Int) (by omega) (by have : i < C := h; omega)
    simp at t1 t2
    simp [fnSem, outsOf, outs_dat, outs_nil, argIn, sSeq, sIf, sAsgN, sAsgT, sSetIx, sStore, isDicS, sSetD, mDNew, mRg1, mRg2, rgRet, mItEn, mItZ, mIdx, sRet, sRetN, sNext, sExpr, sAug, sPar, sPar3, sNo, mNo, mTst, mTru, mNotT, mAndT, mOrT, mNotV, mAndV, mOrV, mIfE, mOp1, mOp2, mOps, mCons, mNil, mCst, mName, mMove, mBor, toB, mArg, mTup, mLst, mCallK, callB, argSls, argSl, argS, noTw, isSl, pick, putGo, newS, lookSl, reown, opnd1, opnd2, opnds, res, ress, valsOf, truth, Slot.data?, cmpRet, Ret.toD, Ret.slot, Slot.free?, Slot.own?, Out.andThen, Out.thenS, opAdd, opSub, opMul, opDiv, opMod, opNeg, opIx, retOf, L2.atI, L2.ixN, cGt, cLt, cLe, cGe, bInt, bAbs, bLen, bMax, bMin, bTuple, bList, mLenG, mIxG, mSlG, mPart, mItR1, mItR2, mItV, itemsOf, sFor, asgT, asgTs, mLc, mLc2, freeAll, wipeR, restR, keepDat, lcFin, mMt, lApp, lExt, mSl, opSl, mYes, keyOf_int, keyOf_str, opIsa, PyData.plain, PyData.isInt, PyData.isBool, PyData.isTuple, PyData.isList, PyData.isStr, encT, t1, t2, e3, e4, h3]
end Law
open PySem PySem.Spec PyProof.Rows L2 Ev
namespace Law
theorem tree_ok (N R C : Nat) (hR : R ≤ 1000) : ∀ (n : Nat) (t : Tree), t.ifs < n → okR N R C t → s_is_tree n [.dat (.int (N : Int)), .dat (.int (R : Int)), .dat (.int (C : Int)), .dat (encR t)] = .ret (.val (.bool true)) [.un, .un, .un, .un]
  | 0, _, h, _ => absurd h (by omega)
  | n + 1, .go c ts, _, h => by
    obtain ⟨h1, h2, h3⟩ := h
    have px := plain_map ts fun t _ => plain_encT t
    have e1 : cEq (.str "go") (.str "go") = some true := by rw [cEq_str]; rfl
    have t1 := is_tuple_yes 3 [.str "go", .int (c : Int), .tuple (ts.map encT)] (by simp [PyData.plainAll, PyData.plain, px]) rfl
    have t2 := is_below_int (N : Int) (c : Int) (by omega) (by omega)
    have t3 := is_tuple_yes (R : Int) (ts.map encT) px (by rw [List.length_map, h2])
    have q := lcLoop_true (own := [4]) (tg := .nm 4) (te := mCallK s_is_thing [0, 1, 2] 3 0 (mCons (toB (mName 1)) (mCons (toB (mName 2)) (mCons (toB (mName 4)) mNil))) mNil) (e := encT) (ρ := [.dat (.int (N : Int)), .dat (.int (R : Int)), .dat (.int (C : Int)), .dat (.tuple [.str "go", .int (c : Int), .tuple (ts.map encT)]), .un]) ts (fun t ht => by
      have h4 := thing_ok R C t (h3 t ht)
      exact ⟨[.dat (.int (N : Int)), .dat (.int (R : Int)), .dat (.int (C : Int)), .dat (.tuple [.str "go", .int (c : Int), .tuple (ts.map encT)]), .dat (encT t)], [.dat (.int (N : Int)), .dat (.int (R : Int)), .dat (.int (C : Int)), .dat (.tuple [.str "go", .int (c : Int), .tuple (ts.map encT)]), .dat (encT t)], by simp [fnSem, outsOf, outs_dat, outs_nil, argIn, sSeq, sIf, sAsgN, sAsgT, sSetIx, sStore, isDicS, sSetD, mDNew, mRg1, mRg2, rgRet, mItEn, mItZ, mIdx, sRet, sRetN, sNext, sExpr, sAug, sPar, sPar3, sNo, mNo, mTst, mTru, mNotT, mAndT, mOrT, mNotV, mAndV, mOrV, mIfE, mOp1, mOp2, mOps, mCons, mNil, mCst, mName, mMove, mBor, toB, mArg, mTup, mLst, mCallK, callB, argSls, argSl, argS, noTw, isSl, pick, putGo, newS, lookSl, reown, opnd1, opnd2, opnds, res, ress, valsOf, truth, Slot.data?, cmpRet, Ret.toD, Ret.slot, Slot.free?, Slot.own?, Out.andThen, Out.thenS, opAdd, opSub, opMul, opDiv, opMod, opNeg, opIx, retOf, L2.atI, L2.ixN, cGt, cLt, cLe, cGe, bInt, bAbs, bLen, bMax, bMin, bTuple, bList, mLenG, mIxG, mSlG, mPart, mItR1, mItR2, mItV, itemsOf, sFor, asgT, asgTs, mLc, mLc2, freeAll, wipeR, restR, keepDat, lcFin, mMt, lApp, lExt, mSl, opSl, mYes, keyOf_int, keyOf_str, opIsa, PyData.plain, PyData.isInt, PyData.isBool, PyData.isTuple, PyData.isList, PyData.isStr], by simp [fnSem, outsOf, outs_dat, outs_nil, argIn, sSeq, sIf, sAsgN, sAsgT, sSetIx, sStore, isDicS, sSetD, mDNew, mRg1, mRg2, rgRet, mItEn, mItZ, mIdx, sRet, sRetN, sNext, sExpr, sAug, sPar, sPar3, sNo, mNo, mTst, mTru, mNotT, mAndT, mOrT, mNotV, mAndV, mOrV, mIfE, mOp1, mOp2, mOps, mCons, mNil, mCst, mName, mMove, mBor, toB, mArg, mTup, mLst, mCallK, callB, argSls, argSl, argS, noTw, isSl, pick, putGo, newS, lookSl, reown, opnd1, opnd2, opnds, res, ress, valsOf, truth, Slot.data?, cmpRet, Ret.toD, Ret.slot, Slot.free?, Slot.own?, Out.andThen, Out.thenS, opAdd, opSub, opMul, opDiv, opMod, opNeg, opIx, retOf, L2.atI, L2.ixN, cGt, cLt, cLe, cGe, bInt, bAbs, bLen, bMax, bMin, bTuple, bList, mLenG, mIxG, mSlG, mPart, mItR1, mItR2, mItV, itemsOf, sFor, asgT, asgTs, mLc, mLc2, freeAll, wipeR, restR, keepDat, lcFin, mMt, lApp, lExt, mSl, opSl, mYes, keyOf_int, keyOf_str, opIsa, PyData.plain, PyData.isInt, PyData.isBool, PyData.isTuple, PyData.isList, PyData.isStr, h4], by simp [fnSem, outsOf, outs_dat, outs_nil, argIn, sSeq, sIf, sAsgN, sAsgT, sSetIx, sStore, isDicS, sSetD, mDNew, mRg1, mRg2, rgRet, mItEn, mItZ, mIdx, sRet, sRetN, sNext, sExpr, sAug, sPar, sPar3, sNo, mNo, mTst, mTru, mNotT, mAndT, mOrT, mNotV, mAndV, mOrV, mIfE, mOp1, mOp2, mOps, mCons, mNil, mCst, mName, mMove, mBor, toB, mArg, mTup, mLst, mCallK, callB, argSls, argSl, argS, noTw, isSl, pick, putGo, newS, lookSl, reown, opnd1, opnd2, opnds, res, ress, valsOf, truth, Slot.data?, cmpRet, Ret.toD, Ret.slot, Slot.free?, Slot.own?, Out.andThen, Out.thenS, opAdd, opSub, opMul, opDiv, opMod, opNeg, opIx, retOf, L2.atI, L2.ixN, cGt, cLt, cLe, cGe, bInt, bAbs, bLen, bMax, bMin, bTuple, bList, mLenG, mIxG, mSlG, mPart, mItR1, mItR2, mItV, itemsOf, sFor, asgT, asgTs, mLc, mLc2, freeAll, wipeR, restR, keepDat, lcFin, mMt, lApp, lExt, mSl, opSl, mYes, keyOf_int, keyOf_str, opIsa, PyData.plain, PyData.isInt, PyData.isBool, PyData.isTuple, PyData.isList, PyData.isStr], by simp [fnSem, outsOf, outs_dat, outs_nil, argIn, sSeq, sIf, sAsgN, sAsgT, sSetIx, sStore, isDicS, sSetD, mDNew, mRg1, mRg2, rgRet, mItEn, mItZ, mIdx, sRet, sRetN, sNext, sExpr, sAug, sPar, sPar3, sNo, mNo, mTst, mTru, mNotT, mAndT, mOrT, mNotV, mAndV, mOrV, mIfE, mOp1, mOp2, mOps, mCons, mNil, mCst, mName, mMove, mBor, toB, mArg, mTup, mLst, mCallK, callB, argSls, argSl, argS, noTw, isSl, pick, putGo, newS, lookSl, reown, opnd1, opnd2, opnds, res, ress, valsOf, truth, Slot.data?, cmpRet, Ret.toD, Ret.slot, Slot.free?, Slot.own?, Out.andThen, Out.thenS, opAdd, opSub, opMul, opDiv, opMod, opNeg, opIx, retOf, L2.atI, L2.ixN, cGt, cLt, cLe, cGe, bInt, bAbs, bLen, bMax, bMin, bTuple, bList, mLenG, mIxG, mSlG, mPart, mItR1, mItR2, mItV, itemsOf, sFor, asgT, asgTs, mLc, mLc2, freeAll, wipeR, restR, keepDat, lcFin, mMt, lApp, lExt, mSl, opSl, mYes, keyOf_int, keyOf_str, opIsa, PyData.plain, PyData.isInt, PyData.isBool, PyData.isTuple, PyData.isList, PyData.isStr]⟩) (by omega)
    have b := bAll_true ts
    rw [s_is_tree_eq]
    unfold b_is_tree c_is_tree_1
    simp [fnSem, outsOf, outs_dat, outs_nil, argIn, sSeq, sIf, sAsgN, sAsgT, sSetIx, sStore, isDicS, sSetD, mDNew, mRg1, mRg2, rgRet, mItEn, mItZ, mIdx, sRet, sRetN, sNext, sExpr, sAug, sPar, sPar3, sNo, mNo, mTst, mTru, mNotT, mAndT, mOrT, mNotV, mAndV, mOrV, mIfE, mOp1, mOp2, mOps, mCons, mNil, mCst, mName, mMove, mBor, toB, mArg, mTup, mLst, mCallK, callB, argSls, argSl, argS, noTw, isSl, pick, putGo, newS, lookSl, reown, opnd1, opnd2, opnds, res, ress, valsOf, truth, Slot.data?, cmpRet, Ret.toD, Ret.slot, Slot.free?, Slot.own?, Out.andThen, Out.thenS, opAdd, opSub, opMul, opDiv, opMod, opNeg, opIx, retOf, L2.atI, L2.ixN, cGt, cLt, cLe, cGe, bInt, bAbs, bLen, bMax, bMin, bTuple, bList, mLenG, mIxG, mSlG, mPart, mItR1, mItR2, mItV, itemsOf, sFor, asgT, asgTs, mLc, mLc2, freeAll, wipeR, restR, keepDat, lcFin, mMt, lApp, lExt, mSl, opSl, mYes, keyOf_int, keyOf_str, opIsa, PyData.plain, PyData.isInt, PyData.isBool, PyData.isTuple, PyData.isList, PyData.isStr, encR, t1, e1, t2, t3, q, b]
  | n + 1, .iff a b t u, hi, h => by
    obtain ⟨h1, h2, h3, h4⟩ := h
    simp only [Tree.ifs] at hi
    have r1 := tree_ok N R C hR n t (by omega) h3
    have r2 := tree_ok N R C hR n u (by omega) h4
    have pa := plain_encT a
    have pb := plain_encT b
    have pt := plain_encR t
    have pu := plain_encR u
    have pl : PyData.plainAll [.str "if", encT a, encT b, encR t, encR u] = true := by simp [PyData.plainAll, PyData.plain, pa, pb, pt, pu]
    have t1 := is_tuple_len 3 [.str "if", encT a, encT b, encR t, encR u] pl
    have t2 := is_tuple_yes 5 [.str "if", encT a, encT b, encR t, encR u] pl rfl
    have e1 : cNe (.str "if") (.str "if") = some false := by rw [cNe_str]; rfl
    have g1 := thing_ok R C a h1
    have g2 := thing_ok R C b h2
    have cu : Ev.cutD [.str "if", encT a, encT b, encR t, encR u] (some 3) none = [encR t, encR u] := rfl
    have q := lcLoop_true (own := [4]) (tg := .nm 4) (te := mCallK (s_is_tree n) [0, 1, 2, 3] 4 0 (mCons (toB (mName 0)) (mCons (toB (mName 1)) (mCons (toB (mName 2)) (mCons (toB (mName 4)) mNil)))) mNil) (e := encR) (ρ := [.dat (.int (N : Int)), .dat (.int (R : Int)), .dat (.int (C : Int)), .dat (.tuple [.str "if", encT a, encT b, encR t, encR u]), .un]) [t, u] (fun x hx => by
      have h5 : s_is_tree n [.dat (.int (N : Int)), .dat (.int (R : Int)), .dat (.int (C : Int)), .dat (encR x)] = .ret (.val (.bool true)) [.un, .un, .un, .un] := by
        simp only [List.mem_cons, List.not_mem_nil, or_false] at hx
        rcases hx with rfl | rfl
        · exact r1
        · exact r2
      exact ⟨[.dat (.int (N : Int)), .dat (.int (R : Int)), .dat (.int (C : Int)), .dat (.tuple [.str "if", encT a, encT b, encR t, encR u]), .dat (encR x)], [.dat (.int (N : Int)), .dat (.int (R : Int)), .dat (.int (C : Int)), .dat (.tuple [.str "if", encT a, encT b, encR t, encR u]), .dat (encR x)], by simp [fnSem, outsOf, outs_dat, outs_nil, argIn, sSeq, sIf, sAsgN, sAsgT, sSetIx, sStore, isDicS, sSetD, mDNew, mRg1, mRg2, rgRet, mItEn, mItZ, mIdx, sRet, sRetN, sNext, sExpr, sAug, sPar, sPar3, sNo, mNo, mTst, mTru, mNotT, mAndT, mOrT, mNotV, mAndV, mOrV, mIfE, mOp1, mOp2, mOps, mCons, mNil, mCst, mName, mMove, mBor, toB, mArg, mTup, mLst, mCallK, callB, argSls, argSl, argS, noTw, isSl, pick, putGo, newS, lookSl, reown, opnd1, opnd2, opnds, res, ress, valsOf, truth, Slot.data?, cmpRet, Ret.toD, Ret.slot, Slot.free?, Slot.own?, Out.andThen, Out.thenS, opAdd, opSub, opMul, opDiv, opMod, opNeg, opIx, retOf, L2.atI, L2.ixN, cGt, cLt, cLe, cGe, bInt, bAbs, bLen, bMax, bMin, bTuple, bList, mLenG, mIxG, mSlG, mPart, mItR1, mItR2, mItV, itemsOf, sFor, asgT, asgTs, mLc, mLc2, freeAll, wipeR, restR, keepDat, lcFin, mMt, lApp, lExt, mSl, opSl, mYes, keyOf_int, keyOf_str, opIsa, PyData.plain, PyData.isInt, PyData.isBool, PyData.isTuple, PyData.isList, PyData.isStr], by simp [fnSem, outsOf, outs_dat, outs_nil, argIn, sSeq, sIf, sAsgN, sAsgT, sSetIx, sStore, isDicS, sSetD, mDNew, mRg1, mRg2, rgRet, mItEn, mItZ, mIdx, sRet, sRetN, sNext, sExpr, sAug, sPar, sPar3, sNo, mNo, mTst, mTru, mNotT, mAndT, mOrT, mNotV, mAndV, mOrV, mIfE, mOp1, mOp2, mOps, mCons, mNil, mCst, mName, mMove, mBor, toB, mArg, mTup, mLst, mCallK, callB, argSls, argSl, argS, noTw, isSl, pick, putGo, newS, lookSl, reown, opnd1, opnd2, opnds, res, ress, valsOf, truth, Slot.data?, cmpRet, Ret.toD, Ret.slot, Slot.free?, Slot.own?, Out.andThen, Out.thenS, opAdd, opSub, opMul, opDiv, opMod, opNeg, opIx, retOf, L2.atI, L2.ixN, cGt, cLt, cLe, cGe, bInt, bAbs, bLen, bMax, bMin, bTuple, bList, mLenG, mIxG, mSlG, mPart, mItR1, mItR2, mItV, itemsOf, sFor, asgT, asgTs, mLc, mLc2, freeAll, wipeR, restR, keepDat, lcFin, mMt, lApp, lExt, mSl, opSl, mYes, keyOf_int, keyOf_str, opIsa, PyData.plain, PyData.isInt, PyData.isBool, PyData.isTuple, PyData.isList, PyData.isStr, h5], by simp [fnSem, outsOf, outs_dat, outs_nil, argIn, sSeq, sIf, sAsgN, sAsgT, sSetIx, sStore, isDicS, sSetD, mDNew, mRg1, mRg2, rgRet, mItEn, mItZ, mIdx, sRet, sRetN, sNext, sExpr, sAug, sPar, sPar3, sNo, mNo, mTst, mTru, mNotT, mAndT, mOrT, mNotV, mAndV, mOrV, mIfE, mOp1, mOp2, mOps, mCons, mNil, mCst, mName, mMove, mBor, toB, mArg, mTup, mLst, mCallK, callB, argSls, argSl, argS, noTw, isSl, pick, putGo, newS, lookSl, reown, opnd1, opnd2, opnds, res, ress, valsOf, truth, Slot.data?, cmpRet, Ret.toD, Ret.slot, Slot.free?, Slot.own?, Out.andThen, Out.thenS, opAdd, opSub, opMul, opDiv, opMod, opNeg, opIx, retOf, L2.atI, L2.ixN, cGt, cLt, cLe, cGe, bInt, bAbs, bLen, bMax, bMin, bTuple, bList, mLenG, mIxG, mSlG, mPart, mItR1, mItR2, mItV, itemsOf, sFor, asgT, asgTs, mLc, mLc2, freeAll, wipeR, restR, keepDat, lcFin, mMt, lApp, lExt, mSl, opSl, mYes, keyOf_int, keyOf_str, opIsa, PyData.plain, PyData.isInt, PyData.isBool, PyData.isTuple, PyData.isList, PyData.isStr], by simp [fnSem, outsOf, outs_dat, outs_nil, argIn, sSeq, sIf, sAsgN, sAsgT, sSetIx, sStore, isDicS, sSetD, mDNew, mRg1, mRg2, rgRet, mItEn, mItZ, mIdx, sRet, sRetN, sNext, sExpr, sAug, sPar, sPar3, sNo, mNo, mTst, mTru, mNotT, mAndT, mOrT, mNotV, mAndV, mOrV, mIfE, mOp1, mOp2, mOps, mCons, mNil, mCst, mName, mMove, mBor, toB, mArg, mTup, mLst, mCallK, callB, argSls, argSl, argS, noTw, isSl, pick, putGo, newS, lookSl, reown, opnd1, opnd2, opnds, res, ress, valsOf, truth, Slot.data?, cmpRet, Ret.toD, Ret.slot, Slot.free?, Slot.own?, Out.andThen, Out.thenS, opAdd, opSub, opMul, opDiv, opMod, opNeg, opIx, retOf, L2.atI, L2.ixN, cGt, cLt, cLe, cGe, bInt, bAbs, bLen, bMax, bMin, bTuple, bList, mLenG, mIxG, mSlG, mPart, mItR1, mItR2, mItV, itemsOf, sFor, asgT, asgTs, mLc, mLc2, freeAll, wipeR, restR, keepDat, lcFin, mMt, lApp, lExt, mSl, opSl, mYes, keyOf_int, keyOf_str, opIsa, PyData.plain, PyData.isInt, PyData.isBool, PyData.isTuple, PyData.isList, PyData.isStr]⟩) (by simp)
    have bb := bAll_true [t, u]
    simp only [List.map_cons, List.map_nil] at q bb
    simp at t1
    rw [s_is_tree_eq]
    unfold b_is_tree c_is_tree_1 c_is_tree_2 c_is_tree_3 c_is_tree_4
    simp [fnSem, outsOf, outs_dat, outs_nil, argIn, sSeq, sIf, sAsgN, sAsgT, sSetIx, sStore, isDicS, sSetD, mDNew, mRg1, mRg2, rgRet, mItEn, mItZ, mIdx, sRet, sRetN, sNext, sExpr, sAug, sPar, sPar3, sNo, mNo, mTst, mTru, mNotT, mAndT, mOrT, mNotV, mAndV, mOrV, mIfE, mOp1, mOp2, mOps, mCons, mNil, mCst, mName, mMove, mBor, toB, mArg, mTup, mLst, mCallK, callB, argSls, argSl, argS, noTw, isSl, pick, putGo, newS, lookSl, reown, opnd1, opnd2, opnds, res, ress, valsOf, truth, Slot.data?, cmpRet, Ret.toD, Ret.slot, Slot.free?, Slot.own?, Out.andThen, Out.thenS, opAdd, opSub, opMul, opDiv, opMod, opNeg, opIx, retOf, L2.atI, L2.ixN, cGt, cLt, cLe, cGe, bInt, bAbs, bLen, bMax, bMin, bTuple, bList, mLenG, mIxG, mSlG, mPart, mItR1, mItR2, mItV, itemsOf, sFor, asgT, asgTs, mLc, mLc2, freeAll, wipeR, restR, keepDat, lcFin, mMt, lApp, lExt, mSl, opSl, mYes, keyOf_int, keyOf_str, opIsa, PyData.plain, PyData.isInt, PyData.isBool, PyData.isTuple, PyData.isList, PyData.isStr, encR, t1, t2, e1, g1, g2, cu, q, bb]
end Law
open PySem PySem.Spec PyProof.Rows L2 Ev
namespace Law
theorem plain_encRow (row : List Tree) : (encRow row).plain = true := by
  have h := plain_map row fun t _ => plain_encR t
  simp [encRow, PyData.plain, h]
theorem row_ok (ks : List Nat) (R : Nat) (hR : R ≤ 1000) (rl : List (List Tree)) (row : List Tree) (h : okRow rl.length R ks row) (d3 : D) (s5 s6 : Ev.Slot) (q5 : frS s5) (q6 : frS s6) :
    ∃ s5' s6', frS s5' ∧ frS s6' ∧ l_trees_fault_2 [.dat (encK ks), .dat (natD R), .dat (.tuple (rl.map encRow)), .dat d3, .dat (.tuple (row.map encR)), s5, s6] = .nx [.dat (encK ks), .dat (natD R), .dat (.tuple (rl.map encRow)), .dat d3, .dat (.tuple (row.map encR)), s5', s6'] := by
  obtain ⟨hl, h⟩ := h
  obtain ⟨ρ', h1, s5', s6', g5, g6, rfl⟩ := forLoop_en (tg := .tp [.nm 5, .nm 6]) (body := l_trees_fault_1) natD (fun ρ => ∃ s5 s6, frS s5 ∧ frS s6 ∧ ρ = [.dat (encK ks), .dat (natD R), .dat (.tuple (rl.map encRow)), .dat d3, .dat (.tuple (row.map encR)), s5, s6]) ks 0 (by
    rintro i c ρ hi ⟨s5, s6, q5, q6, rfl⟩
    have hi2 : i < row.length := by rw [hl]; exact (List.getElem?_eq_some_iff.mp hi).1
    have ht := h i c row[i] hi (List.getElem?_eq_getElem hi2)
    have h2 := tree_ok rl.length R c hR 12 row[i] (by omega) ht.1
    refine ⟨[.dat (encK ks), .dat (natD R), .dat (.tuple (rl.map encRow)), .dat d3, .dat (.tuple (row.map encR)), .dat (.int ((0 + i : Nat) : Int)), .dat (natD c)], [.dat (encK ks), .dat (natD R), .dat (.tuple (rl.map encRow)), .dat d3, .dat (.tuple (row.map encR)), .dat (.int ((0 + i : Nat) : Int)), .dat (natD c)], ?_, ?_, _, _, frS_dat, frS_dat, rfl⟩
    · rcases q5 with rfl | ⟨d, rfl⟩ <;> rcases q6 with rfl | ⟨d', rfl⟩ <;> simp [fnSem, outsOf, outs_dat, outs_nil, argIn, sSeq, sIf, sAsgN, sAsgT, sSetIx, sStore, isDicS, sSetD, mDNew, mRg1, mRg2, rgRet, mItEn, mItZ, mIdx, sRet, sRetN, sNext, sExpr, sAug, sPar, sPar3, sNo, mNo, mTst, mTru, mNotT, mAndT, mOrT, mNotV, mAndV, mOrV, mIfE, mOp1, mOp2, mOps, mCons, mNil, mCst, mName, mMove, mBor, toB, mArg, mTup, mLst, mCallK, callB, argSls, argSl, argS, noTw, isSl, pick, putGo, newS, lookSl, reown, opnd1, opnd2, opnds, res, ress, valsOf, truth, Slot.data?, cmpRet, Ret.toD, Ret.slot, Slot.free?, Slot.own?, Out.andThen, Out.thenS, opAdd, opSub, opMul, opDiv, opMod, opNeg, opIx, retOf, L2.atI, L2.ixN, cGt, cLt, cLe, cGe, bInt, bAbs, bLen, bMax, bMin, bTuple, bList, mLenG, mIxG, mSlG, mPart, mItR1, mItR2, mItV, itemsOf, sFor, asgT, asgTs, mLc, mLc2, freeAll, wipeR, restR, keepDat, lcFin, mMt, lApp, lExt, mSl, opSl, mYes, keyOf_int, keyOf_str, opIsa, PyData.plain, PyData.isInt, PyData.isBool, PyData.isTuple, PyData.isList, PyData.isStr]
    · rw [Nat.zero_add]
      have e1 : natD c = .int (c : Int) := rfl
      have e2 : natD R = .int (R : Int) := rfl
      rw [e1, e2]
      unfold l_trees_fault_1
      simp [fnSem, outsOf, outs_dat, outs_nil, argIn, sSeq, sIf, sAsgN, sAsgT, sSetIx, sStore, isDicS, sSetD, mDNew, mRg1, mRg2, rgRet, mItEn, mItZ, mIdx, sRet, sRetN, sNext, sExpr, sAug, sPar, sPar3, sNo, mNo, mTst, mTru, mNotT, mAndT, mOrT, mNotV, mAndV, mOrV, mIfE, mOp1, mOp2, mOps, mCons, mNil, mCst, mName, mMove, mBor, toB, mArg, mTup, mLst, mCallK, callB, argSls, argSl, argS, noTw, isSl, pick, putGo, newS, lookSl, reown, opnd1, opnd2, opnds, res, ress, valsOf, truth, Slot.data?, cmpRet, Ret.toD, Ret.slot, Slot.free?, Slot.own?, Out.andThen, Out.thenS, opAdd, opSub, opMul, opDiv, opMod, opNeg, opIx, retOf, L2.atI, L2.ixN, cGt, cLt, cLe, cGe, bInt, bAbs, bLen, bMax, bMin, bTuple, bList, mLenG, mIxG, mSlG, mPart, mItR1, mItR2, mItV, itemsOf, sFor, asgT, asgTs, mLc, mLc2, freeAll, wipeR, restR, keepDat, lcFin, mMt, lApp, lExt, mSl, opSl, mYes, keyOf_int, keyOf_str, opIsa, PyData.plain, PyData.isInt, PyData.isBool, PyData.isTuple, PyData.isList, PyData.isStr, hi2, h2]) [.dat (encK ks), .dat (natD R), .dat (.tuple (rl.map encRow)), .dat d3, .dat (.tuple (row.map encR)), s5, s6] ⟨s5, s6, q5, q6, rfl⟩
  refine ⟨s5', s6', g5, g6, ?_⟩
  have pr := plain_map row fun t _ => plain_encR t
  have t1 := is_tuple_yes (ks.length : Int) (row.map encR) pr (by rw [List.length_map, hl])
  unfold l_trees_fault_2
  unfold encK at h1 ⊢
  rcases q5 with rfl | ⟨d, rfl⟩ <;> rcases q6 with rfl | ⟨d', rfl⟩ <;> simp [fnSem, outsOf, outs_dat, outs_nil, argIn, sSeq, sIf, sAsgN, sAsgT, sSetIx, sStore, isDicS, sSetD, mDNew, mRg1, mRg2, rgRet, mItEn, mItZ, mIdx, sRet, sRetN, sNext, sExpr, sAug, sPar, sPar3, sNo, mNo, mTst, mTru, mNotT, mAndT, mOrT, mNotV, mAndV, mOrV, mIfE, mOp1, mOp2, mOps, mCons, mNil, mCst, mName, mMove, mBor, toB, mArg, mTup, mLst, mCallK, callB, argSls, argSl, argS, noTw, isSl, pick, putGo, newS, lookSl, reown, opnd1, opnd2, opnds, res, ress, valsOf, truth, Slot.data?, cmpRet, Ret.toD, Ret.slot, Slot.free?, Slot.own?, Out.andThen, Out.thenS, opAdd, opSub, opMul, opDiv, opMod, opNeg, opIx, retOf, L2.atI, L2.ixN, cGt, cLt, cLe, cGe, bInt, bAbs, bLen, bMax, bMin, bTuple, bList, mLenG, mIxG, mSlG, mPart, mItR1, mItR2, mItV, itemsOf, sFor, asgT, asgTs, mLc, mLc2, freeAll, wipeR, restR, keepDat, lcFin, mMt, lApp, lExt, mSl, opSl, mYes, keyOf_int, keyOf_str, opIsa, PyData.plain, PyData.isInt, PyData.isBool, PyData.isTuple, PyData.isList, PyData.isStr, t1, h1]
theorem trees_ok (p : Prog) (h : OkP p) : s_trees_fault [.dat (encK p.ks), .dat (natD p.R), .dat (.tuple (p.trees.map encRow))] = .ret (.val .none) [.un, .un, .un] := by
  obtain ⟨ρ', h1, s3, s4, s5, s6, g3, g4, g5, g6, rfl⟩ := forLoop_en (tg := .tp [.nm 3, .nm 4]) (body := l_trees_fault_2) encRow (fun ρ => ∃ s3 s4 s5 s6, frS s3 ∧ frS s4 ∧ frS s5 ∧ frS s6 ∧ ρ = [.dat (encK p.ks), .dat (natD p.R), .dat (.tuple (p.trees.map encRow)), s3, s4, s5, s6]) p.trees 0 (by
    rintro i row ρ hi ⟨s3, s4, s5, s6, q3, q4, q5, q6, rfl⟩
    obtain ⟨s5', s6', g5, g6, e⟩ := row_ok p.ks p.R (by have := h.r; omega) p.trees row (h.row row (List.mem_of_getElem? hi)) (.int ((0 + i : Nat) : Int)) s5 s6 q5 q6
    refine ⟨[.dat (encK p.ks), .dat (natD p.R), .dat (.tuple (p.trees.map encRow)), .dat (.int ((0 + i : Nat) : Int)), .dat (encRow row), s5, s6], _, ?_, e, _, _, _, _, frS_dat, frS_dat, g5, g6, rfl⟩
    rcases q3 with rfl | ⟨d, rfl⟩ <;> rcases q4 with rfl | ⟨d', rfl⟩ <;> simp [fnSem, outsOf, outs_dat, outs_nil, argIn, sSeq, sIf, sAsgN, sAsgT, sSetIx, sStore, isDicS, sSetD, mDNew, mRg1, mRg2, rgRet, mItEn, mItZ, mIdx, sRet, sRetN, sNext, sExpr, sAug, sPar, sPar3, sNo, mNo, mTst, mTru, mNotT, mAndT, mOrT, mNotV, mAndV, mOrV, mIfE, mOp1, mOp2, mOps, mCons, mNil, mCst, mName, mMove, mBor, toB, mArg, mTup, mLst, mCallK, callB, argSls, argSl, argS, noTw, isSl, pick, putGo, newS, lookSl, reown, opnd1, opnd2, opnds, res, ress, valsOf, truth, Slot.data?, cmpRet, Ret.toD, Ret.slot, Slot.free?, Slot.own?, Out.andThen, Out.thenS, opAdd, opSub, opMul, opDiv, opMod, opNeg, opIx, retOf, L2.atI, L2.ixN, cGt, cLt, cLe, cGe, bInt, bAbs, bLen, bMax, bMin, bTuple, bList, mLenG, mIxG, mSlG, mPart, mItR1, mItR2, mItV, itemsOf, sFor, asgT, asgTs, mLc, mLc2, freeAll, wipeR, restR, keepDat, lcFin, mMt, lApp, lExt, mSl, opSl, mYes, keyOf_int, keyOf_str, opIsa, PyData.plain, PyData.isInt, PyData.isBool, PyData.isTuple, PyData.isList, PyData.isStr]) [.dat (encK p.ks), .dat (natD p.R), .dat (.tuple (p.trees.map encRow)), .un, .un, .un, .un] ⟨.un, .un, .un, .un, frS_un, frS_un, frS_un, frS_un, rfl⟩
  have pr := plain_map p.trees fun t _ => plain_encRow t
  have ne : cEq (.tuple (p.trees.map encRow)) (.tuple []) = some false := by
    unfold cEq
    rw [if_pos ⟨by simp [PyData.plain, pr], rfl, by unfold depthLe; simp [PyData.depth, PyData.depthAll]⟩, eqv_tup]
    have := h.n1
    cases ht : p.trees with
    | nil => rw [ht] at this; simp at this
    | cons a b => simp [PyData.eqvAll]
  rw [s_trees_fault_eq]
  unfold b_trees_fault c_trees_fault_1 c_trees_fault_2 c_trees_fault_3
  simp [fnSem, outsOf, outs_dat, outs_nil, argIn, sSeq, sIf, sAsgN, sAsgT, sSetIx, sStore, isDicS, sSetD, mDNew, mRg1, mRg2, rgRet, mItEn, mItZ, mIdx, sRet, sRetN, sNext, sExpr, sAug, sPar, sPar3, sNo, mNo, mTst, mTru, mNotT, mAndT, mOrT, mNotV, mAndV, mOrV, mIfE, mOp1, mOp2, mOps, mCons, mNil, mCst, mName, mMove, mBor, toB, mArg, mTup, mLst, mCallK, callB, argSls, argSl, argS, noTw, isSl, pick, putGo, newS, lookSl, reown, opnd1, opnd2, opnds, res, ress, valsOf, truth, Slot.data?, cmpRet, Ret.toD, Ret.slot, Slot.free?, Slot.own?, Out.andThen, Out.thenS, opAdd, opSub, opMul, opDiv, opMod, opNeg, opIx, retOf, L2.atI, L2.ixN, cGt, cLt, cLe, cGe, bInt, bAbs, bLen, bMax, bMin, bTuple, bList, mLenG, mIxG, mSlG, mPart, mItR1, mItR2, mItV, itemsOf, sFor, asgT, asgTs, mLc, mLc2, freeAll, wipeR, restR, keepDat, lcFin, mMt, lApp, lExt, mSl, opSl, mYes, keyOf_int, keyOf_str, opIsa, PyData.plain, PyData.isInt, PyData.isBool, PyData.isTuple, PyData.isList, PyData.isStr, pr, ne, h1]
end Law
open PySem PySem.Spec PyProof.Rows L2 Ev
namespace Law
theorem plain_encA (a : Nat × List (Option Nat)) : (encA a).plain = true := by
  have h := plain_map a.2 fun o _ => plain_encO o
  simp [encA, natD, PyData.plain, PyData.plainAll, h]
theorem encP_eq (p : Prog) : encP p = .tuple [encK p.ks, .int (p.R : Int), .tuple (p.trees.map encRow), .tuple (p.answers.map encA)] := rfl
theorem plain_encK (ks : List Nat) : (encK ks).plain = true := by
  have h := plain_nat ks
  simp [encK, PyData.plain, h]
theorem program_ok (p : Prog) (h : OkP p) : s_program_fault [.dat (encP p)] = .ret (.val .none) [.un] := by
  rw [encP_eq]
  obtain ⟨ρ', h1, s6, s7, g6, g7, rfl⟩ := forLoop_en (tg := .tp [.nm 6, .nm 7]) (body := l_program_fault_1) encA (fun ρ => ∃ s6 s7, frS s6 ∧ frS s7 ∧ ρ = [.dat (.tuple [encK p.ks, .int (p.R : Int), .tuple (p.trees.map encRow), .tuple (p.answers.map encA)]), .dat (encK p.ks), .dat (.int (p.R : Int)), .dat (.tuple (p.trees.map encRow)), .dat (.tuple (p.answers.map encA)), .dat .none, s6, s7]) p.answers 0 (by
    rintro i a ρ hi ⟨s6, s7, q6, q7, rfl⟩
    have h2 := told_ok p.R a (h.ans a (List.mem_of_getElem? hi))
    refine ⟨[.dat (.tuple [encK p.ks, .int (p.R : Int), .tuple (p.trees.map encRow), .tuple (p.answers.map encA)]), .dat (encK p.ks), .dat (.int (p.R : Int)), .dat (.tuple (p.trees.map encRow)), .dat (.tuple (p.answers.map encA)), .dat .none, .dat (.int ((0 + i : Nat) : Int)), .dat (encA a)], [.dat (.tuple [encK p.ks, .int (p.R : Int), .tuple (p.trees.map encRow), .tuple (p.answers.map encA)]), .dat (encK p.ks), .dat (.int (p.R : Int)), .dat (.tuple (p.trees.map encRow)), .dat (.tuple (p.answers.map encA)), .dat .none, .dat (.int ((0 + i : Nat) : Int)), .dat (encA a)], ?_, ?_, _, _, frS_dat, frS_dat, rfl⟩
    · rcases q6 with rfl | ⟨d, rfl⟩ <;> rcases q7 with rfl | ⟨d', rfl⟩ <;> simp [fnSem, outsOf, outs_dat, outs_nil, argIn, sSeq, sIf, sAsgN, sAsgT, sSetIx, sStore, isDicS, sSetD, mDNew, mRg1, mRg2, rgRet, mItEn, mItZ, mIdx, sRet, sRetN, sNext, sExpr, sAug, sPar, sPar3, sNo, mNo, mTst, mTru, mNotT, mAndT, mOrT, mNotV, mAndV, mOrV, mIfE, mOp1, mOp2, mOps, mCons, mNil, mCst, mName, mMove, mBor, toB, mArg, mTup, mLst, mCallK, callB, argSls, argSl, argS, noTw, isSl, pick, putGo, newS, lookSl, reown, opnd1, opnd2, opnds, res, ress, valsOf, truth, Slot.data?, cmpRet, Ret.toD, Ret.slot, Slot.free?, Slot.own?, Out.andThen, Out.thenS, opAdd, opSub, opMul, opDiv, opMod, opNeg, opIx, retOf, L2.atI, L2.ixN, cGt, cLt, cLe, cGe, bInt, bAbs, bLen, bMax, bMin, bTuple, bList, mLenG, mIxG, mSlG, mPart, mItR1, mItR2, mItV, itemsOf, sFor, asgT, asgTs, mLc, mLc2, freeAll, wipeR, restR, keepDat, lcFin, mMt, lApp, lExt, mSl, opSl, mYes, keyOf_int, keyOf_str, opIsa, PyData.plain, PyData.isInt, PyData.isBool, PyData.isTuple, PyData.isList, PyData.isStr]
    · unfold l_program_fault_1
      simp [fnSem, outsOf, outs_dat, outs_nil, argIn, sSeq, sIf, sAsgN, sAsgT, sSetIx, sStore, isDicS, sSetD, mDNew, mRg1, mRg2, rgRet, mItEn, mItZ, mIdx, sRet, sRetN, sNext, sExpr, sAug, sPar, sPar3, sNo, mNo, mTst, mTru, mNotT, mAndT, mOrT, mNotV, mAndV, mOrV, mIfE, mOp1, mOp2, mOps, mCons, mNil, mCst, mName, mMove, mBor, toB, mArg, mTup, mLst, mCallK, callB, argSls, argSl, argS, noTw, isSl, pick, putGo, newS, lookSl, reown, opnd1, opnd2, opnds, res, ress, valsOf, truth, Slot.data?, cmpRet, Ret.toD, Ret.slot, Slot.free?, Slot.own?, Out.andThen, Out.thenS, opAdd, opSub, opMul, opDiv, opMod, opNeg, opIx, retOf, L2.atI, L2.ixN, cGt, cLt, cLe, cGe, bInt, bAbs, bLen, bMax, bMin, bTuple, bList, mLenG, mIxG, mSlG, mPart, mItR1, mItR2, mItV, itemsOf, sFor, asgT, asgTs, mLc, mLc2, freeAll, wipeR, restR, keepDat, lcFin, mMt, lApp, lExt, mSl, opSl, mYes, keyOf_int, keyOf_str, opIsa, PyData.plain, PyData.isInt, PyData.isBool, PyData.isTuple, PyData.isList, PyData.isStr, h2]) [.dat (.tuple [encK p.ks, .int (p.R : Int), .tuple (p.trees.map encRow), .tuple (p.answers.map encA)]), .dat (encK p.ks), .dat (.int (p.R : Int)), .dat (.tuple (p.trees.map encRow)), .dat (.tuple (p.answers.map encA)), .dat .none, .un, .un] ⟨.un, .un, frS_un, frS_un, rfl⟩
  have pa := plain_map p.answers fun a _ => plain_encA a
  have pt := plain_map p.trees fun a _ => plain_encRow a
  have pk := plain_encK p.ks
  have t1 := is_tuple_yes 4 [encK p.ks, .int (p.R : Int), .tuple (p.trees.map encRow), .tuple (p.answers.map encA)] (by simp [PyData.plainAll, PyData.plain, pa, pt, pk]) rfl
  have t2 := is_kinds_ok p.ks h.k1 h.k2 h.k3
  have t3 := is_from_int 0 (p.R : Int)
  rw [decide_eq_true (by omega)] at t3
  have t4 := trees_ok p h
  unfold natD at t4
  have t5 := is_tuple_yes (p.trees.length : Int) (p.answers.map encA) pa (by rw [List.length_map, h.al])
  rw [s_program_fault_eq]
  unfold b_program_fault c_program_fault_1 c_program_fault_2 c_program_fault_3 c_program_fault_4 c_program_fault_5 c_program_fault_6 c_program_fault_7 c_program_fault_8 c_program_fault_9
  simp [fnSem, outsOf, outs_dat, outs_nil, argIn, sSeq, sIf, sAsgN, sAsgT, sSetIx, sStore, isDicS, sSetD, mDNew, mRg1, mRg2, rgRet, mItEn, mItZ, mIdx, sRet, sRetN, sNext, sExpr, sAug, sPar, sPar3, sNo, mNo, mTst, mTru, mNotT, mAndT, mOrT, mNotV, mAndV, mOrV, mIfE, mOp1, mOp2, mOps, mCons, mNil, mCst, mName, mMove, mBor, toB, mArg, mTup, mLst, mCallK, callB, argSls, argSl, argS, noTw, isSl, pick, putGo, newS, lookSl, reown, opnd1, opnd2, opnds, res, ress, valsOf, truth, Slot.data?, cmpRet, Ret.toD, Ret.slot, Slot.free?, Slot.own?, Out.andThen, Out.thenS, opAdd, opSub, opMul, opDiv, opMod, opNeg, opIx, retOf, L2.atI, L2.ixN, cGt, cLt, cLe, cGe, bInt, bAbs, bLen, bMax, bMin, bTuple, bList, mLenG, mIxG, mSlG, mPart, mItR1, mItR2, mItV, itemsOf, sFor, asgT, asgTs, mLc, mLc2, freeAll, wipeR, restR, keepDat, lcFin, mMt, lApp, lExt, mSl, opSl, mYes, keyOf_int, keyOf_str, opIsa, PyData.plain, PyData.isInt, PyData.isBool, PyData.isTuple, PyData.isList, PyData.isStr, t1, t2, t3, t4, t5, cNotNone, cIsNone, h1]
theorem check_program_ok (p : Prog) (h : OkP p) : s_check_program [.dat (encP p)] = .ret (.val .none) [.un] := by
  have h1 := program_ok p h
  rw [s_check_program_eq]
  unfold b_check_program c_check_program_1 c_check_program_2
  simp [fnSem, outsOf, outs_dat, outs_nil, argIn, sSeq, sIf, sAsgN, sAsgT, sSetIx, sStore, isDicS, sSetD, mDNew, mRg1, mRg2, rgRet, mItEn, mItZ, mIdx, sRet, sRetN, sNext, sExpr, sAug, sPar, sPar3, sNo, mNo, mTst, mTru, mNotT, mAndT, mOrT, mNotV, mAndV, mOrV, mIfE, mOp1, mOp2, mOps, mCons, mNil, mCst, mName, mMove, mBor, toB, mArg, mTup, mLst, mCallK, callB, argSls, argSl, argS, noTw, isSl, pick, putGo, newS, lookSl, reown, opnd1, opnd2, opnds, res, ress, valsOf, truth, Slot.data?, cmpRet, Ret.toD, Ret.slot, Slot.free?, Slot.own?, Out.andThen, Out.thenS, opAdd, opSub, opMul, opDiv, opMod, opNeg, opIx, retOf, L2.atI, L2.ixN, cGt, cLt, cLe, cGe, bInt, bAbs, bLen, bMax, bMin, bTuple, bList, mLenG, mIxG, mSlG, mPart, mItR1, mItR2, mItV, itemsOf, sFor, asgT, asgTs, mLc, mLc2, freeAll, wipeR, restR, keepDat, lcFin, mMt, lApp, lExt, mSl, opSl, mYes, keyOf_int, keyOf_str, opIsa, PyData.plain, PyData.isInt, PyData.isBool, PyData.isTuple, PyData.isList, PyData.isStr, h1, cNotNone, cIsNone]
/-! ### going along -/
def encH (h : List (Option Int)) : List D := h.map fun
  | none => PyData.none
  | some i => .int i
def encI : Option Int → D
  | none => .none
  | some i => .int i
def thingI (held : List (Option Int)) (ids : List Int) : Thing → Option Int
  | .reg i => (held[i]?).join
  | .id i => ids[i]?
  | .no => none
theorem id_of_ok (held : List (Option Int)) (ids : List Int) (t : Thing) (h : okT held.length ids.length t) : s_id_of [.dat (encT t), .dat (.tuple (held.map encI)), .dat (.tuple (ids.map PyData.int))] = .ret (.val (encI (thingI held ids t))) [.un, .un, .un] := by
  have e1 : cEq (.str "nobody") (.str "register") = some false := by rw [cEq_str]; rfl
  have e2 : cEq (.str "register") (.str "register") = some true := by rw [cEq_str]; rfl
  have e3 : cEq (.str "id") (.str "register") = some false := by rw [cEq_str]; rfl
  have e4 : cEq (.str "id") (.str "id") = some true := by rw [cEq_str]; rfl
  have e5 : cEq (.str "nobody") (.str "id") = some false := by rw [cEq_str]; rfl
  rw [s_id_of_eq]
  unfold b_id_of c_id_of_1 c_id_of_2
  cases t with
  | no => simp [fnSem, outsOf, outs_dat, outs_nil, argIn, sSeq, sIf, sAsgN, sAsgT, sSetIx, sStore, isDicS, sSetD, mDNew, mRg1, mRg2, rgRet, mItEn, mItZ, mIdx, sRet, sRetN, sNext, sExpr, sAug, sPar, sPar3, sNo, mNo, mTst, mTru, mNotT, mAndT, mOrT, mNotV, mAndV, mOrV, mIfE, mOp1, mOp2, mOps, mCons, mNil, mCst, mName, mMove, mBor, toB, mArg, mTup, mLst, mCallK, callB, argSls, argSl, argS, noTw, isSl, pick, putGo, newS, lookSl, reown, opnd1, opnd2, opnds, res, ress, valsOf, truth, Slot.data?, cmpRet, Ret.toD, Ret.slot, Slot.free?, Slot.own?, Out.andThen, Out.thenS, opAdd, opSub, opMul, opDiv, opMod, opNeg, opIx, retOf, L2.atI, L2.ixN, cGt, cLt, cLe, cGe, bInt, bAbs, bLen, bMax, bMin, bTuple, bList, mLenG, mIxG, mSlG, mPart, mItR1, mItR2, mItV, itemsOf, sFor, asgT, asgTs, mLc, mLc2, freeAll, wipeR, restR, keepDat, lcFin, mMt, lApp, lExt, mSl, opSl, mYes, keyOf_int, keyOf_str, opIsa, PyData.plain, PyData.isInt, PyData.isBool, PyData.isTuple, PyData.isList, PyData.isStr, encT, e1, e5, thingI, encI]
  | reg i =>
    have hi : i < held.length := h
    simp [fnSem, outsOf, outs_dat, outs_nil, argIn, sSeq, sIf, sAsgN, sAsgT, sSetIx, sStore, isDicS, sSetD, mDNew, mRg1, mRg2, rgRet, mItEn, mItZ, mIdx, sRet, sRetN, sNext, sExpr, sAug, sPar, sPar3, sNo, mNo, mTst, mTru, mNotT, mAndT, mOrT, mNotV, mAndV, mOrV, mIfE, mOp1, mOp2, mOps, mCons, mNil, mCst, mName, mMove, mBor, toB, mArg, mTup, mLst, mCallK, callB, argSls, argSl, argS, noTw, isSl, pick, putGo, newS, lookSl, reown, opnd1, opnd2, opnds, res, ress, valsOf, truth, Slot.data?, cmpRet, Ret.toD, Ret.slot, Slot.free?, Slot.own?, Out.andThen, Out.thenS, opAdd, opSub, opMul, opDiv, opMod, opNeg, opIx, retOf, L2.atI, L2.ixN, cGt, cLt, cLe, cGe, bInt, bAbs, bLen, bMax, bMin, bTuple, bList, mLenG, mIxG, mSlG, mPart, mItR1, mItR2, mItV, itemsOf, sFor, asgT, asgTs, mLc, mLc2, freeAll, wipeR, restR, keepDat, lcFin, mMt, lApp, lExt, mSl, opSl, mYes, keyOf_int, keyOf_str, opIsa, PyData.plain, PyData.isInt, PyData.isBool, PyData.isTuple, PyData.isList, PyData.isStr, encT, e2, hi, thingI]
  | id i =>
    have hi : i < ids.length := h
    simp [fnSem, outsOf, outs_dat, outs_nil, argIn, sSeq, sIf, sAsgN, sAsgT, sSetIx, sStore, isDicS, sSetD, mDNew, mRg1, mRg2, rgRet, mItEn, mItZ, mIdx, sRet, sRetN, sNext, sExpr, sAug, sPar, sPar3, sNo, mNo, mTst, mTru, mNotT, mAndT, mOrT, mNotV, mAndV, mOrV, mIfE, mOp1, mOp2, mOps, mCons, mNil, mCst, mName, mMove, mBor, toB, mArg, mTup, mLst, mCallK, callB, argSls, argSl, argS, noTw, isSl, pick, putGo, newS, lookSl, reown, opnd1, opnd2, opnds, res, ress, valsOf, truth, Slot.data?, cmpRet, Ret.toD, Ret.slot, Slot.free?, Slot.own?, Out.andThen, Out.thenS, opAdd, opSub, opMul, opDiv, opMod, opNeg, opIx, retOf, L2.atI, L2.ixN, cGt, cLt, cLe, cGe, bInt, bAbs, bLen, bMax, bMin, bTuple, bList, mLenG, mIxG, mSlG, mPart, mItR1, mItR2, mItV, itemsOf, sFor, asgT, asgTs, mLc, mLc2, freeAll, wipeR, restR, keepDat, lcFin, mMt, lApp, lExt, mSl, opSl, mYes, keyOf_int, keyOf_str, opIsa, PyData.plain, PyData.isInt, PyData.isBool, PyData.isTuple, PyData.isList, PyData.isStr, encT, e3, e4, hi, thingI, encI]
theorem thing_id_ok (held : List (Option Int)) (ids : List Int) (t : Thing) (h : okT held.length ids.length t) : s__law_thing_id [.dat (encT t), .dat (.tuple (held.map encI)), .dat (.tuple (ids.map PyData.int))] = .ret (.val (encI (thingI held ids t))) [.un, .un, .un] := by
  have e1 : cEq (.str "nobody") (.str "register") = some false := by rw [cEq_str]; rfl
  have e2 : cEq (.str "register") (.str "register") = some true := by rw [cEq_str]; rfl
  have e3 : cEq (.str "id") (.str "register") = some false := by rw [cEq_str]; rfl
  have e4 : cEq (.str "id") (.str "id") = some true := by rw [cEq_str]; rfl
  have e5 : cEq (.str "nobody") (.str "id") = some false := by rw [cEq_str]; rfl
  rw [s__law_thing_id_eq]
  unfold b__law_thing_id c__law_thing_id_1 c__law_thing_id_2 c__law_thing_id_3
  cases t with
  | no => simp [fnSem, outsOf, outs_dat, outs_nil, argIn, sSeq, sIf, sAsgN, sAsgT, sSetIx, sStore, isDicS, sSetD, mDNew, mRg1, mRg2, rgRet, mItEn, mItZ, mIdx, sRet, sRetN, sNext, sExpr, sAug, sPar, sPar3, sNo, mNo, mTst, mTru, mNotT, mAndT, mOrT, mNotV, mAndV, mOrV, mIfE, mOp1, mOp2, mOps, mCons, mNil, mCst, mName, mMove, mBor, toB, mArg, mTup, mLst, mCallK, callB, argSls, argSl, argS, noTw, isSl, pick, putGo, newS, lookSl, reown, opnd1, opnd2, opnds, res, ress, valsOf, truth, Slot.data?, cmpRet, Ret.toD, Ret.slot, Slot.free?, Slot.own?, Out.andThen, Out.thenS, opAdd, opSub, opMul, opDiv, opMod, opNeg, opIx, retOf, L2.atI, L2.ixN, cGt, cLt, cLe, cGe, bInt, bAbs, bLen, bMax, bMin, bTuple, bList, mLenG, mIxG, mSlG, mPart, mItR1, mItR2, mItV, itemsOf, sFor, asgT, asgTs, mLc, mLc2, freeAll, wipeR, restR, keepDat, lcFin, mMt, lApp, lExt, mSl, opSl, mYes, keyOf_int, keyOf_str, opIsa, PyData.plain, PyData.isInt, PyData.isBool, PyData.isTuple, PyData.isList, PyData.isStr, encT, e1, e5, thingI, encI]
  | reg i =>
    have hi : i < held.length := h
    simp [fnSem, outsOf, outs_dat, outs_nil, argIn, sSeq, sIf, sAsgN, sAsgT, sSetIx, sStore, isDicS, sSetD, mDNew, mRg1, mRg2, rgRet, mItEn, mItZ, mIdx, sRet, sRetN, sNext, sExpr, sAug, sPar, sPar3, sNo, mNo, mTst, mTru, mNotT, mAndT, mOrT, mNotV, mAndV, mOrV, mIfE, mOp1, mOp2, mOps, mCons, mNil, mCst, mName, mMove, mBor, toB, mArg, mTup, mLst, mCallK, callB, argSls, argSl, argS, noTw, isSl, pick, putGo, newS, lookSl, reown, opnd1, opnd2, opnds, res, ress, valsOf, truth, Slot.data?, cmpRet, Ret.toD, Ret.slot, Slot.free?, Slot.own?, Out.andThen, Out.thenS, opAdd, opSub, opMul, opDiv, opMod, opNeg, opIx, retOf, L2.atI, L2.ixN, cGt, cLt, cLe, cGe, bInt, bAbs, bLen, bMax, bMin, bTuple, bList, mLenG, mIxG, mSlG, mPart, mItR1, mItR2, mItV, itemsOf, sFor, asgT, asgTs, mLc, mLc2, freeAll, wipeR, restR, keepDat, lcFin, mMt, lApp, lExt, mSl, opSl, mYes, keyOf_int, keyOf_str, opIsa, PyData.plain, PyData.isInt, PyData.isBool, PyData.isTuple, PyData.isList, PyData.isStr, encT, e2, hi, thingI]
  | id i =>
    have hi : i < ids.length := h
    simp [fnSem, outsOf, outs_dat, outs_nil, argIn, sSeq, sIf, sAsgN, sAsgT, sSetIx, sStore, isDicS, sSetD, mDNew, mRg1, mRg2, rgRet, mItEn, mItZ, mIdx, sRet, sRetN, sNext, sExpr, sAug, sPar, sPar3, sNo, mNo, mTst, mTru, mNotT, mAndT, mOrT, mNotV, mAndV, mOrV, mIfE, mOp1, mOp2, mOps, mCons, mNil, mCst, mName, mMove, mBor, toB, mArg, mTup, mLst, mCallK, callB, argSls, argSl, argS, noTw, isSl, pick, putGo, newS, lookSl, reown, opnd1, opnd2, opnds, res, ress, valsOf, truth, Slot.data?, cmpRet, Ret.toD, Ret.slot, Slot.free?, Slot.own?, Out.andThen, Out.thenS, opAdd, opSub, opMul, opDiv, opMod, opNeg, opIx, retOf, L2.atI, L2.ixN, cGt, cLt, cLe, cGe, bInt, bAbs, bLen, bMax, bMin, bTuple, bList, mLenG, mIxG, mSlG, mPart, mItR1, mItR2, mItV, itemsOf, sFor, asgT, asgTs, mLc, mLc2, freeAll, wipeR, restR, keepDat, lcFin, mMt, lApp, lExt, mSl, opSl, mYes, keyOf_int, keyOf_str, opIsa, PyData.plain, PyData.isInt, PyData.isBool, PyData.isTuple, PyData.isList, PyData.isStr, encT, e3, e4, hi, thingI, encI]
end Law
open PySem PySem.Spec PyProof.Rows L2 Ev
namespace Law
theorem plain_encI (o : Option Int) : (encI o).plain = true := by cases o <;> rfl
theorem cEq_encI (a b : Option Int) : cEq (encI a) (encI b) = some (decide (a = b)) := by
  cases a with
  | none =>
    cases b with
    | none => rfl
    | some j =>
      unfold cEq
      rw [if_pos ⟨rfl, rfl, by unfold depthLe encI; simp [PyData.depth]⟩]
      simp [encI, PyData.eqv]
  | some i =>
    cases b with
    | none =>
      unfold cEq
      rw [if_pos ⟨rfl, rfl, by unfold depthLe encI; simp [PyData.depth]⟩]
      simp [encI, PyData.eqv]
    | some j =>
      have := cEq_int i j
      unfold encI
      rw [this]
      simp
def leaf (held : List (Option Int)) (ids : List Int) : Tree → Nat × List Thing
  | .go c ts => (c, ts)
  | .iff a b t u => if thingI held ids a ≠ none ∧ thingI held ids a = thingI held ids b then leaf held ids t else leaf held ids u
theorem leaf_ok {N : Nat} {held : List (Option Int)} {ids : List Int} : ∀ {t : Tree}, okR N held.length ids.length t → (leaf held ids t).1 < N ∧ (leaf held ids t).2.length = held.length ∧ ∀ x ∈ (leaf held ids t).2, okT held.length ids.length x
  | .go c ts, h => h
  | .iff a b t u, h => by
    unfold leaf
    split
    · exact leaf_ok h.2.2.1
    · exact leaf_ok h.2.2.2
def ifT : M Bool := mTst (mOp2 (cmpRet cEq) (toB (mOp2 opIx (mBor 0) (toB (mCst (.int 0))))) (toB (mCst (.str "if"))))
theorem go_if : cEq (.str "go") (.str "if") = some false := by rw [cEq_str]; rfl
theorem if_if : cEq (.str "if") (.str "if") = some true := by rw [cEq_str]; rfl
theorem led_turn (held : List (Option Int)) (ids : List Int) (a b : Thing) (t u : Tree) (ha : okT held.length ids.length a) (hb : okT held.length ids.length b) (s3 s4 : Ev.Slot) (q3 : frS s3) (q4 : frS s4) :
    ∃ s3' s4', frS s3' ∧ frS s4' ∧ l_led_by_1 [.dat (encR (.iff a b t u)), .dat (.tuple (held.map encI)), .dat (.tuple (ids.map PyData.int)), s3, s4, .un] =
      .nx [.dat (encR (if thingI held ids a ≠ none ∧ thingI held ids a = thingI held ids b then t else u)), .dat (.tuple (held.map encI)), .dat (.tuple (ids.map PyData.int)), s3', s4', .un] := by
  have e1 := id_of_ok held ids a ha
  have e2 := id_of_ok held ids b hb
  have e3 := cEq_encI (thingI held ids a) (thingI held ids b)
  unfold l_led_by_1
  cases hx : thingI held ids a with
  | none =>
    rw [hx] at e1 e3
    refine ⟨.dat .none, .dat (.bool false), frS_dat, frS_dat, ?_⟩
    rcases q3 with rfl | ⟨d, rfl⟩ <;> rcases q4 with rfl | ⟨d', rfl⟩ <;> simp [fnSem, outsOf, outs_dat, outs_nil, argIn, sSeq, sIf, sAsgN, sAsgT, sSetIx, sStore, isDicS, sSetD, mDNew, mRg1, mRg2, rgRet, mItEn, mItZ, mIdx, sRet, sRetN, sNext, sExpr, sAug, sPar, sPar3, sNo, mNo, mTst, mTru, mNotT, mAndT, mOrT, mNotV, mAndV, mOrV, mIfE, mOp1, mOp2, mOps, mCons, mNil, mCst, mName, mMove, mBor, toB, mArg, mTup, mLst, mCallK, callB, argSls, argSl, argS, noTw, isSl, pick, putGo, newS, lookSl, reown, opnd1, opnd2, opnds, res, ress, valsOf, truth, Slot.data?, cmpRet, Ret.toD, Ret.slot, Slot.free?, Slot.own?, Out.andThen, Out.thenS, opAdd, opSub, opMul, opDiv, opMod, opNeg, opIx, retOf, L2.atI, L2.ixN, cGt, cLt, cLe, cGe, bInt, bAbs, bLen, bMax, bMin, bTuple, bList, mLenG, mIxG, mSlG, mPart, mItR1, mItR2, mItV, itemsOf, sFor, asgT, asgTs, mLc, mLc2, freeAll, wipeR, restR, keepDat, lcFin, mMt, lApp, lExt, mSl, opSl, mYes, keyOf_int, keyOf_str, opIsa, PyData.plain, PyData.isInt, PyData.isBool, PyData.isTuple, PyData.isList, PyData.isStr, encR, e1, encI, cNotNone, cIsNone]
  | some i =>
    rw [hx] at e1 e3
    rw [show encI (some i) = PyData.int i from rfl] at e1 e3
    by_cases hy : (some i : Option Int) = thingI held ids b
    · rw [decide_eq_true hy] at e3
      refine ⟨.dat (.int i), .dat (.bool true), frS_dat, frS_dat, ?_⟩
      rw [if_pos ⟨by simp, hy⟩]
      rcases q3 with rfl | ⟨d, rfl⟩ <;> rcases q4 with rfl | ⟨d', rfl⟩ <;> simp [fnSem, outsOf, outs_dat, outs_nil, argIn, sSeq, sIf, sAsgN, sAsgT, sSetIx, sStore, isDicS, sSetD, mDNew, mRg1, mRg2, rgRet, mItEn, mItZ, mIdx, sRet, sRetN, sNext, sExpr, sAug, sPar, sPar3, sNo, mNo, mTst, mTru, mNotT, mAndT, mOrT, mNotV, mAndV, mOrV, mIfE, mOp1, mOp2, mOps, mCons, mNil, mCst, mName, mMove, mBor, toB, mArg, mTup, mLst, mCallK, callB, argSls, argSl, argS, noTw, isSl, pick, putGo, newS, lookSl, reown, opnd1, opnd2, opnds, res, ress, valsOf, truth, Slot.data?, cmpRet, Ret.toD, Ret.slot, Slot.free?, Slot.own?, Out.andThen, Out.thenS, opAdd, opSub, opMul, opDiv, opMod, opNeg, opIx, retOf, L2.atI, L2.ixN, cGt, cLt, cLe, cGe, bInt, bAbs, bLen, bMax, bMin, bTuple, bList, mLenG, mIxG, mSlG, mPart, mItR1, mItR2, mItV, itemsOf, sFor, asgT, asgTs, mLc, mLc2, freeAll, wipeR, restR, keepDat, lcFin, mMt, lApp, lExt, mSl, opSl, mYes, keyOf_int, keyOf_str, opIsa, PyData.plain, PyData.isInt, PyData.isBool, PyData.isTuple, PyData.isList, PyData.isStr, encR, e1, e2, e3, cNotNone, cIsNone]
    · rw [decide_eq_false hy] at e3
      refine ⟨.dat (.int i), .dat (.bool false), frS_dat, frS_dat, ?_⟩
      rw [if_neg (fun z => hy z.2)]
      rcases q3 with rfl | ⟨d, rfl⟩ <;> rcases q4 with rfl | ⟨d', rfl⟩ <;> simp [fnSem, outsOf, outs_dat, outs_nil, argIn, sSeq, sIf, sAsgN, sAsgT, sSetIx, sStore, isDicS, sSetD, mDNew, mRg1, mRg2, rgRet, mItEn, mItZ, mIdx, sRet, sRetN, sNext, sExpr, sAug, sPar, sPar3, sNo, mNo, mTst, mTru, mNotT, mAndT, mOrT, mNotV, mAndV, mOrV, mIfE, mOp1, mOp2, mOps, mCons, mNil, mCst, mName, mMove, mBor, toB, mArg, mTup, mLst, mCallK, callB, argSls, argSl, argS, noTw, isSl, pick, putGo, newS, lookSl, reown, opnd1, opnd2, opnds, res, ress, valsOf, truth, Slot.data?, cmpRet, Ret.toD, Ret.slot, Slot.free?, Slot.own?, Out.andThen, Out.thenS, opAdd, opSub, opMul, opDiv, opMod, opNeg, opIx, retOf, L2.atI, L2.ixN, cGt, cLt, cLe, cGe, bInt, bAbs, bLen, bMax, bMin, bTuple, bList, mLenG, mIxG, mSlG, mPart, mItR1, mItR2, mItV, itemsOf, sFor, asgT, asgTs, mLc, mLc2, freeAll, wipeR, restR, keepDat, lcFin, mMt, lApp, lExt, mSl, opSl, mYes, keyOf_int, keyOf_str, opIsa, PyData.plain, PyData.isInt, PyData.isBool, PyData.isTuple, PyData.isList, PyData.isStr, encR, e1, e2, e3, cNotNone, cIsNone]
theorem led_loop (N : Nat) (held : List (Option Int)) (ids : List Int) : ∀ (k : Nat) (t : Tree), okR N held.length ids.length t → t.ifs < k → ∀ (s3 s4 : Ev.Slot), frS s3 → frS s4 →
    ∃ s3' s4', frS s3' ∧ frS s4' ∧ whLoop ifT l_led_by_1 k [.dat (encR t), .dat (.tuple (held.map encI)), .dat (.tuple (ids.map PyData.int)), s3, s4, .un] =
      .nx [.dat (encR (.go (leaf held ids t).1 (leaf held ids t).2)), .dat (.tuple (held.map encI)), .dat (.tuple (ids.map PyData.int)), s3', s4', .un]
  | 0, t, _, h, _, _, _, _ => absurd h (by omega)
  | k + 1, .go c ts, h, _, s3, s4, q3, q4 => by
    refine ⟨s3, s4, q3, q4, ?_⟩
    unfold whLoop ifT leaf
    have := go_if
    rcases q3 with rfl | ⟨d, rfl⟩ <;> rcases q4 with rfl | ⟨d', rfl⟩ <;> simp [fnSem, outsOf, outs_dat, outs_nil, argIn, sSeq, sIf, sAsgN, sAsgT, sSetIx, sStore, isDicS, sSetD, mDNew, mRg1, mRg2, rgRet, mItEn, mItZ, mIdx, sRet, sRetN, sNext, sExpr, sAug, sPar, sPar3, sNo, mNo, mTst, mTru, mNotT, mAndT, mOrT, mNotV, mAndV, mOrV, mIfE, mOp1, mOp2, mOps, mCons, mNil, mCst, mName, mMove, mBor, toB, mArg, mTup, mLst, mCallK, callB, argSls, argSl, argS, noTw, isSl, pick, putGo, newS, lookSl, reown, opnd1, opnd2, opnds, res, ress, valsOf, truth, Slot.data?, cmpRet, Ret.toD, Ret.slot, Slot.free?, Slot.own?, Out.andThen, Out.thenS, opAdd, opSub, opMul, opDiv, opMod, opNeg, opIx, retOf, L2.atI, L2.ixN, cGt, cLt, cLe, cGe, bInt, bAbs, bLen, bMax, bMin, bTuple, bList, mLenG, mIxG, mSlG, mPart, mItR1, mItR2, mItV, itemsOf, sFor, asgT, asgTs, mLc, mLc2, freeAll, wipeR, restR, keepDat, lcFin, mMt, lApp, lExt, mSl, opSl, mYes, keyOf_int, keyOf_str, opIsa, PyData.plain, PyData.isInt, PyData.isBool, PyData.isTuple, PyData.isList, PyData.isStr, encR, this]
  | k + 1, .iff a b t u, h, hk, s3, s4, q3, q4 => by
    obtain ⟨h1, h2, h3, h4⟩ := h
    simp only [Tree.ifs] at hk
    obtain ⟨s3', s4', g3, g4, e⟩ := led_turn held ids a b t u h1 h2 s3 s4 q3 q4
    have tt : ifT [.dat (encR (.iff a b t u)), .dat (.tuple (held.map encI)), .dat (.tuple (ids.map PyData.int)), s3, s4, .un] = .ok true [.dat (encR (.iff a b t u)), .dat (.tuple (held.map encI)), .dat (.tuple (ids.map PyData.int)), s3, s4, .un] := by
      have := if_if
      unfold ifT
      rcases q3 with rfl | ⟨d, rfl⟩ <;> rcases q4 with rfl | ⟨d', rfl⟩ <;> simp [fnSem, outsOf, outs_dat, outs_nil, argIn, sSeq, sIf, sAsgN, sAsgT, sSetIx, sStore, isDicS, sSetD, mDNew, mRg1, mRg2, rgRet, mItEn, mItZ, mIdx, sRet, sRetN, sNext, sExpr, sAug, sPar, sPar3, sNo, mNo, mTst, mTru, mNotT, mAndT, mOrT, mNotV, mAndV, mOrV, mIfE, mOp1, mOp2, mOps, mCons, mNil, mCst, mName, mMove, mBor, toB, mArg, mTup, mLst, mCallK, callB, argSls, argSl, argS, noTw, isSl, pick, putGo, newS, lookSl, reown, opnd1, opnd2, opnds, res, ress, valsOf, truth, Slot.data?, cmpRet, Ret.toD, Ret.slot, Slot.free?, Slot.own?, Out.andThen, Out.thenS, opAdd, opSub, opMul, opDiv, opMod, opNeg, opIx, retOf, L2.atI, L2.ixN, cGt, cLt, cLe, cGe, bInt, bAbs, bLen, bMax, bMin, bTuple, bList, mLenG, mIxG, mSlG, mPart, mItR1, mItR2, mItV, itemsOf, sFor, asgT, asgTs, mLc, mLc2, freeAll, wipeR, restR, keepDat, lcFin, mMt, lApp, lExt, mSl, opSl, mYes, keyOf_int, keyOf_str, opIsa, PyData.plain, PyData.isInt, PyData.isBool, PyData.isTuple, PyData.isList, PyData.isStr, encR, this]
    have goal : ∀ x : Tree, x = (if thingI held ids a ≠ none ∧ thingI held ids a = thingI held ids b then t else u) → okR N held.length ids.length x ∧ x.ifs < k ∧ leaf held ids (.iff a b t u) = leaf held ids x := fun x hx => by
      subst hx
      by_cases hc : thingI held ids a ≠ none ∧ thingI held ids a = thingI held ids b
      · rw [if_pos hc]
        exact ⟨h3, by omega, by simp only [leaf, if_pos hc]⟩
      · rw [if_neg hc]
        exact ⟨h4, by omega, by simp only [leaf, if_neg hc]⟩
    obtain ⟨g1, g2, g5⟩ := goal _ rfl
    obtain ⟨s3'', s4'', f3, f4, e2⟩ := led_loop N held ids k _ g1 g2 s3' s4' g3 g4
    refine ⟨s3'', s4'', f3, f4, ?_⟩
    rw [g5]
    unfold whLoop
    rw [tt]
    simp only [Out.thenS, if_true, e]
    exact e2
theorem led_by_ok (N : Nat) (held : List (Option Int)) (ids : List Int) (hh : held.length ≤ 1000) (t : Tree) (h : okR N held.length ids.length t) (hi : t.ifs < 20) :
    s_led_by [.dat (encR t), .dat (.tuple (held.map encI)), .dat (.tuple (ids.map PyData.int))] = .ret (.val (.tuple [.int ((leaf held ids t).1 : Int), .tuple ((leaf held ids t).2.map fun x => encI (thingI held ids x))])) [.un, .un, .un] := by
  obtain ⟨s3, s4, q3, q4, e⟩ := led_loop N held ids 20 t h hi .un .un frS_un frS_un
  obtain ⟨l1, l2, l3⟩ := leaf_ok h
  generalize (leaf held ids t).1 = c at *
  generalize (leaf held ids t).2 = ts at *
  have q := lcLoop_nil (own := [5]) (tg := .nm 5) (te := mCallK s_id_of [0, 1, 2] 3 0 (mCons (toB (mName 5)) (mCons (toB (mName 1)) (mCons (toB (mName 2)) mNil))) mNil) (e := encT) (f := fun x => encI (thingI held ids x))
    (ρ := [.dat (encR (.go c ts)), .dat (.tuple (held.map encI)), .dat (.tuple (ids.map PyData.int)), s3, s4, .un]) ts (fun x hx => by
      have h5 := id_of_ok held ids x (l3 x hx)
      refine ⟨[.dat (encR (.go c ts)), .dat (.tuple (held.map encI)), .dat (.tuple (ids.map PyData.int)), s3, s4, .dat (encT x)], .val (encI (thingI held ids x)), [.dat (encR (.go c ts)), .dat (.tuple (held.map encI)), .dat (.tuple (ids.map PyData.int)), s3, s4, .dat (encT x)], ?_, ?_, rfl, ?_, ?_⟩
      all_goals rcases q3 with rfl | ⟨d, rfl⟩ <;> rcases q4 with rfl | ⟨d', rfl⟩ <;> simp [fnSem, outsOf, outs_dat, outs_nil, argIn, sSeq, sIf, sAsgN, sAsgT, sSetIx, sStore, isDicS, sSetD, mDNew, mRg1, mRg2, rgRet, mItEn, mItZ, mIdx, sRet, sRetN, sNext, sExpr, sAug, sPar, sPar3, sNo, mNo, mTst, mTru, mNotT, mAndT, mOrT, mNotV, mAndV, mOrV, mIfE, mOp1, mOp2, mOps, mCons, mNil, mCst, mName, mMove, mBor, toB, mArg, mTup, mLst, mCallK, callB, argSls, argSl, argS, noTw, isSl, pick, putGo, newS, lookSl, reown, opnd1, opnd2, opnds, res, ress, valsOf, truth, Slot.data?, cmpRet, Ret.toD, Ret.slot, Slot.free?, Slot.own?, Out.andThen, Out.thenS, opAdd, opSub, opMul, opDiv, opMod, opNeg, opIx, retOf, L2.atI, L2.ixN, cGt, cLt, cLe, cGe, bInt, bAbs, bLen, bMax, bMin, bTuple, bList, mLenG, mIxG, mSlG, mPart, mItR1, mItR2, mItV, itemsOf, sFor, asgT, asgTs, mLc, mLc2, freeAll, wipeR, restR, keepDat, lcFin, mMt, lApp, lExt, mSl, opSl, mYes, keyOf_int, keyOf_str, opIsa, PyData.plain, PyData.isInt, PyData.isBool, PyData.isTuple, PyData.isList, PyData.isStr, h5]) (by omega)
  rw [s_led_by_eq]
  unfold b_led_by c_led_by_1 c_led_by_2
  have e' : sWhile 20 (mTst (mOp2 (cmpRet cEq) (toB (mOp2 opIx (mBor 0) (toB (mCst (.int 0))))) (toB (mCst (.str "if"))))) l_led_by_1 [.dat (encR t), .dat (.tuple (held.map encI)), .dat (.tuple (ids.map PyData.int)), .un, .un, .un] = _ := e
  unfold encR at q
  generalize hw : sWhile 20 (mTst (mOp2 (cmpRet cEq) (toB (mOp2 opIx (mBor 0) (toB (mCst (.int 0))))) (toB (mCst (.str "if"))))) l_led_by_1 = W at e'
  rcases q3 with rfl | ⟨d, rfl⟩ <;> rcases q4 with rfl | ⟨d', rfl⟩ <;> simp [fnSem, outsOf, outs_dat, outs_nil, argIn, sSeq, sIf, sAsgN, sAsgT, sSetIx, sStore, isDicS, sSetD, mDNew, mRg1, mRg2, rgRet, mItEn, mItZ, mIdx, sRet, sRetN, sNext, sExpr, sAug, sPar, sPar3, sNo, mNo, mTst, mTru, mNotT, mAndT, mOrT, mNotV, mAndV, mOrV, mIfE, mOp1, mOp2, mOps, mCons, mNil, mCst, mName, mMove, mBor, toB, mArg, mTup, mLst, mCallK, callB, argSls, argSl, argS, noTw, isSl, pick, putGo, newS, lookSl, reown, opnd1, opnd2, opnds, res, ress, valsOf, truth, Slot.data?, cmpRet, Ret.toD, Ret.slot, Slot.free?, Slot.own?, Out.andThen, Out.thenS, opAdd, opSub, opMul, opDiv, opMod, opNeg, opIx, retOf, L2.atI, L2.ixN, cGt, cLt, cLe, cGe, bInt, bAbs, bLen, bMax, bMin, bTuple, bList, mLenG, mIxG, mSlG, mPart, mItR1, mItR2, mItV, itemsOf, sFor, asgT, asgTs, mLc, mLc2, freeAll, wipeR, restR, keepDat, lcFin, mMt, lApp, lExt, mSl, opSl, mYes, keyOf_int, keyOf_str, opIsa, PyData.plain, PyData.isInt, PyData.isBool, PyData.isTuple, PyData.isList, PyData.isStr, e', encR, q]
end Law
open PySem PySem.Spec PyProof.Rows L2 Ev
namespace Law
abbrev St := Nat × List (Option Int)
def encSt (st : St) : D := .tuple [.int (st.1 : Int), .tuple (st.2.map encI)]
def treeAt (p : Prog) (st : St) (e : Evt) : Tree := ((p.trees[st.1]?.getD [])[e.1]?).getD (.go 0 [])
def stepP (p : Prog) (st : St) (e : Evt) : St := ((leaf st.2 e.2 (treeAt p st e)).1, (leaf st.2 e.2 (treeAt p st e)).2.map (thingI st.2 e.2))
def OkSt (p : Prog) (st : St) : Prop := st.1 < p.trees.length ∧ st.2.length = p.R
theorem tree_at {p : Prog} (hp : OkP p) {st : St} (hs : OkSt p st) {e : Evt} (he : okE p.ks e) : ∃ row, p.trees[st.1]? = some row ∧ row[e.1]? = some (treeAt p st e) ∧ okR p.trees.length st.2.length e.2.length (treeAt p st e) ∧ (treeAt p st e).ifs ≤ 3 := by
  obtain ⟨c, h1, h2, h3⟩ := he
  obtain ⟨row, hr⟩ : ∃ row, p.trees[st.1]? = some row := ⟨_, List.getElem?_eq_getElem hs.1⟩
  obtain ⟨hl, hrow⟩ := hp.row _ (List.mem_of_getElem? hr)
  have hk : e.1 < row.length := by rw [hl]; exact (List.getElem?_eq_some_iff.mp h1).1
  obtain ⟨t, ht⟩ : ∃ t, row[e.1]? = some t := ⟨_, List.getElem?_eq_getElem hk⟩
  have ea : treeAt p st e = t := by
    unfold treeAt
    rw [hr]
    show (row[e.1]?).getD _ = _
    rw [ht]; rfl
  obtain ⟨o1, o2⟩ := hrow e.1 c _ h1 ht
  rw [hs.2, h2, ea]
  exact ⟨_, hr, ht, o1, o2⟩
theorem step_ok {p : Prog} (hp : OkP p) {st : St} (hs : OkSt p st) {e : Evt} (he : okE p.ks e) : OkSt p (stepP p st e) := by
  obtain ⟨row, _, _, h, _⟩ := tree_at hp hs he
  obtain ⟨l1, l2, _⟩ := leaf_ok h
  refine ⟨l1, ?_⟩
  show ((leaf st.2 e.2 (treeAt p st e)).2.map _).length = p.R
  rw [List.length_map, l2, hs.2]
theorem stepped_ok {p : Prog} (hp : OkP p) {st : St} (hs : OkSt p st) {e : Evt} (he : okE p.ks e) : s_stepped [.dat (encP p), .dat (encSt st), .dat (encE e)] = .ret (.val (encSt (stepP p st e))) [.un, .un, .un] := by
  obtain ⟨row, h1, h2, h, hi⟩ := tree_at hp hs he
  have hl := hs.2
  have hR := hp.r
  have q := led_by_ok p.trees.length st.2 e.2 (by omega) (treeAt p st e) h (by omega)
  obtain ⟨hi1, hr1⟩ := List.getElem?_eq_some_iff.mp h1
  obtain ⟨hi2, hr2⟩ := List.getElem?_eq_some_iff.mp h2
  have ee : encE e = .tuple [.int (e.1 : Int), .tuple (e.2.map PyData.int)] := rfl
  have es : encSt (stepP p st e) = .tuple [.int ((leaf st.2 e.2 (treeAt p st e)).1 : Int), .tuple ((leaf st.2 e.2 (treeAt p st e)).2.map fun x => encI (thingI st.2 e.2 x))] := by
    unfold encSt stepP
    simp only [List.map_map]
    rfl
  rw [es, encP_eq, ee]
  rw [s_stepped_eq]
  unfold b_stepped c_stepped_1 encSt
  subst hr1
  simp [fnSem, outsOf, outs_dat, outs_nil, argIn, sSeq, sIf, sAsgN, sAsgT, sSetIx, sStore, isDicS, sSetD, mDNew, mRg1, mRg2, rgRet, mItEn, mItZ, mIdx, sRet, sRetN, sNext, sExpr, sAug, sPar, sPar3, sNo, mNo, mTst, mTru, mNotT, mAndT, mOrT, mNotV, mAndV, mOrV, mIfE, mOp1, mOp2, mOps, mCons, mNil, mCst, mName, mMove, mBor, toB, mArg, mTup, mLst, mCallK, callB, argSls, argSl, argS, noTw, isSl, pick, putGo, newS, lookSl, reown, opnd1, opnd2, opnds, res, ress, valsOf, truth, Slot.data?, cmpRet, Ret.toD, Ret.slot, Slot.free?, Slot.own?, Out.andThen, Out.thenS, opAdd, opSub, opMul, opDiv, opMod, opNeg, opIx, retOf, L2.atI, L2.ixN, cGt, cLt, cLe, cGe, bInt, bAbs, bLen, bMax, bMin, bTuple, bList, mLenG, mIxG, mSlG, mPart, mItR1, mItR2, mItV, itemsOf, sFor, asgT, asgTs, mLc, mLc2, freeAll, wipeR, restR, keepDat, lcFin, mMt, lApp, lExt, mSl, opSl, mYes, keyOf_int, keyOf_str, opIsa, PyData.plain, PyData.isInt, PyData.isBool, PyData.isTuple, PyData.isList, PyData.isStr, hi1, encRow, hi2, hr2, q]
end Law
open PySem PySem.Spec PyProof.Rows L2 Ev
namespace Law
theorem lead_turn (p0 p1 p2 : D) (held : List (Option Int)) (ids : List Int) (a b : Thing) (t u : Tree) (ha : okT held.length ids.length a) (hb : okT held.length ids.length b) (d6 : D) (s7 s8 : Ev.Slot) (q7 : frS s7) (q8 : frS s8) :
    ∃ s7' s8', frS s7' ∧ frS s8' ∧ l__law_lead_1 [.dat p0, .dat p1, .dat p2, .dat (encR (.iff a b t u)), .dat (.tuple (held.map encI)), .dat (.tuple (ids.map PyData.int)), .dat d6, s7, s8, .un] =
      .nx [.dat p0, .dat p1, .dat p2, .dat (encR (if thingI held ids a ≠ none ∧ thingI held ids a = thingI held ids b then t else u)), .dat (.tuple (held.map encI)), .dat (.tuple (ids.map PyData.int)), .dat d6, s7', s8', .un] := by
  have e1 := thing_id_ok held ids a ha
  have e2 := thing_id_ok held ids b hb
  have e3 := cEq_encI (thingI held ids a) (thingI held ids b)
  have e4 := if_if
  refine ⟨.dat (encI (thingI held ids a)), .dat (encI (thingI held ids b)), frS_dat, frS_dat, ?_⟩
  unfold l__law_lead_1
  cases hx : thingI held ids a with
  | none =>
    rw [hx] at e1 e3
    rw [show encI none = PyData.none from rfl] at e1 ⊢
    rcases q7 with rfl | ⟨d, rfl⟩ <;> rcases q8 with rfl | ⟨d', rfl⟩ <;> simp [fnSem, outsOf, outs_dat, outs_nil, argIn, sSeq, sIf, sAsgN, sAsgT, sSetIx, sStore, isDicS, sSetD, mDNew, mRg1, mRg2, rgRet, mItEn, mItZ, mIdx, sRet, sRetN, sNext, sExpr, sAug, sPar, sPar3, sNo, mNo, mTst, mTru, mNotT, mAndT, mOrT, mNotV, mAndV, mOrV, mIfE, mOp1, mOp2, mOps, mCons, mNil, mCst, mName, mMove, mBor, toB, mArg, mTup, mLst, mCallK, callB, argSls, argSl, argS, noTw, isSl, pick, putGo, newS, lookSl, reown, opnd1, opnd2, opnds, res, ress, valsOf, truth, Slot.data?, cmpRet, Ret.toD, Ret.slot, Slot.free?, Slot.own?, Out.andThen, Out.thenS, opAdd, opSub, opMul, opDiv, opMod, opNeg, opIx, retOf, L2.atI, L2.ixN, cGt, cLt, cLe, cGe, bInt, bAbs, bLen, bMax, bMin, bTuple, bList, mLenG, mIxG, mSlG, mPart, mItR1, mItR2, mItV, itemsOf, sFor, asgT, asgTs, mLc, mLc2, freeAll, wipeR, restR, keepDat, lcFin, mMt, lApp, lExt, mSl, opSl, mYes, keyOf_int, keyOf_str, opIsa, PyData.plain, PyData.isInt, PyData.isBool, PyData.isTuple, PyData.isList, PyData.isStr, encR, e1, e2, e4, cNotNone, cIsNone]
  | some i =>
    rw [hx] at e1 e3
    rw [show encI (some i) = PyData.int i from rfl] at e1 e3 ⊢
    by_cases hy : (some i : Option Int) = thingI held ids b
    · rw [decide_eq_true hy] at e3
      rw [if_pos ⟨by simp, hy⟩]
      rcases q7 with rfl | ⟨d, rfl⟩ <;> rcases q8 with rfl | ⟨d', rfl⟩ <;> simp [fnSem, outsOf, outs_dat, outs_nil, argIn, sSeq, sIf, sAsgN, sAsgT, sSetIx, sStore, isDicS, sSetD, mDNew, mRg1, mRg2, rgRet, mItEn, mItZ, mIdx, sRet, sRetN, sNext, sExpr, sAug, sPar, sPar3, sNo, mNo, mTst, mTru, mNotT, mAndT, mOrT, mNotV, mAndV, mOrV, mIfE, mOp1, mOp2, mOps, mCons, mNil, mCst, mName, mMove, mBor, toB, mArg, mTup, mLst, mCallK, callB, argSls, argSl, argS, noTw, isSl, pick, putGo, newS, lookSl, reown, opnd1, opnd2, opnds, res, ress, valsOf, truth, Slot.data?, cmpRet, Ret.toD, Ret.slot, Slot.free?, Slot.own?, Out.andThen, Out.thenS, opAdd, opSub, opMul, opDiv, opMod, opNeg, opIx, retOf, L2.atI, L2.ixN, cGt, cLt, cLe, cGe, bInt, bAbs, bLen, bMax, bMin, bTuple, bList, mLenG, mIxG, mSlG, mPart, mItR1, mItR2, mItV, itemsOf, sFor, asgT, asgTs, mLc, mLc2, freeAll, wipeR, restR, keepDat, lcFin, mMt, lApp, lExt, mSl, opSl, mYes, keyOf_int, keyOf_str, opIsa, PyData.plain, PyData.isInt, PyData.isBool, PyData.isTuple, PyData.isList, PyData.isStr, encR, e1, e2, e3, e4, cNotNone, cIsNone]
    · rw [decide_eq_false hy] at e3
      rw [if_neg (fun z => hy z.2)]
      rcases q7 with rfl | ⟨d, rfl⟩ <;> rcases q8 with rfl | ⟨d', rfl⟩ <;> simp [fnSem, outsOf, outs_dat, outs_nil, argIn, sSeq, sIf, sAsgN, sAsgT, sSetIx, sStore, isDicS, sSetD, mDNew, mRg1, mRg2, rgRet, mItEn, mItZ, mIdx, sRet, sRetN, sNext, sExpr, sAug, sPar, sPar3, sNo, mNo, mTst, mTru, mNotT, mAndT, mOrT, mNotV, mAndV, mOrV, mIfE, mOp1, mOp2, mOps, mCons, mNil, mCst, mName, mMove, mBor, toB, mArg, mTup, mLst, mCallK, callB, argSls, argSl, argS, noTw, isSl, pick, putGo, newS, lookSl, reown, opnd1, opnd2, opnds, res, ress, valsOf, truth, Slot.data?, cmpRet, Ret.toD, Ret.slot, Slot.free?, Slot.own?, Out.andThen, Out.thenS, opAdd, opSub, opMul, opDiv, opMod, opNeg, opIx, retOf, L2.atI, L2.ixN, cGt, cLt, cLe, cGe, bInt, bAbs, bLen, bMax, bMin, bTuple, bList, mLenG, mIxG, mSlG, mPart, mItR1, mItR2, mItV, itemsOf, sFor, asgT, asgTs, mLc, mLc2, freeAll, wipeR, restR, keepDat, lcFin, mMt, lApp, lExt, mSl, opSl, mYes, keyOf_int, keyOf_str, opIsa, PyData.plain, PyData.isInt, PyData.isBool, PyData.isTuple, PyData.isList, PyData.isStr, encR, e1, e2, e3, e4, cNotNone, cIsNone]
theorem lead_skip (p0 p1 p2 h i : D) (c : Nat) (ts : List Thing) (d6 : D) (s7 s8 : Ev.Slot) (q7 : frS s7) (q8 : frS s8) :
    l__law_lead_1 [.dat p0, .dat p1, .dat p2, .dat (encR (.go c ts)), .dat h, .dat i, .dat d6, s7, s8, .un] = .nx [.dat p0, .dat p1, .dat p2, .dat (encR (.go c ts)), .dat h, .dat i, .dat d6, s7, s8, .un] := by
  have e4 := go_if
  unfold l__law_lead_1
  rcases q7 with rfl | ⟨d, rfl⟩ <;> rcases q8 with rfl | ⟨d', rfl⟩ <;> simp [fnSem, outsOf, outs_dat, outs_nil, argIn, sSeq, sIf, sAsgN, sAsgT, sSetIx, sStore, isDicS, sSetD, mDNew, mRg1, mRg2, rgRet, mItEn, mItZ, mIdx, sRet, sRetN, sNext, sExpr, sAug, sPar, sPar3, sNo, mNo, mTst, mTru, mNotT, mAndT, mOrT, mNotV, mAndV, mOrV, mIfE, mOp1, mOp2, mOps, mCons, mNil, mCst, mName, mMove, mBor, toB, mArg, mTup, mLst, mCallK, callB, argSls, argSl, argS, noTw, isSl, pick, putGo, newS, lookSl, reown, opnd1, opnd2, opnds, res, ress, valsOf, truth, Slot.data?, cmpRet, Ret.toD, Ret.slot, Slot.free?, Slot.own?, Out.andThen, Out.thenS, opAdd, opSub, opMul, opDiv, opMod, opNeg, opIx, retOf, L2.atI, L2.ixN, cGt, cLt, cLe, cGe, bInt, bAbs, bLen, bMax, bMin, bTuple, bList, mLenG, mIxG, mSlG, mPart, mItR1, mItR2, mItV, itemsOf, sFor, asgT, asgTs, mLc, mLc2, freeAll, wipeR, restR, keepDat, lcFin, mMt, lApp, lExt, mSl, opSl, mYes, keyOf_int, keyOf_str, opIsa, PyData.plain, PyData.isInt, PyData.isBool, PyData.isTuple, PyData.isList, PyData.isStr, encR, e4]
theorem lead_loop (p0 p1 p2 : D) (N : Nat) (held : List (Option Int)) (ids : List Int) (t : Tree) (h : okR N held.length ids.length t) (hi : t.ifs ≤ 20) :
    ∃ s6 s7 s8, frS s6 ∧ frS s7 ∧ frS s8 ∧ forLoop (.nm 6) l__law_lead_1 ((List.range 20).map natD) [.dat p0, .dat p1, .dat p2, .dat (encR t), .dat (.tuple (held.map encI)), .dat (.tuple (ids.map PyData.int)), .un, .un, .un, .un] =
      .nx [.dat p0, .dat p1, .dat p2, .dat (encR (.go (leaf held ids t).1 (leaf held ids t).2)), .dat (.tuple (held.map encI)), .dat (.tuple (ids.map PyData.int)), s6, s7, s8, .un] := by
  obtain ⟨ρ', h1, x, s6, s7, s8, q6, q7, q8, hx, hl, hn, rfl⟩ := forLoop_st (tg := .nm 6) (body := l__law_lead_1) natD (fun rest ρ => ∃ (x : Tree) (s6 s7 s8 : Ev.Slot), frS s6 ∧ frS s7 ∧ frS s8 ∧ okR N held.length ids.length x ∧ leaf held ids x = leaf held ids t ∧ x.ifs ≤ rest.length ∧
      ρ = [.dat p0, .dat p1, .dat p2, .dat (encR x), .dat (.tuple (held.map encI)), .dat (.tuple (ids.map PyData.int)), s6, s7, s8, .un]) (List.range 20) (by
    rintro k r ρ ⟨x, s6, s7, s8, q6, q7, q8, hx, hl, hn, rfl⟩ _
    cases x with
    | go c ts =>
      refine ⟨[.dat p0, .dat p1, .dat p2, .dat (encR (.go c ts)), .dat (.tuple (held.map encI)), .dat (.tuple (ids.map PyData.int)), .dat (natD k), s7, s8, .un], _, ?_, .inl (lead_skip p0 p1 p2 _ _ c ts (natD k) s7 s8 q7 q8), .go c ts, .dat (natD k), s7, s8, frS_dat, q7, q8, hx, hl, Nat.zero_le _, rfl⟩
      rcases q6 with rfl | ⟨d, rfl⟩ <;> simp [fnSem, outsOf, outs_dat, outs_nil, argIn, sSeq, sIf, sAsgN, sAsgT, sSetIx, sStore, isDicS, sSetD, mDNew, mRg1, mRg2, rgRet, mItEn, mItZ, mIdx, sRet, sRetN, sNext, sExpr, sAug, sPar, sPar3, sNo, mNo, mTst, mTru, mNotT, mAndT, mOrT, mNotV, mAndV, mOrV, mIfE, mOp1, mOp2, mOps, mCons, mNil, mCst, mName, mMove, mBor, toB, mArg, mTup, mLst, mCallK, callB, argSls, argSl, argS, noTw, isSl, pick, putGo, newS, lookSl, reown, opnd1, opnd2, opnds, res, ress, valsOf, truth, Slot.data?, cmpRet, Ret.toD, Ret.slot, Slot.free?, Slot.own?, Out.andThen, Out.thenS, opAdd, opSub, opMul, opDiv, opMod, opNeg, opIx, retOf, L2.atI, L2.ixN, cGt, cLt, cLe, cGe, bInt, bAbs, bLen, bMax, bMin, bTuple, bList, mLenG, mIxG, mSlG, mPart, mItR1, mItR2, mItV, itemsOf, sFor, asgT, asgTs, mLc, mLc2, freeAll, wipeR, restR, keepDat, lcFin, mMt, lApp, lExt, mSl, opSl, mYes, keyOf_int, keyOf_str, opIsa, PyData.plain, PyData.isInt, PyData.isBool, PyData.isTuple, PyData.isList, PyData.isStr]
    | iff a b u v =>
      obtain ⟨g1, g2, g3, g4⟩ := hx
      obtain ⟨s7', s8', f7, f8, e⟩ := lead_turn p0 p1 p2 held ids a b u v g1 g2 (natD k) s7 s8 q7 q8
      simp only [Tree.ifs, List.length_cons] at hn
      refine ⟨[.dat p0, .dat p1, .dat p2, .dat (encR (.iff a b u v)), .dat (.tuple (held.map encI)), .dat (.tuple (ids.map PyData.int)), .dat (natD k), s7, s8, .un], _, ?_, .inl e, (if thingI held ids a ≠ none ∧ thingI held ids a = thingI held ids b then u else v), .dat (natD k), s7', s8', frS_dat, f7, f8, ?_, ?_, ?_, rfl⟩
      · rcases q6 with rfl | ⟨d, rfl⟩ <;> simp [fnSem, outsOf, outs_dat, outs_nil, argIn, sSeq, sIf, sAsgN, sAsgT, sSetIx, sStore, isDicS, sSetD, mDNew, mRg1, mRg2, rgRet, mItEn, mItZ, mIdx, sRet, sRetN, sNext, sExpr, sAug, sPar, sPar3, sNo, mNo, mTst, mTru, mNotT, mAndT, mOrT, mNotV, mAndV, mOrV, mIfE, mOp1, mOp2, mOps, mCons, mNil, mCst, mName, mMove, mBor, toB, mArg, mTup, mLst, mCallK, callB, argSls, argSl, argS, noTw, isSl, pick, putGo, newS, lookSl, reown, opnd1, opnd2, opnds, res, ress, valsOf, truth, Slot.data?, cmpRet, Ret.toD, Ret.slot, Slot.free?, Slot.own?, Out.andThen, Out.thenS, opAdd, opSub, opMul, opDiv, opMod, opNeg, opIx, retOf, L2.atI, L2.ixN, cGt, cLt, cLe, cGe, bInt, bAbs, bLen, bMax, bMin, bTuple, bList, mLenG, mIxG, mSlG, mPart, mItR1, mItR2, mItV, itemsOf, sFor, asgT, asgTs, mLc, mLc2, freeAll, wipeR, restR, keepDat, lcFin, mMt, lApp, lExt, mSl, opSl, mYes, keyOf_int, keyOf_str, opIsa, PyData.plain, PyData.isInt, PyData.isBool, PyData.isTuple, PyData.isList, PyData.isStr]
      · split
        · exact g3
        · exact g4
      · rw [← hl]
        by_cases hc : thingI held ids a ≠ none ∧ thingI held ids a = thingI held ids b
        · rw [if_pos hc]; simp only [leaf, if_pos hc]
        · rw [if_neg hc]; simp only [leaf, if_neg hc]
      · split <;> omega) _ ⟨t, .un, .un, .un, frS_un, frS_un, frS_un, h, rfl, by simpa using hi, rfl⟩
  refine ⟨s6, s7, s8, q6, q7, q8, ?_⟩
  rw [h1]
  cases x with
  | go c ts =>
    have : leaf held ids t = (c, ts) := hl.symm
    rw [this]
  | iff a b u v => simp [Tree.ifs] at hn
theorem lead_ok {p : Prog} (hp : OkP p) {st : St} (hs : OkSt p st) {e : Evt} (he : okE p.ks e) : s__law_lead [.dat (encP p), .dat (encSt st), .dat (encE e)] = .ret (.val (encSt (stepP p st e))) [.un, .un, .un] := by
  obtain ⟨row, h1, h2, h, hi⟩ := tree_at hp hs he
  have hl := hs.2
  have hR := hp.r
  have ee : encE e = .tuple [.int (e.1 : Int), .tuple (e.2.map PyData.int)] := rfl
  have es : encSt (stepP p st e) = .tuple [.int ((leaf st.2 e.2 (treeAt p st e)).1 : Int), .tuple ((leaf st.2 e.2 (treeAt p st e)).2.map fun x => encI (thingI st.2 e.2 x))] := by
    unfold encSt stepP
    simp only [List.map_map]
    rfl
  obtain ⟨s6, s7, s8, q6, q7, q8, el⟩ := lead_loop (encP p) (encSt st) (encE e) p.trees.length st.2 e.2 (treeAt p st e) h (by omega)
  obtain ⟨l1, l2, l3⟩ := leaf_ok h
  obtain ⟨hi1, hr1⟩ := List.getElem?_eq_some_iff.mp h1
  obtain ⟨hi2, hr2⟩ := List.getElem?_eq_some_iff.mp h2
  rw [es]
  generalize (leaf st.2 e.2 (treeAt p st e)).1 = c at *
  generalize (leaf st.2 e.2 (treeAt p st e)).2 = ts at *
  have q := lcLoop_nil (own := [9]) (tg := .nm 9) (te := mCallK s__law_thing_id [0, 1, 2] 3 0 (mCons (toB (mName 9)) (mCons (toB (mName 4)) (mCons (toB (mName 5)) mNil))) mNil) (e := encT) (f := fun x => encI (thingI st.2 e.2 x))
    (ρ := [.dat (encP p), .dat (encSt st), .dat (encE e), .dat (encR (.go c ts)), .dat (.tuple (st.2.map encI)), .dat (.tuple (e.2.map PyData.int)), s6, s7, s8, .un]) ts (fun x hx => by
      have h5 := thing_id_ok st.2 e.2 x (l3 x hx)
      refine ⟨[.dat (encP p), .dat (encSt st), .dat (encE e), .dat (encR (.go c ts)), .dat (.tuple (st.2.map encI)), .dat (.tuple (e.2.map PyData.int)), s6, s7, s8, .dat (encT x)], .val (encI (thingI st.2 e.2 x)), [.dat (encP p), .dat (encSt st), .dat (encE e), .dat (encR (.go c ts)), .dat (.tuple (st.2.map encI)), .dat (.tuple (e.2.map PyData.int)), s6, s7, s8, .dat (encT x)], ?_, ?_, rfl, ?_, ?_⟩
      all_goals rcases q6 with rfl | ⟨d, rfl⟩ <;> rcases q7 with rfl | ⟨d', rfl⟩ <;> rcases q8 with rfl | ⟨d'', rfl⟩ <;> simp [fnSem, outsOf, outs_dat, outs_nil, argIn, sSeq, sIf, sAsgN, sAsgT, sSetIx, sStore, isDicS, sSetD, mDNew, mRg1, mRg2, rgRet, mItEn, mItZ, mIdx, sRet, sRetN, sNext, sExpr, sAug, sPar, sPar3, sNo, mNo, mTst, mTru, mNotT, mAndT, mOrT, mNotV, mAndV, mOrV, mIfE, mOp1, mOp2, mOps, mCons, mNil, mCst, mName, mMove, mBor, toB, mArg, mTup, mLst, mCallK, callB, argSls, argSl, argS, noTw, isSl, pick, putGo, newS, lookSl, reown, opnd1, opnd2, opnds, res, ress, valsOf, truth, Slot.data?, cmpRet, Ret.toD, Ret.slot, Slot.free?, Slot.own?, Out.andThen, Out.thenS, opAdd, opSub, opMul, opDiv, opMod, opNeg, opIx, retOf, L2.atI, L2.ixN, cGt, cLt, cLe, cGe, bInt, bAbs, bLen, bMax, bMin, bTuple, bList, mLenG, mIxG, mSlG, mPart, mItR1, mItR2, mItV, itemsOf, sFor, asgT, asgTs, mLc, mLc2, freeAll, wipeR, restR, keepDat, lcFin, mMt, lApp, lExt, mSl, opSl, mYes, keyOf_int, keyOf_str, opIsa, PyData.plain, PyData.isInt, PyData.isBool, PyData.isTuple, PyData.isList, PyData.isStr, h5]) (by omega)
  have hr := rgOk_nat 20 (by omega)
  have hr2' : rangeD 0 20 = (List.range 20).map natD := rangeD_eq 20
  have r2 : rgOk 0 20 = true := hr
  rw [s__law_lead_eq]
  unfold b__law_lead c__law_lead_1 c__law_lead_2 c__law_lead_3
  rw [← hr2'] at el
  have er : encR (.go c ts) = .tuple [.str "go", .int (c : Int), .tuple (ts.map encT)] := rfl
  rw [er] at el q
  generalize hrg : rangeD 0 20 = RG at el
  rw [encP_eq] at el q ⊢
  rw [ee] at el q ⊢
  unfold encSt at el q ⊢
  subst hr1
  rcases q6 with rfl | ⟨d, rfl⟩ <;> rcases q7 with rfl | ⟨d', rfl⟩ <;> rcases q8 with rfl | ⟨d'', rfl⟩ <;> simp [fnSem, outsOf, outs_dat, outs_nil, argIn, sSeq, sIf, sAsgN, sAsgT, sSetIx, sStore, isDicS, sSetD, mDNew, mRg1, mRg2, rgRet, mItEn, mItZ, mIdx, sRet, sRetN, sNext, sExpr, sAug, sPar, sPar3, sNo, mNo, mTst, mTru, mNotT, mAndT, mOrT, mNotV, mAndV, mOrV, mIfE, mOp1, mOp2, mOps, mCons, mNil, mCst, mName, mMove, mBor, toB, mArg, mTup, mLst, mCallK, callB, argSls, argSl, argS, noTw, isSl, pick, putGo, newS, lookSl, reown, opnd1, opnd2, opnds, res, ress, valsOf, truth, Slot.data?, cmpRet, Ret.toD, Ret.slot, Slot.free?, Slot.own?, Out.andThen, Out.thenS, opAdd, opSub, opMul, opDiv, opMod, opNeg, opIx, retOf, L2.atI, L2.ixN, cGt, cLt, cLe, cGe, bInt, bAbs, bLen, bMax, bMin, bTuple, bList, mLenG, mIxG, mSlG, mPart, mItR1, mItR2, mItV, itemsOf, sFor, asgT, asgTs, mLc, mLc2, freeAll, wipeR, restR, keepDat, lcFin, mMt, lApp, lExt, mSl, opSl, mYes, keyOf_int, keyOf_str, opIsa, PyData.plain, PyData.isInt, PyData.isBool, PyData.isTuple, PyData.isList, PyData.isStr, hi1, encRow, hi2, hr2, r2, hrg, el, q]
end Law
open PySem PySem.Spec PyProof.Rows L2 Ev
namespace Law
def startP (p : Prog) : St := (0, List.replicate p.R none)
def runP (p : Prog) (s : List Evt) : St := s.foldl (stepP p) (startP p)
theorem start_ok {p : Prog} (hp : OkP p) : OkSt p (startP p) := ⟨hp.n1, by simp [startP]⟩
theorem foldl_ok {p : Prog} (hp : OkP p) : ∀ (s : List Evt) (st : St), OkSt p st → (∀ e ∈ s, okE p.ks e) → OkSt p (s.foldl (stepP p) st)
  | [], st, h, _ => h
  | e :: s, st, h, he => foldl_ok hp s _ (step_ok hp h (he e (List.mem_cons_self ..))) fun e' h' => he e' (List.mem_cons_of_mem _ h')
theorem run_ok {p : Prog} (hp : OkP p) (s : List Evt) (he : ∀ e ∈ s, okE p.ks e) : OkSt p (runP p s) := foldl_ok hp s _ (start_ok hp) he
theorem start_D (R : Nat) : (List.replicate R ([PyData.none] : List D)).flatten = (List.replicate R (none : Option Int)).map encI := by
  induction R with
  | zero => rfl
  | succ n ih => rw [List.replicate_succ, List.replicate_succ, List.flatten_cons, ih]; rfl
theorem start_of_ok {p : Prog} (hp : OkP p) : s_start_of [.dat (encP p)] = .ret (.val (encSt (startP p))) [.un] := by
  have hR := hp.r
  have e := start_D p.R
  have c1 : p.R < 4611686018427387904 := by omega
  have c2 : p.R ≤ 1000 := by omega
  rw [encP_eq, s_start_of_eq]
  unfold b_start_of c_start_of_1 encSt startP
  simp [fnSem, outsOf, outs_dat, outs_nil, argIn, sSeq, sIf, sAsgN, sAsgT, sSetIx, sStore, isDicS, sSetD, mDNew, mRg1, mRg2, rgRet, mItEn, mItZ, mIdx, sRet, sRetN, sNext, sExpr, sAug, sPar, sPar3, sNo, mNo, mTst, mTru, mNotT, mAndT, mOrT, mNotV, mAndV, mOrV, mIfE, mOp1, mOp2, mOps, mCons, mNil, mCst, mName, mMove, mBor, toB, mArg, mTup, mLst, mCallK, callB, argSls, argSl, argS, noTw, isSl, pick, putGo, newS, lookSl, reown, opnd1, opnd2, opnds, res, ress, valsOf, truth, Slot.data?, cmpRet, Ret.toD, Ret.slot, Slot.free?, Slot.own?, Out.andThen, Out.thenS, opAdd, opSub, opMul, opDiv, opMod, opNeg, opIx, retOf, L2.atI, L2.ixN, cGt, cLt, cLe, cGe, bInt, bAbs, bLen, bMax, bMin, bTuple, bList, mLenG, mIxG, mSlG, mPart, mItR1, mItR2, mItV, itemsOf, sFor, asgT, asgTs, mLc, mLc2, freeAll, wipeR, restR, keepDat, lcFin, mMt, lApp, lExt, mSl, opSl, mYes, keyOf_int, keyOf_str, opIsa, PyData.plain, PyData.isInt, PyData.isBool, PyData.isTuple, PyData.isList, PyData.isStr, c1, c2, e]
theorem state_in_ok {p : Prog} (hp : OkP p) (s : List Evt) (he : ∀ e ∈ s, okE p.ks e) : s_state_in [.dat (encP p), .dat (.tuple (s.map encE))] = .ret (.val (encSt (runP p s))) [.un, .un] := by
  obtain ⟨ρ', h1, st, s3, q3, ho, hr, rfl⟩ := forLoop_st (tg := .nm 3) (body := l_state_in_1) encE (fun rest ρ => ∃ (st : St) (s3 : Ev.Slot), frS s3 ∧ OkSt p st ∧ rest.foldl (stepP p) st = runP p s ∧ ρ = [.dat (encP p), .dat (.tuple (s.map encE)), .dat (encSt st), s3]) s (by
    rintro e r ρ ⟨st, s3, q3, ho, hr, rfl⟩ hm
    have h2 := stepped_ok hp ho (he e hm)
    refine ⟨[.dat (encP p), .dat (.tuple (s.map encE)), .dat (encSt st), .dat (encE e)], [.dat (encP p), .dat (.tuple (s.map encE)), .dat (encSt (stepP p st e)), .dat (encE e)], ?_, .inl ?_, stepP p st e, _, frS_dat, step_ok hp ho (he e hm), hr, rfl⟩
    · rcases q3 with rfl | ⟨d, rfl⟩ <;> simp [fnSem, outsOf, outs_dat, outs_nil, argIn, sSeq, sIf, sAsgN, sAsgT, sSetIx, sStore, isDicS, sSetD, mDNew, mRg1, mRg2, rgRet, mItEn, mItZ, mIdx, sRet, sRetN, sNext, sExpr, sAug, sPar, sPar3, sNo, mNo, mTst, mTru, mNotT, mAndT, mOrT, mNotV, mAndV, mOrV, mIfE, mOp1, mOp2, mOps, mCons, mNil, mCst, mName, mMove, mBor, toB, mArg, mTup, mLst, mCallK, callB, argSls, argSl, argS, noTw, isSl, pick, putGo, newS, lookSl, reown, opnd1, opnd2, opnds, res, ress, valsOf, truth, Slot.data?, cmpRet, Ret.toD, Ret.slot, Slot.free?, Slot.own?, Out.andThen, Out.thenS, opAdd, opSub, opMul, opDiv, opMod, opNeg, opIx, retOf, L2.atI, L2.ixN, cGt, cLt, cLe, cGe, bInt, bAbs, bLen, bMax, bMin, bTuple, bList, mLenG, mIxG, mSlG, mPart, mItR1, mItR2, mItV, itemsOf, sFor, asgT, asgTs, mLc, mLc2, freeAll, wipeR, restR, keepDat, lcFin, mMt, lApp, lExt, mSl, opSl, mYes, keyOf_int, keyOf_str, opIsa, PyData.plain, PyData.isInt, PyData.isBool, PyData.isTuple, PyData.isList, PyData.isStr]
    · unfold l_state_in_1
      simp [fnSem, outsOf, outs_dat, outs_nil, argIn, sSeq, sIf, sAsgN, sAsgT, sSetIx, sStore, isDicS, sSetD, mDNew, mRg1, mRg2, rgRet, mItEn, mItZ, mIdx, sRet, sRetN, sNext, sExpr, sAug, sPar, sPar3, sNo, mNo, mTst, mTru, mNotT, mAndT, mOrT, mNotV, mAndV, mOrV, mIfE, mOp1, mOp2, mOps, mCons, mNil, mCst, mName, mMove, mBor, toB, mArg, mTup, mLst, mCallK, callB, argSls, argSl, argS, noTw, isSl, pick, putGo, newS, lookSl, reown, opnd1, opnd2, opnds, res, ress, valsOf, truth, Slot.data?, cmpRet, Ret.toD, Ret.slot, Slot.free?, Slot.own?, Out.andThen, Out.thenS, opAdd, opSub, opMul, opDiv, opMod, opNeg, opIx, retOf, L2.atI, L2.ixN, cGt, cLt, cLe, cGe, bInt, bAbs, bLen, bMax, bMin, bTuple, bList, mLenG, mIxG, mSlG, mPart, mItR1, mItR2, mItV, itemsOf, sFor, asgT, asgTs, mLc, mLc2, freeAll, wipeR, restR, keepDat, lcFin, mMt, lApp, lExt, mSl, opSl, mYes, keyOf_int, keyOf_str, opIsa, PyData.plain, PyData.isInt, PyData.isBool, PyData.isTuple, PyData.isList, PyData.isStr, h2]) _ ⟨startP p, .un, frS_un, start_ok hp, rfl, rfl⟩
  have h0 := start_of_ok hp
  have : st = runP p s := hr
  subst this
  rw [s_state_in_eq]
  unfold b_state_in c_state_in_1 c_state_in_2 c_state_in_3
  rcases q3 with rfl | ⟨d, rfl⟩ <;> simp [fnSem, outsOf, outs_dat, outs_nil, argIn, sSeq, sIf, sAsgN, sAsgT, sSetIx, sStore, isDicS, sSetD, mDNew, mRg1, mRg2, rgRet, mItEn, mItZ, mIdx, sRet, sRetN, sNext, sExpr, sAug, sPar, sPar3, sNo, mNo, mTst, mTru, mNotT, mAndT, mOrT, mNotV, mAndV, mOrV, mIfE, mOp1, mOp2, mOps, mCons, mNil, mCst, mName, mMove, mBor, toB, mArg, mTup, mLst, mCallK, callB, argSls, argSl, argS, noTw, isSl, pick, putGo, newS, lookSl, reown, opnd1, opnd2, opnds, res, ress, valsOf, truth, Slot.data?, cmpRet, Ret.toD, Ret.slot, Slot.free?, Slot.own?, Out.andThen, Out.thenS, opAdd, opSub, opMul, opDiv, opMod, opNeg, opIx, retOf, L2.atI, L2.ixN, cGt, cLt, cLe, cGe, bInt, bAbs, bLen, bMax, bMin, bTuple, bList, mLenG, mIxG, mSlG, mPart, mItR1, mItR2, mItV, itemsOf, sFor, asgT, asgTs, mLc, mLc2, freeAll, wipeR, restR, keepDat, lcFin, mMt, lApp, lExt, mSl, opSl, mYes, keyOf_int, keyOf_str, opIsa, PyData.plain, PyData.isInt, PyData.isBool, PyData.isTuple, PyData.isList, PyData.isStr, h0, h1]
def answerP (p : Prog) (st : St) : D := .tuple [.int (((p.answers[st.1]?).getD (0, [])).1 : Int), .tuple (((p.answers[st.1]?).getD (0, [])).2.map fun o => match o with
  | none => PyData.none
  | some i => encI ((st.2[i]?).join))]
end Law
open PySem PySem.Spec PyProof.Rows L2 Ev
namespace Law
def showO (held : List (Option Int)) (o : Option Nat) : D := match o with
  | none => PyData.none
  | some i => encI ((held[i]?).join)
theorem answer_at {p : Prog} (hp : OkP p) {st : St} (hs : OkSt p st) : ∃ m os, p.answers[st.1]? = some (m, os) ∧ answerP p st = .tuple [.int (m : Int), .tuple (os.map (showO st.2))] ∧ os.length ≤ 2 ∧ ∀ o ∈ os, okO st.2.length o := by
  obtain ⟨⟨m, os⟩, ha⟩ : ∃ a, p.answers[st.1]? = some a := ⟨_, List.getElem?_eq_getElem (by rw [hp.al]; exact hs.1)⟩
  obtain ⟨h1, h2⟩ := hp.ans _ (List.mem_of_getElem? ha)
  refine ⟨m, os, ha, ?_, h1, by rw [hs.2]; exact h2⟩
  unfold answerP
  rw [ha]
  rfl
theorem shown_te (held : List (Option Int)) (o : Option Nat) (h : okO held.length o) (pD s0 : D) (c : Int) (s2 s3 : D) : mIfE (mTst (mOp2 (cmpRet cIsNone) (mBor 4) (toB (mCst .none)))) (mCst .none) (mOp2 opIx (toB (mOp2 opIx (mBor 1) (toB (mCst (.int 1))))) (mBor 4)) [.dat pD, .dat (.tuple [.int c, .tuple (held.map encI)]), .dat s2, .dat s3, .dat (encO o)] =
    .ok (.val (showO held o)) [.dat pD, .dat (.tuple [.int c, .tuple (held.map encI)]), .dat s2, .dat s3, .dat (encO o)] := by
  cases o with
  | none => simp [fnSem, outsOf, outs_dat, outs_nil, argIn, sSeq, sIf, sAsgN, sAsgT, sSetIx, sStore, isDicS, sSetD, mDNew, mRg1, mRg2, rgRet, mItEn, mItZ, mIdx, sRet, sRetN, sNext, sExpr, sAug, sPar, sPar3, sNo, mNo, mTst, mTru, mNotT, mAndT, mOrT, mNotV, mAndV, mOrV, mIfE, mOp1, mOp2, mOps, mCons, mNil, mCst, mName, mMove, mBor, toB, mArg, mTup, mLst, mCallK, callB, argSls, argSl, argS, noTw, isSl, pick, putGo, newS, lookSl, reown, opnd1, opnd2, opnds, res, ress, valsOf, truth, Slot.data?, cmpRet, Ret.toD, Ret.slot, Slot.free?, Slot.own?, Out.andThen, Out.thenS, opAdd, opSub, opMul, opDiv, opMod, opNeg, opIx, retOf, L2.atI, L2.ixN, cGt, cLt, cLe, cGe, bInt, bAbs, bLen, bMax, bMin, bTuple, bList, mLenG, mIxG, mSlG, mPart, mItR1, mItR2, mItV, itemsOf, sFor, asgT, asgTs, mLc, mLc2, freeAll, wipeR, restR, keepDat, lcFin, mMt, lApp, lExt, mSl, opSl, mYes, keyOf_int, keyOf_str, opIsa, PyData.plain, PyData.isInt, PyData.isBool, PyData.isTuple, PyData.isList, PyData.isStr, encO, cIsNone, showO]
  | some i =>
    have hi : i < held.length := h
    simp [fnSem, outsOf, outs_dat, outs_nil, argIn, sSeq, sIf, sAsgN, sAsgT, sSetIx, sStore, isDicS, sSetD, mDNew, mRg1, mRg2, rgRet, mItEn, mItZ, mIdx, sRet, sRetN, sNext, sExpr, sAug, sPar, sPar3, sNo, mNo, mTst, mTru, mNotT, mAndT, mOrT, mNotV, mAndV, mOrV, mIfE, mOp1, mOp2, mOps, mCons, mNil, mCst, mName, mMove, mBor, toB, mArg, mTup, mLst, mCallK, callB, argSls, argSl, argS, noTw, isSl, pick, putGo, newS, lookSl, reown, opnd1, opnd2, opnds, res, ress, valsOf, truth, Slot.data?, cmpRet, Ret.toD, Ret.slot, Slot.free?, Slot.own?, Out.andThen, Out.thenS, opAdd, opSub, opMul, opDiv, opMod, opNeg, opIx, retOf, L2.atI, L2.ixN, cGt, cLt, cLe, cGe, bInt, bAbs, bLen, bMax, bMin, bTuple, bList, mLenG, mIxG, mSlG, mPart, mItR1, mItR2, mItV, itemsOf, sFor, asgT, asgTs, mLc, mLc2, freeAll, wipeR, restR, keepDat, lcFin, mMt, lApp, lExt, mSl, opSl, mYes, keyOf_int, keyOf_str, opIsa, PyData.plain, PyData.isInt, PyData.isBool, PyData.isTuple, PyData.isList, PyData.isStr, encO, cIsNone, showO, hi]
theorem told_at_ok {p : Prog} (hp : OkP p) {st : St} (hs : OkSt p st) : s_told_at [.dat (encP p), .dat (encSt st)] = .ret (.val (answerP p st)) [.un, .un] := by
  obtain ⟨m, os, h1, h2, h3, h4⟩ := answer_at hp hs
  obtain ⟨hi, hr⟩ := List.getElem?_eq_some_iff.mp h1
  have q := lcLoop_nil (own := [4]) (tg := .nm 4) (te := mIfE (mTst (mOp2 (cmpRet cIsNone) (mBor 4) (toB (mCst .none)))) (mCst .none) (mOp2 opIx (toB (mOp2 opIx (mBor 1) (toB (mCst (.int 1))))) (mBor 4))) (e := encO) (f := showO st.2)
    (ρ := [.dat (encP p), .dat (encSt st), .dat (.int (m : Int)), .dat (.tuple (os.map encO)), .un]) os (fun o ho => by
      refine ⟨[.dat (encP p), .dat (encSt st), .dat (.int (m : Int)), .dat (.tuple (os.map encO)), .dat (encO o)], _, _, by simp [fnSem, outsOf, outs_dat, outs_nil, argIn, sSeq, sIf, sAsgN, sAsgT, sSetIx, sStore, isDicS, sSetD, mDNew, mRg1, mRg2, rgRet, mItEn, mItZ, mIdx, sRet, sRetN, sNext, sExpr, sAug, sPar, sPar3, sNo, mNo, mTst, mTru, mNotT, mAndT, mOrT, mNotV, mAndV, mOrV, mIfE, mOp1, mOp2, mOps, mCons, mNil, mCst, mName, mMove, mBor, toB, mArg, mTup, mLst, mCallK, callB, argSls, argSl, argS, noTw, isSl, pick, putGo, newS, lookSl, reown, opnd1, opnd2, opnds, res, ress, valsOf, truth, Slot.data?, cmpRet, Ret.toD, Ret.slot, Slot.free?, Slot.own?, Out.andThen, Out.thenS, opAdd, opSub, opMul, opDiv, opMod, opNeg, opIx, retOf, L2.atI, L2.ixN, cGt, cLt, cLe, cGe, bInt, bAbs, bLen, bMax, bMin, bTuple, bList, mLenG, mIxG, mSlG, mPart, mItR1, mItR2, mItV, itemsOf, sFor, asgT, asgTs, mLc, mLc2, freeAll, wipeR, restR, keepDat, lcFin, mMt, lApp, lExt, mSl, opSl, mYes, keyOf_int, keyOf_str, opIsa, PyData.plain, PyData.isInt, PyData.isBool, PyData.isTuple, PyData.isList, PyData.isStr], shown_te st.2 o (h4 o ho) (encP p) (.int m) st.1 _ _, rfl, by simp [fnSem, outsOf, outs_dat, outs_nil, argIn, sSeq, sIf, sAsgN, sAsgT, sSetIx, sStore, isDicS, sSetD, mDNew, mRg1, mRg2, rgRet, mItEn, mItZ, mIdx, sRet, sRetN, sNext, sExpr, sAug, sPar, sPar3, sNo, mNo, mTst, mTru, mNotT, mAndT, mOrT, mNotV, mAndV, mOrV, mIfE, mOp1, mOp2, mOps, mCons, mNil, mCst, mName, mMove, mBor, toB, mArg, mTup, mLst, mCallK, callB, argSls, argSl, argS, noTw, isSl, pick, putGo, newS, lookSl, reown, opnd1, opnd2, opnds, res, ress, valsOf, truth, Slot.data?, cmpRet, Ret.toD, Ret.slot, Slot.free?, Slot.own?, Out.andThen, Out.thenS, opAdd, opSub, opMul, opDiv, opMod, opNeg, opIx, retOf, L2.atI, L2.ixN, cGt, cLt, cLe, cGe, bInt, bAbs, bLen, bMax, bMin, bTuple, bList, mLenG, mIxG, mSlG, mPart, mItR1, mItR2, mItV, itemsOf, sFor, asgT, asgTs, mLc, mLc2, freeAll, wipeR, restR, keepDat, lcFin, mMt, lApp, lExt, mSl, opSl, mYes, keyOf_int, keyOf_str, opIsa, PyData.plain, PyData.isInt, PyData.isBool, PyData.isTuple, PyData.isList, PyData.isStr], by simp [fnSem, outsOf, outs_dat, outs_nil, argIn, sSeq, sIf, sAsgN, sAsgT, sSetIx, sStore, isDicS, sSetD, mDNew, mRg1, mRg2, rgRet, mItEn, mItZ, mIdx, sRet, sRetN, sNext, sExpr, sAug, sPar, sPar3, sNo, mNo, mTst, mTru, mNotT, mAndT, mOrT, mNotV, mAndV, mOrV, mIfE, mOp1, mOp2, mOps, mCons, mNil, mCst, mName, mMove, mBor, toB, mArg, mTup, mLst, mCallK, callB, argSls, argSl, argS, noTw, isSl, pick, putGo, newS, lookSl, reown, opnd1, opnd2, opnds, res, ress, valsOf, truth, Slot.data?, cmpRet, Ret.toD, Ret.slot, Slot.free?, Slot.own?, Out.andThen, Out.thenS, opAdd, opSub, opMul, opDiv, opMod, opNeg, opIx, retOf, L2.atI, L2.ixN, cGt, cLt, cLe, cGe, bInt, bAbs, bLen, bMax, bMin, bTuple, bList, mLenG, mIxG, mSlG, mPart, mItR1, mItR2, mItV, itemsOf, sFor, asgT, asgTs, mLc, mLc2, freeAll, wipeR, restR, keepDat, lcFin, mMt, lApp, lExt, mSl, opSl, mYes, keyOf_int, keyOf_str, opIsa, PyData.plain, PyData.isInt, PyData.isBool, PyData.isTuple, PyData.isList, PyData.isStr, encSt]⟩) (by omega)
  rw [h2, s_told_at_eq]
  unfold b_told_at c_told_at_1 c_told_at_2
  rw [encP_eq] at q ⊢
  unfold encSt at q ⊢
  simp [fnSem, outsOf, outs_dat, outs_nil, argIn, sSeq, sIf, sAsgN, sAsgT, sSetIx, sStore, isDicS, sSetD, mDNew, mRg1, mRg2, rgRet, mItEn, mItZ, mIdx, sRet, sRetN, sNext, sExpr, sAug, sPar, sPar3, sNo, mNo, mTst, mTru, mNotT, mAndT, mOrT, mNotV, mAndV, mOrV, mIfE, mOp1, mOp2, mOps, mCons, mNil, mCst, mName, mMove, mBor, toB, mArg, mTup, mLst, mCallK, callB, argSls, argSl, argS, noTw, isSl, pick, putGo, newS, lookSl, reown, opnd1, opnd2, opnds, res, ress, valsOf, truth, Slot.data?, cmpRet, Ret.toD, Ret.slot, Slot.free?, Slot.own?, Out.andThen, Out.thenS, opAdd, opSub, opMul, opDiv, opMod, opNeg, opIx, retOf, L2.atI, L2.ixN, cGt, cLt, cLe, cGe, bInt, bAbs, bLen, bMax, bMin, bTuple, bList, mLenG, mIxG, mSlG, mPart, mItR1, mItR2, mItV, itemsOf, sFor, asgT, asgTs, mLc, mLc2, freeAll, wipeR, restR, keepDat, lcFin, mMt, lApp, lExt, mSl, opSl, mYes, keyOf_int, keyOf_str, opIsa, PyData.plain, PyData.isInt, PyData.isBool, PyData.isTuple, PyData.isList, PyData.isStr, hi, hr, encA, natD, q]
theorem led_ok {p : Prog} (hp : OkP p) {st : St} (hs : OkSt p st) : s__law_led [.dat (encP p), .dat (encSt st)] = .ret (.val (answerP p st)) [.un, .un] := by
  obtain ⟨m, os, h1, h2, h3, h4⟩ := answer_at hp hs
  obtain ⟨hi, hr⟩ := List.getElem?_eq_some_iff.mp h1
  have q := lcLoop_nil (own := [4]) (tg := .nm 4) (te := mIfE (mTst (mOp2 (cmpRet cIsNone) (mBor 4) (toB (mCst .none)))) (mCst .none) (mOp2 opIx (toB (mOp2 opIx (mBor 1) (toB (mCst (.int 1))))) (mBor 4))) (e := encO) (f := showO st.2)
    (ρ := [.dat (encP p), .dat (encSt st), .dat (.int (m : Int)), .dat (.tuple (os.map encO)), .un]) os (fun o ho => by
      refine ⟨[.dat (encP p), .dat (encSt st), .dat (.int (m : Int)), .dat (.tuple (os.map encO)), .dat (encO o)], _, _, by simp [fnSem, outsOf, outs_dat, outs_nil, argIn, sSeq, sIf, sAsgN, sAsgT, sSetIx, sStore, isDicS, sSetD, mDNew, mRg1, mRg2, rgRet, mItEn, mItZ, mIdx, sRet, sRetN, sNext, sExpr, sAug, sPar, sPar3, sNo, mNo, mTst, mTru, mNotT, mAndT, mOrT, mNotV, mAndV, mOrV, mIfE, mOp1, mOp2, mOps, mCons, mNil, mCst, mName, mMove, mBor, toB, mArg, mTup, mLst, mCallK, callB, argSls, argSl, argS, noTw, isSl, pick, putGo, newS, lookSl, reown, opnd1, opnd2, opnds, res, ress, valsOf, truth, Slot.data?, cmpRet, Ret.toD, Ret.slot, Slot.free?, Slot.own?, Out.andThen, Out.thenS, opAdd, opSub, opMul, opDiv, opMod, opNeg, opIx, retOf, L2.atI, L2.ixN, cGt, cLt, cLe, cGe, bInt, bAbs, bLen, bMax, bMin, bTuple, bList, mLenG, mIxG, mSlG, mPart, mItR1, mItR2, mItV, itemsOf, sFor, asgT, asgTs, mLc, mLc2, freeAll, wipeR, restR, keepDat, lcFin, mMt, lApp, lExt, mSl, opSl, mYes, keyOf_int, keyOf_str, opIsa, PyData.plain, PyData.isInt, PyData.isBool, PyData.isTuple, PyData.isList, PyData.isStr], shown_te st.2 o (h4 o ho) (encP p) (.int m) st.1 _ _, rfl, by simp [fnSem, outsOf, outs_dat, outs_nil, argIn, sSeq, sIf, sAsgN, sAsgT, sSetIx, sStore, isDicS, sSetD, mDNew, mRg1, mRg2, rgRet, mItEn, mItZ, mIdx, sRet, sRetN, sNext, sExpr, sAug, sPar, sPar3, sNo, mNo, mTst, mTru, mNotT, mAndT, mOrT, mNotV, mAndV, mOrV, mIfE, mOp1, mOp2, mOps, mCons, mNil, mCst, mName, mMove, mBor, toB, mArg, mTup, mLst, mCallK, callB, argSls, argSl, argS, noTw, isSl, pick, putGo, newS, lookSl, reown, opnd1, opnd2, opnds, res, ress, valsOf, truth, Slot.data?, cmpRet, Ret.toD, Ret.slot, Slot.free?, Slot.own?, Out.andThen, Out.thenS, opAdd, opSub, opMul, opDiv, opMod, opNeg, opIx, retOf, L2.atI, L2.ixN, cGt, cLt, cLe, cGe, bInt, bAbs, bLen, bMax, bMin, bTuple, bList, mLenG, mIxG, mSlG, mPart, mItR1, mItR2, mItV, itemsOf, sFor, asgT, asgTs, mLc, mLc2, freeAll, wipeR, restR, keepDat, lcFin, mMt, lApp, lExt, mSl, opSl, mYes, keyOf_int, keyOf_str, opIsa, PyData.plain, PyData.isInt, PyData.isBool, PyData.isTuple, PyData.isList, PyData.isStr], by simp [fnSem, outsOf, outs_dat, outs_nil, argIn, sSeq, sIf, sAsgN, sAsgT, sSetIx, sStore, isDicS, sSetD, mDNew, mRg1, mRg2, rgRet, mItEn, mItZ, mIdx, sRet, sRetN, sNext, sExpr, sAug, sPar, sPar3, sNo, mNo, mTst, mTru, mNotT, mAndT, mOrT, mNotV, mAndV, mOrV, mIfE, mOp1, mOp2, mOps, mCons, mNil, mCst, mName, mMove, mBor, toB, mArg, mTup, mLst, mCallK, callB, argSls, argSl, argS, noTw, isSl, pick, putGo, newS, lookSl, reown, opnd1, opnd2, opnds, res, ress, valsOf, truth, Slot.data?, cmpRet, Ret.toD, Ret.slot, Slot.free?, Slot.own?, Out.andThen, Out.thenS, opAdd, opSub, opMul, opDiv, opMod, opNeg, opIx, retOf, L2.atI, L2.ixN, cGt, cLt, cLe, cGe, bInt, bAbs, bLen, bMax, bMin, bTuple, bList, mLenG, mIxG, mSlG, mPart, mItR1, mItR2, mItV, itemsOf, sFor, asgT, asgTs, mLc, mLc2, freeAll, wipeR, restR, keepDat, lcFin, mMt, lApp, lExt, mSl, opSl, mYes, keyOf_int, keyOf_str, opIsa, PyData.plain, PyData.isInt, PyData.isBool, PyData.isTuple, PyData.isList, PyData.isStr, encSt]⟩) (by omega)
  rw [h2, s__law_led_eq]
  unfold b__law_led c__law_led_1 c__law_led_2
  rw [encP_eq] at q ⊢
  unfold encSt at q ⊢
  simp [fnSem, outsOf, outs_dat, outs_nil, argIn, sSeq, sIf, sAsgN, sAsgT, sSetIx, sStore, isDicS, sSetD, mDNew, mRg1, mRg2, rgRet, mItEn, mItZ, mIdx, sRet, sRetN, sNext, sExpr, sAug, sPar, sPar3, sNo, mNo, mTst, mTru, mNotT, mAndT, mOrT, mNotV, mAndV, mOrV, mIfE, mOp1, mOp2, mOps, mCons, mNil, mCst, mName, mMove, mBor, toB, mArg, mTup, mLst, mCallK, callB, argSls, argSl, argS, noTw, isSl, pick, putGo, newS, lookSl, reown, opnd1, opnd2, opnds, res, ress, valsOf, truth, Slot.data?, cmpRet, Ret.toD, Ret.slot, Slot.free?, Slot.own?, Out.andThen, Out.thenS, opAdd, opSub, opMul, opDiv, opMod, opNeg, opIx, retOf, L2.atI, L2.ixN, cGt, cLt, cLe, cGe, bInt, bAbs, bLen, bMax, bMin, bTuple, bList, mLenG, mIxG, mSlG, mPart, mItR1, mItR2, mItV, itemsOf, sFor, asgT, asgTs, mLc, mLc2, freeAll, wipeR, restR, keepDat, lcFin, mMt, lApp, lExt, mSl, opSl, mYes, keyOf_int, keyOf_str, opIsa, PyData.plain, PyData.isInt, PyData.isBool, PyData.isTuple, PyData.isList, PyData.isStr, hi, hr, encA, natD, q]
theorem behind_ok {p : Prog} (hp : OkP p) (s : List Evt) (he : ∀ e ∈ s, okE p.ks e) : s_state_behind [.dat (encP p), .dat (.tuple (s.map encE))] = .ret (.val (encSt (runP p s))) [.un, .un] := by
  have h1 := check_program_ok p hp
  have h2 := check_stream_ok p.ks hp.k2 hp.k3 s he
  have h3 := state_in_ok hp s he
  rw [s_state_behind_eq]
  unfold b_state_behind c_state_behind_1 c_state_behind_2 c_state_behind_3
  rw [encP_eq] at h1 h3 ⊢
  simp [fnSem, outsOf, outs_dat, outs_nil, argIn, sSeq, sIf, sAsgN, sAsgT, sSetIx, sStore, isDicS, sSetD, mDNew, mRg1, mRg2, rgRet, mItEn, mItZ, mIdx, sRet, sRetN, sNext, sExpr, sAug, sPar, sPar3, sNo, mNo, mTst, mTru, mNotT, mAndT, mOrT, mNotV, mAndV, mOrV, mIfE, mOp1, mOp2, mOps, mCons, mNil, mCst, mName, mMove, mBor, toB, mArg, mTup, mLst, mCallK, callB, argSls, argSl, argS, noTw, isSl, pick, putGo, newS, lookSl, reown, opnd1, opnd2, opnds, res, ress, valsOf, truth, Slot.data?, cmpRet, Ret.toD, Ret.slot, Slot.free?, Slot.own?, Out.andThen, Out.thenS, opAdd, opSub, opMul, opDiv, opMod, opNeg, opIx, retOf, L2.atI, L2.ixN, cGt, cLt, cLe, cGe, bInt, bAbs, bLen, bMax, bMin, bTuple, bList, mLenG, mIxG, mSlG, mPart, mItR1, mItR2, mItV, itemsOf, sFor, asgT, asgTs, mLc, mLc2, freeAll, wipeR, restR, keepDat, lcFin, mMt, lApp, lExt, mSl, opSl, mYes, keyOf_int, keyOf_str, opIsa, PyData.plain, PyData.isInt, PyData.isBool, PyData.isTuple, PyData.isList, PyData.isStr, h1, h2, h3]
theorem answer_ok {p : Prog} (hp : OkP p) (s : List Evt) (he : ∀ e ∈ s, okE p.ks e) : s_program_answer [.dat (encP p), .dat (.tuple (s.map encE))] = .ret (.val (answerP p (runP p s))) [.un, .un] := by
  have h1 := check_program_ok p hp
  have h2 := check_stream_ok p.ks hp.k2 hp.k3 s he
  have h3 := state_in_ok hp s he
  have h4 := told_at_ok hp (run_ok hp s he)
  rw [s_program_answer_eq]
  unfold b_program_answer c_program_answer_1 c_program_answer_2 c_program_answer_3
  rw [encP_eq] at h1 h3 h4 ⊢
  simp [fnSem, outsOf, outs_dat, outs_nil, argIn, sSeq, sIf, sAsgN, sAsgT, sSetIx, sStore, isDicS, sSetD, mDNew, mRg1, mRg2, rgRet, mItEn, mItZ, mIdx, sRet, sRetN, sNext, sExpr, sAug, sPar, sPar3, sNo, mNo, mTst, mTru, mNotT, mAndT, mOrT, mNotV, mAndV, mOrV, mIfE, mOp1, mOp2, mOps, mCons, mNil, mCst, mName, mMove, mBor, toB, mArg, mTup, mLst, mCallK, callB, argSls, argSl, argS, noTw, isSl, pick, putGo, newS, lookSl, reown, opnd1, opnd2, opnds, res, ress, valsOf, truth, Slot.data?, cmpRet, Ret.toD, Ret.slot, Slot.free?, Slot.own?, Out.andThen, Out.thenS, opAdd, opSub, opMul, opDiv, opMod, opNeg, opIx, retOf, L2.atI, L2.ixN, cGt, cLt, cLe, cGe, bInt, bAbs, bLen, bMax, bMin, bTuple, bList, mLenG, mIxG, mSlG, mPart, mItR1, mItR2, mItV, itemsOf, sFor, asgT, asgTs, mLc, mLc2, freeAll, wipeR, restR, keepDat, lcFin, mMt, lApp, lExt, mSl, opSl, mYes, keyOf_int, keyOf_str, opIsa, PyData.plain, PyData.isInt, PyData.isBool, PyData.isTuple, PyData.isList, PyData.isStr, h1, h2, h3, h4]
end Law
open PySem PySem.Spec PyProof.Rows L2 Ev
namespace Law
def exD : Nat → D → Prop
  | 0, _ => False
  | _ + 1, .none => True
  | _ + 1, .int _ => True
  | n + 1, .tuple ds => ds.length ≤ 1000 ∧ ∀ d ∈ ds, exD n d
  | _ + 1, _ => False
theorem exD_plain : ∀ (n : Nat) (d : D), exD n d → d.plain = true
  | 0, _, h => h.elim
  | _ + 1, .none, _ => rfl
  | _ + 1, .int _, _ => rfl
  | n + 1, .tuple ds, h => by
    have := plain_map (e := id) ds fun d hd => exD_plain n d (h.2 d hd)
    rw [List.map_id] at this
    simpa [PyData.plain] using this
  | _ + 1, .bool _, h => h.elim
  | _ + 1, .str _, h => h.elim
  | _ + 1, .list _, h => h.elim
  | _ + 1, .dict _, h => h.elim
theorem exact_ok : ∀ (n : Nat) (d : D), exD n d → s__law_exact n [.dat d, .dat d] = .ret (.val (.bool true)) [.un, .un]
  | 0, _, h => h.elim
  | n + 1, .none, _ => by
    rw [s__law_exact_eq]
    unfold b__law_exact c__law_exact_1 c__law_exact_2 c__law_exact_3
    simp [fnSem, outsOf, outs_dat, outs_nil, argIn, sSeq, sIf, sAsgN, sAsgT, sSetIx, sStore, isDicS, sSetD, mDNew, mRg1, mRg2, rgRet, mItEn, mItZ, mIdx, sRet, sRetN, sNext, sExpr, sAug, sPar, sPar3, sNo, mNo, mTst, mTru, mNotT, mAndT, mOrT, mNotV, mAndV, mOrV, mIfE, mOp1, mOp2, mOps, mCons, mNil, mCst, mName, mMove, mBor, toB, mArg, mTup, mLst, mCallK, callB, argSls, argSl, argS, noTw, isSl, pick, putGo, newS, lookSl, reown, opnd1, opnd2, opnds, res, ress, valsOf, truth, Slot.data?, cmpRet, Ret.toD, Ret.slot, Slot.free?, Slot.own?, Out.andThen, Out.thenS, opAdd, opSub, opMul, opDiv, opMod, opNeg, opIx, retOf, L2.atI, L2.ixN, cGt, cLt, cLe, cGe, bInt, bAbs, bLen, bMax, bMin, bTuple, bList, mLenG, mIxG, mSlG, mPart, mItR1, mItR2, mItV, itemsOf, sFor, asgT, asgTs, mLc, mLc2, freeAll, wipeR, restR, keepDat, lcFin, mMt, lApp, lExt, mSl, opSl, mYes, keyOf_int, keyOf_str, opIsa, PyData.plain, PyData.isInt, PyData.isBool, PyData.isTuple, PyData.isList, PyData.isStr, cIsNone]
  | n + 1, .int i, _ => by
    have e := cEq_int i i
    simp at e
    rw [s__law_exact_eq]
    unfold b__law_exact c__law_exact_1 c__law_exact_2 c__law_exact_3 c__law_exact_4 c__law_exact_5
    simp [fnSem, outsOf, outs_dat, outs_nil, argIn, sSeq, sIf, sAsgN, sAsgT, sSetIx, sStore, isDicS, sSetD, mDNew, mRg1, mRg2, rgRet, mItEn, mItZ, mIdx, sRet, sRetN, sNext, sExpr, sAug, sPar, sPar3, sNo, mNo, mTst, mTru, mNotT, mAndT, mOrT, mNotV, mAndV, mOrV, mIfE, mOp1, mOp2, mOps, mCons, mNil, mCst, mName, mMove, mBor, toB, mArg, mTup, mLst, mCallK, callB, argSls, argSl, argS, noTw, isSl, pick, putGo, newS, lookSl, reown, opnd1, opnd2, opnds, res, ress, valsOf, truth, Slot.data?, cmpRet, Ret.toD, Ret.slot, Slot.free?, Slot.own?, Out.andThen, Out.thenS, opAdd, opSub, opMul, opDiv, opMod, opNeg, opIx, retOf, L2.atI, L2.ixN, cGt, cLt, cLe, cGe, bInt, bAbs, bLen, bMax, bMin, bTuple, bList, mLenG, mIxG, mSlG, mPart, mItR1, mItR2, mItV, itemsOf, sFor, asgT, asgTs, mLc, mLc2, freeAll, wipeR, restR, keepDat, lcFin, mMt, lApp, lExt, mSl, opSl, mYes, keyOf_int, keyOf_str, opIsa, PyData.plain, PyData.isInt, PyData.isBool, PyData.isTuple, PyData.isList, PyData.isStr, cIsNone, e]
  | n + 1, .tuple ds, h => by
    have pl := exD_plain (n + 1) (.tuple ds) h
    obtain ⟨hl, h⟩ := h
    have pl2 : PyData.plainAll ds = true := by simpa [PyData.plain] using pl
    have e := cNe_int (ds.length : Int) (ds.length : Int)
    simp at e
    have q := lcLoop_true (own := [2]) (tg := .nm 2) (te := mCallK (s__law_exact n) [0, 1] 2 0 (mCons (toB (mOp2 opIx (mBor 0) (mBor 2))) (mCons (toB (mOp2 opIx (mBor 1) (mBor 2))) mNil)) mNil) (e := natD) (ρ := [.dat (.tuple ds), .dat (.tuple ds), .un]) (List.range ds.length) (fun i hi => by
      have hi2 : i < ds.length := List.mem_range.mp hi
      have h5 := exact_ok n ds[i] (h _ (List.getElem_mem hi2))
      refine ⟨[.dat (.tuple ds), .dat (.tuple ds), .dat (.int (i : Int))], [.dat (.tuple ds), .dat (.tuple ds), .dat (.int (i : Int))], by simp [fnSem, outsOf, outs_dat, outs_nil, argIn, sSeq, sIf, sAsgN, sAsgT, sSetIx, sStore, isDicS, sSetD, mDNew, mRg1, mRg2, rgRet, mItEn, mItZ, mIdx, sRet, sRetN, sNext, sExpr, sAug, sPar, sPar3, sNo, mNo, mTst, mTru, mNotT, mAndT, mOrT, mNotV, mAndV, mOrV, mIfE, mOp1, mOp2, mOps, mCons, mNil, mCst, mName, mMove, mBor, toB, mArg, mTup, mLst, mCallK, callB, argSls, argSl, argS, noTw, isSl, pick, putGo, newS, lookSl, reown, opnd1, opnd2, opnds, res, ress, valsOf, truth, Slot.data?, cmpRet, Ret.toD, Ret.slot, Slot.free?, Slot.own?, Out.andThen, Out.thenS, opAdd, opSub, opMul, opDiv, opMod, opNeg, opIx, retOf, L2.atI, L2.ixN, cGt, cLt, cLe, cGe, bInt, bAbs, bLen, bMax, bMin, bTuple, bList, mLenG, mIxG, mSlG, mPart, mItR1, mItR2, mItV, itemsOf, sFor, asgT, asgTs, mLc, mLc2, freeAll, wipeR, restR, keepDat, lcFin, mMt, lApp, lExt, mSl, opSl, mYes, keyOf_int, keyOf_str, opIsa, PyData.plain, PyData.isInt, PyData.isBool, PyData.isTuple, PyData.isList, PyData.isStr, natD], ?_, by simp [fnSem, outsOf, outs_dat, outs_nil, argIn, sSeq, sIf, sAsgN, sAsgT, sSetIx, sStore, isDicS, sSetD, mDNew, mRg1, mRg2, rgRet, mItEn, mItZ, mIdx, sRet, sRetN, sNext, sExpr, sAug, sPar, sPar3, sNo, mNo, mTst, mTru, mNotT, mAndT, mOrT, mNotV, mAndV, mOrV, mIfE, mOp1, mOp2, mOps, mCons, mNil, mCst, mName, mMove, mBor, toB, mArg, mTup, mLst, mCallK, callB, argSls, argSl, argS, noTw, isSl, pick, putGo, newS, lookSl, reown, opnd1, opnd2, opnds, res, ress, valsOf, truth, Slot.data?, cmpRet, Ret.toD, Ret.slot, Slot.free?, Slot.own?, Out.andThen, Out.thenS, opAdd, opSub, opMul, opDiv, opMod, opNeg, opIx, retOf, L2.atI, L2.ixN, cGt, cLt, cLe, cGe, bInt, bAbs, bLen, bMax, bMin, bTuple, bList, mLenG, mIxG, mSlG, mPart, mItR1, mItR2, mItV, itemsOf, sFor, asgT, asgTs, mLc, mLc2, freeAll, wipeR, restR, keepDat, lcFin, mMt, lApp, lExt, mSl, opSl, mYes, keyOf_int, keyOf_str, opIsa, PyData.plain, PyData.isInt, PyData.isBool, PyData.isTuple, PyData.isList, PyData.isStr], by simp [fnSem, outsOf, outs_dat, outs_nil, argIn, sSeq, sIf, sAsgN, sAsgT, sSetIx, sStore, isDicS, sSetD, mDNew, mRg1, mRg2, rgRet, mItEn, mItZ, mIdx, sRet, sRetN, sNext, sExpr, sAug, sPar, sPar3, sNo, mNo, mTst, mTru, mNotT, mAndT, mOrT, mNotV, mAndV, mOrV, mIfE, mOp1, mOp2, mOps, mCons, mNil, mCst, mName, mMove, mBor, toB, mArg, mTup, mLst, mCallK, callB, argSls, argSl, argS, noTw, isSl, pick, putGo, newS, lookSl, reown, opnd1, opnd2, opnds, res, ress, valsOf, truth, Slot.data?, cmpRet, Ret.toD, Ret.slot, Slot.free?, Slot.own?, Out.andThen, Out.thenS, opAdd, opSub, opMul, opDiv, opMod, opNeg, opIx, retOf, L2.atI, L2.ixN, cGt, cLt, cLe, cGe, bInt, bAbs, bLen, bMax, bMin, bTuple, bList, mLenG, mIxG, mSlG, mPart, mItR1, mItR2, mItV, itemsOf, sFor, asgT, asgTs, mLc, mLc2, freeAll, wipeR, restR, keepDat, lcFin, mMt, lApp, lExt, mSl, opSl, mYes, keyOf_int, keyOf_str, opIsa, PyData.plain, PyData.isInt, PyData.isBool, PyData.isTuple, PyData.isList, PyData.isStr]⟩
      simp [fnSem, outsOf, outs_dat, outs_nil, argIn, sSeq, sIf, sAsgN, sAsgT, sSetIx, sStore, isDicS, sSetD, mDNew, mRg1, mRg2, rgRet, mItEn, mItZ, mIdx, sRet, sRetN, sNext, sExpr, sAug, sPar, sPar3, sNo, mNo, mTst, mTru, mNotT, mAndT, mOrT, mNotV, mAndV, mOrV, mIfE, mOp1, mOp2, mOps, mCons, mNil, mCst, mName, mMove, mBor, toB, mArg, mTup, mLst, mCallK, callB, argSls, argSl, argS, noTw, isSl, pick, putGo, newS, lookSl, reown, opnd1, opnd2, opnds, res, ress, valsOf, truth, Slot.data?, cmpRet, Ret.toD, Ret.slot, Slot.free?, Slot.own?, Out.andThen, Out.thenS, opAdd, opSub, opMul, opDiv, opMod, opNeg, opIx, retOf, L2.atI, L2.ixN, cGt, cLt, cLe, cGe, bInt, bAbs, bLen, bMax, bMin, bTuple, bList, mLenG, mIxG, mSlG, mPart, mItR1, mItR2, mItV, itemsOf, sFor, asgT, asgTs, mLc, mLc2, freeAll, wipeR, restR, keepDat, lcFin, mMt, lApp, lExt, mSl, opSl, mYes, keyOf_int, keyOf_str, opIsa, PyData.plain, PyData.isInt, PyData.isBool, PyData.isTuple, PyData.isList, PyData.isStr, hi2, h5]) (by simp; omega)
    have hr := rgOk_nat ds.length (by omega)
    have hr2 : rangeD 0 ds.length = (List.range ds.length).map natD := rangeD_eq _
    have hb : ds.length < 4611686018427387904 := by omega
    have b := bAll_true (List.range ds.length)
    rw [s__law_exact_eq]
    unfold b__law_exact c__law_exact_1
    simp [fnSem, outsOf, outs_dat, outs_nil, argIn, sSeq, sIf, sAsgN, sAsgT, sSetIx, sStore, isDicS, sSetD, mDNew, mRg1, mRg2, rgRet, mItEn, mItZ, mIdx, sRet, sRetN, sNext, sExpr, sAug, sPar, sPar3, sNo, mNo, mTst, mTru, mNotT, mAndT, mOrT, mNotV, mAndV, mOrV, mIfE, mOp1, mOp2, mOps, mCons, mNil, mCst, mName, mMove, mBor, toB, mArg, mTup, mLst, mCallK, callB, argSls, argSl, argS, noTw, isSl, pick, putGo, newS, lookSl, reown, opnd1, opnd2, opnds, res, ress, valsOf, truth, Slot.data?, cmpRet, Ret.toD, Ret.slot, Slot.free?, Slot.own?, Out.andThen, Out.thenS, opAdd, opSub, opMul, opDiv, opMod, opNeg, opIx, retOf, L2.atI, L2.ixN, cGt, cLt, cLe, cGe, bInt, bAbs, bLen, bMax, bMin, bTuple, bList, mLenG, mIxG, mSlG, mPart, mItR1, mItR2, mItV, itemsOf, sFor, asgT, asgTs, mLc, mLc2, freeAll, wipeR, restR, keepDat, lcFin, mMt, lApp, lExt, mSl, opSl, mYes, keyOf_int, keyOf_str, opIsa, PyData.plain, PyData.isInt, PyData.isBool, PyData.isTuple, PyData.isList, PyData.isStr, pl2, e, hr, hr2, hb, q, b]
  | _ + 1, .bool _, h => h.elim
  | _ + 1, .str _, h => h.elim
  | _ + 1, .list _, h => h.elim
  | _ + 1, .dict _, h => h.elim
theorem ex_encI (n : Nat) (o : Option Int) : exD (n + 1) (encI o) := by cases o <;> exact trivial
theorem ex_showO (n : Nat) (held : List (Option Int)) (o : Option Nat) : exD (n + 1) (showO held o) := by
  cases o with
  | none => exact trivial
  | some i => exact ex_encI n _
theorem ex_st (p : Prog) (hp : OkP p) (st : St) (hs : OkSt p st) : exD 12 (encSt st) := by
  have h2 := hs.2
  have hR := hp.r
  unfold encSt
  refine ⟨by simp, fun d hd => ?_⟩
  simp only [List.mem_cons, List.not_mem_nil, or_false] at hd
  rcases hd with rfl | rfl
  · exact trivial
  · refine ⟨by rw [List.length_map]; omega, fun d hd => ?_⟩
    obtain ⟨o, _, rfl⟩ := List.mem_map.mp hd
    exact ex_encI 9 o
theorem ex_answer (p : Prog) (hp : OkP p) (st : St) (hs : OkSt p st) : exD 12 (answerP p st) := by
  obtain ⟨m, os, _, h2, h3, _⟩ := answer_at hp hs
  rw [h2]
  refine ⟨by simp, fun d hd => ?_⟩
  simp only [List.mem_cons, List.not_mem_nil, or_false] at hd
  rcases hd with rfl | rfl
  · exact trivial
  · refine ⟨by rw [List.length_map]; omega, fun d hd => ?_⟩
    obtain ⟨o, _, rfl⟩ := List.mem_map.mp hd
    exact ex_showO 9 _ o
end Law
open PySem PySem.Spec PyProof.Rows L2 Ev
namespace Law
abbrev bS (b : Bg) : Ev.Slot := .bag b.G b.M b.T
/-- the states along a stream -/
def along (p : Prog) : List Evt → St → List St
  | [], st => [st]
  | e :: s, st => st :: along p s (stepP p st e)
theorem along_len (p : Prog) : ∀ (s : List Evt) (st : St), (along p s st).length = s.length + 1
  | [], _ => rfl
  | e :: s, st => by simp [along, along_len p s]
theorem along_at (p : Prog) : ∀ (s : List Evt) (st : St) (i : Nat), i ≤ s.length → (along p s st)[i]? = some ((s.take i).foldl (stepP p) st)
  | [], st, i, h => by
    have : i = 0 := by simpa using h
    subst this
    rfl
  | e :: s, st, 0, _ => rfl
  | e :: s, st, i + 1, h => by
    rw [along, List.getElem?_cons_succ, along_at p s _ i (by simpa using h)]
    rfl
theorem law_1 (g : List D) (b : Bg) : ∃ ks : List Nat, ∃ b' : Bg, 0 < ks.length ∧ ks.length ≤ 2 ∧ (∀ k ∈ ks, k ≤ 2) ∧
    c_law_1 [.giv g, bS b, .un, .un, .un, .un, .un, .un, .un, .un, .un, .un] = .nx [.giv g, bS b', .dat (encK ks), .un, .un, .un, .un, .un, .un, .un, .un, .un] := by
  obtain ⟨ks, b', h1, h2, h3, h4⟩ := kinds_draw b
  refine ⟨ks, b', h1, h2, h3, ?_⟩
  unfold c_law_1
  simp [fnSem, outsOf, outs_dat, outs_nil, argIn, sSeq, sIf, sAsgN, sAsgT, sSetIx, sStore, isDicS, sSetD, mDNew, mRg1, mRg2, rgRet, mItEn, mItZ, mIdx, sRet, sRetN, sNext, sExpr, sAug, sPar, sPar3, sNo, mNo, mTst, mTru, mNotT, mAndT, mOrT, mNotV, mAndV, mOrV, mIfE, mOp1, mOp2, mOps, mCons, mNil, mCst, mName, mMove, mBor, toB, mArg, mTup, mLst, mCallK, callB, argSls, argSl, argS, noTw, isSl, pick, putGo, newS, lookSl, reown, opnd1, opnd2, opnds, res, ress, valsOf, truth, Slot.data?, cmpRet, Ret.toD, Ret.slot, Slot.free?, Slot.own?, Out.andThen, Out.thenS, opAdd, opSub, opMul, opDiv, opMod, opNeg, opIx, retOf, L2.atI, L2.ixN, cGt, cLt, cLe, cGe, bInt, bAbs, bLen, bMax, bMin, bTuple, bList, mLenG, mIxG, mSlG, mPart, mItR1, mItR2, mItV, itemsOf, sFor, asgT, asgTs, mLc, mLc2, freeAll, wipeR, restR, keepDat, lcFin, mMt, lApp, lExt, mSl, opSl, mYes, keyOf_int, keyOf_str, opIsa, PyData.plain, PyData.isInt, PyData.isBool, PyData.isTuple, PyData.isList, PyData.isStr, h4]
theorem law_2 (g : List D) (b : Bg) (ks : List Nat) (k1 : 0 < ks.length) (k2 : ks.length ≤ 2) (k3 : ∀ k ∈ ks, k ≤ 2) : ∃ (p : Prog) (b' : Bg), OkP p ∧ p.ks = ks ∧
    c_law_2 [.giv g, bS b, .dat (encK ks), .un, .un, .un, .un, .un, .un, .un, .un, .un] = .nx [.giv g, bS b', .dat (encK ks), .dat (encP p), .un, .un, .un, .un, .un, .un, .un, .un] := by
  obtain ⟨v, b1, hv, e1⟩ := b.draw (n := 4) (by omega) (by omega)
  obtain ⟨w, b2, hw, e2⟩ := b1.draw (n := 4) (by omega) (by omega)
  obtain ⟨p, b3, hp, h1, _, _, e3⟩ := program_draw b2 ks k1 k2 k3 (1 + v) w (by omega) (by omega) (by omega)
  have e1' : s__law_pick [.bag b.G b.M b.T, .dat (.int 4)] = .ret (.val (.int (v : Int))) [.bag b1.G b1.M b1.T, .un] := e1
  have e2' : s__law_pick [.bag b1.G b1.M b1.T, .dat (.int 4)] = .ret (.val (.int (w : Int))) [.bag b2.G b2.M b2.T, .un] := e2
  have e3' : s__law_program [.bag b2.G b2.M b2.T, .dat (encK ks), .dat (.int (1 + (v : Int))), .dat (.int (w : Int)), .dat (.int 3)] = .ret (.val (encP p)) [.bag b3.G b3.M b3.T, .un, .un, .un, .un] := by
    rw [show (1 + (v : Int)) = ((1 + v : Nat) : Int) by omega]; exact e3
  refine ⟨p, b3, hp, h1, ?_⟩
  unfold c_law_2
  simp [fnSem, outsOf, outs_dat, outs_nil, argIn, sSeq, sIf, sAsgN, sAsgT, sSetIx, sStore, isDicS, sSetD, mDNew, mRg1, mRg2, rgRet, mItEn, mItZ, mIdx, sRet, sRetN, sNext, sExpr, sAug, sPar, sPar3, sNo, mNo, mTst, mTru, mNotT, mAndT, mOrT, mNotV, mAndV, mOrV, mIfE, mOp1, mOp2, mOps, mCons, mNil, mCst, mName, mMove, mBor, toB, mArg, mTup, mLst, mCallK, callB, argSls, argSl, argS, noTw, isSl, pick, putGo, newS, lookSl, reown, opnd1, opnd2, opnds, res, ress, valsOf, truth, Slot.data?, cmpRet, Ret.toD, Ret.slot, Slot.free?, Slot.own?, Out.andThen, Out.thenS, opAdd, opSub, opMul, opDiv, opMod, opNeg, opIx, retOf, L2.atI, L2.ixN, cGt, cLt, cLe, cGe, bInt, bAbs, bLen, bMax, bMin, bTuple, bList, mLenG, mIxG, mSlG, mPart, mItR1, mItR2, mItV, itemsOf, sFor, asgT, asgTs, mLc, mLc2, freeAll, wipeR, restR, keepDat, lcFin, mMt, lApp, lExt, mSl, opSl, mYes, keyOf_int, keyOf_str, opIsa, PyData.plain, PyData.isInt, PyData.isBool, PyData.isTuple, PyData.isList, PyData.isStr, e1', e2', e3']
theorem law_3 (g : List D) (x y : D) (b : Bg) : ∃ (l : List Int) (b' : Bg), nnL l ∧ 0 < l.length ∧ l.length < 1000 ∧
    c_law_3 [.giv g, bS b, .dat x, .dat y, .un, .un, .un, .un, .un, .un, .un, .un] = .nx [.giv g, bS b', .dat x, .dat y, .lst true (l.map PyData.int), .un, .un, .un, .un, .un, .un, .un] := by
  obtain ⟨v, b1, hv, e1⟩ := b.draw (n := 5) (by omega) (by omega)
  obtain ⟨l, b2, h1, h2, e2⟩ := ids_draw b1 (1 + v) (by omega)
  have e1' : s__law_pick [.bag b.G b.M b.T, .dat (.int 5)] = .ret (.val (.int (v : Int))) [.bag b1.G b1.M b1.T, .un] := e1
  have e2' : s__law_ids [.bag b1.G b1.M b1.T, .dat (.int (1 + (v : Int)))] = .ret (.fl (l.map PyData.int)) [.bag b2.G b2.M b2.T, .un] := by
    rw [show (1 + (v : Int)) = ((1 + v : Nat) : Int) by omega]; exact e2
  refine ⟨l, b2, h1, by omega, by omega, ?_⟩
  unfold c_law_3
  simp [fnSem, outsOf, outs_dat, outs_nil, argIn, sSeq, sIf, sAsgN, sAsgT, sSetIx, sStore, isDicS, sSetD, mDNew, mRg1, mRg2, rgRet, mItEn, mItZ, mIdx, sRet, sRetN, sNext, sExpr, sAug, sPar, sPar3, sNo, mNo, mTst, mTru, mNotT, mAndT, mOrT, mNotV, mAndV, mOrV, mIfE, mOp1, mOp2, mOps, mCons, mNil, mCst, mName, mMove, mBor, toB, mArg, mTup, mLst, mCallK, callB, argSls, argSl, argS, noTw, isSl, pick, putGo, newS, lookSl, reown, opnd1, opnd2, opnds, res, ress, valsOf, truth, Slot.data?, cmpRet, Ret.toD, Ret.slot, Slot.free?, Slot.own?, Out.andThen, Out.thenS, opAdd, opSub, opMul, opDiv, opMod, opNeg, opIx, retOf, L2.atI, L2.ixN, cGt, cLt, cLe, cGe, bInt, bAbs, bLen, bMax, bMin, bTuple, bList, mLenG, mIxG, mSlG, mPart, mItR1, mItR2, mItV, itemsOf, sFor, asgT, asgTs, mLc, mLc2, freeAll, wipeR, restR, keepDat, lcFin, mMt, lApp, lExt, mSl, opSl, mYes, keyOf_int, keyOf_str, opIsa, PyData.plain, PyData.isInt, PyData.isBool, PyData.isTuple, PyData.isList, PyData.isStr, e1', e2']
theorem law_4 (ns : List Int) (hn : ns.length ≤ 63) (b : Bg) (p : Prog) (hp : OkP p) (y : D) (l : List Int) (hl : nnL l) (l1 : 0 < l.length) (l2 : l.length < 1000) : ∃ (s : List Evt) (b' : Bg), s.length ≤ 60 ∧ (∀ e ∈ s, okE p.ks e) ∧
    c_law_4 [.giv (ns.map PyData.int), bS b, .dat (encK p.ks), .dat y, .lst true (l.map PyData.int), .un, .un, .un, .un, .un, .un, .un] = .nx [.giv (ns.map PyData.int), bS b', .dat (encK p.ks), .dat y, .dat (.list (l.map PyData.int)), .dat (.tuple (s.map encE)), .un, .un, .un, .un, .un, .un] := by
  obtain ⟨v, b1, hv, e1⟩ := b.draw (n := 8) (by omega) (by omega)
  obtain ⟨s, b2, h1, h2, e2⟩ := stream_draw b1 p.ks hp.k1 hp.k2 hp.k3 l hl l1 l2 (min 60 (ns.length + v)) (by omega)
  have e1' : s__law_pick [.bag b.G b.M b.T, .dat (.int 8)] = .ret (.val (.int (v : Int))) [.bag b1.G b1.M b1.T, .un] := e1
  have hmin : (if (ns.length : Int) + (v : Int) < 60 then (ns.length : Int) + (v : Int) else 60) = ((min 60 (ns.length + v) : Nat) : Int) := by split <;> omega
  refine ⟨s, b2, by omega, h2, ?_⟩
  unfold c_law_4
  generalize ((min 60 (ns.length + v) : Nat) : Int) = m at *
  simp [fnSem, outsOf, outs_dat, outs_nil, argIn, sSeq, sIf, sAsgN, sAsgT, sSetIx, sStore, isDicS, sSetD, mDNew, mRg1, mRg2, rgRet, mItEn, mItZ, mIdx, sRet, sRetN, sNext, sExpr, sAug, sPar, sPar3, sNo, mNo, mTst, mTru, mNotT, mAndT, mOrT, mNotV, mAndV, mOrV, mIfE, mOp1, mOp2, mOps, mCons, mNil, mCst, mName, mMove, mBor, toB, mArg, mTup, mLst, mCallK, callB, argSls, argSl, argS, noTw, isSl, pick, putGo, newS, lookSl, reown, opnd1, opnd2, opnds, res, ress, valsOf, truth, Slot.data?, cmpRet, Ret.toD, Ret.slot, Slot.free?, Slot.own?, Out.andThen, Out.thenS, opAdd, opSub, opMul, opDiv, opMod, opNeg, opIx, retOf, L2.atI, L2.ixN, cGt, cLt, cLe, cGe, bInt, bAbs, bLen, bMax, bMin, bTuple, bList, mLenG, mIxG, mSlG, mPart, mItR1, mItR2, mItV, itemsOf, sFor, asgT, asgTs, mLc, mLc2, freeAll, wipeR, restR, keepDat, lcFin, mMt, lApp, lExt, mSl, opSl, mYes, keyOf_int, keyOf_str, opIsa, PyData.plain, PyData.isInt, PyData.isBool, PyData.isTuple, PyData.isList, PyData.isStr, e1', hmin, e2]
theorem law_5 (g : List D) (b : Bg) (x y : D) (p : Prog) (hp : OkP p) : c_law_5 [.giv g, bS b, .dat x, .dat (encP p), .dat y, .dat z, .un, .un, .un, .un, .un, .un] = .nx [.giv g, bS b, .dat x, .dat (encP p), .dat y, .dat z, .dat (encSt (startP p)), .un, .un, .un, .un, .un] := by
  have hR := hp.r
  have e := start_D p.R
  have c1 : p.R < 4611686018427387904 := by omega
  have c2 : p.R ≤ 1000 := by omega
  rw [encP_eq]
  unfold c_law_5 encSt startP
  simp [fnSem, outsOf, outs_dat, outs_nil, argIn, sSeq, sIf, sAsgN, sAsgT, sSetIx, sStore, isDicS, sSetD, mDNew, mRg1, mRg2, rgRet, mItEn, mItZ, mIdx, sRet, sRetN, sNext, sExpr, sAug, sPar, sPar3, sNo, mNo, mTst, mTru, mNotT, mAndT, mOrT, mNotV, mAndV, mOrV, mIfE, mOp1, mOp2, mOps, mCons, mNil, mCst, mName, mMove, mBor, toB, mArg, mTup, mLst, mCallK, callB, argSls, argSl, argS, noTw, isSl, pick, putGo, newS, lookSl, reown, opnd1, opnd2, opnds, res, ress, valsOf, truth, Slot.data?, cmpRet, Ret.toD, Ret.slot, Slot.free?, Slot.own?, Out.andThen, Out.thenS, opAdd, opSub, opMul, opDiv, opMod, opNeg, opIx, retOf, L2.atI, L2.ixN, cGt, cLt, cLe, cGe, bInt, bAbs, bLen, bMax, bMin, bTuple, bList, mLenG, mIxG, mSlG, mPart, mItR1, mItR2, mItV, itemsOf, sFor, asgT, asgTs, mLc, mLc2, freeAll, wipeR, restR, keepDat, lcFin, mMt, lApp, lExt, mSl, opSl, mYes, keyOf_int, keyOf_str, opIsa, PyData.plain, PyData.isInt, PyData.isBool, PyData.isTuple, PyData.isList, PyData.isStr, c1, c2, e]
theorem law_6 (g : List D) (b : Bg) (x y z p : D) (st : St) : c_law_6 [.giv g, bS b, .dat x, .dat p, .dat y, .dat z, .dat (encSt st), .un, .un, .un, .un, .un] = .nx [.giv g, bS b, .dat x, .dat p, .dat y, .dat z, .dat (encSt st), .lst true ([st].map encSt), .un, .un, .un, .un] := by
  unfold c_law_6
  simp [fnSem, outsOf, outs_dat, outs_nil, argIn, sSeq, sIf, sAsgN, sAsgT, sSetIx, sStore, isDicS, sSetD, mDNew, mRg1, mRg2, rgRet, mItEn, mItZ, mIdx, sRet, sRetN, sNext, sExpr, sAug, sPar, sPar3, sNo, mNo, mTst, mTru, mNotT, mAndT, mOrT, mNotV, mAndV, mOrV, mIfE, mOp1, mOp2, mOps, mCons, mNil, mCst, mName, mMove, mBor, toB, mArg, mTup, mLst, mCallK, callB, argSls, argSl, argS, noTw, isSl, pick, putGo, newS, lookSl, reown, opnd1, opnd2, opnds, res, ress, valsOf, truth, Slot.data?, cmpRet, Ret.toD, Ret.slot, Slot.free?, Slot.own?, Out.andThen, Out.thenS, opAdd, opSub, opMul, opDiv, opMod, opNeg, opIx, retOf, L2.atI, L2.ixN, cGt, cLt, cLe, cGe, bInt, bAbs, bLen, bMax, bMin, bTuple, bList, mLenG, mIxG, mSlG, mPart, mItR1, mItR2, mItV, itemsOf, sFor, asgT, asgTs, mLc, mLc2, freeAll, wipeR, restR, keepDat, lcFin, mMt, lApp, lExt, mSl, opSl, mYes, keyOf_int, keyOf_str, opIsa, PyData.plain, PyData.isInt, PyData.isBool, PyData.isTuple, PyData.isList, PyData.isStr]
theorem law_7 (g : List D) (b : Bg) (x y : D) (p : Prog) (hp : OkP p) (s : List Evt) (hs : ∀ e ∈ s, okE p.ks e) (hl : s.length ≤ 60) : ∃ (s6 s8 : Ev.Slot), frS s6 ∧ frS s8 ∧ c_law_7 [.giv g, bS b, .dat x, .dat (encP p), .dat y, .dat (.tuple (s.map encE)), .dat (encSt (startP p)), .lst true ([startP p].map encSt), .un, .un, .un, .un] =
    .nx [.giv g, bS b, .dat x, .dat (encP p), .dat y, .dat (.tuple (s.map encE)), s6, .lst true ((along p s (startP p)).map encSt), s8, .un, .un, .un] := by
  obtain ⟨ρ', h1, st, s8, fd, q8, ho, hr, hf, rfl⟩ := forLoop_st (tg := .nm 8) (body := l_law_1) encE (fun rest ρ => ∃ (st : St) (s8 : Ev.Slot) (fd : List St), frS s8 ∧ OkSt p st ∧ fd ++ along p rest st = along p s (startP p) ∧ fd.length ≤ 60 ∧ ρ = [.giv g, bS b, .dat x, .dat (encP p), .dat y, .dat (.tuple (s.map encE)), .dat (encSt st), .lst true ((fd ++ [st]).map encSt), s8, .un, .un, .un]) s (by
    rintro e r ρ ⟨st, s8, fd, q8, ho, hr, hf, rfl⟩ hm
    have h2 := lead_ok hp ho (hs e hm)
    have hlen : fd.length + (r.length + 2) = s.length + 1 := by
      have := congrArg List.length hr
      simpa [along_len] using this
    refine ⟨[.giv g, bS b, .dat x, .dat (encP p), .dat y, .dat (.tuple (s.map encE)), .dat (encSt st), .lst true ((fd ++ [st]).map encSt), .dat (encE e), .un, .un, .un], [.giv g, bS b, .dat x, .dat (encP p), .dat y, .dat (.tuple (s.map encE)), .dat (encSt (stepP p st e)), .lst true ((fd ++ [st] ++ [stepP p st e]).map encSt), .dat (encE e), .un, .un, .un], ?_, .inl ?_, stepP p st e, _, fd ++ [st], frS_dat, step_ok hp ho (hs e hm), ?_, ?_, rfl⟩
    · rcases q8 with rfl | ⟨d, rfl⟩ <;> simp [fnSem, outsOf, outs_dat, outs_nil, argIn, sSeq, sIf, sAsgN, sAsgT, sSetIx, sStore, isDicS, sSetD, mDNew, mRg1, mRg2, rgRet, mItEn, mItZ, mIdx, sRet, sRetN, sNext, sExpr, sAug, sPar, sPar3, sNo, mNo, mTst, mTru, mNotT, mAndT, mOrT, mNotV, mAndV, mOrV, mIfE, mOp1, mOp2, mOps, mCons, mNil, mCst, mName, mMove, mBor, toB, mArg, mTup, mLst, mCallK, callB, argSls, argSl, argS, noTw, isSl, pick, putGo, newS, lookSl, reown, opnd1, opnd2, opnds, res, ress, valsOf, truth, Slot.data?, cmpRet, Ret.toD, Ret.slot, Slot.free?, Slot.own?, Out.andThen, Out.thenS, opAdd, opSub, opMul, opDiv, opMod, opNeg, opIx, retOf, L2.atI, L2.ixN, cGt, cLt, cLe, cGe, bInt, bAbs, bLen, bMax, bMin, bTuple, bList, mLenG, mIxG, mSlG, mPart, mItR1, mItR2, mItV, itemsOf, sFor, asgT, asgTs, mLc, mLc2, freeAll, wipeR, restR, keepDat, lcFin, mMt, lApp, lExt, mSl, opSl, mYes, keyOf_int, keyOf_str, opIsa, PyData.plain, PyData.isInt, PyData.isBool, PyData.isTuple, PyData.isList, PyData.isStr]
    · have hc : fd.length + 1 < 16777216 := by omega
      unfold l_law_1
      simp [fnSem, outsOf, outs_dat, outs_nil, argIn, sSeq, sIf, sAsgN, sAsgT, sSetIx, sStore, isDicS, sSetD, mDNew, mRg1, mRg2, rgRet, mItEn, mItZ, mIdx, sRet, sRetN, sNext, sExpr, sAug, sPar, sPar3, sNo, mNo, mTst, mTru, mNotT, mAndT, mOrT, mNotV, mAndV, mOrV, mIfE, mOp1, mOp2, mOps, mCons, mNil, mCst, mName, mMove, mBor, toB, mArg, mTup, mLst, mCallK, callB, argSls, argSl, argS, noTw, isSl, pick, putGo, newS, lookSl, reown, opnd1, opnd2, opnds, res, ress, valsOf, truth, Slot.data?, cmpRet, Ret.toD, Ret.slot, Slot.free?, Slot.own?, Out.andThen, Out.thenS, opAdd, opSub, opMul, opDiv, opMod, opNeg, opIx, retOf, L2.atI, L2.ixN, cGt, cLt, cLe, cGe, bInt, bAbs, bLen, bMax, bMin, bTuple, bList, mLenG, mIxG, mSlG, mPart, mItR1, mItR2, mItV, itemsOf, sFor, asgT, asgTs, mLc, mLc2, freeAll, wipeR, restR, keepDat, lcFin, mMt, lApp, lExt, mSl, opSl, mYes, keyOf_int, keyOf_str, opIsa, PyData.plain, PyData.isInt, PyData.isBool, PyData.isTuple, PyData.isList, PyData.isStr, h2, hc]
    · rw [← hr]; simp [along]
    · simp; omega) _ ⟨startP p, .un, [], frS_un, start_ok hp, rfl, by simp, rfl⟩
  refine ⟨.dat (encSt st), s8, frS_dat, q8, ?_⟩
  rw [← hr]
  unfold c_law_7
  simp only [List.nil_append, List.map_append, List.map_cons, List.map_nil] at h1
  simp [fnSem, outsOf, outs_dat, outs_nil, argIn, sSeq, sIf, sAsgN, sAsgT, sSetIx, sStore, isDicS, sSetD, mDNew, mRg1, mRg2, rgRet, mItEn, mItZ, mIdx, sRet, sRetN, sNext, sExpr, sAug, sPar, sPar3, sNo, mNo, mTst, mTru, mNotT, mAndT, mOrT, mNotV, mAndV, mOrV, mIfE, mOp1, mOp2, mOps, mCons, mNil, mCst, mName, mMove, mBor, toB, mArg, mTup, mLst, mCallK, callB, argSls, argSl, argS, noTw, isSl, pick, putGo, newS, lookSl, reown, opnd1, opnd2, opnds, res, ress, valsOf, truth, Slot.data?, cmpRet, Ret.toD, Ret.slot, Slot.free?, Slot.own?, Out.andThen, Out.thenS, opAdd, opSub, opMul, opDiv, opMod, opNeg, opIx, retOf, L2.atI, L2.ixN, cGt, cLt, cLe, cGe, bInt, bAbs, bLen, bMax, bMin, bTuple, bList, mLenG, mIxG, mSlG, mPart, mItR1, mItR2, mItV, itemsOf, sFor, asgT, asgTs, mLc, mLc2, freeAll, wipeR, restR, keepDat, lcFin, mMt, lApp, lExt, mSl, opSl, mYes, keyOf_int, keyOf_str, opIsa, PyData.plain, PyData.isInt, PyData.isBool, PyData.isTuple, PyData.isList, PyData.isStr, h1, along]
theorem law_8 (g : List D) (b : Bg) (x y p : D) (s : List Evt) (hl : s.length ≤ 60) (L : List St) (hL : 0 < L.length) (hL2 : L.length ≤ 61) (s6 s8 : Ev.Slot) (q6 : frS s6) (q8 : frS s8) : ∃ (as : List Int) (b' : Bg), c_law_8 [.giv g, bS b, .dat x, .dat p, .dat y, .dat (.tuple (s.map encE)), s6, .lst true (L.map encSt), s8, .un, .un, .un] =
    .nx [.giv g, bS b', .dat x, .dat p, .dat y, .dat (.tuple (s.map encE)), s6, .lst true (L.map encSt), s8, .lst true (as.map PyData.int), .un, .un] := by
  obtain ⟨out, b', e2, h2, h3⟩ := lcLoop_bag0 (own := [10]) (tg := .nm 10) (te := mCallK s__law_pick [0, 1] 2 0 (mCons (mArg 1) (mCons (toB (mOps bLen (mCons (mBor 7) mNil))) mNil)) mNil) (e := natD) natD (fun _ => True)
    (fun b => [.giv g, bS b, .dat x, .dat p, .dat y, .dat (.tuple (s.map encE)), s6, .lst true (L.map encSt), s8, .un, .un, .un]) (List.range 3) b (fun a _ b => by
      obtain ⟨v, b', hv, e⟩ := b.draw (n := L.length) hL (by omega)
      refine ⟨[.giv g, bS b, .dat x, .dat p, .dat y, .dat (.tuple (s.map encE)), s6, .lst true (L.map encSt), s8, .un, .dat (natD a), .un], .val (natD v), [.giv g, bS b', .dat x, .dat p, .dat y, .dat (.tuple (s.map encE)), s6, .lst true (L.map encSt), s8, .un, .dat (natD a), .un], v, b', ?_, ?_, rfl, trivial, ?_, ?_⟩
      all_goals rcases q6 with rfl | ⟨d, rfl⟩ <;> rcases q8 with rfl | ⟨d', rfl⟩ <;> simp [fnSem, outsOf, outs_dat, outs_nil, argIn, sSeq, sIf, sAsgN, sAsgT, sSetIx, sStore, isDicS, sSetD, mDNew, mRg1, mRg2, rgRet, mItEn, mItZ, mIdx, sRet, sRetN, sNext, sExpr, sAug, sPar, sPar3, sNo, mNo, mTst, mTru, mNotT, mAndT, mOrT, mNotV, mAndV, mOrV, mIfE, mOp1, mOp2, mOps, mCons, mNil, mCst, mName, mMove, mBor, toB, mArg, mTup, mLst, mCallK, callB, argSls, argSl, argS, noTw, isSl, pick, putGo, newS, lookSl, reown, opnd1, opnd2, opnds, res, ress, valsOf, truth, Slot.data?, cmpRet, Ret.toD, Ret.slot, Slot.free?, Slot.own?, Out.andThen, Out.thenS, opAdd, opSub, opMul, opDiv, opMod, opNeg, opIx, retOf, L2.atI, L2.ixN, cGt, cLt, cLe, cGe, bInt, bAbs, bLen, bMax, bMin, bTuple, bList, mLenG, mIxG, mSlG, mPart, mItR1, mItR2, mItV, itemsOf, sFor, asgT, asgTs, mLc, mLc2, freeAll, wipeR, restR, keepDat, lcFin, mMt, lApp, lExt, mSl, opSl, mYes, keyOf_int, keyOf_str, opIsa, PyData.plain, PyData.isInt, PyData.isBool, PyData.isTuple, PyData.isList, PyData.isStr, natD, e]) (by simp)
  refine ⟨(s.length : Int) :: out.map fun i : Nat => (i : Int), b', ?_⟩
  have hr : rgOk 0 3 = true := rgOk_nat 3 (by omega)
  have hr2 : rangeD 0 3 = (List.range 3).map natD := rangeD_eq 3
  rw [← hr2] at e2
  have h4 : out.length = 3 := by simpa using h2
  unfold c_law_8
  rcases q6 with rfl | ⟨d, rfl⟩ <;> rcases q8 with rfl | ⟨d', rfl⟩ <;> simp [fnSem, outsOf, outs_dat, outs_nil, argIn, sSeq, sIf, sAsgN, sAsgT, sSetIx, sStore, isDicS, sSetD, mDNew, mRg1, mRg2, rgRet, mItEn, mItZ, mIdx, sRet, sRetN, sNext, sExpr, sAug, sPar, sPar3, sNo, mNo, mTst, mTru, mNotT, mAndT, mOrT, mNotV, mAndV, mOrV, mIfE, mOp1, mOp2, mOps, mCons, mNil, mCst, mName, mMove, mBor, toB, mArg, mTup, mLst, mCallK, callB, argSls, argSl, argS, noTw, isSl, pick, putGo, newS, lookSl, reown, opnd1, opnd2, opnds, res, ress, valsOf, truth, Slot.data?, cmpRet, Ret.toD, Ret.slot, Slot.free?, Slot.own?, Out.andThen, Out.thenS, opAdd, opSub, opMul, opDiv, opMod, opNeg, opIx, retOf, L2.atI, L2.ixN, cGt, cLt, cLe, cGe, bInt, bAbs, bLen, bMax, bMin, bTuple, bList, mLenG, mIxG, mSlG, mPart, mItR1, mItR2, mItV, itemsOf, sFor, asgT, asgTs, mLc, mLc2, freeAll, wipeR, restR, keepDat, lcFin, mMt, lApp, lExt, mSl, opSl, mYes, keyOf_int, keyOf_str, opIsa, PyData.plain, PyData.isInt, PyData.isBool, PyData.isTuple, PyData.isList, PyData.isStr, hr, e2, h4, natD]
end Law
open PySem PySem.Spec PyProof.Rows L2 Ev
namespace Law
theorem law_turn (g : List D) (b : Bg) (x y : D) (p : Prog) (hp : OkP p) (s : List Evt) (hs : ∀ e ∈ s, okE p.ks e) (hl : s.length ≤ 60) (s6 s8 : Ev.Slot) (q6 : frS s6) (q8 : frS s8) (as : List Int) (i : Nat) (hi : i ≤ s.length) :
    l_law_2 [.giv g, bS b, .dat x, .dat (encP p), .dat y, .dat (.tuple (s.map encE)), s6, .lst true ((along p s (startP p)).map encSt), s8, .lst true (as.map PyData.int), .un, .dat (natD i)] = .nx [.giv g, bS b, .dat x, .dat (encP p), .dat y, .dat (.tuple (s.map encE)), s6, .lst true ((along p s (startP p)).map encSt), s8, .lst true (as.map PyData.int), .un, .dat (natD i)] := by
  have hst : ∀ e ∈ s.take i, okE p.ks e := fun e he => hs e (List.mem_of_mem_take he)
  have a1 := answer_ok hp (s.take i) hst
  have a2 := led_ok hp (run_ok hp (s.take i) hst)
  have a3 := exact_ok 12 _ (ex_answer p hp _ (run_ok hp (s.take i) hst))
  have a4 := behind_ok hp (s.take i) hst
  have a5 := exact_ok 12 _ (ex_st p hp _ (run_ok hp (s.take i) hst))
  have hlen : i < ((along p s (startP p)).map encSt).length := by rw [List.length_map, along_len]; omega
  have hat : ((along p s (startP p)).map encSt)[i] = encSt (runP p (s.take i)) := by
    have := along_at p s (startP p) i hi
    rw [List.getElem_map]
    congr 1
    have h2 := List.getElem?_eq_getElem (l := along p s (startP p)) (i := i) (by simpa using hlen)
    rw [this] at h2
    exact (Option.some.inj h2).symm
  have hc := cut_take (s.map encE) i
  rw [← List.map_take] at hc
  generalize (along p s (startP p)).map encSt = Lst at *
  have hin := cIn_lst (i : Int) as
  unfold intL at hin
  unfold l_law_2 natD
  generalize (s.take i).map encE = ST at *
  generalize s.map encE = SE at *
  cases hd : decide ((i : Int) ∈ as) <;> rw [hd] at hin <;> rcases q6 with rfl | ⟨d, rfl⟩ <;> rcases q8 with rfl | ⟨d', rfl⟩ <;> simp [fnSem, outsOf, outs_dat, outs_nil, argIn, sSeq, sIf, sAsgN, sAsgT, sSetIx, sStore, isDicS, sSetD, mDNew, mRg1, mRg2, rgRet, mItEn, mItZ, mIdx, sRet, sRetN, sNext, sExpr, sAug, sPar, sPar3, sNo, mNo, mTst, mTru, mNotT, mAndT, mOrT, mNotV, mAndV, mOrV, mIfE, mOp1, mOp2, mOps, mCons, mNil, mCst, mName, mMove, mBor, toB, mArg, mTup, mLst, mCallK, callB, argSls, argSl, argS, noTw, isSl, pick, putGo, newS, lookSl, reown, opnd1, opnd2, opnds, res, ress, valsOf, truth, Slot.data?, cmpRet, Ret.toD, Ret.slot, Slot.free?, Slot.own?, Out.andThen, Out.thenS, opAdd, opSub, opMul, opDiv, opMod, opNeg, opIx, retOf, L2.atI, L2.ixN, cGt, cLt, cLe, cGe, bInt, bAbs, bLen, bMax, bMin, bTuple, bList, mLenG, mIxG, mSlG, mPart, mItR1, mItR2, mItV, itemsOf, sFor, asgT, asgTs, mLc, mLc2, freeAll, wipeR, restR, keepDat, lcFin, mMt, lApp, lExt, mSl, opSl, mYes, keyOf_int, keyOf_str, opIsa, PyData.plain, PyData.isInt, PyData.isBool, PyData.isTuple, PyData.isList, PyData.isStr, hc, a1, a2, a3, a4, a5, hlen, hat, hin]
theorem law_9 (g : List D) (b : Bg) (x y : D) (p : Prog) (hp : OkP p) (s : List Evt) (hs : ∀ e ∈ s, okE p.ks e) (hl : s.length ≤ 60) (s6 s8 : Ev.Slot) (q6 : frS s6) (q8 : frS s8) (as : List Int) : ∃ s11, frS s11 ∧
    c_law_9 [.giv g, bS b, .dat x, .dat (encP p), .dat y, .dat (.tuple (s.map encE)), s6, .lst true ((along p s (startP p)).map encSt), s8, .lst true (as.map PyData.int), .un, .un] = .nx [.giv g, bS b, .dat x, .dat (encP p), .dat y, .dat (.tuple (s.map encE)), s6, .lst true ((along p s (startP p)).map encSt), s8, .lst true (as.map PyData.int), .un, s11] := by
  obtain ⟨ρ', h1, s11, q11, rfl⟩ := forLoop_st (tg := .nm 11) (body := l_law_2) natD (fun _ ρ => ∃ s11, frS s11 ∧ ρ = [.giv g, bS b, .dat x, .dat (encP p), .dat y, .dat (.tuple (s.map encE)), s6, .lst true ((along p s (startP p)).map encSt), s8, .lst true (as.map PyData.int), .un, s11]) (List.range (s.length + 1)) (by
    rintro i r ρ ⟨s11, q11, rfl⟩ hm
    have hi : i < s.length + 1 := List.mem_range.mp hm
    refine ⟨_, _, ?_, .inl (law_turn g b x y p hp s hs hl s6 s8 q6 q8 as i (by omega)), _, frS_dat, rfl⟩
    rcases q6 with rfl | ⟨d, rfl⟩ <;> rcases q8 with rfl | ⟨d', rfl⟩ <;> rcases q11 with rfl | ⟨d'', rfl⟩ <;> simp [fnSem, outsOf, outs_dat, outs_nil, argIn, sSeq, sIf, sAsgN, sAsgT, sSetIx, sStore, isDicS, sSetD, mDNew, mRg1, mRg2, rgRet, mItEn, mItZ, mIdx, sRet, sRetN, sNext, sExpr, sAug, sPar, sPar3, sNo, mNo, mTst, mTru, mNotT, mAndT, mOrT, mNotV, mAndV, mOrV, mIfE, mOp1, mOp2, mOps, mCons, mNil, mCst, mName, mMove, mBor, toB, mArg, mTup, mLst, mCallK, callB, argSls, argSl, argS, noTw, isSl, pick, putGo, newS, lookSl, reown, opnd1, opnd2, opnds, res, ress, valsOf, truth, Slot.data?, cmpRet, Ret.toD, Ret.slot, Slot.free?, Slot.own?, Out.andThen, Out.thenS, opAdd, opSub, opMul, opDiv, opMod, opNeg, opIx, retOf, L2.atI, L2.ixN, cGt, cLt, cLe, cGe, bInt, bAbs, bLen, bMax, bMin, bTuple, bList, mLenG, mIxG, mSlG, mPart, mItR1, mItR2, mItV, itemsOf, sFor, asgT, asgTs, mLc, mLc2, freeAll, wipeR, restR, keepDat, lcFin, mMt, lApp, lExt, mSl, opSl, mYes, keyOf_int, keyOf_str, opIsa, PyData.plain, PyData.isInt, PyData.isBool, PyData.isTuple, PyData.isList, PyData.isStr]) _ ⟨.un, frS_un, rfl⟩
  refine ⟨s11, q11, ?_⟩
  have hr := rgOk_nat (s.length + 1) (by omega)
  have hr2 : rangeD 0 (s.length + 1) = (List.range (s.length + 1)).map natD := rangeD_eq (s.length + 1)
  have hb : s.length + 1 < 4611686018427387904 := by omega
  have hL := along_len p s (startP p)
  have hr' : rgOk 0 ((s.length : Int) + 1) = true := by
    rw [show ((s.length : Int) + 1) = ((s.length + 1 : Nat) : Int) by omega]; exact hr
  have hb' : ((s.length : Int) + 1).natAbs < 4611686018427387904 := by omega
  have ht : ((s.length : Int) + 1).toNat = s.length + 1 := by omega
  unfold c_law_9
  rcases q6 with rfl | ⟨d, rfl⟩ <;> rcases q8 with rfl | ⟨d', rfl⟩ <;> simp [fnSem, outsOf, outs_dat, outs_nil, argIn, sSeq, sIf, sAsgN, sAsgT, sSetIx, sStore, isDicS, sSetD, mDNew, mRg1, mRg2, rgRet, mItEn, mItZ, mIdx, sRet, sRetN, sNext, sExpr, sAug, sPar, sPar3, sNo, mNo, mTst, mTru, mNotT, mAndT, mOrT, mNotV, mAndV, mOrV, mIfE, mOp1, mOp2, mOps, mCons, mNil, mCst, mName, mMove, mBor, toB, mArg, mTup, mLst, mCallK, callB, argSls, argSl, argS, noTw, isSl, pick, putGo, newS, lookSl, reown, opnd1, opnd2, opnds, res, ress, valsOf, truth, Slot.data?, cmpRet, Ret.toD, Ret.slot, Slot.free?, Slot.own?, Out.andThen, Out.thenS, opAdd, opSub, opMul, opDiv, opMod, opNeg, opIx, retOf, L2.atI, L2.ixN, cGt, cLt, cLe, cGe, bInt, bAbs, bLen, bMax, bMin, bTuple, bList, mLenG, mIxG, mSlG, mPart, mItR1, mItR2, mItV, itemsOf, sFor, asgT, asgTs, mLc, mLc2, freeAll, wipeR, restR, keepDat, lcFin, mMt, lApp, lExt, mSl, opSl, mYes, keyOf_int, keyOf_str, opIsa, PyData.plain, PyData.isInt, PyData.isBool, PyData.isTuple, PyData.isList, PyData.isStr, hL, hr', hb', ht, hr2, h1]
theorem law_10 (g : List D) (b : Bg) (x y : D) (p : Prog) (hp : OkP p) (s : List Evt) (s6 s8 s11 : Ev.Slot) (q6 : frS s6) (q8 : frS s8) (q11 : frS s11) (as : List Int) : ∃ ρ,
    c_law_10 [.giv g, bS b, .dat x, .dat (encP p), .dat y, .dat (.tuple (s.map encE)), s6, .lst true ((along p s (startP p)).map encSt), s8, .lst true (as.map PyData.int), .un, s11] = .rt (.val (.bool true)) ρ := by
  have hst : ∀ e ∈ ([] : List Evt), okE p.ks e := fun e he => absurd he (by simp)
  have a1 := answer_ok hp [] hst
  have a2 := led_ok hp (run_ok hp [] hst)
  have a3 := exact_ok 12 _ (ex_answer p hp _ (run_ok hp [] hst))
  obtain ⟨L, hL⟩ : ∃ L, along p s (startP p) = runP p [] :: L := by
    cases s with
    | nil => exact ⟨[], rfl⟩
    | cons e s => exact ⟨_, rfl⟩
  rw [hL]
  simp only [List.map_nil] at a1
  unfold c_law_10
  refine ⟨[.giv g, bS b, .dat x, .dat (encP p), .dat y, .dat (.tuple (s.map encE)), s6, .lst true ((runP p [] :: L).map encSt), s8, .lst true (as.map PyData.int), .un, s11], ?_⟩
  rcases q6 with rfl | ⟨d, rfl⟩ <;> rcases q8 with rfl | ⟨d', rfl⟩ <;> rcases q11 with rfl | ⟨d'', rfl⟩ <;> simp [fnSem, outsOf, outs_dat, outs_nil, argIn, sSeq, sIf, sAsgN, sAsgT, sSetIx, sStore, isDicS, sSetD, mDNew, mRg1, mRg2, rgRet, mItEn, mItZ, mIdx, sRet, sRetN, sNext, sExpr, sAug, sPar, sPar3, sNo, mNo, mTst, mTru, mNotT, mAndT, mOrT, mNotV, mAndV, mOrV, mIfE, mOp1, mOp2, mOps, mCons, mNil, mCst, mName, mMove, mBor, toB, mArg, mTup, mLst, mCallK, callB, argSls, argSl, argS, noTw, isSl, pick, putGo, newS, lookSl, reown, opnd1, opnd2, opnds, res, ress, valsOf, truth, Slot.data?, cmpRet, Ret.toD, Ret.slot, Slot.free?, Slot.own?, Out.andThen, Out.thenS, opAdd, opSub, opMul, opDiv, opMod, opNeg, opIx, retOf, L2.atI, L2.ixN, cGt, cLt, cLe, cGe, bInt, bAbs, bLen, bMax, bMin, bTuple, bList, mLenG, mIxG, mSlG, mPart, mItR1, mItR2, mItV, itemsOf, sFor, asgT, asgTs, mLc, mLc2, freeAll, wipeR, restR, keepDat, lcFin, mMt, lApp, lExt, mSl, opSl, mYes, keyOf_int, keyOf_str, opIsa, PyData.plain, PyData.isInt, PyData.isBool, PyData.isTuple, PyData.isList, PyData.isStr, a1, a2, a3]
theorem holds : ∀ ns : List Int, ns.length ≤ 63 → ∃ outs, s_law [.giv (ns.map PyData.int)] = .ret (.val (.bool true)) outs := fun ns hn => by
  obtain ⟨b0, hT, hb⟩ := bag_mk ns hn
  obtain ⟨ks, b1, k1, k2, k3, e1⟩ := law_1 (ns.map PyData.int) b0
  obtain ⟨p, b2, hp, rfl, e2⟩ := law_2 (ns.map PyData.int) b1 ks k1 k2 k3
  obtain ⟨l, b3, hl, l1, l2, e3⟩ := law_3 (ns.map PyData.int) (encK p.ks) (encP p) b2
  obtain ⟨s, b4, hs, hok, e4⟩ := law_4 ns hn b3 p hp (encP p) l hl l1 l2
  have e5 := law_5 (z := .tuple (s.map encE)) (ns.map PyData.int) b4 (encK p.ks) (.list (l.map PyData.int)) p hp
  have e6 := law_6 (ns.map PyData.int) b4 (encK p.ks) (.list (l.map PyData.int)) (.tuple (s.map encE)) (encP p) (startP p)
  obtain ⟨s6, s8, q6, q8, e7⟩ := law_7 (ns.map PyData.int) b4 (encK p.ks) (.list (l.map PyData.int)) p hp s hok hs
  obtain ⟨as, b5, e8⟩ := law_8 (ns.map PyData.int) b4 (encK p.ks) (.list (l.map PyData.int)) (encP p) s hs (along p s (startP p)) (by rw [along_len]; omega) (by rw [along_len]; omega) s6 s8 q6 q8
  obtain ⟨s11, q11, e9⟩ := law_9 (ns.map PyData.int) b5 (encK p.ks) (.list (l.map PyData.int)) p hp s hok hs s6 s8 q6 q8 as
  obtain ⟨ρ, e10⟩ := law_10 (ns.map PyData.int) b5 (encK p.ks) (.list (l.map PyData.int)) p hp s s6 s8 s11 q6 q8 q11 as
  refine ⟨[.un], ?_⟩
  rw [s_law_eq, lawBagS_eq hb]
  have : b_law (.giv (ns.map PyData.int) :: .bag b0.G b0.M 0 :: List.replicate (12 - 2) .un) = .rt (.val (.bool true)) ρ := by
    rw [← hT]
    show b_law [.giv (ns.map PyData.int), bS b0, .un, .un, .un, .un, .un, .un, .un, .un, .un, .un] = _
    unfold b_law
    simp only [sSeq, e1, e2, e3, e4, e5, e6, e7, e8, e9, e10]
  rw [this]
  rfl
end Law
open PySem PySem.W PyProof.Rows
set_option maxHeartbeats 0 in
theorem PySem.Challenge.cw_idsremembered_k51_programs_by_going_alon_holds : PySem.Challenge.rw_idsremembered_k51_programs_by_going_alon.Holds := by
  w_on; o_law; k_head; (case hw => w_witness2)
  k_fill
  refine Ev.walkG (l := PySem.Challenge.rw_idsremembered_k51_programs_by_going_alon) (n := 63) (k := 71) (x := "script") (F := Law.s_law) rfl (by decide) rfl ⟨rfl, by decide, by decide⟩ (fun w h Y => PySem.W.kIn_of Y) ?G Law.holds
  case G =>
    intro w mg fa h KX G hmg
    refine' Law.all_mk KX G hmg ?b ?f_is_integer ?f_is_from ?f_is_below ?f_is_tuple ?f_is_mark ?f_is_kinds_in ?f_is_event_of ?f_stream_fault ?f_check_stream ?f_is_told ?f_is_thing ?f_is_tree ?f_trees_fault ?f_program_fault ?f_check_program ?f_id_of ?f_led_by ?f_start_of ?f_stepped ?f_state_in ?f_told_at ?f_state_behind ?f_program_answer ?f__law_bag ?f__law_pick ?f__law_ids ?f__law_kinds ?f__law_stream ?f__law_thing ?f__law_go ?f__law_tree ?f__law_shown ?f__law_program ?f__law_thing_id ?f__law_lead ?f__law_led ?f__law_exact ?f_law
    (case b => exact ⟨by k_is, by k_is, by k_is, by k_is, by k_is, by k_is, by k_is, by k_is, by k_is, by k_is, by k_is, by k_is, trivial⟩)
    (case f_is_integer => refine' Ev.facts_mk ?a ?l ?c ?k; (case a => k_is); (case l => k_is); (case c => k_is); (case k => k_is))
    (case f_is_from => refine' Ev.facts_mk ?a ?l ?c ?k; (case a => k_is); (case l => k_is); (case c => k_is); (case k => k_is))
    (case f_is_below => refine' Ev.facts_mk ?a ?l ?c ?k; (case a => k_is); (case l => k_is); (case c => k_is); (case k => k_is))
    (case f_is_tuple => refine' Ev.facts_mk ?a ?l ?c ?k; (case a => k_is); (case l => k_is); (case c => k_is); (case k => k_is))
    (case f_is_mark => refine' Ev.facts_mk ?a ?l ?c ?k; (case a => k_is); (case l => k_is); (case c => k_is); (case k => k_is))
    (case f_is_kinds_in => refine' Ev.facts_mk ?a ?l ?c ?k; (case a => k_is); (case l => k_is); (case c => k_is); (case k => k_is))
    (case f_is_event_of => refine' Ev.facts_mk ?a ?l ?c ?k; (case a => k_is); (case l => k_is); (case c => k_is); (case k => k_is))
    (case f_stream_fault => refine' Ev.facts_mk ?a ?l ?c ?k; (case a => k_is); (case l => k_is); (case c => k_is); (case k => k_is))
    (case f_check_stream => refine' Ev.facts_mk ?a ?l ?c ?k; (case a => k_is); (case l => k_is); (case c => k_is); (case k => k_is))
    (case f_is_told => refine' Ev.facts_mk ?a ?l ?c ?k; (case a => k_is); (case l => k_is); (case c => k_is); (case k => k_is))
    (case f_is_thing => refine' Ev.facts_mk ?a ?l ?c ?k; (case a => k_is); (case l => k_is); (case c => k_is); (case k => k_is))
    (case f_is_tree => refine' Ev.facts_mk ?a ?l ?c ?k; (case a => k_is); (case l => k_is); (case c => k_is); (case k => k_is))
    (case f_trees_fault => refine' Ev.facts_mk ?a ?l ?c ?k; (case a => k_is); (case l => k_is); (case c => k_is); (case k => k_is))
    (case f_program_fault => refine' Ev.facts_mk ?a ?l ?c ?k; (case a => k_is); (case l => k_is); (case c => k_is); (case k => k_is))
    (case f_check_program => refine' Ev.facts_mk ?a ?l ?c ?k; (case a => k_is); (case l => k_is); (case c => k_is); (case k => k_is))
    (case f_id_of => refine' Ev.facts_mk ?a ?l ?c ?k; (case a => k_is); (case l => k_is); (case c => k_is); (case k => k_is))
    (case f_led_by => refine' Ev.facts_mk ?a ?l ?c ?k; (case a => k_is); (case l => k_is); (case c => k_is); (case k => k_is))
    (case f_start_of => refine' Ev.facts_mk ?a ?l ?c ?k; (case a => k_is); (case l => k_is); (case c => k_is); (case k => k_is))
    (case f_stepped => refine' Ev.facts_mk ?a ?l ?c ?k; (case a => k_is); (case l => k_is); (case c => k_is); (case k => k_is))
    (case f_state_in => refine' Ev.facts_mk ?a ?l ?c ?k; (case a => k_is); (case l => k_is); (case c => k_is); (case k => k_is))
    (case f_told_at => refine' Ev.facts_mk ?a ?l ?c ?k; (case a => k_is); (case l => k_is); (case c => k_is); (case k => k_is))
    (case f_state_behind => refine' Ev.facts_mk ?a ?l ?c ?k; (case a => k_is); (case l => k_is); (case c => k_is); (case k => k_is))
    (case f_program_answer => refine' Ev.facts_mk ?a ?l ?c ?k; (case a => k_is); (case l => k_is); (case c => k_is); (case k => k_is))
    (case f__law_bag => refine' Ev.facts_mk ?a ?l ?c ?k; (case a => k_is); (case l => k_is); (case c => k_is); (case k => k_is))
    (case f__law_pick => refine' Ev.facts_mk ?a ?l ?c ?k; (case a => k_is); (case l => k_is); (case c => k_is); (case k => k_is))
    (case f__law_ids => refine' Ev.facts_mk ?a ?l ?c ?k; (case a => k_is); (case l => k_is); (case c => k_is); (case k => k_is))
    (case f__law_kinds => refine' Ev.facts_mk ?a ?l ?c ?k; (case a => k_is); (case l => k_is); (case c => k_is); (case k => k_is))
    (case f__law_stream => refine' Ev.facts_mk ?a ?l ?c ?k; (case a => k_is); (case l => k_is); (case c => k_is); (case k => k_is))
    (case f__law_thing => refine' Ev.facts_mk ?a ?l ?c ?k; (case a => k_is); (case l => k_is); (case c => k_is); (case k => k_is))
    (case f__law_go => refine' Ev.facts_mk ?a ?l ?c ?k; (case a => k_is); (case l => k_is); (case c => k_is); (case k => k_is))
    (case f__law_tree => refine' Ev.facts_mk ?a ?l ?c ?k; (case a => k_is); (case l => k_is); (case c => k_is); (case k => k_is))
    (case f__law_shown => refine' Ev.facts_mk ?a ?l ?c ?k; (case a => k_is); (case l => k_is); (case c => k_is); (case k => k_is))
    (case f__law_program => refine' Ev.facts_mk ?a ?l ?c ?k; (case a => k_is); (case l => k_is); (case c => k_is); (case k => k_is))
    (case f__law_thing_id => refine' Ev.facts_mk ?a ?l ?c ?k; (case a => k_is); (case l => k_is); (case c => k_is); (case k => k_is))
    (case f__law_lead => refine' Ev.facts_mk ?a ?l ?c ?k; (case a => k_is); (case l => k_is); (case c => k_is); (case k => k_is))
    (case f__law_led => refine' Ev.facts_mk ?a ?l ?c ?k; (case a => k_is); (case l => k_is); (case c => k_is); (case k => k_is))
    (case f__law_exact => refine' Ev.facts_mk ?a ?l ?c ?k; (case a => k_is); (case l => k_is); (case c => k_is); (case k => k_is))
    (case f_law => refine' Ev.facts_mk ?a ?l ?c ?k; (case a => k_is); (case l => k_is); (case c => k_is); (case k => k_is))
