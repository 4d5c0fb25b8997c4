import PyProof.Rows.All
import Wide.All
import OpenK.AllK
import Wide.FinOn
import HandS.ForMost
import HandS.ForExc
import HandS.Lambda
import HandS.Style
import HandS.IsInst
import KE.SortKeyHeap
import PyProof.Rows.CallKwBuiltin
import HandS.EndTab
import KE.KNest
import PySem.Challenge.RW_bellows_k15_shortest_as_told
set_option Elab.async false
set_option linter.all false
set_option maxRecDepth 100000
set_option maxHeartbeats 1000000
/-! Rf: a refinement layer over HandS: Python code against partial functions (Out), lists by value. -/
namespace Rf
open PySem PySem.Spec L2

/-! ### outcomes -/
inductive Out (α : Type) : Type where
  | ok (a : α)
  | err (c : Nat) (n : Int)
  | bad
@[reducible] def Out.bind {α β : Type} (m : Out α) (f : α → Out β) : Out β := match m with
  | .ok a => f a
  | .err c n => .err c n
  | .bad => .bad
@[reducible] instance : Monad Out where
  pure := Out.ok
  bind := Out.bind
theorem pure_ok {α : Type} (a : α) : (pure a : Out α) = .ok a := rfl
theorem ok_bind {α β : Type} (a : α) (f : α → Out β) : (Out.ok a >>= f) = f a := rfl
theorem err_bind {α β : Type} (c : Nat) (n : Int) (f : α → Out β) : ((Out.err c n : Out α) >>= f) = .err c n := rfl
theorem bad_bind {α β : Type} (f : α → Out β) : ((Out.bad : Out α) >>= f) = .bad := rfl
theorem bind_asc {α β γ : Type} (m : Out α) (f : α → Out β) (g : β → Out γ) : ((m >>= f) >>= g) = (m >>= fun a => f a >>= g) := by
  cases m <;> rfl
theorem bind_ok {α : Type} (m : Out α) : (m >>= Out.ok) = m := by cases m <;> rfl
instance : LawfulMonad Out := LawfulMonad.mk' Out
  (id_map := fun x => by cases x <;> rfl)
  (pure_bind := fun _ _ => rfl)
  (bind_assoc := fun x f g => bind_asc x f g)

/-- what holds behind -/
def wpO {α : Type} (m : Out α) (Q : α → Prop) (E : Nat → Int → Prop) : Prop := match m with
  | .ok a => Q a
  | .err c n => E c n
  | .bad => False
theorem wpO_bind {α β : Type} {m : Out α} {f : α → Out β} {Q : β → Prop} {E : Nat → Int → Prop} : wpO (m >>= f) Q E ↔ wpO m (fun a => wpO (f a) Q E) E := by
  cases m <;> exact Iff.rfl
theorem wpO_mono {α : Type} {m : Out α} {Q Q' : α → Prop} {E E' : Nat → Int → Prop} (h : wpO m Q E) (hQ : ∀ a, Q a → Q' a) (hE : ∀ c n, E c n → E' c n) : wpO m Q' E' := by
  cases m with
  | ok a => exact hQ a h
  | err c n => exact hE c n h
  | bad => exact h
theorem wpO_to {α : Type} {m : Out α} {Q Q' : α → Prop} {E : Nat → Int → Prop} (h : wpO m Q E) (hQ : ∀ a, Q a → Q' a) : wpO m Q' E := wpO_mono h hQ fun _ _ x => x
theorem wpO_ok {α : Type} {m : Out α} {a : α} {Q : α → Prop} {E : Nat → Int → Prop} (e : m = .ok a) (h : Q a) : wpO m Q E := by
  rw [e]
  exact h

/-! ### data -/
class Py (α : Type) where
  py : α → PyData
open Py (py)
@[reducible] instance : Py Int := ⟨PyData.int⟩
@[reducible] instance : Py Bool := ⟨PyData.bool⟩
@[reducible] instance : Py Unit := ⟨fun _ => PyData.none⟩
@[reducible] instance : Py Str := ⟨PyData.str⟩
@[reducible] instance : Py PyData := ⟨id⟩
@[reducible] instance {α : Type} [Py α] : Py (List α) := ⟨fun xs => .list (xs.map py)⟩
@[reducible] instance {α β : Type} [Py α] [Py β] : Py (α × β) := ⟨fun p => .tuple [py p.1, py p.2]⟩
@[reducible] instance {α : Type} [Py α] : Py (Option α) := ⟨fun o => match o with | none => .none | some a => py a⟩
/-- a tuple of three -/
structure T3 (α β γ : Type) where
  a : α
  b : β
  c : γ
@[reducible] instance {α β γ : Type} [Py α] [Py β] [Py γ] : Py (T3 α β γ) := ⟨fun p => .tuple [py p.a, py p.b, py p.c]⟩
/-- a tuple of any length, all of one kind -/
structure Tp (α : Type) where
  xs : List α
@[reducible] instance {α : Type} [Py α] : Py (Tp α) := ⟨fun p => .tuple (p.xs.map py)⟩

/-! ### heaps -/
/-- neither a table of code objects nor a thing known by what is true of it -/
structure Pl (o : HO) : Prop where
  t : ∀ ps, o ≠ .tbl ps
  e : ∀ φ, o ≠ .ext φ
theorem Pl.lst {xs : List V} : Pl (.lst xs) := ⟨fun _ h => (nomatch h), fun _ h => (nomatch h)⟩
theorem Pl.tup {xs : List V} : Pl (.tup xs) := ⟨fun _ h => (nomatch h), fun _ h => (nomatch h)⟩
theorem Pl.frz {u : Obj} {o : HO} : Pl (.frz u o) := ⟨fun _ h => (nomatch h), fun _ h => (nomatch h)⟩
/-- the tables of code objects at hand, each with the name of its codes -/
class TbC where
  T : List (Addr × Str)
variable [TbC]
/-- all of H stands in H'; tables of code objects may have grown -/
structure Le (H H' : Hp) : Prop where
  nt : ∀ a o, H a = some o → (∀ ps, o ≠ .tbl ps) → H' a = some o
  tb : ∀ a ps, H a = some (.tbl ps) → ∃ ps', H' a = some (.tbl ps')
  tab : ∀ a q, (a, q) ∈ TbC.T → LamX.TabS H a q → LamX.TabS H' a q
theorem Le.at {H H' : Hp} (e : Le H H') {a : Addr} {o : HO} (h : H a = some o) (n : Pl o := by exact ⟨fun _ h => (nomatch h), fun _ h => (nomatch h)⟩) : H' a = some o := e.nt a o h n.t
theorem Le.ex {H H' : Hp} (e : Le H H') {a : Addr} {o : HO} (h : H a = some o) : ∃ o', H' a = some o' := by
  by_cases t : ∃ ps, o = .tbl ps
  · obtain ⟨ps, rfl⟩ := t
    obtain ⟨ps', h'⟩ := e.tb a ps h
    exact ⟨_, h'⟩
  · exact ⟨_, e.nt a o h fun ps z => t ⟨ps, z⟩⟩
theorem Le.refl (H : Hp) : Le H H := ⟨fun _ _ h _ => h, fun _ _ h => ⟨_, h⟩, fun _ _ _ h => h⟩
theorem Le.trans {H H1 H2 : Hp} (a : Le H H1) (b : Le H1 H2) : Le H H2 := ⟨fun x o h n => b.nt x o (a.nt x o h n) n, fun x ps h => by
  obtain ⟨ps', h'⟩ := a.tb x ps h
  exact b.tb x ps' h', fun x q m h => b.tab x q m (a.tab x q m h)⟩
theorem Le.of {H H' : Hp} (e : ∀ a o, H a = Option.some o → H' a = Option.some o) : Le H H' := ⟨fun a o h _ => e a o h, fun a ps h => ⟨_, e a _ h⟩, fun _ _ _ t => t.ext e⟩
theorem Le.new {H : Hp} {p : Addr} {o : HO} (h : H p = none) : Le H (upd H p o) := .of fun a u e => by
  rw [upd_ne (ne_of_none e h)]
  exact e
theorem tabS_put {H : Hp} {p a : Addr} {o o' : HO} {q : Str} (h : H p = some o) (n : Pl o) (t : LamX.TabS H a q) : LamX.TabS (upd H p o') a q := by
  obtain ⟨ps, h1, h2, h3⟩ := t
  refine ⟨ps, ?_, h2, fun pos cv hc => ?_⟩
  · have : a ≠ p := fun z => by
      rw [z, h] at h1
      exact n.t _ (Option.some.inj h1)
    rw [upd_ne this]
    exact h1
  · obtain ⟨c, e1, e2⟩ := h3 pos cv hc
    have : c ≠ p := fun z => by
      rw [z, h] at e2
      exact n.e _ (Option.some.inj e2)
    exact ⟨c, e1, by rw [upd_ne this]; exact e2⟩
/-- what stands in H' but not in H changes -/
theorem Le.put {H H' : Hp} {p : Addr} {o o' : HO} (e : Le H H') (n : H p = none) (h : H' p = some o) (k : Pl o) : Le H (upd H' p o') :=
  ⟨fun a u z t => by rw [upd_ne (ne_of_none z n)]; exact e.nt a u z t, fun a ps z => by rw [upd_ne (ne_of_none z n)]; exact e.tb a ps z, fun a q m t => tabS_put h k (e.tab a q m t)⟩
/-- what stands in H' is told in H too -/
theorem Le.tell {H H' : Hp} {p : Addr} {o : HO} (e : Le H H') (n : H p = none) (h : H' p = some o) (k : Pl o) : Le (upd H p o) H' := by
  refine ⟨fun a u z t => ?_, fun a ps z => ?_, fun a q m t => ?_⟩
  · by_cases hq : a = p
    · subst hq
      rw [upd_same] at z
      rw [← z]
      exact h
    · rw [upd_ne hq] at z
      exact e.nt a u z t
  · by_cases hq : a = p
    · subst hq
      rw [upd_same] at z
      exact absurd (Option.some.inj z) (k.t _)
    · rw [upd_ne hq] at z
      exact e.tb a ps z
  · obtain ⟨ps, h1, h2, h3⟩ := t
    have ha : a ≠ p := fun z => by
      rw [z, upd_same] at h1
      exact k.t _ (Option.some.inj h1)
    rw [upd_ne ha] at h1
    refine e.tab a q m ⟨ps, h1, h2, fun pos cv hc => ?_⟩
    obtain ⟨c, e1, e2⟩ := h3 pos cv hc
    have hc : c ≠ p := fun z => by
      rw [z, upd_same] at e2
      exact k.e _ (Option.some.inj e2)
    rw [upd_ne hc] at e2
    exact ⟨c, e1, e2⟩
theorem Le.back {H H' : Hp} {p : Addr} (e : Le H H') (h : H' p = none) : H p = none := by
  cases h1 : H p with
  | none => rfl
  | some o =>
    obtain ⟨o', z⟩ := e.ex h1
    rw [z] at h
    cases h
theorem Le.rdL {H H' : Hp} {a : Addr} {xs : List V} (e : Le H H') (h : Rd H a (.lst xs)) : Rd H' a (.lst xs) := by
  rcases h with h | ⟨o, h⟩
  · exact Or.inl (e.at h)
  · exact Or.inr ⟨o, e.at h⟩
theorem Le.rdT {H H' : Hp} {a : Addr} {xs : List V} (e : Le H H') (h : Rd H a (.tup xs)) : Rd H' a (.tup xs) := by
  rcases h with h | ⟨o, h⟩
  · exact Or.inl (e.at h)
  · exact Or.inr ⟨o, e.at h⟩
theorem Le.sql {K : PySem.W.Frag} {H H' : Hp} {a : Addr} {xs : List V} (e : Le H H') (h : SqL K H a xs) : SqL K H' a xs := by
  rcases h with h | h
  · exact Or.inl (e.rdL h)
  · exact Or.inr h
theorem Le.sqt {K : PySem.W.Frag} {H H' : Hp} {a : Addr} {xs : List V} (e : Le H H') (h : SqT K H a xs) : SqT K H' a xs := by
  rcases h with h | h
  · exact Or.inl (e.rdT h)
  · exact Or.inr h
end Rf
namespace L2
open PySem PySem.Spec
/-! data that stand in the tracked heap, all of them -/
mutual
inductive Ds (K : PySem.W.Frag) (H : Hp) : V → PyData → Prop
  | non : Ds K H .non .none
  | bl (b : Bool) : Ds K H (.bl b) (.bool b)
  | int (i : Int) : Ds K H (.int i) (.int i)
  | str (x : Str) : Ds K H (.str x) (.str x)
  | lst {a : Addr} {xs : List V} {ds : List PyData} : H a = some (.lst xs) → DsAll K H xs ds → Ds K H (.ref a) (.list ds)
  | tup {a : Addr} {xs : List V} {ds : List PyData} : H a = some (.tup xs) → DsAll K H xs ds → Ds K H (.ref a) (.tuple ds)
inductive DsAll (K : PySem.W.Frag) (H : Hp) : List V → List PyData → Prop
  | nil : DsAll K H [] []
  | cons {v : V} {vs : List V} {d : PyData} {ds : List PyData} : Ds K H v d → DsAll K H vs ds → DsAll K H (v :: vs) (d :: ds)
end
mutual
theorem Ds.dp {K : PySem.W.Frag} {H : Hp} : ∀ (d : PyData) (v : V), Ds K H v d → Dp K H v d
  | .none, _, h => by cases h; exact .non
  | .bool b, _, h => by cases h; exact .bl b
  | .int i, _, h => by cases h; exact .int i
  | .str x, _, h => by cases h; exact .str x
  | .list ds, _, h => by
    cases h with
    | lst hs ha => exact .lst (.inl (.inl hs)) (DsAll.dp ds _ ha)
  | .tuple ds, _, h => by
    cases h with
    | tup hs ha => exact .tup (.inl (.inl hs)) (DsAll.dp ds _ ha)
  | .dict _, _, h => by cases h
theorem DsAll.dp {K : PySem.W.Frag} {H : Hp} : ∀ (ds : List PyData) (vs : List V), DsAll K H vs ds → DpAll K H vs ds
  | [], _, h => by cases h; exact .nil
  | d :: ds, _, h => by
    cases h with
    | cons h1 h2 => exact .cons (Ds.dp d _ h1) (DsAll.dp ds _ h2)
end
end L2
namespace Rf
open PySem PySem.Spec L2
open Py (py)
variable [TbC]
mutual
theorem dp_mono {K : PySem.W.Frag} {H H' : Hp} (e : Le H H') : ∀ (d : PyData) (v : V), Ds K H v d → Ds K H' v d
  | .none, _, h => by cases h; exact .non
  | .bool b, _, h => by cases h; exact .bl b
  | .int i, _, h => by cases h; exact .int i
  | .str x, _, h => by cases h; exact .str x
  | .list ds, _, h => by
    cases h with
    | lst hs ha => exact .lst (e.at hs) (dpAll_mono e ds _ ha)
  | .tuple ds, _, h => by
    cases h with
    | tup hs ha => exact .tup (e.at hs) (dpAll_mono e ds _ ha)
  | .dict _, _, h => by cases h
theorem dpAll_mono {K : PySem.W.Frag} {H H' : Hp} (e : Le H H') : ∀ (ds : List PyData) (vs : List V), DsAll K H vs ds → DsAll K H' vs ds
  | [], _, h => by cases h; exact .nil
  | d :: ds, _, h => by
    cases h with
    | cons h1 h2 => exact .cons (dp_mono e d _ h1) (dpAll_mono e ds _ h2)
end
end Rf
namespace L2
open PySem PySem.Spec Rf
open Py (py)
variable [TbC]
theorem Ds.mo {K : PySem.W.Frag} {H H' : Hp} {d : PyData} {v : V} (h : Ds K H v d) (e : Le H H') : Ds K H' v d := dp_mono e d v h
theorem DsAll.mo {K : PySem.W.Frag} {H H' : Hp} {d : List PyData} {v : List V} (h : DsAll K H v d) (e : Le H H') : DsAll K H' v d := dpAll_mono e d v h
section
variable {K : PySem.W.Frag} {H : Hp}
theorem DsAll.length : ∀ {vs : List V} {ds : List PyData}, DsAll K H vs ds → vs.length = ds.length
  | [], _, h => by cases h; rfl
  | v :: vs, _, h => by
    cases h with
    | cons _ h2 => rw [List.length_cons, List.length_cons, DsAll.length h2]
theorem DsAll.get : ∀ {vs : List V} {ds : List PyData} {i : Nat} {d : PyData}, DsAll K H vs ds → ds[i]? = some d → ∃ v, vs[i]? = some v ∧ Ds K H v d
  | _, _, i, d, .nil, e => by simp at e
  | _, _, 0, d, .cons h1 _, e => by
    simp at e
    subst e
    exact ⟨_, rfl, h1⟩
  | _, _, i + 1, d, .cons _ h2, e => by
    obtain ⟨v, e1, e2⟩ := DsAll.get (i := i) h2 (by simpa using e)
    exact ⟨v, by simpa using e1, e2⟩
theorem DsAll.get' : ∀ {vs : List V} {ds : List PyData} {i : Nat} {v : V}, DsAll K H vs ds → vs[i]? = some v → ∃ d, ds[i]? = some d ∧ Ds K H v d
  | _, _, i, d, .nil, e => by simp at e
  | _, _, 0, d, .cons h1 _, e => by
    simp at e
    subst e
    exact ⟨_, rfl, h1⟩
  | _, _, i + 1, d, .cons _ h2, e => by
    obtain ⟨v, e1, e2⟩ := DsAll.get' (i := i) h2 (by simpa using e)
    exact ⟨v, by simpa using e1, e2⟩
theorem DsAll.app : ∀ {vs us : List V} {ds es : List PyData}, DsAll K H vs ds → DsAll K H us es → DsAll K H (vs ++ us) (ds ++ es)
  | _, _, _, _, .nil, h => h
  | _, _, _, _, .cons h1 h2, h => .cons h1 (DsAll.app h2 h)
theorem DsAll.one {v : V} {d : PyData} (h : Ds K H v d) : DsAll K H [v] [d] := .cons h .nil
theorem DsAll.set {v : V} {d : PyData} (h : Ds K H v d) : ∀ {vs : List V} {ds : List PyData} (i : Nat), DsAll K H vs ds → DsAll K H (vs.set i v) (ds.set i d)
  | _, _, _, .nil => .nil
  | _, _, 0, .cons _ h2 => .cons h h2
  | _, _, i + 1, .cons h1 h2 => .cons h1 (DsAll.set h i h2)
theorem DsAll.take : ∀ {vs : List V} {ds : List PyData} (n : Nat), DsAll K H vs ds → DsAll K H (vs.take n) (ds.take n)
  | _, _, 0, _ => .nil
  | _, _, _ + 1, .nil => .nil
  | _, _, n + 1, .cons h1 h2 => .cons h1 (DsAll.take n h2)
theorem DsAll.drop : ∀ {vs : List V} {ds : List PyData} (n : Nat), DsAll K H vs ds → DsAll K H (vs.drop n) (ds.drop n)
  | _, _, 0, h => h
  | _, _, _ + 1, .nil => .nil
  | _, _, n + 1, .cons _ h2 => DsAll.drop n h2
theorem DsAll.rev : ∀ {vs : List V} {ds : List PyData}, DsAll K H vs ds → DsAll K H vs.reverse ds.reverse
  | _, _, .nil => .nil
  | _, _, .cons h1 h2 => by
    rw [List.reverse_cons, List.reverse_cons]
    exact DsAll.app (DsAll.rev h2) (.one h1)
theorem DsAll.ints : ∀ {vs : List V} {ns : List Int}, DsAll K H vs (ns.map py) → vs = ns.map V.int
  | _, [], h => by
    cases h
    rfl
  | _, n :: ns, h => by
    cases h with
    | cons h1 h2 =>
      have h1 : Ds K H _ (.int n) := h1
      cases h1
      rw [DsAll.ints h2]
      rfl
theorem DsAll.ofInts : ∀ (ns : List Int), DsAll K H (ns.map V.int) (ns.map py)
  | [] => .nil
  | n :: ns => .cons (.int n) (DsAll.ofInts ns)
end

end L2
namespace Rf
open PySem PySem.Spec L2
open Py (py)
variable [TbC]

/-- the frozen part grows, by new objects alone -/
structure Adv (F H F' : Hp) : Prop where
  le : Le F F'
  nw : ∀ p o, H p = some o → F p = none → F' p = none
theorem Adv.refl (F H : Hp) : Adv F H F := ⟨Le.refl F, fun _ _ _ h => h⟩
def Dom (H H' : Hp) : Prop := ∀ p, H' p = none → H p = none
theorem Le.dom {H H' : Hp} (e : Le H H') : Dom H H' := fun _ h => e.back h
theorem Dom.refl (H : Hp) : Dom H H := fun _ h => h
theorem Dom.trans {H H1 H2 : Hp} (a : Dom H H1) (b : Dom H1 H2) : Dom H H2 := fun p h => a p (b p h)
theorem Dom.some {H H' : Hp} (d : Dom H H') {p : Addr} {o : HO} (h : H p = some o) : ∃ u, H' p = some u := by
  cases q : H' p with
  | none =>
    rw [d p q] at h
    cases h
  | some u => exact ⟨u, rfl⟩
theorem Adv.trans {F H F1 H1 F2 : Hp} (a : Adv F H F1) (d : Dom H H1) (b : Adv F1 H1 F2) : Adv F H F2 := ⟨a.le.trans b.le, fun p o h1 h2 => by
  obtain ⟨u, hu⟩ := d.some h1
  exact b.nw p u hu (a.nw p o h1 h2)⟩

/-- the state: H0 (all that stood at the entry and stays), F (frozen), L (owned here) -/
structure Sta (H0 F : Hp) (L : List (Addr × HO)) (H : Hp) : Prop where
  l0 : Le H0 H
  lF : Le F H
  own : ∀ q ∈ L, H q.1 = some q.2 ∧ F q.1 = none ∧ H0 q.1 = none ∧ Pl q.2
  nd : (L.map (·.1)).Nodup
  tt : LamX.Tabs TbC.T H0
section
variable {H0 F F' H H' : Hp} {L : List (Addr × HO)} {p : Addr} {o : HO}
theorem Sta.tabs (s : Sta H0 F L H) : LamX.Tabs TbC.T H := fun p hp => s.l0.tab p.1 p.2 hp (s.tt p hp)
theorem Sta.at (s : Sta H0 F L H) {j : Nat} (h : L[j]? = some (p, o)) : H p = some o := (s.own _ (List.mem_of_getElem? h)).1
/-- H grows, the frozen part too -/
theorem Sta.grow (s : Sta H0 F L H) (e : Le H H') (a : Adv F H F') (l : Le F' H') : Sta H0 F' L H' :=
  ⟨s.l0.trans e, l, fun q hq => ⟨e.at (s.own q hq).1 (s.own q hq).2.2.2, a.nw _ _ (s.own q hq).1 (s.own q hq).2.1, (s.own q hq).2.2⟩, s.nd, s.tt⟩
theorem Sta.le (s : Sta H0 F L H) (e : Le H H') : Sta H0 F L H' := s.grow e (Adv.refl F H) (s.lF.trans e)
/-- a new object, not frozen, forgotten -/
theorem Sta.new (s : Sta H0 F L H) (h : H p = none) : Sta H0 F L (upd H p o) := s.le (Le.new h)
/-- a new object, frozen -/
theorem adv_new (l : Le F H) (h : H p = none) : Adv F H (upd F p o) := ⟨Le.new (l.back h), fun q u h1 h2 => by
  rw [upd_ne (ne_of_none h1 h)]
  exact h2⟩
theorem le_new2 (l : Le F H) (h : H p = none) (k : Pl o := by exact ⟨fun _ h => (nomatch h), fun _ h => (nomatch h)⟩) : Le (upd F p o) (upd H p o) := (l.trans (Le.new h)).tell (l.back h) upd_same k
theorem Sta.newF (s : Sta H0 F L H) (h : H p = none) (k : Pl o := by exact ⟨fun _ h => (nomatch h), fun _ h => (nomatch h)⟩) : Sta H0 (upd F p o) L (upd H p o) := s.grow (Le.new h) (adv_new s.lF h) (le_new2 s.lF h k)
/-- what has come since Hs, not frozen, is owned from here on -/
theorem Sta.push {Hs F0 : Hp} (s0 : Sta H0 F0 L Hs) (s : Sta H0 F L H) (e : Le Hs H) (h : Hs p = none) (hF : F p = none) (hH : H p = some o) (k : Pl o := by exact ⟨fun _ h => (nomatch h), fun _ h => (nomatch h)⟩) : Sta H0 F ((p, o) :: L) H := by
  refine ⟨s.l0, s.lF, fun q hq => ?_, ?_, s.tt⟩
  · rcases List.mem_cons.mp hq with rfl | hq
    · exact ⟨hH, hF, s0.l0.back h, k⟩
    · exact s.own q hq
  · rw [List.map_cons]
    refine List.nodup_cons.mpr ⟨fun hm => ?_, s.nd⟩
    obtain ⟨q, hq, e1⟩ := List.mem_map.mp hm
    have h1 := (s0.own q hq).1
    have e2 : q.1 = p := e1
    rw [e2, h] at h1
    cases h1
theorem Sta.pushN (s : Sta H0 F L H) (h : H p = none) (k : Pl o := by exact ⟨fun _ h => (nomatch h), fun _ h => (nomatch h)⟩) : Sta H0 F ((p, o) :: L) (upd H p o) :=
  Sta.push s (s.new h) (Le.new h) h (s.lF.back h) upd_same k
/-- the owned object at j changes -/
theorem nodup_ne {α β : Type} : ∀ {L : List (α × β)} {j i : Nat} {x y : α × β}, (L.map (·.1)).Nodup → L[j]? = some x → L[i]? = some y → j ≠ i → x.1 ≠ y.1
  | [], _, _, _, _, _, h, _, _ => by simp at h
  | a :: L, 0, 0, _, _, _, _, _, n => absurd rfl n
  | a :: L, 0, i + 1, x, y, nd, h1, h2, _ => by
    simp at h1 h2
    subst h1
    rw [List.map_cons, List.nodup_cons] at nd
    intro e
    exact nd.1 (e ▸ List.mem_map.mpr ⟨y, List.mem_of_getElem? h2, rfl⟩)
  | a :: L, j + 1, 0, x, y, nd, h1, h2, _ => by
    simp at h1 h2
    subst h2
    rw [List.map_cons, List.nodup_cons] at nd
    intro e
    exact nd.1 (e ▸ List.mem_map.mpr ⟨x, List.mem_of_getElem? h1, rfl⟩)
  | a :: L, j + 1, i + 1, x, y, nd, h1, h2, n => by
    rw [List.map_cons, List.nodup_cons] at nd
    exact nodup_ne nd.2 (by simpa using h1) (by simpa using h2) (fun e => n (by rw [e]))
theorem Sta.put (s : Sta H0 F L H) {j : Nat} {o' : HO} (h : L[j]? = some (p, o)) (k : Pl o' := by exact ⟨fun _ h => (nomatch h), fun _ h => (nomatch h)⟩) : Sta H0 F (L.set j (p, o')) (upd H p o') := by
  have hp := s.own _ (List.mem_of_getElem? h)
  refine ⟨s.l0.put hp.2.2.1 hp.1 hp.2.2.2, s.lF.put hp.2.1 hp.1 hp.2.2.2, fun q hq => ?_, ?_, s.tt⟩
  · obtain ⟨i, hi⟩ := List.getElem?_of_mem hq
    by_cases hij : j = i
    · subst hij
      have hl : j < L.length := (List.getElem?_eq_some_iff.mp h).1
      rw [List.getElem?_set_self hl] at hi
      cases hi
      exact ⟨upd_same, hp.2.1, hp.2.2.1, k⟩
    · rw [List.getElem?_set_ne hij] at hi
      have hm := s.own q (List.mem_of_getElem? hi)
      have hne : q.1 ≠ p := fun z => nodup_ne s.nd h hi hij z.symm
      exact ⟨by rw [upd_ne hne]; exact hm.1, hm.2.1, hm.2.2⟩
  · have : (L.set j (p, o')).map (·.1) = L.map (·.1) := by
      rw [List.map_set]
      refine List.ext_getElem? fun i => ?_
      by_cases hij : j = i
      · subst hij
        have hl : j < L.length := (List.getElem?_eq_some_iff.mp h).1
        rw [List.getElem?_set_self (by rw [List.length_map]; exact hl), List.getElem?_map, h]
        rfl
      · rw [List.getElem?_set_ne hij]
    rw [this]
    exact s.nd
theorem dom_put {o o' : HO} (h : H p = some o) : Dom H (upd H p o') := fun q e => by
  by_cases hq : q = p
  · subst hq
    rw [upd_same] at e
    cases e
  · rw [upd_ne hq] at e
    exact e
/-- the owned object at the front is frozen -/
theorem Sta.freeze (s : Sta H0 F ((p, o) :: L) H) : Sta H0 (upd F p o) L H := by
  have hp := s.own _ (List.mem_cons_self (a := (p, o)) (l := L))
  have nd := s.nd
  rw [List.map_cons, List.nodup_cons] at nd
  refine ⟨s.l0, s.lF.tell hp.2.1 hp.1 hp.2.2.2, fun q hq => ?_, nd.2, s.tt⟩
  have hne : q.1 ≠ p := fun z => nd.1 (z ▸ List.mem_map.mpr ⟨q, hq, rfl⟩)
  have hq' := s.own q (List.mem_cons_of_mem _ hq)
  exact ⟨hq'.1, by rw [upd_ne hne]; exact hq'.2.1, hq'.2.2⟩
theorem Sta.drop (s : Sta H0 F ((p, o) :: L) H) : Sta H0 F L H := ⟨s.l0, s.lF, fun q hq => s.own q (List.mem_cons_of_mem _ hq), (List.nodup_cons.mp (by
  have nd := s.nd
  rw [List.map_cons] at nd
  exact nd)).2, s.tt⟩
/-- the owned at j comes to the front -/
theorem Sta.perm {L' : List (Addr × HO)} (s : Sta H0 F L H) (h : L'.Perm L) : Sta H0 F L' H :=
  ⟨s.l0, s.lF, fun q hq => s.own q (h.mem_iff.mp hq), (h.map (·.1)).nodup_iff.mpr s.nd, s.tt⟩
end
end Rf


set_option Elab.async false
set_option linter.all false
set_option maxRecDepth 100000
set_option maxHeartbeats 1000000
namespace Rf
open PySem PySem.Spec L2
open Py (py)
variable [TbC]

/-! ### the widest readings -/
def sE (X : Cx) (e : Expr) : TE := fun σ H Q => ∀ (pins : List (Addr × Obj)) (s : Shared), Inv X pins σ H s → wpAny (model X.prog X.w) X.A (eval e X.env) (EP X pins σ Q) X.xe s
def sT (X : Cx) (e : Expr) : TT := fun σ H Q => ∀ (pins : List (Addr × Obj)) (s : Shared), Inv X pins σ H s → wpAny (model X.prog X.w) X.A (isTrue e X.env (eval e X.env)) (TP X pins σ Q) X.xe s
def sW (X : Cx) (e : Expr) : TT := fun σ H Q => ∀ (whole : Sem Value) (pins : List (Addr × Obj)) (s : Shared), Inv X pins σ H s → wpAny (model X.prog X.w) X.A (isTrue e X.env whole) (TP X pins σ Q) X.xe s
def sA (X : Cx) (es : List Expr) : TA := fun σ H Q => ∀ (pos : Pos) (pins : List (Addr × Obj)) (s : Shared), Inv X pins σ H s → wpAny (model X.prog X.w) X.A (spliced (backTo pos (starEach es X.env))) (AP X pins σ Q) X.xe s
def s1 (X : Cx) (st : Stmt) : TS := fun D σ H => ∀ (pins : List (Addr × Obj)) (s : Shared), Inv X pins σ H s → wpAny (model X.prog X.w) X.A (exec st X.env) (SP X pins D) X.xe s
def sS (X : Cx) (sts : List Stmt) : TS := fun D σ H => ∀ (pins : List (Addr × Obj)) (s : Shared), Inv X pins σ H s → wpAny (model X.prog X.w) X.A (execs sts X.env) (SP X pins D) X.xe s
section
variable {X : Cx} {e : Expr} {es : List Expr} {st : Stmt} {sts rest : List Stmt} {te : TE} {tt : TT} {ta : TA} {ts : TS} {σ : L2.St} {H : Hp} {D D' : Ends}
theorem pe_s : PE X e (sE X e) := ⟨fun pins s _ _ _ I h => h pins s I⟩
theorem pt_s : PT X e (sT X e) := ⟨fun pins s _ _ _ I h => h pins s I⟩
theorem pw_s : PW X e (sW X e) := ⟨fun wh pins s _ _ _ I h => h wh pins s I⟩
theorem pa_s : PA X es (sA X es) := ⟨fun pos pins s _ _ _ I h => h pos pins s I⟩
theorem ps_s : PS X st (s1 X st) := ⟨fun pins s _ _ _ I h => h pins s I⟩
theorem pss_s : PSs X sts (sS X sts) := ⟨fun pins s _ _ _ I h => h pins s I⟩
theorem sE_of (p : PE X e te) {Q : VK} (h : te σ H Q) : sE X e σ H Q := fun pins s I => p.run pins s σ H Q I h
theorem sT_of (p : PT X e tt) {Q : Bool → Hp → Prop} (h : tt σ H Q) : sT X e σ H Q := fun pins s I => p.run pins s σ H Q I h
theorem sW_of (p : PW X e tt) {Q : Bool → Hp → Prop} (h : tt σ H Q) : sW X e σ H Q := fun wh pins s I => p.run wh pins s σ H Q I h
theorem sA_of (p : PA X es ta) {Q : List V → Hp → Prop} (h : ta σ H Q) : sA X es σ H Q := fun pos pins s I => p.run pos pins s σ H Q I h
theorem s1_of (p : PS X st ts) (h : ts D σ H) : s1 X st D σ H := fun pins s I => p.run pins s σ H D I h
theorem sS_of (p : PSs X sts ts) (h : ts D σ H) : sS X sts D σ H := fun pins s I => p.run pins s σ H D I h
theorem sE_mono {Q Q' : VK} (h : sE X e σ H Q) (k : ∀ v H', Q v H' → Q' v H') : sE X e σ H Q' := fun pins s I => thn (h pins s I) fun _ _ ⟨v, H', J, r, q⟩ => ⟨v, H', J, r, k v H' q⟩
theorem sT_mono {Q Q' : Bool → Hp → Prop} (h : sT X e σ H Q) (k : ∀ v H', Q v H' → Q' v H') : sT X e σ H Q' := fun pins s I => thn (h pins s I) fun _ _ ⟨H', J, q⟩ => ⟨H', J, k _ H' q⟩
/-- ends that are met more easily -/
structure EndsLe (D D' : Ends) : Prop where
  nx : ∀ σ H, D.nx σ H → D'.nx σ H
  rt : ∀ v H, D.rt v H → D'.rt v H
  bk : ∀ σ H, D.bk σ H → D'.bk σ H
  ct : ∀ σ H, D.ct σ H → D'.ct σ H
theorem sp_mono {pins : List (Addr × Obj)} {f : Flow} {s : Shared} (k : EndsLe D D') (h : SP X pins D f s) : SP X pins D' f s := by
  cases f with
  | next => obtain ⟨σ', H', J, q⟩ := h; exact ⟨σ', H', J, k.nx _ _ q⟩
  | brk => obtain ⟨σ', H', J, q⟩ := h; exact ⟨σ', H', J, k.bk _ _ q⟩
  | cont => obtain ⟨σ', H', J, q⟩ := h; exact ⟨σ', H', J, k.ct _ _ q⟩
  | ret u => obtain ⟨v, σ', H', J, r, q⟩ := h; exact ⟨v, σ', H', J, r, k.rt _ _ q⟩
theorem sS_mono (h : sS X sts D σ H) (k : EndsLe D D') : sS X sts D' σ H := fun pins s I => thn (h pins s I) fun _ _ q => sp_mono k q
theorem sS_cons (h : s1 X st { D with nx := sS X rest D } σ H) : sS X (st :: rest) D σ H := sS_of (pss_cons ps_s pss_s) h
theorem sS_nil (h : D.nx σ H) : sS X [] D σ H := sS_of pss_nil h
theorem sS_one (h : s1 X st D σ H) : sS X [st] D σ H := sS_of (pss_one ps_s) h
/-- a statement, then the rest, a word between them -/
theorem sS_cut {Mid : L2.St → Hp → Prop} (h : s1 X st { D with nx := Mid } σ H) (k : ∀ σ' H', Mid σ' H' → sS X rest D σ' H') : sS X (st :: rest) D σ H :=
  sS_cons fun pins s I => thn (h pins s I) fun _ _ q => sp_mono (D := { D with nx := Mid }) (D' := { D with nx := sS X rest D }) ⟨fun _ _ m => k _ _ m, fun _ _ m => m, fun _ _ m => m, fun _ _ m => m⟩ q
end

/-! ### what a value stands for -/
abbrev Rep (W α : Type) := Hp → Hp → Hp → W → α → Prop
structure RepOk {W α : Type} (r : Rep W α) : Prop where
  fw : ∀ {Hs F H F' H' v a}, Adv F H F' → Le H H' → r Hs F H v a → r Hs F' H' v a
  bk : ∀ {Hs Hs' F H v a}, Le Hs' Hs → r Hs F H v a → r Hs' F H v a
def rE (K : PySem.W.Frag) {α : Type} [Py α] : Rep V α := fun _ F _ v a => Ds K F v (py a)
def rB (K : PySem.W.Frag) {α : Type} [Py α] : Rep V (List α) := fun _ F H v xs => ∃ p ys, v = .ref p ∧ SqL K H p ys ∧ DsAll K F ys (xs.map py)
def rL (K : PySem.W.Frag) {α : Type} [Py α] : Rep V (List α) := fun Hs F H v xs => ∃ p ys, v = .ref p ∧ Hs p = none ∧ F p = none ∧ H p = some (.lst ys) ∧ DsAll K F ys (xs.map py)
/-- a value as it is -/
def rV : Rep V V := fun _ _ _ v a => v = a
def r0 : Rep (List V) Unit := fun _ _ _ vs _ => vs = []
def rC {α ρ : Type} (r : Rep V α) (t : Rep (List V) ρ) : Rep (List V) (α × ρ) := fun Hs F H vs a => ∃ v us, vs = v :: us ∧ r Hs F H v a.1 ∧ t Hs F H us a.2
section
variable {K : PySem.W.Frag} {α ρ : Type} [Py α]
theorem okE : RepOk (rE K (α := α)) := ⟨fun a _ h => h.mo a.le, fun _ h => h⟩
theorem okB : RepOk (rB K (α := α)) := ⟨fun a e ⟨p, ys, h1, h2, h3⟩ => ⟨p, ys, h1, e.sql h2, h3.mo a.le⟩, fun _ h => h⟩
theorem okL : RepOk (rL K (α := α)) := ⟨fun a e ⟨p, ys, h1, h2, h3, h4, h5⟩ => ⟨p, ys, h1, h2, a.nw _ _ h4 h3, e.at h4, h5.mo a.le⟩, fun l ⟨p, ys, h1, h2, h3⟩ => ⟨p, ys, h1, l.back h2, h3⟩⟩
theorem okV : RepOk rV := ⟨fun _ _ h => h, fun _ h => h⟩
theorem ok0 : RepOk r0 := ⟨fun _ _ h => h, fun _ h => h⟩
theorem okC {α : Type} {r : Rep V α} {t : Rep (List V) ρ} (h1 : RepOk r) (h2 : RepOk t) : RepOk (rC r t) :=
  ⟨fun a e ⟨v, us, q, x, y⟩ => ⟨v, us, q, h1.fw a e x, h2.fw a e y⟩, fun l ⟨v, us, q, x, y⟩ => ⟨v, us, q, h1.bk l x, h2.bk l y⟩⟩
end
section
variable {K : PySem.W.Frag} {F : Hp} {v : V}
theorem dpI {i : Int} (h : Ds K F v (py i)) : v = .int i := by
  have h : Ds K F v (.int i) := h
  cases h
  rfl
theorem dpB {b : Bool} (h : Ds K F v (py b)) : v = .bl b := by
  have h : Ds K F v (.bool b) := h
  cases h
  rfl
theorem dpS {b : Str} (h : Ds K F v (py b)) : v = .str b := by
  have h : Ds K F v (.str b) := h
  cases h
  rfl
theorem dpL {α : Type} [Py α] {xs : List α} (h : Ds K F v (py xs)) : ∃ p ys, v = .ref p ∧ SqL K F p ys ∧ DsAll K F ys (xs.map py) := by
  have h : Ds K F v (.list (xs.map py)) := h
  cases h with
  | lst h1 h2 => exact ⟨_, _, rfl, .inl (.inl h1), h2⟩
theorem dpP {α β : Type} [Py α] [Py β] {a : α} {b : β} (h : Ds K F v (py (a, b))) : ∃ p x y, v = .ref p ∧ SqT K F p [x, y] ∧ Ds K F x (py a) ∧ Ds K F y (py b) := by
  have h : Ds K F v (.tuple [py a, py b]) := h
  cases h with
  | tup h1 h2 =>
    cases h2 with
    | cons a1 a2 =>
      cases a2 with
      | cons b1 b2 =>
        cases b2
        exact ⟨_, _, _, rfl, .inl (.inl h1), a1, b1⟩
end

/-! ### an expression against an outcome -/
def Ev (X : Cx) (H0 : Hp) (L : List (Addr × HO)) (Qe : Nat → Int → Prop) (F : Hp) (σ : L2.St) (e : Expr) {α : Type} (r : Rep V α) (m : Out α) : Prop :=
  ∀ F1 H, Le F F1 → Sta H0 F1 L H → ∀ Q : VK, wpO m (fun a => ∀ v F2 H2, Adv F1 H F2 → Le H H2 → Sta H0 F2 L H2 → r H F2 H2 v a → Q v H2) Qe → sE X e σ H Q
def EvT (X : Cx) (H0 : Hp) (L : List (Addr × HO)) (Qe : Nat → Int → Prop) (F : Hp) (σ : L2.St) (e : Expr) (m : Out Bool) : Prop :=
  ∀ F1 H, Le F F1 → Sta H0 F1 L H → ∀ Q : Bool → Hp → Prop, wpO m (fun a => ∀ F2 H2, Adv F1 H F2 → Le H H2 → Sta H0 F2 L H2 → Q a H2) Qe → sT X e σ H Q
def EvA (X : Cx) (H0 : Hp) (L : List (Addr × HO)) (Qe : Nat → Int → Prop) (F : Hp) (σ : L2.St) (es : List Expr) {ρ : Type} (r : Rep (List V) ρ) (m : Out ρ) : Prop :=
  ∀ F1 H, Le F F1 → Sta H0 F1 L H → ∀ Q : List V → Hp → Prop, wpO m (fun a => ∀ vs F2 H2, Adv F1 H F2 → Le H H2 → Sta H0 F2 L H2 → r H F2 H2 vs a → Q vs H2) Qe → sA X es σ H Q

section
variable {X : Cx} {H0 : Hp} {L : List (Addr × HO)} {Qe : Nat → Int → Prop} {F : Hp} {σ : L2.St} {α β γ ρ : Type} [Py α] [Py β] [Py γ]

theorem ev_imp {e : Expr} {r r' : Rep V α} {m : Out α} (h : Ev X H0 L Qe F σ e r m) (k : ∀ {Hs F H v a}, Sta H0 F L H → r Hs F H v a → r' Hs F H v a) : Ev X H0 L Qe F σ e r' m := fun F1 H l st Q w =>
  h F1 H l st Q (wpO_to w fun a q v F2 H2 ad le st2 x => q v F2 H2 ad le st2 (k st2 x))
/-- a frozen list read -/
theorem ev_EB {e : Expr} {m : Out (List α)} (h : Ev X H0 L Qe F σ e (rE X.K) m) : Ev X H0 L Qe F σ e (rB X.K) m := ev_imp h fun st x => by
  obtain ⟨p, ys, e, h1, h2⟩ := dpL x
  exact ⟨p, ys, e, st.lF.sql h1, h2⟩
theorem ev_LB {e : Expr} {m : Out (List α)} (h : Ev X H0 L Qe F σ e (rL X.K) m) : Ev X H0 L Qe F σ e (rB X.K) m := ev_imp h fun st x => by
  obtain ⟨p, ys, e, h1, h2, h3, h4⟩ := x
  exact ⟨p, ys, e, .inl (.inl h3), h4⟩
/-- a new list is frozen -/
theorem ev_LE {e : Expr} {m : Out (List α)} (h : Ev X H0 L Qe F σ e (rL X.K) m) : Ev X H0 L Qe F σ e (rE X.K) m := fun F1 H l st Q w =>
  h F1 H l st Q (wpO_to w fun a q v F2 H2 ad le st2 x => by
    obtain ⟨p, ys, rfl, h1, h2, h3, h4⟩ := x
    have a2 : Adv F1 H (upd F2 p (.lst ys)) := ⟨ad.le.trans (Le.new h2), fun b u z1 z2 => by
      rw [upd_ne (ne_of_none z1 h1)]
      exact ad.nw b u z1 z2⟩
    have l2 : Le (upd F2 p (.lst ys)) H2 := st2.lF.tell h2 h3 Pl.lst
    exact q _ _ H2 a2 le (st.grow le a2 l2) (.lst upd_same (h4.mo (Le.new h2))))
theorem ev_mono {e : Expr} {r : Rep V α} {m : Out α} {F' : Hp} (h : Ev X H0 L Qe F σ e r m) (l : Le F F') : Ev X H0 L Qe F' σ e r m := fun F1 H l1 => h F1 H (l.trans l1)

/-! ### leaves -/
theorem ev_sem {e : Expr} {te : TE} {r : Rep V α} {m : Out α} (p : PE X e te)
    (h : ∀ F1 H, Le F F1 → Sta H0 F1 L H → ∀ Q : VK, wpO m (fun a => ∀ v F2 H2, Adv F1 H F2 → Le H H2 → Sta H0 F2 L H2 → r H F2 H2 v a → Q v H2) Qe → te σ H Q) : Ev X H0 L Qe F σ e r m := fun F1 H l st Q w => sE_of p (h F1 H l st Q w)
theorem ev_var (i : Nat) {K : PySem.W.Frag} {x : Str} {pos : Pos} {v : V} {a : α} (h : Ds K F v (py a)) (hK : X.K = K := by rfl) (hs : σ[i]? = some (some v) := by rfl) (hN : X.N[i]? = some x := by rfl) (hv : Vis X.env.scope x := by first | exact Or.inl rfl | exact Or.inr (Or.inl rfl) | exact Or.inr (Or.inr rfl))
    (hd : (x == ("__debug__" : Str)) = false := by decide) (hcd : (x == ("__classdict__" : Str)) = false := by decide) : Ev X H0 L Qe F σ (.Name x pos) (rE X.K) (.ok a) :=
  ev_sem (pe_var hN hv hd hcd) fun F1 H l st Q w => ⟨v, hs, w v F1 H (Adv.refl _ _) (Le.refl _) st (by rw [← hK] at h; exact h.mo l)⟩
/-- a name that holds an int, a bool -/
theorem ev_vI (i : Nat) {x : Str} {pos : Pos} {a : Int} (hs : σ[i]? = some (some (.int a)) := by rfl) (hN : X.N[i]? = some x := by rfl) (hv : Vis X.env.scope x := by first | exact Or.inl rfl | exact Or.inr (Or.inl rfl) | exact Or.inr (Or.inr rfl))
    (hd : (x == ("__debug__" : Str)) = false := by decide) (hcd : (x == ("__classdict__" : Str)) = false := by decide) : Ev X H0 L Qe F σ (.Name x pos) (rE X.K) (.ok a) := ev_var i (K := X.K) (.int a) rfl hs hN hv hd hcd
theorem ev_vB (i : Nat) {x : Str} {pos : Pos} {a : Bool} (hs : σ[i]? = some (some (.bl a)) := by rfl) (hN : X.N[i]? = some x := by rfl) (hv : Vis X.env.scope x := by first | exact Or.inl rfl | exact Or.inr (Or.inl rfl) | exact Or.inr (Or.inr rfl))
    (hd : (x == ("__debug__" : Str)) = false := by decide) (hcd : (x == ("__classdict__" : Str)) = false := by decide) : Ev X H0 L Qe F σ (.Name x pos) (rE X.K) (.ok a) := ev_var i (K := X.K) (.bl a) rfl hs hN hv hd hcd
/-- a name that holds a list that is read at the entry's heap (a parameter) -/
theorem ev_vP (i : Nat) {K : PySem.W.Frag} {x : Str} {pos : Pos} {p : Addr} {ys : List V} {xs : List α} (h : SqL K H0 p ys) (hy : DsAll K F ys (xs.map py)) (hK : X.K = K := by rfl) (hs : σ[i]? = some (some (.ref p)) := by rfl) (hN : X.N[i]? = some x := by rfl) (hv : Vis X.env.scope x := by first | exact Or.inl rfl | exact Or.inr (Or.inl rfl) | exact Or.inr (Or.inr rfl))
    (hd : (x == ("__debug__" : Str)) = false := by decide) (hcd : (x == ("__classdict__" : Str)) = false := by decide) : Ev X H0 L Qe F σ (.Name x pos) (rB X.K) (.ok xs) :=
  ev_sem (pe_var hN hv hd hcd) fun F1 H l st Q w => ⟨_, hs, w _ F1 H (Adv.refl _ _) (Le.refl _) st (by rw [← hK] at h hy; exact ⟨p, ys, rfl, st.l0.sql h, hy.mo l⟩)⟩
/-- a name that holds an owned list -/
theorem ev_vO (i : Nat) {K : PySem.W.Frag} {x : Str} {pos : Pos} (j : Nat) {p : Addr} {ys : List V} {xs : List α} (hy : DsAll K F ys (xs.map py)) (hK : X.K = K := by rfl) (hL : L[j]? = some (p, .lst ys) := by rfl) (hs : σ[i]? = some (some (.ref p)) := by rfl) (hN : X.N[i]? = some x := by rfl) (hv : Vis X.env.scope x := by first | exact Or.inl rfl | exact Or.inr (Or.inl rfl) | exact Or.inr (Or.inr rfl))
    (hd : (x == ("__debug__" : Str)) = false := by decide) (hcd : (x == ("__classdict__" : Str)) = false := by decide) : Ev X H0 L Qe F σ (.Name x pos) (rB X.K) (.ok xs) :=
  ev_sem (pe_var hN hv hd hcd) fun F1 H l st Q w => ⟨_, hs, w _ F1 H (Adv.refl _ _) (Le.refl _) st (by rw [← hK] at hy; exact ⟨p, ys, rfl, .inl (.inl (st.at hL)), hy.mo l⟩)⟩
theorem ev_int {i : Int} {j : Nat} {pos : Pos} : Ev X H0 L Qe F σ (.Constant (.int i) j pos) (rE X.K) (.ok i) := ev_sem pe_int fun F1 H l st Q w => w _ F1 H (Adv.refl _ _) (Le.refl _) st (.int i)
theorem ev_bl {b : Bool} {j : Nat} {pos : Pos} : Ev X H0 L Qe F σ (.Constant (.bool b) j pos) (rE X.K) (.ok b) := ev_sem pe_bl fun F1 H l st Q w => w _ F1 H (Adv.refl _ _) (Le.refl _) st (.bl b)
theorem ev_str {b : Str} {j : Nat} {pos : Pos} : Ev X H0 L Qe F σ (.Constant (.str b) j pos) (rE X.K) (.ok b) := ev_sem pe_str fun F1 H l st Q w => w _ F1 H (Adv.refl _ _) (Le.refl _) st (.str b)
theorem ev_non {j : Nat} {pos : Pos} : Ev X H0 L Qe F σ (.Constant .none j pos) (rE X.K) (.ok ()) := ev_sem pe_non fun F1 H l st Q w => w _ F1 H (Adv.refl _ _) (Le.refl _) st .non
theorem ev_none {j : Nat} {pos : Pos} : Ev X H0 L Qe F σ (.Constant .none j pos) (rE X.K) (.ok (none : Option α)) := ev_sem pe_non fun F1 H l st Q w => w _ F1 H (Adv.refl _ _) (Le.refl _) st .non
theorem ev_some {e : Expr} {m : Out α} (h : Ev X H0 L Qe F σ e (rE X.K) m) : Ev X H0 L Qe F σ e (rE X.K) (m >>= fun a => .ok (some a)) := fun F1 H l st Q w =>
  h F1 H l st Q (wpO_to (wpO_bind.mp w) fun a q v F2 H2 ad le st2 x => q v F2 H2 ad le st2 x)
/-- a constant of the module -/
theorem ev_gI {x : Str} {i : Int} {t : Tok} {pos : Pos} (hm : X.mg x = some (.int i t)) (hg : Gl X x := by rfl) (hd : (x == ("__debug__" : Str)) = false := by decide) : Ev X H0 L Qe F σ (.Name x pos) (rE X.K) (.ok i) :=
  ev_sem (pe_glob (v := .int i) hg hm ⟨t, rfl⟩ hd) fun F1 H l st Q w => w _ F1 H (Adv.refl _ _) (Le.refl _) st (.int i)

/-! ### operators -/
theorem ev_bin {op : Operator} {r : R2} {a b : Expr} {pos : Pos} {α β γ : Type} {r1 : Rep V α} {r2 : Rep V β} {rr : Rep V γ} {ma : Out α} {mb : Out β} {mr : α → β → Out γ} (ho : OpR X (binaryOp op) r) (ha : Ev X H0 L Qe F σ a r1 ma) (hb : Ev X H0 L Qe F σ b r2 mb) (o1 : RepOk r1) (o2 : RepOk r2) (or : RepOk rr)
    (hr : ∀ x y Hs F H i j, Le Hs H → Sta H0 F L H → r1 Hs F H x i → r2 Hs F H y j → ∀ Q : VK, wpO (mr i j) (fun c => ∀ v F2 H2, Adv F H F2 → Le H H2 → Sta H0 F2 L H2 → rr H F2 H2 v c → Q v H2) Qe → r x y H Q) :
    Ev X H0 L Qe F σ (.BinOp a op b pos) rr (ma >>= fun i => mb >>= fun j => mr i j) := fun F1 H l st Q w =>
  sE_of (pe_op ho pe_s pe_s) (ha F1 H l st _ (wpO_to (wpO_bind.mp w) fun i w1 x F2 H2 ad le st2 rx =>
    hb F2 H2 (l.trans ad.le) st2 _ (wpO_to (wpO_bind.mp w1) fun j w2 y F3 H3 ad2 le2 st3 ry =>
      hr x y H F3 H3 i j (le.trans le2) st3 (o1.fw ad2 le2 rx) (o2.bk le ry) Q (wpO_to w2 fun c q v F4 H4 ad3 le3 st4 rv =>
        q v F4 H4 (ad.trans le.dom (ad2.trans le2.dom ad3)) (le.trans (le2.trans le3)) st4 (or.bk (le.trans le2) rv)))))
theorem ev_cmp {op : CmpOp} {r : R2} {a b : Expr} {pos : Pos} {α β γ : Type} {r1 : Rep V α} {r2 : Rep V β} {rr : Rep V γ} {ma : Out α} {mb : Out β} {mr : α → β → Out γ} (ho : OpR X (compareOp op) r) (ha : Ev X H0 L Qe F σ a r1 ma) (hb : Ev X H0 L Qe F σ b r2 mb) (o1 : RepOk r1) (o2 : RepOk r2) (or : RepOk rr) (hm : behindInMarks op b = false)
    (hr : ∀ x y Hs F H i j, Le Hs H → Sta H0 F L H → r1 Hs F H x i → r2 Hs F H y j → ∀ Q : VK, wpO (mr i j) (fun c => ∀ v F2 H2, Adv F H F2 → Le H H2 → Sta H0 F2 L H2 → rr H F2 H2 v c → Q v H2) Qe → r x y H Q) :
    Ev X H0 L Qe F σ (.Compare a [op] [b] pos) rr (ma >>= fun i => mb >>= fun j => mr i j) := fun F1 H l st Q w =>
  sE_of (pe_cmpR ho pe_s pe_s hm) (ha F1 H l st _ (wpO_to (wpO_bind.mp w) fun i w1 x F2 H2 ad le st2 rx =>
    hb F2 H2 (l.trans ad.le) st2 _ (wpO_to (wpO_bind.mp w1) fun j w2 y F3 H3 ad2 le2 st3 ry =>
      hr x y H F3 H3 i j (le.trans le2) st3 (o1.fw ad2 le2 rx) (o2.bk le ry) Q (wpO_to w2 fun c q v F4 H4 ad3 le3 st4 rv =>
        q v F4 H4 (ad.trans le.dom (ad2.trans le2.dom ad3)) (le.trans (le2.trans le3)) st4 (or.bk (le.trans le2) rv)))))
variable {a b : Expr} {pos : Pos} {ma mb : Out Int}
theorem ev_opI0 {op : Operator} {g : Int → Int → Int} (ho : OpR X (binaryOp op) (rI0 fun i j => .int (g i j))) (ha : Ev X H0 L Qe F σ a (rE X.K) ma) (hb : Ev X H0 L Qe F σ b (rE X.K) mb) : Ev X H0 L Qe F σ (.BinOp a op b pos) (rE X.K) (ma >>= fun i => mb >>= fun j => .ok (g i j)) :=
  ev_bin ho ha hb okE okE okE fun x y Hs F H i j _ st hx hy Q w => ⟨i, j, dpI hx, dpI hy, w _ F H (Adv.refl _ _) (Le.refl _) st (.int _)⟩
/-- a partial operation on ints -/
@[irreducible] def guardO {α : Type} (c : Prop) [Decidable c] (a : α) : Out α := if c then .ok a else .bad
theorem wpO_guard {α : Type} {c : Prop} [Decidable c] {a : α} {Q : α → Prop} {E : Nat → Int → Prop} : wpO (guardO c a) Q E ↔ c ∧ Q a := by
  unfold guardO
  by_cases h : c
  · rw [if_pos h]
    exact ⟨fun q => ⟨h, q⟩, fun q => q.2⟩
  · rw [if_neg h]
    exact ⟨fun q => q.elim, fun q => absurd q.1 h⟩
theorem ev_opI {op : Operator} {C : Int → Int → Prop} [∀ i j, Decidable (C i j)] {g : Int → Int → Int} (ho : OpR X (binaryOp op) (rI C fun i j => .int (g i j))) (ha : Ev X H0 L Qe F σ a (rE X.K) ma) (hb : Ev X H0 L Qe F σ b (rE X.K) mb) : Ev X H0 L Qe F σ (.BinOp a op b pos) (rE X.K) (ma >>= fun i => mb >>= fun j => guardO (C i j) (g i j)) :=
  ev_bin ho ha hb okE okE okE fun x y Hs F H i j _ st hx hy Q w => by
    obtain ⟨hc, w⟩ := wpO_guard.mp w
    exact ⟨i, j, dpI hx, dpI hy, hc, w _ F H (Adv.refl _ _) (Le.refl _) st (.int _)⟩
omit [TbC] in
instance (i j : Int) : Decidable (CMul i j) := by unfold CMul; exact inferInstance
omit [TbC] in
instance (i j : Int) : Decidable (CDiv i j) := by unfold CDiv; exact inferInstance
omit [TbC] in
instance (i j : Int) : Decidable (CDivN i j) := by unfold CDivN; exact inferInstance
omit [TbC] in
instance (i j : Int) : Decidable (CPow i j) := by unfold CPow; exact inferInstance
def mulO (i j : Int) : Out Int := guardO (CMul i j) (i * j)
def divO (i j : Int) : Out Int := guardO (CDivN i j) (i.fdiv j)
def modO (i j : Int) : Out Int := guardO (j ≠ 0) (i.fmod j)
def powO (i j : Int) : Out Int := guardO (CPow i j) (i ^ j.toNat)
def shlO (i j : Int) : Out Int := guardO (CPow i j) (i * 2 ^ j.toNat)
def shrO (i j : Int) : Out Int := guardO (0 ≤ j) (i / 2 ^ j.toNat)
theorem ev_add (ha : Ev X H0 L Qe F σ a (rE X.K) ma) (hb : Ev X H0 L Qe F σ b (rE X.K) mb) : Ev X H0 L Qe F σ (.BinOp a .Add b pos) (rE X.K) (ma >>= fun i => mb >>= fun j => .ok (i + j)) := ev_opI0 op_add ha hb
theorem ev_sub (ha : Ev X H0 L Qe F σ a (rE X.K) ma) (hb : Ev X H0 L Qe F σ b (rE X.K) mb) : Ev X H0 L Qe F σ (.BinOp a .Sub b pos) (rE X.K) (ma >>= fun i => mb >>= fun j => .ok (i - j)) := ev_opI0 op_sub ha hb
theorem ev_and (ha : Ev X H0 L Qe F σ a (rE X.K) ma) (hb : Ev X H0 L Qe F σ b (rE X.K) mb) : Ev X H0 L Qe F σ (.BinOp a .BitAnd b pos) (rE X.K) (ma >>= fun i => mb >>= fun j => .ok (Builtin.bitAnd i j)) := ev_opI0 op_and ha hb
theorem ev_or (ha : Ev X H0 L Qe F σ a (rE X.K) ma) (hb : Ev X H0 L Qe F σ b (rE X.K) mb) : Ev X H0 L Qe F σ (.BinOp a .BitOr b pos) (rE X.K) (ma >>= fun i => mb >>= fun j => .ok (Builtin.bitOr i j)) := ev_opI0 op_or ha hb
theorem ev_xor (ha : Ev X H0 L Qe F σ a (rE X.K) ma) (hb : Ev X H0 L Qe F σ b (rE X.K) mb) : Ev X H0 L Qe F σ (.BinOp a .BitXor b pos) (rE X.K) (ma >>= fun i => mb >>= fun j => .ok (Builtin.bitXor i j)) := ev_opI0 op_xor ha hb
theorem ev_mul (ha : Ev X H0 L Qe F σ a (rE X.K) ma) (hb : Ev X H0 L Qe F σ b (rE X.K) mb) : Ev X H0 L Qe F σ (.BinOp a .Mult b pos) (rE X.K) (ma >>= fun i => mb >>= fun j => mulO i j) := ev_opI op_mul ha hb
theorem ev_div (ha : Ev X H0 L Qe F σ a (rE X.K) ma) (hb : Ev X H0 L Qe F σ b (rE X.K) mb) : Ev X H0 L Qe F σ (.BinOp a .FloorDiv b pos) (rE X.K) (ma >>= fun i => mb >>= fun j => divO i j) := ev_opI op_fdivN ha hb
theorem ev_mod (ha : Ev X H0 L Qe F σ a (rE X.K) ma) (hb : Ev X H0 L Qe F σ b (rE X.K) mb) : Ev X H0 L Qe F σ (.BinOp a .Mod b pos) (rE X.K) (ma >>= fun i => mb >>= fun j => modO i j) := ev_opI op_modN ha hb
theorem ev_pow (ha : Ev X H0 L Qe F σ a (rE X.K) ma) (hb : Ev X H0 L Qe F σ b (rE X.K) mb) : Ev X H0 L Qe F σ (.BinOp a .Pow b pos) (rE X.K) (ma >>= fun i => mb >>= fun j => powO i j) := ev_opI op_pow ha hb
theorem ev_shl (ha : Ev X H0 L Qe F σ a (rE X.K) ma) (hb : Ev X H0 L Qe F σ b (rE X.K) mb) : Ev X H0 L Qe F σ (.BinOp a .LShift b pos) (rE X.K) (ma >>= fun i => mb >>= fun j => shlO i j) := ev_opI op_shl ha hb
theorem ev_shr (ha : Ev X H0 L Qe F σ a (rE X.K) ma) (hb : Ev X H0 L Qe F σ b (rE X.K) mb) : Ev X H0 L Qe F σ (.BinOp a .RShift b pos) (rE X.K) (ma >>= fun i => mb >>= fun j => shrO i j) := ev_opI op_shr ha hb
theorem ev_neg (ha : Ev X H0 L Qe F σ a (rE X.K) ma) : Ev X H0 L Qe F σ (.UnaryOp .USub a pos) (rE X.K) (ma >>= fun i => .ok (-i)) := fun F1 H l st Q w =>
  sE_of (pe_un un_neg pe_s) (ha F1 H l st _ (wpO_to (wpO_bind.mp w) fun i w1 x F2 H2 ad le st2 rx => ⟨i, dpI rx, w1 _ F2 H2 ad le st2 (.int _)⟩))

/-! ### comparisons -/
theorem ev_cmpI {op : CmpOp} {g : Int → Int → Bool} (ho : OpR X (compareOp op) (rI0 fun i j => .bl (g i j))) (ha : Ev X H0 L Qe F σ a (rE X.K) ma) (hb : Ev X H0 L Qe F σ b (rE X.K) mb) (hm : behindInMarks op b = false) : Ev X H0 L Qe F σ (.Compare a [op] [b] pos) (rE X.K) (ma >>= fun i => mb >>= fun j => .ok (g i j)) :=
  ev_cmp ho ha hb okE okE okE hm fun x y Hs F H i j _ st hx hy Q w => ⟨i, j, dpI hx, dpI hy, w _ F H (Adv.refl _ _) (Le.refl _) st (.bl _)⟩
theorem ev_lt (ha : Ev X H0 L Qe F σ a (rE X.K) ma) (hb : Ev X H0 L Qe F σ b (rE X.K) mb) : Ev X H0 L Qe F σ (.Compare a [.Lt] [b] pos) (rE X.K) (ma >>= fun i => mb >>= fun j => .ok (decide (i < j))) := ev_cmpI op_lt ha hb (nomark _)
theorem ev_le (ha : Ev X H0 L Qe F σ a (rE X.K) ma) (hb : Ev X H0 L Qe F σ b (rE X.K) mb) : Ev X H0 L Qe F σ (.Compare a [.LtE] [b] pos) (rE X.K) (ma >>= fun i => mb >>= fun j => .ok (decide (i ≤ j))) := ev_cmpI op_le ha hb (nomark _)
theorem ev_gt (ha : Ev X H0 L Qe F σ a (rE X.K) ma) (hb : Ev X H0 L Qe F σ b (rE X.K) mb) : Ev X H0 L Qe F σ (.Compare a [.Gt] [b] pos) (rE X.K) (ma >>= fun i => mb >>= fun j => .ok (decide (j < i))) := ev_cmpI op_gt ha hb (nomark _)
theorem ev_ge (ha : Ev X H0 L Qe F σ a (rE X.K) ma) (hb : Ev X H0 L Qe F σ b (rE X.K) mb) : Ev X H0 L Qe F σ (.Compare a [.GtE] [b] pos) (rE X.K) (ma >>= fun i => mb >>= fun j => .ok (decide (j ≤ i))) := ev_cmpI op_ge ha hb (nomark _)
theorem ev_eqI (ha : Ev X H0 L Qe F σ a (rE X.K) ma) (hb : Ev X H0 L Qe F σ b (rE X.K) mb) : Ev X H0 L Qe F σ (.Compare a [.Eq] [b] pos) (rE X.K) (ma >>= fun i => mb >>= fun j => .ok (decide (i = j))) :=
  ev_cmp op_eq ha hb okE okE okE (nomark _) fun x y Hs F H i j _ st hx hy Q w => by
    obtain rfl := dpI hx
    obtain rfl := dpI hy
    refine ⟨rfl, w _ F H (Adv.refl _ _) (Le.refl _) st ?_⟩
    have e : decide (V.int i = V.int j) = decide (i = j) := by rw [dec_int, Bool.beq_eq_decide_eq]
    rw [e]
    exact .bl _
theorem ev_neI (ha : Ev X H0 L Qe F σ a (rE X.K) ma) (hb : Ev X H0 L Qe F σ b (rE X.K) mb) : Ev X H0 L Qe F σ (.Compare a [.NotEq] [b] pos) (rE X.K) (ma >>= fun i => mb >>= fun j => .ok (!decide (i = j))) :=
  ev_cmp op_ne ha hb okE okE okE (nomark _) fun x y Hs F H i j _ st hx hy Q w => by
    obtain rfl := dpI hx
    obtain rfl := dpI hy
    refine ⟨rfl, w _ F H (Adv.refl _ _) (Le.refl _) st ?_⟩
    have e : decide (V.int i = V.int j) = decide (i = j) := by rw [dec_int, Bool.beq_eq_decide_eq]
    rw [e]
    exact .bl _

/-! ### tests -/
theorem et_val {e : Expr} {m : Out Bool} (h : Ev X H0 L Qe F σ e (rE X.K) m) (he : ∀ whole, isTrue e X.env whole = (do let v ← whole; standAt e.pos; holding [v] (truthy v)) := by intro _; rfl) : EvT X H0 L Qe F σ e m := fun F1 H l st Q w =>
  sT_of (pt_val pe_s he) (h F1 H l st _ (wpO_to w fun b q v F2 H2 ad le st2 x => ⟨b, dpB x, q F2 H2 ad le st2⟩))
theorem et_cmp {op : CmpOp} {r : R2} {α β : Type} {r1 : Rep V α} {r2 : Rep V β} {ma : Out α} {mb : Out β} {mr : α → β → Out Bool} (ho : OpR X (compareOp op) r) (ha : Ev X H0 L Qe F σ a r1 ma) (hb : Ev X H0 L Qe F σ b r2 mb) (o1 : RepOk r1) (o2 : RepOk r2) (hm : behindInMarks op b = false)
    (hr : ∀ x y Hs F H i j, Le Hs H → Sta H0 F L H → r1 Hs F H x i → r2 Hs F H y j → ∀ Q : VK, wpO (mr i j) (fun c => ∀ v F2 H2, Adv F H F2 → Le H H2 → Sta H0 F2 L H2 → rE X.K H F2 H2 v c → Q v H2) Qe → r x y H Q) :
    EvT X H0 L Qe F σ (.Compare a [op] [b] pos) (ma >>= fun i => mb >>= fun j => mr i j) := fun F1 H l st Q w =>
  sT_of (pt_cmpR ho pe_s pe_s hm) (ha F1 H l st _ (wpO_to (wpO_bind.mp w) fun i w1 x F2 H2 ad le st2 rx =>
    hb F2 H2 (l.trans ad.le) st2 _ (wpO_to (wpO_bind.mp w1) fun j w2 y F3 H3 ad2 le2 st3 ry =>
      hr x y H F3 H3 i j (le.trans le2) st3 (o1.fw ad2 le2 rx) (o2.bk le ry) _ (wpO_to w2 fun c q v F4 H4 ad3 le3 st4 rv =>
        ⟨c, dpB rv, q F4 H4 (ad.trans le.dom (ad2.trans le2.dom ad3)) (le.trans (le2.trans le3)) st4⟩))))
theorem et_cmpI {op : CmpOp} {g : Int → Int → Bool} (ho : OpR X (compareOp op) (rI0 fun i j => .bl (g i j))) (ha : Ev X H0 L Qe F σ a (rE X.K) ma) (hb : Ev X H0 L Qe F σ b (rE X.K) mb) (hm : behindInMarks op b = false) : EvT X H0 L Qe F σ (.Compare a [op] [b] pos) (ma >>= fun i => mb >>= fun j => .ok (g i j)) :=
  et_cmp ho ha hb okE okE hm fun x y Hs F H i j _ st hx hy Q w => ⟨i, j, dpI hx, dpI hy, w _ F H (Adv.refl _ _) (Le.refl _) st (.bl _)⟩
theorem et_lt (ha : Ev X H0 L Qe F σ a (rE X.K) ma) (hb : Ev X H0 L Qe F σ b (rE X.K) mb) : EvT X H0 L Qe F σ (.Compare a [.Lt] [b] pos) (ma >>= fun i => mb >>= fun j => .ok (decide (i < j))) := et_cmpI op_lt ha hb (nomark _)
theorem et_le (ha : Ev X H0 L Qe F σ a (rE X.K) ma) (hb : Ev X H0 L Qe F σ b (rE X.K) mb) : EvT X H0 L Qe F σ (.Compare a [.LtE] [b] pos) (ma >>= fun i => mb >>= fun j => .ok (decide (i ≤ j))) := et_cmpI op_le ha hb (nomark _)
theorem et_gt (ha : Ev X H0 L Qe F σ a (rE X.K) ma) (hb : Ev X H0 L Qe F σ b (rE X.K) mb) : EvT X H0 L Qe F σ (.Compare a [.Gt] [b] pos) (ma >>= fun i => mb >>= fun j => .ok (decide (j < i))) := et_cmpI op_gt ha hb (nomark _)
theorem et_ge (ha : Ev X H0 L Qe F σ a (rE X.K) ma) (hb : Ev X H0 L Qe F σ b (rE X.K) mb) : EvT X H0 L Qe F σ (.Compare a [.GtE] [b] pos) (ma >>= fun i => mb >>= fun j => .ok (decide (j ≤ i))) := et_cmpI op_ge ha hb (nomark _)
theorem et_eqI (ha : Ev X H0 L Qe F σ a (rE X.K) ma) (hb : Ev X H0 L Qe F σ b (rE X.K) mb) : EvT X H0 L Qe F σ (.Compare a [.Eq] [b] pos) (ma >>= fun i => mb >>= fun j => .ok (decide (i = j))) :=
  et_cmp op_eq ha hb okE okE (nomark _) fun x y Hs F H i j _ st hx hy Q w => by
    obtain rfl := dpI hx
    obtain rfl := dpI hy
    refine ⟨rfl, w _ F H (Adv.refl _ _) (Le.refl _) st ?_⟩
    have e : decide (V.int i = V.int j) = decide (i = j) := by rw [dec_int, Bool.beq_eq_decide_eq]
    rw [e]
    exact .bl _
theorem et_neI (ha : Ev X H0 L Qe F σ a (rE X.K) ma) (hb : Ev X H0 L Qe F σ b (rE X.K) mb) : EvT X H0 L Qe F σ (.Compare a [.NotEq] [b] pos) (ma >>= fun i => mb >>= fun j => .ok (!decide (i = j))) :=
  et_cmp op_ne ha hb okE okE (nomark _) fun x y Hs F H i j _ st hx hy Q w => by
    obtain rfl := dpI hx
    obtain rfl := dpI hy
    refine ⟨rfl, w _ F H (Adv.refl _ _) (Le.refl _) st ?_⟩
    have e : decide (V.int i = V.int j) = decide (i = j) := by rw [dec_int, Bool.beq_eq_decide_eq]
    rw [e]
    exact .bl _
theorem et_not {m : Out Bool} (h : EvT X H0 L Qe F σ a m) : EvT X H0 L Qe F σ (.UnaryOp .Not a pos) (m >>= fun b => .ok (!b)) := fun F1 H l st Q w =>
  sT_of (pt_not pt_s) (h F1 H l st _ (wpO_to (wpO_bind.mp w) fun b q F2 H2 ad le st2 => q F2 H2 ad le st2))
end
end Rf


set_option Elab.async false
set_option linter.all false
set_option maxRecDepth 100000
set_option maxHeartbeats 1000000
namespace Rf
open PySem PySem.Spec L2 PyProof.Rows
open Py (py)
variable [TbC]

/-! ### partial operations on data -/
@[irreducible] def getI {α : Type} (xs : List α) (i : Int) : Out α := match atI xs i with
  | some a => .ok a
  | none => .bad
@[irreducible] def setI {α : Type} (xs : List α) (i : Int) (a : α) : Out (List α) := match ixN xs.length i with
  | some j => .ok (xs.set j a)
  | none => .bad
def pushO {α : Type} (xs : List α) (a : α) : Out (List α) := guardO (xs.length < sizeLine) (xs ++ [a])
def catO {α : Type} (xs ys : List α) : Out (List α) := guardO (xs.length + ys.length ≤ sizeLine) (xs ++ ys)
def repO {α : Type} (xs : List α) (k : Int) : Out (List α) := guardO (-(2 ^ 63) ≤ k ∧ k < 2 ^ 63 ∧ xs.length * k.toNat ≤ sizeLine) (List.replicate k.toNat xs).flatten
def cutA {α : Type} (xs : List α) (lo hi : Option Int) : List α := (xs.drop (HT.sIx xs.length 0 lo)).take (HT.sIx xs.length xs.length hi - HT.sIx xs.length 0 lo)
def maxI (i j : Int) : Int := if j > i then j else i
def minI (i j : Int) : Int := if j < i then j else i
def absI (i : Int) : Int := if i < 0 then -i else i
/-- lo, lo + 1, .., below hi -/
def rng (lo hi : Int) : List Int := (List.range (hi - lo).toNat).map fun (k : Nat) => lo + (k : Int)

theorem getI_ok {α : Type} {xs : List α} {i : Int} {a : α} (h : atI xs i = some a) : getI xs i = .ok a := by unfold getI; rw [h]
theorem wpO_getI {α : Type} {xs : List α} {i : Int} {Q : α → Prop} {E : Nat → Int → Prop} (w : wpO (getI xs i) Q E) : ∃ j a, ixN xs.length i = some j ∧ xs[j]? = some a ∧ Q a := by
  unfold getI at w
  cases h : atI xs i with
  | none => rw [h] at w; exact w.elim
  | some a =>
    rw [h] at w
    unfold atI at h
    cases h2 : ixN xs.length i with
    | none => rw [h2] at h; cases h
    | some j =>
      rw [h2] at h
      exact ⟨j, a, rfl, h, w⟩
theorem wpO_setI {α : Type} {xs : List α} {i : Int} {b : α} {Q : List α → Prop} {E : Nat → Int → Prop} (w : wpO (setI xs i b) Q E) : ∃ j, ixN xs.length i = some j ∧ Q (xs.set j b) := by
  unfold setI at w
  cases h : ixN xs.length i with
  | none => rw [h] at w; exact w.elim
  | some j =>
    rw [h] at w
    exact ⟨j, rfl, w⟩

section
variable {K : PySem.W.Frag} {F : Hp} {α : Type} [Py α]
theorem all_at {ys : List V} {xs : List α} {j : Nat} {a : α} (h : DsAll K F ys (xs.map py)) (e : xs[j]? = some a) : ∃ v, ys[j]? = some v ∧ Ds K F v (py a) :=
  h.get (by rw [List.getElem?_map, e]; rfl)
theorem all_len {ys : List V} {xs : List α} (h : DsAll K F ys (xs.map py)) : ys.length = xs.length := by rw [h.length, List.length_map]
theorem all_app {ys zs : List V} {xs us : List α} (h : DsAll K F ys (xs.map py)) (h' : DsAll K F zs (us.map py)) : DsAll K F (ys ++ zs) ((xs ++ us).map py) := by
  rw [List.map_append]
  exact h.app h'
theorem all_snoc {ys : List V} {v : V} {xs : List α} {a : α} (h : DsAll K F ys (xs.map py)) (h' : Ds K F v (py a)) : DsAll K F (ys ++ [v]) ((xs ++ [a]).map py) := all_app h (DsAll.one h' : DsAll K F [v] ([a].map py))
theorem all_set {ys : List V} {v : V} {xs : List α} {a : α} (j : Nat) (h : DsAll K F ys (xs.map py)) (h' : Ds K F v (py a)) : DsAll K F (ys.set j v) ((xs.set j a).map py) := by
  rw [List.map_set]
  exact DsAll.set h' j h
theorem all_cut {ys : List V} {xs : List α} (lo hi : Option Int) (h : DsAll K F ys (xs.map py)) : DsAll K F (cutV ys lo hi) ((cutA xs lo hi).map py) := by
  unfold cutV cutA
  rw [all_len h, List.map_take, List.map_drop]
  exact (h.drop _).take _
theorem all_rev {ys : List V} {xs : List α} (h : DsAll K F ys (xs.map py)) : DsAll K F ys.reverse (xs.reverse.map py) := by
  rw [List.map_reverse]
  exact h.rev
theorem all_rep {ys : List V} {xs : List α} (h : DsAll K F ys (xs.map py)) : ∀ k : Nat, DsAll K F (List.replicate k ys).flatten ((List.replicate k xs).flatten.map py)
  | 0 => .nil
  | k + 1 => by
    rw [List.replicate_succ, List.replicate_succ, List.flatten_cons, List.flatten_cons]
    exact all_app h (all_rep h k)
end

/-! ### a list display's items; arguments -/
def rAll (K : PySem.W.Frag) (n : Nat) {α : Type} [Py α] : Rep (List V) (List α) := fun _ F _ vs xs => DsAll K F vs (xs.map py) ∧ xs.length = n
theorem okAll {K : PySem.W.Frag} {n : Nat} {α : Type} [Py α] : RepOk (rAll K n (α := α)) := ⟨fun a _ h => ⟨h.1.mo a.le, h.2⟩, fun _ h => h⟩

section
variable {X : Cx} {H0 : Hp} {L : List (Addr × HO)} {Qe : Nat → Int → Prop} {F : Hp} {σ : L2.St} {α β γ ρ : Type} [Py α] [Py β] [Py γ]
variable {e a b c : Expr} {es : List Expr} {pos p : Pos} {x : Str}
theorem ea_nil : EvA X H0 L Qe F σ [] r0 (.ok ()) := fun F1 H l st Q w => sA_of pa_nil (w [] F1 H (Adv.refl _ _) (Le.refl _) st rfl)
theorem ea_cons {α : Type} {r : Rep V α} {t : Rep (List V) ρ} {m : Out α} {mr : Out ρ} (h : Ev X H0 L Qe F σ e r m) (hr : EvA X H0 L Qe F σ es t mr) (o1 : RepOk r) (o2 : RepOk t) (hs : starEach (e :: es) X.env = (false, eval e X.env) :: starEach es X.env := by rfl) :
    EvA X H0 L Qe F σ (e :: es) (rC r t) (m >>= fun a => mr >>= fun q => .ok (a, q)) := fun F1 H l st Q w =>
  sA_of (pa_cons pe_s pa_s hs) (h F1 H l st _ (wpO_to (wpO_bind.mp w) fun a w1 v F2 H2 ad le st2 rv =>
    hr F2 H2 (l.trans ad.le) st2 _ (wpO_to (wpO_bind.mp w1) fun q w2 vs F3 H3 ad2 le2 st3 rvs =>
      w2 (v :: vs) F3 H3 (ad.trans le.dom ad2) (le.trans le2) st3 ⟨v, vs, rfl, o1.fw ad2 le2 rv, o2.bk le rvs⟩)))
theorem el_nil : EvA X H0 L Qe F σ [] (rAll X.K 0 (α := α)) (.ok []) := fun F1 H l st Q w => sA_of pa_nil (w [] F1 H (Adv.refl _ _) (Le.refl _) st ⟨.nil, rfl⟩)
theorem el_cons {n : Nat} {m : Out α} {mr : Out (List α)} (h : Ev X H0 L Qe F σ e (rE X.K) m) (hr : EvA X H0 L Qe F σ es (rAll X.K n) mr) (hs : starEach (e :: es) X.env = (false, eval e X.env) :: starEach es X.env := by rfl) :
    EvA X H0 L Qe F σ (e :: es) (rAll X.K (n + 1)) (m >>= fun a => mr >>= fun q => .ok (a :: q)) := fun F1 H l st Q w =>
  sA_of (pa_cons pe_s pa_s hs) (h F1 H l st _ (wpO_to (wpO_bind.mp w) fun a w1 v F2 H2 ad le st2 rv =>
    hr F2 H2 (l.trans ad.le) st2 _ (wpO_to (wpO_bind.mp w1) fun q w2 vs F3 H3 ad2 le2 st3 rvs =>
      w2 (v :: vs) F3 H3 (ad.trans le.dom ad2) (le.trans le2) st3 ⟨.cons (rv.mo ad2.le) rvs.1, by rw [List.length_cons, rvs.2]⟩)))
/-- a new list made by a reading: at a place of the reading's own choice -/
theorem give_new {F1 H : Hp} {L : List (Addr × HO)} {ys : List V} {xs : List α} {p : Addr} {Q : VK} (st : Sta H0 F1 L H) (hp : H p = none) (hy : DsAll X.K F1 ys (xs.map py))
    (q : ∀ v F2 H2, Adv F1 H F2 → Le H H2 → Sta H0 F2 L H2 → rL X.K H F2 H2 v xs → Q v H2) : Q (.ref p) (upd H p (.lst ys)) :=
  q _ F1 _ (Adv.refl _ _) (Le.new hp) (st.new hp) ⟨p, ys, rfl, hp, st.lF.back hp, upd_same, hy⟩
theorem ev_list {n : Nat} {m : Out (List α)} (h : EvA X H0 L Qe F σ es (rAll X.K n) m) (hn : n ≤ 100000 := by decide) : Ev X H0 L Qe F σ (.List es pos) (rL X.K) m := fun F1 H l st Q w =>
  sE_of (pe_lst pa_s) (h F1 H l st _ (wpO_to w fun xs w1 vs F2 H2 ad le st2 rv => ⟨by
    rw [all_len rv.1, rv.2]
    exact Nat.le_trans hn (by decide), fun p hp => give_new (F1 := F2) (X := X) st2 hp rv.1 fun v F3 H3 ad2 le2 st3 r3 => w1 v F3 H3 (ad.trans le.dom ad2) (le.trans le2) st3 (okL.bk le r3)⟩))
/-- a new tuple -/
theorem give_tup {F1 H : Hp} {L : List (Addr × HO)} {ys : List V} {ds : List PyData} {p : Addr} {Q : VK} (st : Sta H0 F1 L H) (hp : H p = none) (hy : DsAll X.K F1 ys ds)
    (q : ∀ v F2 H2, Adv F1 H F2 → Le H H2 → Sta H0 F2 L H2 → Ds X.K F2 v (.tuple ds) → Q v H2) : Q (.ref p) (upd H p (.tup ys)) :=
  q _ (upd F1 p (.tup ys)) _ (adv_new st.lF hp) (Le.new hp) (st.newF hp) (.tup upd_same (hy.mo (Le.new (st.lF.back hp))))
theorem ev_tup2 {ma : Out α} {mb : Out β} (ha : Ev X H0 L Qe F σ a (rE X.K) ma) (hb : Ev X H0 L Qe F σ b (rE X.K) mb) {j} (hs : starEach [a, b] X.env = (false, eval a X.env) :: starEach [b] X.env := by rfl) (hs2 : starEach [b] X.env = (false, eval b X.env) :: starEach [] X.env := by rfl) :
    Ev X H0 L Qe F σ (.Tuple [a, b] j pos) (rE X.K) (ma >>= fun x => mb >>= fun y => .ok (x, y)) := fun F1 H l st Q w =>
  sE_of (pe_tup (pa_cons pe_s (pa_cons pe_s pa_nil hs2) hs)) (ha F1 H l st _ (wpO_to (wpO_bind.mp w) fun x w1 v F2 H2 ad le st2 rx =>
    hb F2 H2 (l.trans ad.le) st2 _ (wpO_to (wpO_bind.mp w1) fun y w2 u F3 H3 ad2 le2 st3 ry =>
      ⟨by show 2 ≤ sizeLine; decide, fun p hp => give_tup (X := X) st3 hp (.cons (rx.mo ad2.le) (.cons ry .nil)) fun v F4 H4 ad3 le3 st4 r4 => w2 v F4 H4 (ad.trans le.dom (ad2.trans le2.dom ad3)) (le.trans (le2.trans le3)) st4 r4⟩)))
theorem ev_tup3 {ma : Out α} {mb : Out β} {mc : Out γ} (ha : Ev X H0 L Qe F σ a (rE X.K) ma) (hb : Ev X H0 L Qe F σ b (rE X.K) mb) (hc : Ev X H0 L Qe F σ c (rE X.K) mc) {j} (hs : starEach [a, b, c] X.env = (false, eval a X.env) :: starEach [b, c] X.env := by rfl)
    (hs2 : starEach [b, c] X.env = (false, eval b X.env) :: starEach [c] X.env := by rfl) (hs3 : starEach [c] X.env = (false, eval c X.env) :: starEach [] X.env := by rfl) :
    Ev X H0 L Qe F σ (.Tuple [a, b, c] j pos) (rE X.K) (ma >>= fun x => mb >>= fun y => mc >>= fun z => .ok (T3.mk x y z)) := fun F1 H l st Q w =>
  sE_of (pe_tup (pa_cons pe_s (pa_cons pe_s (pa_cons pe_s pa_nil hs3) hs2) hs)) (ha F1 H l st _ (wpO_to (wpO_bind.mp w) fun x w1 v F2 H2 ad le st2 rx =>
    hb F2 H2 (l.trans ad.le) st2 _ (wpO_to (wpO_bind.mp w1) fun y w2 u F3 H3 ad2 le2 st3 ry =>
      hc F3 H3 (l.trans (ad.le.trans ad2.le)) st3 _ (wpO_to (wpO_bind.mp w2) fun z w3 u3 F4 H4 ad3 le3 st4 rz =>
      ⟨by show 3 ≤ sizeLine; decide, fun p hp => give_tup (X := X) st4 hp (.cons ((rx.mo ad2.le).mo ad3.le) (.cons (ry.mo ad3.le) (.cons rz .nil))) fun v F5 H5 ad5 le5 st5 r5 => w3 v F5 H5 (ad.trans le.dom (ad2.trans le2.dom (ad3.trans le3.dom ad5))) (le.trans (le2.trans (le3.trans le5))) st5 r5⟩))))
theorem ev_tupN {n : Nat} {m : Out (List α)} (h : EvA X H0 L Qe F σ es (rAll X.K n) m) (hn : n ≤ 100000 := by decide) {j} : Ev X H0 L Qe F σ (.Tuple es j pos) (rE X.K) (m >>= fun xs => .ok (Tp.mk xs)) := fun F1 H l st Q w =>
  sE_of (pe_tup pa_s) (h F1 H l st _ (wpO_to (wpO_bind.mp w) fun xs w1 vs F2 H2 ad le st2 rv => ⟨by
    rw [all_len rv.1, rv.2]
    exact Nat.le_trans hn (by decide), fun p hp => give_tup (X := X) st2 hp rv.1 fun v F3 H3 ad2 le2 st3 r3 => w1 v F3 H3 (ad.trans le.dom ad2) (le.trans le2) st3 r3⟩))

/-! ### items, cuts -/
theorem ev_ix {ma : Out (List α)} {mb : Out Int} (ha : Ev X H0 L Qe F σ a (rB X.K) ma) (hb : Ev X H0 L Qe F σ b (rE X.K) mb) (hs : PlainIx b := by intro _ _; rfl) : Ev X H0 L Qe F σ (.Subscript a b pos) (rE X.K) (ma >>= fun xs => mb >>= fun i => getI xs i) := fun F1 H l st Q w =>
  sE_of (pe_ix ix_list pe_s pe_s hs) (ha F1 H l st _ (wpO_to (wpO_bind.mp w) fun xs w1 v F2 H2 ad le st2 rx =>
    hb F2 H2 (l.trans ad.le) st2 _ (wpO_to (wpO_bind.mp w1) fun i w2 u F3 H3 ad2 le2 st3 ry => by
      obtain ⟨p, ys, rfl, hq, hy⟩ := rx
      obtain ⟨j, a, e1, e2, w3⟩ := wpO_getI w2
      obtain ⟨z, e3, hz⟩ := all_at (hy.mo ad2.le) e2
      refine ⟨p, ys, i, z, rfl, dpI ry, le2.sql hq, ?_, w3 z F3 H3 (ad.trans le.dom ad2) (le.trans le2) st3 hz⟩
      unfold atI
      rw [all_len hy, e1]
      exact e3)))
theorem ev_fst {m : Out (α × β)} {k : Nat} {p2 : Pos} (h : Ev X H0 L Qe F σ a (rE X.K) m) : Ev X H0 L Qe F σ (.Subscript a (.Constant (.int 0) k p2) pos) (rE X.K) (m >>= fun q => .ok q.1) := fun F1 H l st Q w =>
  sE_of (pe_ix ix_tup pe_s pe_int (fun _ _ => rfl)) (h F1 H l st _ (wpO_to (wpO_bind.mp w) fun q w1 v F2 H2 ad le st2 rx => by
    obtain ⟨p, x, y, rfl, ht, hx, hy⟩ := dpP (a := q.1) (b := q.2) rx
    exact ⟨p, _, 0, x, rfl, rfl, st2.lF.sqt ht, rfl, w1 x F2 H2 ad le st2 hx⟩))
theorem ev_snd {m : Out (α × β)} {k : Nat} {p2 : Pos} (h : Ev X H0 L Qe F σ a (rE X.K) m) : Ev X H0 L Qe F σ (.Subscript a (.Constant (.int 1) k p2) pos) (rE X.K) (m >>= fun q => .ok q.2) := fun F1 H l st Q w =>
  sE_of (pe_ix ix_tup pe_s pe_int (fun _ _ => rfl)) (h F1 H l st _ (wpO_to (wpO_bind.mp w) fun q w1 v F2 H2 ad le st2 rx => by
    obtain ⟨p, x, y, rfl, ht, hx, hy⟩ := dpP (a := q.1) (b := q.2) rx
    exact ⟨p, _, 1, y, rfl, rfl, st2.lF.sqt ht, rfl, w1 y F2 H2 ad le st2 hy⟩))
theorem dp3 {K : PySem.W.Frag} {F : Hp} {v : V} {q : T3 α β γ} (h : Ds K F v (py q)) : ∃ p x y z, v = .ref p ∧ SqT K F p [x, y, z] ∧ Ds K F x (py q.a) ∧ Ds K F y (py q.b) ∧ Ds K F z (py q.c) := by
  have h : Ds K F v (.tuple [py q.a, py q.b, py q.c]) := h
  cases h with
  | tup h1 h2 =>
    cases h2 with
    | cons a1 a2 =>
      cases a2 with
      | cons b1 b2 =>
        cases b2 with
        | cons c1 c2 =>
          cases c2
          exact ⟨_, _, _, _, rfl, .inl (.inl h1), a1, b1, c1⟩
theorem ev_t3a {m : Out (T3 α β γ)} {k : Nat} {p2 : Pos} (h : Ev X H0 L Qe F σ a (rE X.K) m) : Ev X H0 L Qe F σ (.Subscript a (.Constant (.int 0) k p2) pos) (rE X.K) (m >>= fun q => .ok q.a) := fun F1 H l st Q w =>
  sE_of (pe_ix ix_tup pe_s pe_int (fun _ _ => rfl)) (h F1 H l st _ (wpO_to (wpO_bind.mp w) fun q w1 v F2 H2 ad le st2 rx => by
    obtain ⟨p, x, y, z, rfl, ht, hx, hy, hz⟩ := dp3 rx
    exact ⟨p, _, 0, x, rfl, rfl, st2.lF.sqt ht, rfl, w1 x F2 H2 ad le st2 hx⟩))
theorem ev_t3b {m : Out (T3 α β γ)} {k : Nat} {p2 : Pos} (h : Ev X H0 L Qe F σ a (rE X.K) m) : Ev X H0 L Qe F σ (.Subscript a (.Constant (.int 1) k p2) pos) (rE X.K) (m >>= fun q => .ok q.b) := fun F1 H l st Q w =>
  sE_of (pe_ix ix_tup pe_s pe_int (fun _ _ => rfl)) (h F1 H l st _ (wpO_to (wpO_bind.mp w) fun q w1 v F2 H2 ad le st2 rx => by
    obtain ⟨p, x, y, z, rfl, ht, hx, hy, hz⟩ := dp3 rx
    exact ⟨p, _, 1, y, rfl, rfl, st2.lF.sqt ht, rfl, w1 y F2 H2 ad le st2 hy⟩))
theorem ev_t3c {m : Out (T3 α β γ)} {k : Nat} {p2 : Pos} (h : Ev X H0 L Qe F σ a (rE X.K) m) : Ev X H0 L Qe F σ (.Subscript a (.Constant (.int 2) k p2) pos) (rE X.K) (m >>= fun q => .ok q.c) := fun F1 H l st Q w =>
  sE_of (pe_ix ix_tup pe_s pe_int (fun _ _ => rfl)) (h F1 H l st _ (wpO_to (wpO_bind.mp w) fun q w1 v F2 H2 ad le st2 rx => by
    obtain ⟨p, x, y, z, rfl, ht, hx, hy, hz⟩ := dp3 rx
    exact ⟨p, _, 2, z, rfl, rfl, st2.lF.sqt ht, rfl, w1 z F2 H2 ad le st2 hz⟩))
theorem dpTp {K : PySem.W.Frag} {F : Hp} {v : V} {q : Tp α} (h : Ds K F v (py q)) : ∃ p ys, v = .ref p ∧ SqT K F p ys ∧ DsAll K F ys (q.xs.map py) := by
  have h : Ds K F v (.tuple (q.xs.map py)) := h
  cases h with
  | tup h1 h2 => exact ⟨_, _, rfl, .inl (.inl h1), h2⟩
theorem ev_ixT {ma : Out (Tp α)} {mb : Out Int} (ha : Ev X H0 L Qe F σ a (rE X.K) ma) (hb : Ev X H0 L Qe F σ b (rE X.K) mb) (hs : PlainIx b := by intro _ _; rfl) : Ev X H0 L Qe F σ (.Subscript a b pos) (rE X.K) (ma >>= fun t => mb >>= fun i => getI t.xs i) := fun F1 H l st Q w =>
  sE_of (pe_ix ix_tup pe_s pe_s hs) (ha F1 H l st _ (wpO_to (wpO_bind.mp w) fun xs w1 v F2 H2 ad le st2 rx =>
    hb F2 H2 (l.trans ad.le) st2 _ (wpO_to (wpO_bind.mp w1) fun i w2 u F3 H3 ad2 le2 st3 ry => by
      obtain ⟨p, ys, rfl, hq, hy⟩ := dpTp rx
      obtain ⟨j, a, e1, e2, w3⟩ := wpO_getI w2
      obtain ⟨z, e3, hz⟩ := all_at (hy.mo ad2.le) e2
      refine ⟨p, ys, i, z, rfl, dpI ry, st3.lF.sqt (ad2.le.sqt hq), ?_, w3 z F3 H3 (ad.trans le.dom ad2) (le.trans le2) st3 hz⟩
      unfold atI
      rw [all_len hy, e1]
      exact e3)))
/-- the bounds of a cut -/
def EvO (X : Cx) (H0 : Hp) (L : List (Addr × HO)) (Qe : Nat → Int → Prop) (F : Hp) (σ : L2.St) (e : Option Expr) (m : Out (Option Int)) : Prop :=
  ∃ t, PO X e t ∧ ∀ F1 H, Le F F1 → Sta H0 F1 L H → ∀ Q : Option Int → Hp → Prop, wpO m (fun o => ∀ F2 H2, Adv F1 H F2 → Le H H2 → Sta H0 F2 L H2 → Q o H2) Qe → t σ H Q
theorem eo_none : EvO X H0 L Qe F σ none (.ok none) := ⟨_, po_none, fun F1 H l st Q w => w F1 H (Adv.refl _ _) (Le.refl _) st⟩
theorem eo_some {m : Out Int} (h : Ev X H0 L Qe F σ e (rE X.K) m) : EvO X H0 L Qe F σ (some e) (m >>= fun i => .ok (some i)) := ⟨_, po_some pe_s, fun F1 H l st Q w =>
  h F1 H l st _ (wpO_to (wpO_bind.mp w) fun i w1 v F2 H2 ad le st2 rv => ⟨i, dpI rv, w1 F2 H2 ad le st2⟩)⟩
theorem ev_cut {lo hi : Option Expr} {p2 : Pos} {m : Out (List α)} {ml mh : Out (Option Int)} (h : Ev X H0 L Qe F σ e (rB X.K) m) (hl : EvO X H0 L Qe F σ lo ml) (hh : EvO X H0 L Qe F σ hi mh) :
    Ev X H0 L Qe F σ (.Subscript e (.Slice lo hi none p2) pos) (rL X.K) (m >>= fun xs => ml >>= fun i => mh >>= fun j => .ok (cutA xs i j)) := by
  obtain ⟨tl, pl, kl⟩ := hl
  obtain ⟨th, ph, kh⟩ := hh
  exact fun F1 H l st Q w => sE_of (pe_slice sl_list pe_s pl ph) (h F1 H l st _ (wpO_to (wpO_bind.mp w) fun xs w1 v F2 H2 ad le st2 rx =>
    kl F2 H2 (l.trans ad.le) st2 _ (wpO_to (wpO_bind.mp w1) fun i w2 F3 H3 ad2 le2 st3 =>
      kh F3 H3 (l.trans (ad.le.trans ad2.le)) st3 _ (wpO_to (wpO_bind.mp w2) fun j w3 F4 H4 ad3 le3 st4 => by
        obtain ⟨q, ys, rfl, hq, hy⟩ := rx
        exact ⟨q, ys, rfl, le3.sql (le2.sql hq), fun p hp => give_new (X := X) st4 hp (all_cut i j ((hy.mo ad2.le).mo ad3.le)) fun v F5 H5 ad5 le5 st5 r5 =>
          w3 v F5 H5 (ad.trans le.dom (ad2.trans le2.dom (ad3.trans le3.dom ad5))) (le.trans (le2.trans (le3.trans le5))) st5 (okL.bk (le.trans (le2.trans le3)) r5)⟩))))
theorem ev_revd {k : Nat} {p1 p2 p3 : Pos} {m : Out (List α)} (h : Ev X H0 L Qe F σ e (rB X.K) m) : Ev X H0 L Qe F σ (.Subscript e (.Slice none none (some (.UnaryOp .USub (.Constant (.int 1) k p1) p2)) p3) pos) (rL X.K) (m >>= fun xs => .ok xs.reverse) := fun F1 H l st Q w =>
  sE_of (pe_revL pe_s) (h F1 H l st _ (wpO_to (wpO_bind.mp w) fun xs w1 v F2 H2 ad le st2 rx => by
    obtain ⟨q, ys, rfl, hq, hy⟩ := rx
    exact ⟨q, ys, rfl, hq, fun p hp => give_new (X := X) st2 hp (all_rev hy) fun v F5 H5 ad5 le5 st5 r5 => w1 v F5 H5 (ad.trans le.dom ad5) (le.trans le5) st5 (okL.bk le r5)⟩))
/-- xs + ys, whichever lists they are -/
def rCatG (K : PySem.W.Frag) : R2 := fun x y H Q => ∃ a b xs ys, x = .ref a ∧ y = .ref b ∧ SqL K H a xs ∧ SqL K H b ys ∧ xs.length + ys.length ≤ sizeLine ∧ ∀ p, H p = none → Q (.ref p) (upd H p (.lst (xs ++ ys)))
theorem op_catG : OpR X (binaryOp .Add) (rCatG X.K) := by
  intro pins s σ H x y v u Q I rx ry h
  obtain ⟨l, b, xs, zs, rfl, rfl, hH, hB, hz, q⟩ := h
  cases rx
  cases ry
  obtain ⟨its, r, pl, z1⟩ := I.list hH
  obtain ⟨its2, r2, pl2, z2⟩ := I.list hB
  have e1 := r.length
  have e2 := r2.length
  obtain ⟨⟨cls, dd, data, sl⟩, ho, hc, n, hd⟩ := pl.isList
  obtain ⟨⟨cls2, dd2, data2, sl2⟩, ho2, hc2, n2, hd2⟩ := pl2.isList
  simp only at hc hd hc2 hd2
  subst hc hd hc2 hd2
  have ea : its.toArray ++ its2.toArray = (its ++ its2).toArray := by simp
  refine concat_meets ⟨_, ho, rfl⟩ ⟨_, ho2, rfl⟩ noFill_list_add seq_list_add PySem.F.slot_list_add PySem.F.entry_list_add (PySem.F.args_list_add_2 _ _) (list_addW l b its.toArray its2.toArray n n2 dd dd2 sl sl2 (by rw [List.size_toArray, List.size_toArray]; omega)) ⟨ho, ho2, ?_⟩
  rw [ea]
  exact ⟨.ref _, _, I.lnew (t' := s.toks) (r.append r2) (by rw [List.length_append]; omega), rfl, q _ I.fresh⟩
theorem ev_cat {ma mb : Out (List α)} (ha : Ev X H0 L Qe F σ a (rB X.K) ma) (hb : Ev X H0 L Qe F σ b (rB X.K) mb) : Ev X H0 L Qe F σ (.BinOp a .Add b pos) (rL X.K) (ma >>= fun xs => mb >>= fun ys => catO xs ys) :=
  ev_bin op_catG ha hb okB okB okL fun x y Hs F H i j _ st hx hy Q w => by
    obtain ⟨q, ys, rfl, hq, hw⟩ := hx
    obtain ⟨q', zs, rfl, hq', hz⟩ := hy
    obtain ⟨hc, w⟩ := wpO_guard.mp w
    exact ⟨q, q', ys, zs, rfl, rfl, hq, hq', by rw [all_len hw, all_len hz]; exact hc, fun p hp => give_new (X := X) st hp (all_app hw hz) w⟩
theorem ev_rep {ma : Out (List α)} {mb : Out Int} (ha : Ev X H0 L Qe F σ a (rL X.K) ma) (hb : Ev X H0 L Qe F σ b (rE X.K) mb) : Ev X H0 L Qe F σ (.BinOp a .Mult b pos) (rL X.K) (ma >>= fun xs => mb >>= fun k => repO xs k) :=
  ev_bin op_rep ha hb okL okE okL fun x y Hs F H i j _ st hx hy Q w => by
    obtain ⟨q, ys, rfl, h1, h2, hq, hz⟩ := hx
    obtain ⟨hc, w⟩ := wpO_guard.mp w
    exact ⟨q, j, ys, rfl, dpI hy, hq, hc.1, hc.2.1, by rw [all_len hz]; exact hc.2.2, fun p hp => give_new (X := X) st hp (all_rep hz j.toNat) w⟩

/-! ### built-ins by name -/
/-- a call by values against an outcome -/
def VC (K : PySem.W.Frag) (H0 : Hp) (L : List (Addr × HO)) (Qe : Nat → Int → Prop) {ρ γ : Type} (r : List V → Hp → VK → Prop) (ra : Rep (List V) ρ) (rr : Rep V γ) (mr : ρ → Out γ) : Prop :=
  ∀ F vs Hs H q, Le Hs H → Sta H0 F L H → ra Hs F H vs q → ∀ Q : VK, wpO (mr q) (fun c => ∀ v F2 H2, Adv F H F2 → Le H H2 → Sta H0 F2 L H2 → rr H F2 H2 v c → Q v H2) Qe → r vs H Q
theorem ev_calls {te : TE} {r : List V → Hp → VK → Prop} {ρ γ : Type} {ra : Rep (List V) ρ} {rr : Rep V γ} {m : Out ρ} {mr : ρ → Out γ} (hp : PE X e te) (ht : ∀ H Q, sA X es σ H (fun vs H' => r vs H' Q) → te σ H Q) (h : EvA X H0 L Qe F σ es ra m) (hv : VC X.K H0 L Qe r ra rr mr) (or : RepOk rr) :
    Ev X H0 L Qe F σ e rr (m >>= mr) := fun F1 H l st Q w =>
  sE_of hp (ht H Q (h F1 H l st _ (wpO_to (wpO_bind.mp w) fun q w1 vs F2 H2 ad le st2 rq =>
    hv F2 vs H H2 q le st2 rq Q (wpO_to w1 fun c w2 v F3 H3 ad2 le2 st3 rv => w2 v F3 H3 (ad.trans le.dom ad2) (le.trans le2) st3 (or.bk le rv)))))
theorem ev_callB {id : String} {r : List V → Hp → VK → Prop} {ρ γ : Type} {ra : Rep (List V) ρ} {rr : Rep V γ} {m : Out ρ} {mr : ρ → Out γ} (hc : CallR X (.builtin id) r) (hm : X.mg x = none) (hv : bootBuiltins x = some (.builtin id)) (h : EvA X H0 L Qe F σ (e :: es) ra m) (hr : VC X.K H0 L Qe r ra rr mr) (or : RepOk rr) (hg : Gl X x := by rfl)
    (hn : x ≠ "__name__" := by decide) (hdb : (x == ("__debug__" : Str)) = false := by decide) (he : starEach (e :: es) X.env = (false, eval e X.env) :: starEach es X.env := by rfl) (hpl : (backTo pos (starEach es X.env)).any (·.1) = false := by rfl) :
    Ev X H0 L Qe F σ (.Call (.Name x p) (e :: es) [] pos) rr (m >>= mr) := ev_calls (pe_callB hc hg hm hv pa_s hn hdb he hpl) (fun _ _ z => z) h hr or
theorem ev_callTy {T : String} {r : List V → Hp → VK → Prop} {ρ γ : Type} {ra : Rep (List V) ρ} {rr : Rep V γ} {m : Out ρ} {mr : ρ → Out γ} (hc : CallR X (.type T) r) (hm : X.mg x = none) (hv : bootBuiltins x = some (.type T)) (h : EvA X H0 L Qe F σ (e :: es) ra m) (hr : VC X.K H0 L Qe r ra rr mr) (or : RepOk rr) (hg : Gl X x := by rfl)
    (hn : x ≠ "__name__" := by decide) (hdb : (x == ("__debug__" : Str)) = false := by decide) (he : starEach (e :: es) X.env = (false, eval e X.env) :: starEach es X.env := by rfl) (hpl : (backTo pos (starEach es X.env)).any (·.1) = false := by rfl) :
    Ev X H0 L Qe F σ (.Call (.Name x p) (e :: es) [] pos) rr (m >>= mr) := ev_calls (pe_callTy hc hg hm hv pa_s hn hdb he hpl) (fun _ _ z => z) h hr or
/-- an argument alone -/
theorem ea_one {α : Type} {r : Rep V α} {m : Out α} (h : Ev X H0 L Qe F σ e r m) (o1 : RepOk r) (hs : starEach [e] X.env = (false, eval e X.env) :: starEach [] X.env := by rfl) : EvA X H0 L Qe F σ [e] (fun Hs F H vs a => ∃ v, vs = [v] ∧ r Hs F H v a) m := fun F1 H l st Q w =>
  sA_of (pa_cons pe_s pa_nil hs) (h F1 H l st _ (wpO_to w fun a w1 v F2 H2 ad le st2 rv => w1 [v] F2 H2 ad le st2 ⟨v, rfl, rv⟩))
theorem ea_two {α β : Type} {r : Rep V α} {t : Rep V β} {m : Out α} {n : Out β} (h : Ev X H0 L Qe F σ a r m) (h' : Ev X H0 L Qe F σ b t n) (o1 : RepOk r) (o2 : RepOk t) (hs : starEach [a, b] X.env = (false, eval a X.env) :: starEach [b] X.env := by rfl) (hs2 : starEach [b] X.env = (false, eval b X.env) :: starEach [] X.env := by rfl) :
    EvA X H0 L Qe F σ [a, b] (fun Hs F H vs q => ∃ v u, vs = [v, u] ∧ r Hs F H v q.1 ∧ t Hs F H u q.2) (m >>= fun x => n >>= fun y => .ok (x, y)) := fun F1 H l st Q w =>
  sA_of (pa_cons pe_s (pa_cons pe_s pa_nil hs2) hs) (h F1 H l st _ (wpO_to (wpO_bind.mp w) fun a w1 v F2 H2 ad le st2 rv =>
    h' F2 H2 (l.trans ad.le) st2 _ (wpO_to (wpO_bind.mp w1) fun q w2 u F3 H3 ad2 le2 st3 ru =>
      w2 [v, u] F3 H3 (ad.trans le.dom ad2) (le.trans le2) st3 ⟨v, u, rfl, o1.fw ad2 le2 rv, o2.bk le ru⟩)))
theorem ev_len {m : Out (List α)} (hm : X.mg x = none) (hx : bootBuiltins x = some (.builtin "len")) (h : Ev X H0 L Qe F σ e (rB X.K) m) (hg : Gl X x := by rfl) (hn : x ≠ "__name__" := by decide) (hdb : (x == ("__debug__" : Str)) = false := by decide) (he : starEach [e] X.env = (false, eval e X.env) :: starEach [] X.env := by rfl) :
    Ev X H0 L Qe F σ (.Call (.Name x p) [e] [] pos) (rE X.K) (m >>= fun xs => .ok (xs.length : Int)) :=
  ev_callB call_len_seq hm hx (ea_one h okB he) (fun F vs Hs H q _ st hq Q w => by
    obtain ⟨v, rfl, p, ys, rfl, h1, h2⟩ := hq
    refine ⟨p, ys, rfl, .inl h1, w _ F H (Adv.refl _ _) (Le.refl _) st ?_⟩
    rw [all_len h2]
    exact .int _) okE hg hn hdb he
theorem ev_lenT {m : Out (Tp α)} (hm : X.mg x = none) (hx : bootBuiltins x = some (.builtin "len")) (h : Ev X H0 L Qe F σ e (rE X.K) m) (hg : Gl X x := by rfl) (hn : x ≠ "__name__" := by decide) (hdb : (x == ("__debug__" : Str)) = false := by decide) (he : starEach [e] X.env = (false, eval e X.env) :: starEach [] X.env := by rfl) :
    Ev X H0 L Qe F σ (.Call (.Name x p) [e] [] pos) (rE X.K) (m >>= fun t => .ok (t.xs.length : Int)) :=
  ev_callB call_len_seq hm hx (ea_one h okE he) (fun F vs Hs H q _ st hq Q w => by
    obtain ⟨v, rfl, h⟩ := hq
    obtain ⟨p, ys, rfl, h1, h2⟩ := dpTp h
    refine ⟨p, ys, rfl, .inr (st.lF.sqt h1), w _ F H (Adv.refl _ _) (Le.refl _) st ?_⟩
    rw [all_len h2]
    exact .int _) okE hg hn hdb he
theorem ev_lenP {m : Out (α × β)} (hm : X.mg x = none) (hx : bootBuiltins x = some (.builtin "len")) (h : Ev X H0 L Qe F σ e (rE X.K) m) (hg : Gl X x := by rfl) (hn : x ≠ "__name__" := by decide) (hdb : (x == ("__debug__" : Str)) = false := by decide) (he : starEach [e] X.env = (false, eval e X.env) :: starEach [] X.env := by rfl) :
    Ev X H0 L Qe F σ (.Call (.Name x p) [e] [] pos) (rE X.K) (m >>= fun t => .ok (2 : Int)) :=
  ev_callB call_len_seq hm hx (ea_one h okE he) (fun F vs Hs H q _ st hq Q w => by
    obtain ⟨v, rfl, h⟩ := hq
    obtain ⟨p, x, y, rfl, h1, h2⟩ := dpP (a := q.1) (b := q.2) h
    exact ⟨p, [x, y], rfl, .inr (st.lF.sqt h1), w _ F H (Adv.refl _ _) (Le.refl _) st (.int _)⟩) okE hg hn hdb he
theorem ev_listOf {m : Out (List α)} (hm : X.mg x = none) (hx : bootBuiltins x = some (.type "list")) (h : Ev X H0 L Qe F σ e (rB X.K) m) (hg : Gl X x := by rfl) (hn : x ≠ "__name__" := by decide) (hdb : (x == ("__debug__" : Str)) = false := by decide) (he : starEach [e] X.env = (false, eval e X.env) :: starEach [] X.env := by rfl) :
    Ev X H0 L Qe F σ (.Call (.Name x p) [e] [] pos) (rL X.K) m := by
  have q := ev_callTy (pos := pos) (p := p) (rr := rL X.K) (mr := fun i => .ok i) call_list_of hm hx (ea_one h okB he) (fun F vs Hs H q _ st hq Q w => by
    obtain ⟨v, rfl, p, ys, rfl, h1, h2⟩ := hq
    exact ⟨p, ys, rfl, .inl h1, fun l hl => give_new (X := X) st hl h2 w⟩) okL hg hn hdb he
  rw [show (m >>= fun i => Out.ok i) = m from bind_ok m] at q
  exact q
theorem ev_intOf {m : Out Int} (hm : X.mg x = none) (hx : bootBuiltins x = some (.type "int")) (h : Ev X H0 L Qe F σ e (rE X.K) m) (hg : Gl X x := by rfl) (hn : x ≠ "__name__" := by decide) (hdb : (x == ("__debug__" : Str)) = false := by decide) (he : starEach [e] X.env = (false, eval e X.env) :: starEach [] X.env := by rfl) :
    Ev X H0 L Qe F σ (.Call (.Name x p) [e] [] pos) (rE X.K) m := by
  have q := ev_callTy (pos := pos) (p := p) (rr := rE X.K) (mr := fun i => .ok i) call_int1 hm hx (ea_one h okE he) (fun F vs Hs H q _ st hq Q w => by
    obtain ⟨v, rfl, h⟩ := hq
    exact .inl ⟨q, by rw [dpI h], w _ F H (Adv.refl _ _) (Le.refl _) st (.int _)⟩) okE hg hn hdb he
  rw [show (m >>= fun i => Out.ok i) = m from bind_ok m] at q
  exact q
theorem ev_abs {m : Out Int} (hm : X.mg x = none) (hx : bootBuiltins x = some (.builtin "abs")) (h : Ev X H0 L Qe F σ e (rE X.K) m) (hg : Gl X x := by rfl) (hn : x ≠ "__name__" := by decide) (hdb : (x == ("__debug__" : Str)) = false := by decide) (he : starEach [e] X.env = (false, eval e X.env) :: starEach [] X.env := by rfl) :
    Ev X H0 L Qe F σ (.Call (.Name x p) [e] [] pos) (rE X.K) (m >>= fun i => .ok (absI i)) :=
  ev_callB call_abs hm hx (ea_one h okE he) (fun F vs Hs H q _ st hq Q w => by
    obtain ⟨v, rfl, h⟩ := hq
    exact ⟨q, by rw [dpI h], w _ F H (Adv.refl _ _) (Le.refl _) st (.int _)⟩) okE hg hn hdb he
theorem ev_min {ma mb : Out Int} (hc : X.calm = true) (hm : X.mg x = none) (hx : bootBuiltins x = some (.builtin "min")) (ha : Ev X H0 L Qe F σ a (rE X.K) ma) (hb : Ev X H0 L Qe F σ b (rE X.K) mb) (hg : Gl X x := by rfl) (hn : x ≠ "__name__" := by decide) (hdb : (x == ("__debug__" : Str)) = false := by decide)
    (hs : starEach [a, b] X.env = (false, eval a X.env) :: starEach [b] X.env := by rfl) (hs2 : starEach [b] X.env = (false, eval b X.env) :: starEach [] X.env := by rfl) (hpl : (backTo pos (starEach [b] X.env)).any (·.1) = false := by rfl) :
    Ev X H0 L Qe F σ (.Call (.Name x p) [a, b] [] pos) (rE X.K) (ma >>= fun i => mb >>= fun j => .ok (minI i j)) := by
  have q := ev_callB (rr := rE X.K) (pos := pos) (p := p) (mr := fun q => .ok (minI q.1 q.2)) (call_min2 hc) hm hx (ea_two ha hb okE okE hs hs2) (fun F vs Hs H q _ st hq Q w => by
    obtain ⟨v, u, rfl, h1, h2⟩ := hq
    exact ⟨q.1, q.2, by rw [dpI h1, dpI h2], w _ F H (Adv.refl _ _) (Le.refl _) st (.int _)⟩) okE hg hn hdb hs hpl
  rw [bind_asc] at q
  simp only [bind_asc] at q
  exact q
theorem ev_max {ma mb : Out Int} (hc : X.calm = true) (hm : X.mg x = none) (hx : bootBuiltins x = some (.builtin "max")) (ha : Ev X H0 L Qe F σ a (rE X.K) ma) (hb : Ev X H0 L Qe F σ b (rE X.K) mb) (hg : Gl X x := by rfl) (hn : x ≠ "__name__" := by decide) (hdb : (x == ("__debug__" : Str)) = false := by decide)
    (hs : starEach [a, b] X.env = (false, eval a X.env) :: starEach [b] X.env := by rfl) (hs2 : starEach [b] X.env = (false, eval b X.env) :: starEach [] X.env := by rfl) (hpl : (backTo pos (starEach [b] X.env)).any (·.1) = false := by rfl) :
    Ev X H0 L Qe F σ (.Call (.Name x p) [a, b] [] pos) (rE X.K) (ma >>= fun i => mb >>= fun j => .ok (maxI i j)) := by
  have q := ev_callB (rr := rE X.K) (pos := pos) (p := p) (mr := fun q => .ok (maxI q.1 q.2)) (call_max2 hc) hm hx (ea_two ha hb okE okE hs hs2) (fun F vs Hs H q _ st hq Q w => by
    obtain ⟨v, u, rfl, h1, h2⟩ := hq
    exact ⟨q.1, q.2, by rw [dpI h1, dpI h2], w _ F H (Adv.refl _ _) (Le.refl _) st (.int _)⟩) okE hg hn hdb hs hpl
  rw [bind_asc] at q
  simp only [bind_asc] at q
  exact q
end
end Rf


set_option Elab.async false
set_option linter.all false
set_option maxRecDepth 100000
set_option maxHeartbeats 1000000
namespace Rf
open PySem PySem.Spec L2 PyProof.Rows
open Py (py)
variable [TbC]

/-! ### and, or, not, if as expressions -/
@[irreducible] def andO (b : Bool) (m : Out Bool) : Out Bool := if b = true then m else .ok false
@[irreducible] def orO (b : Bool) (m : Out Bool) : Out Bool := if b = true then .ok true else m
def EvW (X : Cx) (H0 : Hp) (L : List (Addr × HO)) (Qe : Nat → Int → Prop) (F : Hp) (σ : L2.St) (e : Expr) (m : Out Bool) : Prop :=
  ∀ F1 H, Le F F1 → Sta H0 F1 L H → ∀ Q : Bool → Hp → Prop, wpO m (fun a => ∀ F2 H2, Adv F1 H F2 → Le H H2 → Sta H0 F2 L H2 → Q a H2) Qe → sW X e σ H Q
section
variable {X : Cx} {H0 : Hp} {L : List (Addr × HO)} {Qe : Nat → Int → Prop} {F : Hp} {σ : L2.St} {α β γ ρ : Type} [Py α] [Py β] [Py γ]
variable {e a b c : Expr} {es : List Expr} {pos p : Pos} {x : Str} {ma mb mc : Out Bool}
theorem wpO_andO {x : Bool} {m : Out Bool} {Q : Bool → Prop} {E : Nat → Int → Prop} (w : wpO (andO x m) Q E) : if x = true then wpO m Q E else Q false := by
  unfold andO at w
  cases x with
  | true => exact w
  | false => exact w
theorem wpO_orO {x : Bool} {m : Out Bool} {Q : Bool → Prop} {E : Nat → Int → Prop} (w : wpO (orO x m) Q E) : if x = true then Q true else wpO m Q E := by
  unfold orO at w
  cases x with
  | true => exact w
  | false => exact w
theorem et_bool (h : EvW X H0 L Qe F σ e ma) : EvT X H0 L Qe F σ e ma := fun F1 H l st Q w => sT_of (PW.pt pw_s) (h F1 H l st Q w)
theorem ew_and1 (h : EvT X H0 L Qe F σ a ma) : EvW X H0 L Qe F σ (.BoolOp .And [a] pos) ma := fun F1 H l st Q w => sW_of (pw_and1 pt_s) (h F1 H l st Q w)
theorem ew_or1 (h : EvT X H0 L Qe F σ a ma) : EvW X H0 L Qe F σ (.BoolOp .Or [a] pos) ma := fun F1 H l st Q w => sW_of (pw_or1 pt_s) (h F1 H l st Q w)
theorem ew_and {rest : List Expr} (h : EvT X H0 L Qe F σ a ma) (h' : EvW X H0 L Qe F σ (.BoolOp .And (b :: rest) pos) mb) : EvW X H0 L Qe F σ (.BoolOp .And (a :: b :: rest) pos) (ma >>= fun x => andO x mb) := fun F1 H l st Q w =>
  sW_of (pw_and pt_s pw_s) (h F1 H l st _ (wpO_to (wpO_bind.mp w) fun x w1 F2 H2 ad le st2 => by
    have w1 := wpO_andO w1
    cases x with
    | true => exact h' F2 H2 (l.trans ad.le) st2 Q (wpO_to w1 fun y w2 F3 H3 ad2 le2 st3 => w2 F3 H3 (ad.trans le.dom ad2) (le.trans le2) st3)
    | false => exact w1 F2 H2 ad le st2))
theorem ew_or {rest : List Expr} (h : EvT X H0 L Qe F σ a ma) (h' : EvW X H0 L Qe F σ (.BoolOp .Or (b :: rest) pos) mb) : EvW X H0 L Qe F σ (.BoolOp .Or (a :: b :: rest) pos) (ma >>= fun x => orO x mb) := fun F1 H l st Q w =>
  sW_of (pw_or pt_s pw_s) (h F1 H l st _ (wpO_to (wpO_bind.mp w) fun x w1 F2 H2 ad le st2 => by
    have w1 := wpO_orO w1
    cases x with
    | false => exact h' F2 H2 (l.trans ad.le) st2 Q (wpO_to w1 fun y w2 F3 H3 ad2 le2 st3 => w2 F3 H3 (ad.trans le.dom ad2) (le.trans le2) st3)
    | true => exact w1 F2 H2 ad le st2))
theorem ev_one {op : BoolOp} {r : Rep V Bool} (h : Ev X H0 L Qe F σ a r ma) : Ev X H0 L Qe F σ (.BoolOp op [a] pos) r ma := fun F1 H l st Q w => sE_of (pe_one pe_s) (h F1 H l st Q w)
theorem ev_andV {rest : List Expr} (h : Ev X H0 L Qe F σ a (rE X.K) ma) (h' : Ev X H0 L Qe F σ (.BoolOp .And (b :: rest) pos) (rE X.K) mb) : Ev X H0 L Qe F σ (.BoolOp .And (a :: b :: rest) pos) (rE X.K) (ma >>= fun x => andO x mb) := fun F1 H l st Q w =>
  sE_of (pe_and pe_s pe_s) (h F1 H l st _ (wpO_to (wpO_bind.mp w) fun x w1 v F2 H2 ad le st2 rv => by
    have w1 := wpO_andO w1
    refine ⟨x, dpB rv, ?_⟩
    cases x with
    | true => exact h' F2 H2 (l.trans ad.le) st2 Q (wpO_to w1 fun y w2 v F3 H3 ad2 le2 st3 => w2 v F3 H3 (ad.trans le.dom ad2) (le.trans le2) st3)
    | false => exact w1 _ F2 H2 ad le st2 (.bl false)))
theorem ev_orV {rest : List Expr} (h : Ev X H0 L Qe F σ a (rE X.K) ma) (h' : Ev X H0 L Qe F σ (.BoolOp .Or (b :: rest) pos) (rE X.K) mb) : Ev X H0 L Qe F σ (.BoolOp .Or (a :: b :: rest) pos) (rE X.K) (ma >>= fun x => orO x mb) := fun F1 H l st Q w =>
  sE_of (pe_or pe_s pe_s) (h F1 H l st _ (wpO_to (wpO_bind.mp w) fun x w1 v F2 H2 ad le st2 rv => by
    have w1 := wpO_orO w1
    refine ⟨x, dpB rv, ?_⟩
    cases x with
    | false => exact h' F2 H2 (l.trans ad.le) st2 Q (wpO_to w1 fun y w2 v F3 H3 ad2 le2 st3 => w2 v F3 H3 (ad.trans le.dom ad2) (le.trans le2) st3)
    | true => exact w1 _ F2 H2 ad le st2 (.bl true)))
theorem ev_notV (h : Ev X H0 L Qe F σ a (rE X.K) ma) : Ev X H0 L Qe F σ (.UnaryOp .Not a pos) (rE X.K) (ma >>= fun b => .ok (!b)) := fun F1 H l st Q w =>
  sE_of (pe_not pe_s) (h F1 H l st _ (wpO_to (wpO_bind.mp w) fun x w1 v F2 H2 ad le st2 rv => ⟨x, dpB rv, w1 _ F2 H2 ad le st2 (.bl _)⟩))
theorem ev_ifx {α : Type} {r : Rep V α} {m n : Out α} (o : RepOk r) (hc : EvT X H0 L Qe F σ c mc) (ha : Ev X H0 L Qe F σ a r m) (hb : Ev X H0 L Qe F σ b r n) : Ev X H0 L Qe F σ (.IfExp c a b pos) r (mc >>= fun x => if x = true then m else n) := fun F1 H l st Q w =>
  sE_of (pe_ifExp pt_s pe_s pe_s) (hc F1 H l st _ (wpO_to (wpO_bind.mp w) fun x w1 F2 H2 ad le st2 => by
    cases x with
    | true => exact ha F2 H2 (l.trans ad.le) st2 Q (wpO_to w1 fun y w2 v F3 H3 ad2 le2 st3 rv => w2 v F3 H3 (ad.trans le.dom ad2) (le.trans le2) st3 (o.bk le rv))
    | false => exact hb F2 H2 (l.trans ad.le) st2 Q (wpO_to w1 fun y w2 v F3 H3 ad2 le2 st3 rv => w2 v F3 H3 (ad.trans le.dom ad2) (le.trans le2) st3 (o.bk le rv))))
/-- a < b < c .. of ints: two comparisons -/
theorem ev_chainI {op op' : CmpOp} {g g' : Int → Int → Bool} {m1 m2 m3 : Out Int} (ho : OpR X (compareOp op) (rI0 fun i j => .bl (g i j))) (ho' : OpR X (compareOp op') (rI0 fun i j => .bl (g' i j))) (ha : Ev X H0 L Qe F σ a (rE X.K) m1) (hb : Ev X H0 L Qe F σ b (rE X.K) m2) (hc : Ev X H0 L Qe F σ c (rE X.K) m3)
    (hm : lastMarks [op, op'] [b, c] = false := by with_unfolding_all rfl) : Ev X H0 L Qe F σ (.Compare a [op, op'] [b, c] pos) (rE X.K) (m1 >>= fun i => m2 >>= fun j => andO (g i j) (m3 >>= fun k => .ok (g' j k))) := fun F1 H l st Q w =>
  sE_of (pe_chain ho ho' pe_s pe_s pe_s hm) (ha F1 H l st _ (wpO_to (wpO_bind.mp w) fun i w1 v F2 H2 ad le st2 rv =>
    hb F2 H2 (l.trans ad.le) st2 _ (wpO_to (wpO_bind.mp w1) fun j w2 u F3 H3 ad2 le2 st3 ru => by
      have w3 := wpO_andO w2
      refine ⟨i, j, dpI rv, dpI ru, g i j, rfl, ?_⟩
      have A := ad.trans le.dom ad2
      cases hg : g i j with
      | true =>
        rw [hg] at w3
        exact hc F3 H3 (l.trans A.le) st3 _ (wpO_to (wpO_bind.mp w3) fun k w4 z F4 H4 ad3 le3 st4 rz => ⟨j, k, dpI ru, dpI rz, w4 _ F4 H4 (A.trans (le.trans le2).dom ad3) ((le.trans le2).trans le3) st4 (.bl _)⟩)
      | false =>
        rw [hg] at w3
        exact w3 _ F3 H3 A (le.trans le2) st3 (.bl false))))
theorem et_chainI {op op' : CmpOp} {g g' : Int → Int → Bool} {m1 m2 m3 : Out Int} (ho : OpR X (compareOp op) (rI0 fun i j => .bl (g i j))) (ho' : OpR X (compareOp op') (rI0 fun i j => .bl (g' i j))) (ha : Ev X H0 L Qe F σ a (rE X.K) m1) (hb : Ev X H0 L Qe F σ b (rE X.K) m2) (hc : Ev X H0 L Qe F σ c (rE X.K) m3)
    (hm : lastMarks [op, op'] [b, c] = false := by with_unfolding_all rfl) : EvT X H0 L Qe F σ (.Compare a [op, op'] [b, c] pos) (m1 >>= fun i => m2 >>= fun j => andO (g i j) (m3 >>= fun k => .ok (g' j k))) := fun F1 H l st Q w =>
  sT_of (pt_chain ho ho' pe_s pe_s pe_s hm) (ha F1 H l st _ (wpO_to (wpO_bind.mp w) fun i w1 v F2 H2 ad le st2 rv =>
    hb F2 H2 (l.trans ad.le) st2 _ (wpO_to (wpO_bind.mp w1) fun j w2 u F3 H3 ad2 le2 st3 ru => by
      have w3 := wpO_andO w2
      refine ⟨i, j, dpI rv, dpI ru, g i j, rfl, ?_⟩
      have A := ad.trans le.dom ad2
      cases hg : g i j with
      | true =>
        rw [hg] at w3
        exact hc F3 H3 (l.trans A.le) st3 _ (wpO_to (wpO_bind.mp w3) fun k w4 z F4 H4 ad3 le3 st4 rz => ⟨j, k, dpI ru, dpI rz, g' j k, rfl, w4 F4 H4 (A.trans (le.trans le2).dom ad3) ((le.trans le2).trans le3) st4⟩)
      | false =>
        rw [hg] at w3
        exact ⟨false, rfl, w3 F3 H3 A (le.trans le2) st3⟩)))
/-- is None, is not None -/
theorem ev_isN {m : Out (Option α)} (hn : ∀ a : α, py a ≠ .none) (h : Ev X H0 L Qe F σ a (rE X.K) m) {j : Nat} {p2 : Pos} : Ev X H0 L Qe F σ (.Compare a [.Is] [.Constant .none j p2] pos) (rE X.K) (m >>= fun o => .ok o.isNone) := fun F1 H l st Q w =>
  sE_of (pe_cmp (pc_isN pe_s) rfl) (h F1 H l st _ (wpO_to (wpO_bind.mp w) fun o w1 v F2 H2 ad le st2 rv => by
    refine w1 _ F2 H2 ad le st2 ?_
    have e : decide (v = V.non) = o.isNone := by
      cases o with
      | none =>
        have rv : Ds X.K F2 v .none := rv
        cases rv
        rfl
      | some a =>
        have rv : Ds X.K F2 v (py a) := rv
        refine decide_eq_false fun z => ?_
        rw [z] at rv
        cases hq : py a with
        | none => exact hn a hq
        | bool _ => rw [hq] at rv; cases rv
        | int _ => rw [hq] at rv; cases rv
        | str _ => rw [hq] at rv; cases rv
        | list _ => rw [hq] at rv; cases rv
        | tuple _ => rw [hq] at rv; cases rv
        | dict _ => rw [hq] at rv; cases rv
    rw [e]
    exact .bl _))
theorem ev_notN {m : Out (Option α)} (hn : ∀ a : α, py a ≠ .none) (h : Ev X H0 L Qe F σ a (rE X.K) m) {j : Nat} {p2 : Pos} : Ev X H0 L Qe F σ (.Compare a [.IsNot] [.Constant .none j p2] pos) (rE X.K) (m >>= fun o => .ok (!o.isNone)) := fun F1 H l st Q w =>
  sE_of (pe_cmp (pc_notN pe_s) rfl) (h F1 H l st _ (wpO_to (wpO_bind.mp w) fun o w1 v F2 H2 ad le st2 rv => by
    refine w1 _ F2 H2 ad le st2 ?_
    have e : decide (v = V.non) = o.isNone := by
      cases o with
      | none =>
        have rv : Ds X.K F2 v .none := rv
        cases rv
        rfl
      | some a =>
        have rv : Ds X.K F2 v (py a) := rv
        refine decide_eq_false fun z => ?_
        rw [z] at rv
        cases hq : py a with
        | none => exact hn a hq
        | bool _ => rw [hq] at rv; cases rv
        | int _ => rw [hq] at rv; cases rv
        | str _ => rw [hq] at rv; cases rv
        | list _ => rw [hq] at rv; cases rv
        | tuple _ => rw [hq] at rv; cases rv
        | dict _ => rw [hq] at rv; cases rv
    rw [e]
    exact .bl _))
end

/-! ### == of data -/
class PyE (α : Type) [Py α] [DecidableEq α] where
  lay : ∀ a : α, (py a).canLay0 = true
  dep : Nat
  dle : ∀ a : α, (py a).depth ≤ dep
  eqv : ∀ a b : α, PyData.eqv (py a) (py b) = decide (a = b)
omit [TbC] in
instance : PyE Int := ⟨fun _ => rfl, 0, fun _ => Nat.le_refl _, fun a b => by
  show (a == b) = _
  exact Bool.beq_eq_decide_eq a b⟩
omit [TbC] in
instance : PyE Bool := ⟨fun _ => rfl, 0, fun _ => Nat.le_refl _, fun a b => by
  show (a == b) = _
  exact Bool.beq_eq_decide_eq a b⟩
omit [TbC] in
theorem layAll {α : Type} [Py α] [DecidableEq α] [PyE α] : ∀ xs : List α, PyData.canLayAll0 (xs.map py) = true
  | [] => rfl
  | a :: xs => by
    rw [List.map_cons]
    unfold PyData.canLayAll0
    rw [PyE.lay a, layAll xs]
    rfl
omit [TbC] in
theorem depAll {α : Type} [Py α] [DecidableEq α] [PyE α] : ∀ xs : List α, PyData.depthAll (xs.map py) ≤ PyE.dep α
  | [] => Nat.zero_le _
  | a :: xs => by
    rw [List.map_cons]
    unfold PyData.depthAll
    exact Nat.max_le.mpr ⟨PyE.dle a, depAll xs⟩
omit [TbC] in
theorem eqAll {α : Type} [Py α] [DecidableEq α] [PyE α] : ∀ xs ys : List α, PyData.eqvAll (xs.map py) (ys.map py) = decide (xs = ys)
  | [], [] => rfl
  | [], b :: ys => by
    rw [decide_eq_false (by simp)]
    rfl
  | a :: xs, [] => by
    rw [decide_eq_false (by simp)]
    rfl
  | a :: xs, b :: ys => by
    rw [List.map_cons, List.map_cons]
    unfold PyData.eqvAll
    rw [PyE.eqv a b, eqAll xs ys]
    by_cases h1 : a = b
    · by_cases h2 : xs = ys
      · simp [h1, h2]
      · simp [h1, h2]
    · simp [h1]
omit [TbC] in
instance {α : Type} [Py α] [DecidableEq α] [PyE α] : PyE (List α) := ⟨fun xs => by
  show PyData.canLay0 (.list _) = true
  unfold PyData.canLay0
  exact layAll xs, PyE.dep α + 1, fun xs => by
  show PyData.depth (.list _) ≤ _
  unfold PyData.depth
  exact Nat.succ_le_succ (depAll xs), fun xs ys => by
  show PyData.eqv (.list _) (.list _) = _
  unfold PyData.eqv
  exact eqAll xs ys⟩
omit [TbC] in
instance {α β : Type} [Py α] [DecidableEq α] [PyE α] [Py β] [DecidableEq β] [PyE β] : PyE (α × β) := ⟨fun q => by
  show PyData.canLay0 (.tuple [py q.1, py q.2]) = true
  unfold PyData.canLay0 PyData.canLayAll0 PyData.canLayAll0 PyData.canLayAll0
  rw [PyE.lay q.1, PyE.lay q.2]
  rfl, max (PyE.dep α) (PyE.dep β) + 1, fun q => by
  show PyData.depth (.tuple [py q.1, py q.2]) ≤ _
  unfold PyData.depth PyData.depthAll PyData.depthAll PyData.depthAll
  have h1 := PyE.dle q.1
  have h2 := PyE.dle q.2
  omega, fun q r => by
  show PyData.eqv (.tuple [py q.1, py q.2]) (.tuple [py r.1, py r.2]) = _
  unfold PyData.eqv PyData.eqvAll PyData.eqvAll PyData.eqvAll
  rw [PyE.eqv, PyE.eqv]
  obtain ⟨a, b⟩ := q
  obtain ⟨c, d⟩ := r
  by_cases h1 : a = c
  · by_cases h2 : b = d
    · simp [h1, h2]
    · simp [h1, h2]
  · simp [h1]⟩
section
variable {X : Cx} {H0 : Hp} {L : List (Addr × HO)} {Qe : Nat → Int → Prop} {F : Hp} {σ : L2.St} {α : Type} [Py α]
variable {e a b c : Expr} {pos : Pos}
end
mutual
theorem dp_up {K : PySem.W.Frag} {H H' : Hp} (e : Le H H') : ∀ (d : PyData) (v : V), Dp K H v d → Dp K H' v d
  | .none, _, h => by cases h; exact .non
  | .bool b, _, h => by cases h; exact .bl b
  | .int i, _, h => by cases h; exact .int i
  | .str x, _, h => by cases h; exact .str x
  | .list ds, _, h => by
    cases h with
    | lst hs ha => exact .lst (e.sql hs) (dpAll_up e ds _ ha)
  | .tuple ds, _, h => by
    cases h with
    | tup hs ha => exact .tup (e.sqt hs) (dpAll_up e ds _ ha)
  | .dict _, _, h => by cases h
theorem dpAll_up {K : PySem.W.Frag} {H H' : Hp} (e : Le H H') : ∀ (ds : List PyData) (vs : List V), DpAll K H vs ds → DpAll K H' vs ds
  | [], _, h => by cases h; exact .nil
  | d :: ds, _, h => by
    cases h with
    | cons h1 h2 => exact .cons (dp_up e d _ h1) (dpAll_up e ds _ h2)
end
section
variable {X : Cx} {H0 : Hp} {L : List (Addr × HO)} {Qe : Nat → Int → Prop} {F : Hp} {σ : L2.St} {α : Type} [Py α]
variable {e a b c : Expr} {pos : Pos}
/-- data that may be compared -/
def rD (K : PySem.W.Frag) {α : Type} [Py α] : Rep V α := fun _ _ H v a => Dp K H v (py a)
theorem okD {K : PySem.W.Frag} : RepOk (rD K (α := α)) := ⟨fun _ e h => dp_up e _ _ h, fun _ h => h⟩
theorem ev_ED {m : Out α} (h : Ev X H0 L Qe F σ e (rE X.K) m) : Ev X H0 L Qe F σ e (rD X.K) m := ev_imp h fun st x => Ds.dp _ _ (Ds.mo x st.lF)
theorem ev_BD {m : Out (List α)} (h : Ev X H0 L Qe F σ e (rB X.K) m) : Ev X H0 L Qe F σ e (rD X.K) m := ev_imp h fun st x => by
  obtain ⟨p, ys, rfl, h1, h2⟩ := x
  exact .lst h1 (DsAll.dp _ _ (h2.mo st.lF))
variable [DecidableEq α] [PyE α] {ma mb : Out α}
theorem shp (a : α) (hd : PyE.dep α ≤ 64) : SeqAt.shaped (py a) = true := by
  unfold SeqAt.shaped
  rw [PyE.lay a, decide_eq_true (Nat.le_trans (PyE.dle a) hd)]
  rfl
theorem et_eqD (hu : X.A.units + 64 < cLine) (ha : Ev X H0 L Qe F σ a (rD X.K) ma) (hb : Ev X H0 L Qe F σ b (rD X.K) mb) (hd : PyE.dep α ≤ 64 := by decide) : EvT X H0 L Qe F σ (.Compare a [.Eq] [b] pos) (ma >>= fun i => mb >>= fun j => .ok (decide (i = j))) :=
  et_cmp (op_eqD hu) ha hb okD okD (nomark _) fun x y Hs F H i j _ st hx hy Q w => by
    refine ⟨py i, py j, hx, hy, shp i hd, shp j hd, ?_⟩
    rw [PyE.eqv]
    exact w _ F H (Adv.refl _ _) (Le.refl _) st (.bl _)
theorem et_neD (hu : X.A.units + 64 < cLine) (ha : Ev X H0 L Qe F σ a (rD X.K) ma) (hb : Ev X H0 L Qe F σ b (rD X.K) mb) (hd : PyE.dep α ≤ 64 := by decide) : EvT X H0 L Qe F σ (.Compare a [.NotEq] [b] pos) (ma >>= fun i => mb >>= fun j => .ok (!decide (i = j))) :=
  et_cmp (op_neD hu) ha hb okD okD (nomark _) fun x y Hs F H i j _ st hx hy Q w => by
    refine ⟨py i, py j, hx, hy, shp i hd, shp j hd, ?_⟩
    rw [PyE.eqv]
    exact w _ F H (Adv.refl _ _) (Le.refl _) st (.bl _)
theorem ev_eqD (hu : X.A.units + 64 < cLine) (ha : Ev X H0 L Qe F σ a (rD X.K) ma) (hb : Ev X H0 L Qe F σ b (rD X.K) mb) (hd : PyE.dep α ≤ 64 := by decide) : Ev X H0 L Qe F σ (.Compare a [.Eq] [b] pos) (rE X.K) (ma >>= fun i => mb >>= fun j => .ok (decide (i = j))) :=
  ev_cmp (op_eqD hu) ha hb okD okD okE (nomark _) fun x y Hs F H i j _ st hx hy Q w => by
    refine ⟨py i, py j, hx, hy, shp i hd, shp j hd, ?_⟩
    rw [PyE.eqv]
    exact w _ F H (Adv.refl _ _) (Le.refl _) st (.bl _)
theorem ev_neD (hu : X.A.units + 64 < cLine) (ha : Ev X H0 L Qe F σ a (rD X.K) ma) (hb : Ev X H0 L Qe F σ b (rD X.K) mb) (hd : PyE.dep α ≤ 64 := by decide) : Ev X H0 L Qe F σ (.Compare a [.NotEq] [b] pos) (rE X.K) (ma >>= fun i => mb >>= fun j => .ok (!decide (i = j))) :=
  ev_cmp (op_neD hu) ha hb okD okD okE (nomark _) fun x y Hs F H i j _ st hx hy Q w => by
    refine ⟨py i, py j, hx, hy, shp i hd, shp j hd, ?_⟩
    rw [PyE.eqv]
    exact w _ F H (Adv.refl _ _) (Le.refl _) st (.bl _)
end

/-! ### a place in a body -/
/-- He, Fe: the heap and the frozen part at the entry -/
structure Pt (He Fe H0 : Hp) (L : List (Addr × HO)) (F H : Hp) : Prop where
  st : Sta H0 F L H
  ad : Adv Fe He F
  dm : Dom He H
theorem Pt.start {F H : Hp} (l : Le F H) (t : LamX.Tabs TbC.T H) : Pt H F H [] F H := ⟨⟨Le.refl _, l, fun _ h => (nomatch h), List.nodup_nil, t⟩, Adv.refl _ _, Dom.refl _⟩
section
variable {He Fe H0 F F' H H' : Hp} {L : List (Addr × HO)}
theorem Pt.go (P : Pt He Fe H0 L F H) (ad : Adv F H F') (le : Le H H') (st : Sta H0 F' L H') : Pt He Fe H0 L F' H' := ⟨st, P.ad.trans P.dm ad, P.dm.trans le.dom⟩
theorem Pt.drop {q : Addr × HO} (P : Pt He Fe H0 (q :: L) F H) : Pt He Fe H0 L F H := ⟨P.st.drop, P.ad, P.dm⟩
theorem Pt.perm {L' : List (Addr × HO)} (P : Pt He Fe H0 L F H) (h : L'.Perm L) : Pt He Fe H0 L' F H := ⟨P.st.perm h, P.ad, P.dm⟩
/-- the owned object at the front is frozen; it has come since the entry -/
theorem Pt.freeze {p : Addr} {o : HO} (P : Pt He Fe H0 ((p, o) :: L) F H) (n : He p = none) : Pt He Fe H0 L (upd F p o) H :=
  ⟨P.st.freeze, ⟨P.ad.le.trans (Le.new (P.st.own _ (List.mem_cons_self (a := (p, o)) (l := L))).2.1), fun q u h1 h2 => by
    rw [upd_ne (ne_of_none h1 n)]
    exact P.ad.nw q u h1 h2⟩, P.dm⟩
end

/-! ### loops as functions -/
def foldO {ι s : Type} (f : ι → s → Out s) : List ι → s → Out s
  | [], a => .ok a
  | i :: is, a => f i a >>= foldO f is
inductive Ctl (ρ s : Type) : Type where
  | go (a : s)
  | brk (a : s)
  | ret (r : ρ)
def foldC {ι ρ s : Type} (f : ι → s → Out (Ctl ρ s)) : List ι → s → Out (Ctl ρ s)
  | [], a => .ok (.go a)
  | i :: is, a => f i a >>= fun c => match c with
    | .go a' => foldC f is a'
    | .brk a' => .ok (.go a')
    | .ret r => .ok (.ret r)
def whileO {s : Type} (c : s → Out Bool) (f : s → Out s) : Nat → s → Out s
  | 0, _ => .bad
  | n + 1, a => c a >>= fun b => if b = true then f a >>= whileO c f n else .ok a
def whileC {ρ s : Type} (c : s → Out Bool) (f : s → Out (Ctl ρ s)) : Nat → s → Out (Ctl ρ s)
  | 0, _ => .bad
  | n + 1, a => c a >>= fun b => if b = true then f a >>= fun k => (match k with
    | .go a' => whileC c f n a'
    | .brk a' => .ok (.go a')
    | .ret r => .ok (.ret r)) else .ok (.go a)
/-- what the range gives, where its bounds are no giants -/
def rngO (lo hi : Int) : Out (List Int) := guardO (-(2 ^ 62) ≤ lo ∧ lo < 2 ^ 62 ∧ -(2 ^ 62) ≤ hi ∧ hi < 2 ^ 62) (rng lo hi)
def compO {ι α : Type} (c : ι → Out Bool) (f : ι → Out α) : List ι → Out (List α)
  | [] => .ok []
  | i :: is => c i >>= fun b => if b = true then f i >>= fun a => compO c f is >>= fun r => .ok (a :: r) else compO c f is
theorem rng_nil {lo hi : Int} (h : hi ≤ lo) : rng lo hi = [] := by
  unfold rng
  have : (hi - lo).toNat = 0 := by omega
  rw [this]
  rfl
theorem rng_cons {lo hi : Int} (h : lo < hi) : rng lo hi = lo :: rng (lo + 1) hi := by
  unfold rng
  have e : (hi - lo).toNat = (hi - (lo + 1)).toNat + 1 := by omega
  rw [e, List.range_succ_eq_map, List.map_cons, List.map_map]
  congr 1
  · show lo + ((0 : Nat) : Int) = lo
    omega
  · refine List.map_congr_left fun k _ => ?_
    show lo + ((k + 1 : Nat) : Int) = lo + 1 + (k : Int)
    omega
theorem rng_drop {lo : Int} {n i : Nat} (h : i < n) : rng (lo + i) (lo + n) = (lo + i) :: rng (lo + ((i + 1 : Nat) : Int)) (lo + n) := by
  rw [rng_cons (by omega)]
  congr 2
  omega
end Rf


set_option Elab.async false
set_option linter.all false
set_option maxRecDepth 100000
set_option maxHeartbeats 1000000
namespace Rf
open PySem PySem.Spec L2 PyProof.Rows
open Py (py)
variable [TbC]

/-! ### statements -/
/-- what is asked of a value that is handed back -/
def RetP {β : Type} (He Fe : Hp) (rr : Rep V β) (Q : VK) : β → Prop := fun b => ∀ v F' H', Adv Fe He F' → Le He H' → Le F' H' → rr He F' H' v b → Q v H'
section
variable {X : Cx} {He Fe H0 : Hp} {L : List (Addr × HO)} {Qe : Nat → Int → Prop} {F H : Hp} {σ : L2.St} {α β γ ρ τ : Type} [Py α] [Py β]
variable {e a b c : Expr} {es : List Expr} {body orelse rest : List Stmt} {pos p pos' : Pos} {x : Str} {D : Ends} {Po : τ → Prop}

/-- name = value, as it comes -/
theorem b_setR {α : Type} {r : Rep V α} {m : Out α} {k : α → Out τ} {i : Nat} (he : Ev X H0 L Qe F σ e r m) (P : Pt He Fe H0 L F H) (h : wpO (m >>= k) Po Qe)
    (cont : ∀ a v F' H', wpO (k a) Po Qe → Adv F H F' → Le H H' → Sta H0 F' L H' → r H F' H' v a → sS X rest D (σ.set i (some v)) H') (hN : X.N.Nodup)
    (hi : X.N[i]? = some x := by rfl) (hx : Loc X.env.scope x := by first | exact Or.inl rfl | exact Or.inr rfl) (hs : swapsWith e (some (.Name x pos')) pos.line X.env = pure false := by rfl) (hf : X.fn x = true ∨ X.env.scope.names.lookup x = some .local := by first | exact .inl rfl | exact .inr rfl) :
    sS X (.Assign [.Name x pos'] e pos :: rest) D σ H :=
  sS_cons (s1_of (ps_set hN hi hx pe_s hs hf) (he F H (Le.refl _) P.st _ (wpO_to (wpO_bind.mp h) fun a w v F' H' ad le st rv => cont a v F' H' w ad le st rv)))
theorem b_set {m : Out α} {k : α → Out τ} {i : Nat} (he : Ev X H0 L Qe F σ e (rE X.K) m) (P : Pt He Fe H0 L F H) (h : wpO (m >>= k) Po Qe)
    (cont : ∀ a v F' H', wpO (k a) Po Qe → Le F F' → Pt He Fe H0 L F' H' → Ds X.K F' v (py a) → sS X rest D (σ.set i (some v)) H') (hN : X.N.Nodup)
    (hi : X.N[i]? = some x := by rfl) (hx : Loc X.env.scope x := by first | exact Or.inl rfl | exact Or.inr rfl) (hs : swapsWith e (some (.Name x pos')) pos.line X.env = pure false := by rfl) (hf : X.fn x = true ∨ X.env.scope.names.lookup x = some .local := by first | exact .inl rfl | exact .inr rfl) :
    sS X (.Assign [.Name x pos'] e pos :: rest) D σ H :=
  b_setR he P h (fun a v F' H' w ad le st rv => cont a v F' H' w ad.le (P.go ad le st) rv) hN hi hx hs hf
theorem b_setI {m : Out Int} {k : Int → Out τ} {i : Nat} (he : Ev X H0 L Qe F σ e (rE X.K) m) (P : Pt He Fe H0 L F H) (h : wpO (m >>= k) Po Qe)
    (cont : ∀ a F' H', wpO (k a) Po Qe → Le F F' → Pt He Fe H0 L F' H' → sS X rest D (σ.set i (some (.int a))) H') (hN : X.N.Nodup)
    (hi : X.N[i]? = some x := by rfl) (hx : Loc X.env.scope x := by first | exact Or.inl rfl | exact Or.inr rfl) (hs : swapsWith e (some (.Name x pos')) pos.line X.env = pure false := by rfl) (hf : X.fn x = true ∨ X.env.scope.names.lookup x = some .local := by first | exact .inl rfl | exact .inr rfl) :
    sS X (.Assign [.Name x pos'] e pos :: rest) D σ H :=
  b_set he P h (fun a v F' H' w l P' rv => by rw [dpI rv]; exact cont a F' H' w l P') hN hi hx hs hf
theorem b_setB {m : Out Bool} {k : Bool → Out τ} {i : Nat} (he : Ev X H0 L Qe F σ e (rE X.K) m) (P : Pt He Fe H0 L F H) (h : wpO (m >>= k) Po Qe)
    (cont : ∀ a F' H', wpO (k a) Po Qe → Le F F' → Pt He Fe H0 L F' H' → sS X rest D (σ.set i (some (.bl a))) H') (hN : X.N.Nodup)
    (hi : X.N[i]? = some x := by rfl) (hx : Loc X.env.scope x := by first | exact Or.inl rfl | exact Or.inr rfl) (hs : swapsWith e (some (.Name x pos')) pos.line X.env = pure false := by rfl) (hf : X.fn x = true ∨ X.env.scope.names.lookup x = some .local := by first | exact .inl rfl | exact .inr rfl) :
    sS X (.Assign [.Name x pos'] e pos :: rest) D σ H :=
  b_set he P h (fun a v F' H' w l P' rv => by rw [dpB rv]; exact cont a F' H' w l P') hN hi hx hs hf
/-- a new list is owned from here on (it has come since the entry) -/
theorem own_of {xs : List α} {v : V} {F' H' : Hp} (P : Pt He Fe H0 L F H) (ad : Adv F H F') (le : Le H H') (st : Sta H0 F' L H') (rv : rL X.K H F' H' v xs) :
    ∃ p ys, v = .ref p ∧ He p = none ∧ Pt He Fe H0 ((p, .lst ys) :: L) F' H' ∧ DsAll X.K F' ys (xs.map py) := by
  obtain ⟨p, ys, rfl, h1, h2, h3, h4⟩ := rv
  exact ⟨p, ys, rfl, P.dm p h1, ⟨Sta.push P.st st le h1 h2 h3, P.ad.trans P.dm ad, P.dm.trans le.dom⟩, h4⟩
theorem b_setL {m : Out (List α)} {k : List α → Out τ} {i : Nat} (he : Ev X H0 L Qe F σ e (rL X.K) m) (P : Pt He Fe H0 L F H) (h : wpO (m >>= k) Po Qe)
    (cont : ∀ a p ys F' H', wpO (k a) Po Qe → Le F F' → He p = none → Pt He Fe H0 ((p, .lst ys) :: L) F' H' → DsAll X.K F' ys (a.map py) → sS X rest D (σ.set i (some (.ref p))) H') (hN : X.N.Nodup)
    (hi : X.N[i]? = some x := by rfl) (hx : Loc X.env.scope x := by first | exact Or.inl rfl | exact Or.inr rfl) (hs : swapsWith e (some (.Name x pos')) pos.line X.env = pure false := by rfl) (hf : X.fn x = true ∨ X.env.scope.names.lookup x = some .local := by first | exact .inl rfl | exact .inr rfl) :
    sS X (.Assign [.Name x pos'] e pos :: rest) D σ H :=
  b_setR he P h (fun a v F' H' w ad le st rv => by
    obtain ⟨p, ys, rfl, n, P', hy⟩ := own_of P ad le st rv
    exact cont a p ys F' H' w ad.le n P' hy) hN hi hx hs hf
/-- a value dropped -/
theorem b_drop {α : Type} {r : Rep V α} {m : Out α} {k : α → Out τ} (he : Ev X H0 L Qe F σ e r m) (P : Pt He Fe H0 L F H) (h : wpO (m >>= k) Po Qe)
    (cont : ∀ a F' H', wpO (k a) Po Qe → Le F F' → Pt He Fe H0 L F' H' → sS X rest D σ H') (hs : swapsWith e none pos.line X.env = pure false := by rfl) :
    sS X (.Expr e pos :: rest) D σ H :=
  sS_cons (s1_of (ps_expr pe_s hs) (he F H (Le.refl _) P.st _ (wpO_to (wpO_bind.mp h) fun a w v F' H' ad le st rv => cont a F' H' w ad.le (P.go ad le st))))
/-- handed back -/
theorem b_ret {β : Type} {rr : Rep V β} {m : Out β} (he : Ev X H0 L Qe F σ e rr m) (o : RepOk rr) (P : Pt He Fe H0 L F H) (l0 : Le He H0) (h : wpO m (RetP He Fe rr D.rt) Qe) : sS X (.Return (some e) pos :: rest) D σ H :=
  sS_cons (s1_of (ps_ret pe_s) (he F H (Le.refl _) P.st _ (wpO_to h fun b w v F' H' ad le st rv => w v F' H' (P.ad.trans P.dm ad) (l0.trans st.l0) st.lF (o.bk (l0.trans P.st.l0) rv))))
/-- an owned list handed back -/
theorem b_retO {j : Nat} {q : Addr} {ys : List V} {xs : List α} {i : Nat} (hs : σ[i]? = some (some (.ref q))) (hL : L[j]? = some (q, .lst ys)) (hy : DsAll X.K F ys (xs.map py)) (n : He q = none) (P : Pt He Fe H0 L F H) (l0 : Le He H0) (h : wpO (.ok xs) (RetP He Fe (rL X.K) D.rt) Qe)
    (hN : X.N[i]? = some x := by rfl) (hv : Vis X.env.scope x := by first | exact Or.inl rfl | exact Or.inr (Or.inl rfl) | exact Or.inr (Or.inr rfl))
    (hd : (x == ("__debug__" : Str)) = false := by decide) (hcd : (x == ("__classdict__" : Str)) = false := by decide) : sS X (.Return (some (.Name x p)) pos :: rest) D σ H :=
  sS_cons (s1_of (ps_ret (pe_var hN hv hd hcd)) ⟨_, hs, h _ F H P.ad (l0.trans P.st.l0) P.st.lF ⟨q, ys, rfl, n, (P.st.own _ (List.mem_of_getElem? hL)).2.1, P.st.at hL, hy⟩⟩)
theorem b_retN (P : Pt He Fe H0 L F H) (l0 : Le He H0) (h : RetP He Fe (rE X.K) D.rt ()) : sS X (.Return none pos :: rest) D σ H :=
  sS_cons (s1_of ps_retN (h _ F H P.ad (l0.trans P.st.l0) P.st.lF .non))
theorem end_non {K : PySem.W.Frag} {Q : VK} (P : Pt He Fe H0 L F H) (l0 : Le He H0) (h : RetP He Fe (rE K) Q ()) : Q .non H := h _ F H P.ad (l0.trans P.st.l0) P.st.lF .non
theorem b_pass (h : sS X rest D σ H) : sS X (.Pass pos :: rest) D σ H := sS_cons (s1_of ps_pass h)
theorem b_break (h : D.bk σ H) : sS X (.Break pos :: rest) D σ H := sS_cons (s1_of ps_break h)
theorem b_cont (h : D.ct σ H) : sS X (.Continue pos :: rest) D σ H := sS_cons (s1_of ps_continue h)
theorem b_if {mc : Out Bool} {m n : Out τ} (hc : EvT X H0 L Qe F σ c mc) (P : Pt He Fe H0 L F H) (h : wpO (mc >>= fun b => if b = true then m else n) Po Qe)
    (k1 : ∀ F' H', wpO m Po Qe → Le F F' → Pt He Fe H0 L F' H' → sS X body { D with nx := sS X rest D } σ H') (k2 : ∀ F' H', wpO n Po Qe → Le F F' → Pt He Fe H0 L F' H' → sS X orelse { D with nx := sS X rest D } σ H') :
    sS X (.If c body orelse pos :: rest) D σ H :=
  sS_cons (s1_of (ps_if pt_s pss_s pss_s) (hc F H (Le.refl _) P.st _ (wpO_to (wpO_bind.mp h) fun b w F' H' ad le st => by
    cases b with
    | true => exact k1 F' H' w ad.le (P.go ad le st)
    | false => exact k2 F' H' w ad.le (P.go ad le st))))
/-- xs.append(e), xs owned at j -/
theorem b_append {m : Out α} {k : List α → Out τ} {i j : Nat} {q : Addr} {ys : List V} {xs : List α} {p1 p2 : Pos} (hs : σ[i]? = some (some (.ref q))) (hL : L[j]? = some (q, .lst ys)) (hy : DsAll X.K F ys (xs.map py)) (he : Ev X H0 L Qe F σ e (rE X.K) m) (P : Pt He Fe H0 L F H)
    (h : wpO (m >>= fun a => pushO xs a >>= k) Po Qe)
    (cont : ∀ xs' ys' F' H', wpO (k xs') Po Qe → Le F F' → Pt He Fe H0 (L.set j (q, .lst ys')) F' H' → DsAll X.K F' ys' (xs'.map py) → sS X rest D σ H')
    (hpe : PE X (.Call (.Attribute (.Name x p) "append" p1) [e] [] p2) (tBM X.K "list" rAppend (tVar i) (tCons (sE X e) tNil)) := by exact pe_bm PySem.F.plainAttrs_list PySem.F.slot_list_append PySem.F.type_list_append mt_append (pv _) (pa_cons pe_s pa_nil))
    (hsw : swapsWith (.Call (.Attribute (.Name x p) "append" p1) [e] [] p2) none pos.line X.env = pure false := by rfl) : sS X (.Expr (.Call (.Attribute (.Name x p) "append" p1) [e] [] p2) pos :: rest) D σ H := by
  refine sS_cons (s1_of (ps_expr hpe hsw) ?_)
  refine ⟨_, hs, .inl ⟨rfl, ys, .inl (.inl (P.st.at hL))⟩, he F H (Le.refl _) P.st _ (wpO_to (wpO_bind.mp h) fun a w v F' H' ad le st rv => ?_)⟩
  obtain ⟨hz, w⟩ := wpO_guard.mp (wpO_bind.mp w)
  have P' := P.go ad le st
  exact ⟨q, ys, v, rfl, rfl, st.at hL, by rw [all_len hy]; exact hz, cont _ _ F' _ w ad.le ⟨st.put hL, P'.ad, P'.dm.trans (dom_put (st.at hL))⟩ (all_snoc (hy.mo ad.le) rv)⟩
/-- xs[i] = e, xs owned at j -/
theorem b_setItem {m : Out α} {mi : Out Int} {k : List α → Out τ} {i j : Nat} {q : Addr} {ys : List V} {xs : List α} {p1 : Pos} (hs : σ[i]? = some (some (.ref q))) (hL : L[j]? = some (q, .lst ys)) (hy : DsAll X.K F ys (xs.map py)) (he : Ev X H0 L Qe F σ e (rE X.K) m) (hi : Ev X H0 L Qe F σ b (rE X.K) mi) (P : Pt He Fe H0 L F H)
    (h : wpO (m >>= fun a => mi >>= fun z => setI xs z a >>= k) Po Qe)
    (cont : ∀ xs' ys' F' H', wpO (k xs') Po Qe → Le F F' → Pt He Fe H0 (L.set j (q, .lst ys')) F' H' → DsAll X.K F' ys' (xs'.map py) → sS X rest D σ H')
    (hN : X.N[i]? = some x := by rfl) (hv : Vis X.env.scope x := by first | exact Or.inl rfl | exact Or.inr (Or.inl rfl) | exact Or.inr (Or.inr rfl))
    (ha : ∀ v, assign (.Subscript (.Name x p) b p1) X.env v = (do
      let ov ← holding [v] (eval (.Name x p) X.env)
      let iv ← holding [v, ov] (eval b X.env)
      standAt p1
      holding [v, ov, iv] (setItem ov iv v)
      release [v, ov, iv] []) := by intro _; rfl)
    (hs1 : swapsWithSole [.Subscript (.Name x p) b p1] e pos.line X.env = pure false := by rfl) (hs2 : swappedStores [.Subscript (.Name x p) b p1] e X.env = pure none := by rfl)
    (h1 : (assignEach [.Subscript (.Name x p) b p1] X.env).map (·.2) = [assign (.Subscript (.Name x p) b p1) X.env] := by rfl)
    (hd : (x == ("__debug__" : Str)) = false := by decide) (hcd : (x == ("__classdict__" : Str)) = false := by decide) : sS X (.Assign [.Subscript (.Name x p) b p1] e pos :: rest) D σ H := by
  refine sS_cons (s1_of (ps_asg pe_s (pg_sub (pe_var hN hv hd hcd) (pe_s (e := b)) set_list ha) hs1 hs2 h1) ?_)
  refine he F H (Le.refl _) P.st _ (wpO_to (wpO_bind.mp h) fun a w v F' H' ad le st rv => ?_)
  refine ⟨_, hs, hi F' H' ad.le st _ (wpO_to (wpO_bind.mp w) fun z w2 u F2 H2 ad2 le2 st2 ru => ?_)⟩
  obtain ⟨n, e1, w3⟩ := wpO_setI (wpO_bind.mp w2)
  have P' := (P.go ad le st).go ad2 le2 st2
  refine ⟨q, ys, z, n, rfl, dpI ru, st2.at hL, by rw [all_len hy]; exact e1, cont _ _ F2 _ w3 (ad.le.trans ad2.le) ⟨st2.put hL, P'.ad, P'.dm.trans (dom_put (st2.at hL))⟩ (all_set n (hy.mo (ad.le.trans ad2.le)) (rv.mo ad2.le))⟩

/-! ### loops -/
theorem b_forR1 {m : Out Int} {k : List Int → Out τ} {j : Nat} {p1 p2 : Pos} (hp : PassesOwn (model X.prog X.w) X.A X.env X.xe) (hc : X.calm = true) (hm : X.mg "range" = none) (he : Ev X H0 L Qe F σ e (rE X.K) m) (P : Pt He Fe H0 L F H)
    (h : wpO (m >>= fun n => rngO 0 n >>= k) Po Qe) (Iv : List Int → L2.St → Hp → Prop)
    (h0 : ∀ n F' H', wpO (k (rng 0 n)) Po Qe → Le F F' → Pt He Fe H0 L F' H' → Iv (rng 0 n) σ H')
    (hs : ∀ i is σ' H', Iv (i :: is) σ' H' → sS X body { D with nx := Iv is, ct := Iv is, bk := sS X rest D } (σ'.set j (some (.int i))) H')
    (hd : ∀ σ' H', Iv [] σ' H' → sS X rest D σ' H') (hN : X.N.Nodup) (hg : Gl X "range" := by rfl)
    (hj : X.N[j]? = some x := by rfl) (hx : Loc X.env.scope x := by first | exact Or.inl rfl | exact Or.inr rfl) (hf : X.fn x = true ∨ X.env.scope.names.lookup x = some .local := by first | exact .inl rfl | exact .inr rfl) (hst : starEach [e] X.env = (false, eval e X.env) :: starEach [] X.env := by rfl)
    (hfs : ∀ z, foldedSetIterable (.Call (.Name "range" p1) [e] [] p2) X.env z = pure z := by intro _; rfl) :
    sS X (.For (.Name x p) (.Call (.Name "range" p1) [e] [] p2) body [] pos :: rest) D σ H := by
  refine sS_cons (s1_of (ps_for hp hc (pi_range1 hg hm pa_s hst) (pg_name hN hj hx hf) pss_s hfs) ?_)
  refine (ea_one he okE hst) F H (Le.refl _) P.st _ (wpO_to (wpO_bind.mp h) fun n w vs F' H' ad le st rv => ?_)
  obtain ⟨v, rfl, rv⟩ := rv
  obtain ⟨hz, w⟩ := wpO_guard.mp (wpO_bind.mp w)
  refine ⟨n, by rw [dpI rv], hz.2.2.1, hz.2.2.2, for_range (lo := 0) (n := n.toNat) (fun i σ' H' => i ≤ n.toNat ∧ Iv (rng ((0 : Int) + i) (0 + (n.toNat : Int))) σ' H') ⟨Nat.zero_le _, ?_⟩ (fun i σ' H' hi q => ?_) fun σ' H' q => ?_⟩
  · have q := h0 n F' H' w ad.le (P.go ad le st)
    have e1 : rng ((0 : Int) + ((0 : Nat) : Int)) (0 + (n.toNat : Int)) = rng 0 n := by
      by_cases hn : 0 ≤ n
      · have : (0 : Int) + (n.toNat : Int) = n := by omega
        rw [this]
        rfl
      · rw [rng_nil (by omega), rng_nil (by omega)]
    rw [e1]
    exact q
  · have q2 := q.2
    rw [rng_drop hi] at q2
    have q3 := hs _ _ _ _ q2
    refine sS_mono q3 ⟨fun σ H z => ⟨hi, z⟩, fun _ _ z => z, fun _ _ z => z, fun σ H z => ⟨hi, z⟩⟩
  · have q2 := q.2
    rw [rng_nil (Int.le_refl _)] at q2
    exact hd _ _ q2
/-- for x in e, e frozen -/
theorem b_forE {m : Out (List α)} {k : List α → Out τ} {j : Nat} (hp : PassesOwn (model X.prog X.w) X.A X.env X.xe) (hc : X.calm = true) (he : Ev X H0 L Qe F σ e (rE X.K) m) (P : Pt He Fe H0 L F H) (h : wpO (m >>= k) Po Qe)
    (loop : ∀ xs q ys F2 H2, wpO (k xs) Po Qe → Le F F2 → Pt He Fe H0 L F2 H2 → SqL X.K F2 q ys → DsAll X.K F2 ys (xs.map py) →
      ∃ Iv : List α → List V → L2.St → Hp → Prop, Iv xs ys σ H2 ∧ (∀ is vs σ' H', Iv is vs σ' H' → SqL X.K H' q ys) ∧
        (∀ a is v vs σ' H', Iv (a :: is) (v :: vs) σ' H' → sS X body { D with nx := Iv is vs, ct := Iv is vs, bk := sS X rest D } (σ'.set j (some v)) H') ∧ ∀ σ' H', Iv [] [] σ' H' → sS X rest D σ' H') (hN : X.N.Nodup)
    (hj : X.N[j]? = some x := by rfl) (hx : Loc X.env.scope x := by first | exact Or.inl rfl | exact Or.inr rfl) (hf : X.fn x = true ∨ X.env.scope.names.lookup x = some .local := by first | exact .inl rfl | exact .inr rfl)
    (hfs : ∀ z, foldedSetIterable e X.env z = pure z := by intro _; rfl) :
    sS X (.For (.Name x p) e body [] pos :: rest) D σ H := by
  refine sS_cons (s1_of (ps_for hp hc (pi_list pe_s) (pg_name hN hj hx hf) pss_s hfs) ?_)
  refine he F H (Le.refl _) P.st _ (wpO_to (wpO_bind.mp h) fun xs w v F' H' ad le st rv => ?_)
  obtain ⟨q, ys, rfl, hq, hy⟩ := dpL rv
  obtain ⟨Iv, i0, hold, hs, hd⟩ := loop xs q ys F' H' w ad.le (P.go ad le st) hq hy
  have hlen := all_len hy
  refine ⟨q, rfl, ⟨ys, st.lF.sql hq⟩, for_list (K := X.K) (a := q) (xs := ys) (fun i σ' H' => i ≤ ys.length ∧ Iv (xs.drop i) (ys.drop i) σ' H') ⟨Nat.zero_le _, by rw [List.drop_zero, List.drop_zero]; exact i0⟩ (fun i σ' H' _ z => hold _ _ _ _ z.2) (fun i z σ' H' hi r => ?_) fun σ' H' r => ?_⟩
  · have hl : i < ys.length := (List.getElem?_eq_some_iff.mp hi).1
    have hl2 : i < xs.length := by omega
    have e1 : ys.drop i = z :: ys.drop (i + 1) := by
      rw [List.drop_eq_getElem_cons hl]
      rw [(List.getElem?_eq_some_iff.mp hi).2]
    have r2 := r.2
    rw [e1, List.drop_eq_getElem_cons hl2] at r2
    exact sS_mono (hs _ _ _ _ _ _ r2) ⟨fun σ H z => ⟨hl, z⟩, fun _ _ z => z, fun _ _ z => z, fun σ H z => ⟨hl, z⟩⟩
  · have r2 := r.2
    rw [List.drop_length, hlen, List.drop_length] at r2
    exact hd _ _ r2
/-- for x in name, the name a parameter's or an owned list -/
theorem b_forV {xs : List α} {q : Addr} {ys : List V} {j i : Nat} {xn : Str} {pn : Pos} (hp : PassesOwn (model X.prog X.w) X.A X.env X.xe) (hc : X.calm = true) (hσ : σ[i]? = some (some (.ref q))) (hq : SqL X.K H q ys) (hlen : ys.length = xs.length)
    (Iv : List α → List V → L2.St → Hp → Prop) (i0 : Iv xs ys σ H) (hold : ∀ is vs σ' H', Iv is vs σ' H' → SqL X.K H' q ys)
    (hs : ∀ a is v vs σ' H', Iv (a :: is) (v :: vs) σ' H' → sS X body { D with nx := Iv is vs, ct := Iv is vs, bk := sS X rest D } (σ'.set j (some v)) H') (hd : ∀ σ' H', Iv [] [] σ' H' → sS X rest D σ' H') (hN : X.N.Nodup)
    (hni : X.N[i]? = some xn := by rfl) (hnv : Vis X.env.scope xn := by first | exact Or.inl rfl | exact Or.inr (Or.inl rfl) | exact Or.inr (Or.inr rfl))
    (hj : X.N[j]? = some x := by rfl) (hx : Loc X.env.scope x := by first | exact Or.inl rfl | exact Or.inr rfl) (hf : X.fn x = true ∨ X.env.scope.names.lookup x = some .local := by first | exact .inl rfl | exact .inr rfl)
    (hfs : ∀ z, foldedSetIterable (.Name xn pn) X.env z = pure z := by intro _; rfl)
    (hd1 : (xn == ("__debug__" : Str)) = false := by decide) (hcd : (xn == ("__classdict__" : Str)) = false := by decide) :
    sS X (.For (.Name x p) (.Name xn pn) body [] pos :: rest) D σ H := by
  refine sS_cons (s1_of (ps_for hp hc (pi_list (pe_var hni hnv hd1 hcd)) (pg_name hN hj hx hf) pss_s hfs) ?_)
  refine ⟨_, hσ, q, rfl, ⟨ys, hq⟩, for_list (K := X.K) (a := q) (xs := ys) (fun i σ' H' => i ≤ ys.length ∧ Iv (xs.drop i) (ys.drop i) σ' H') ⟨Nat.zero_le _, by rw [List.drop_zero, List.drop_zero]; exact i0⟩ (fun i σ' H' _ z => hold _ _ _ _ z.2) (fun i z σ' H' hi r => ?_) fun σ' H' r => ?_⟩
  · have hl : i < ys.length := (List.getElem?_eq_some_iff.mp hi).1
    have hl2 : i < xs.length := by omega
    have e1 : ys.drop i = z :: ys.drop (i + 1) := by
      rw [List.drop_eq_getElem_cons hl]
      rw [(List.getElem?_eq_some_iff.mp hi).2]
    have r2 := r.2
    rw [e1, List.drop_eq_getElem_cons hl2] at r2
    exact sS_mono (hs _ _ _ _ _ _ r2) ⟨fun σ H z => ⟨hl, z⟩, fun _ _ z => z, fun _ _ z => z, fun σ H z => ⟨hl, z⟩⟩
  · have r2 := r.2
    rw [List.drop_length, hlen, List.drop_length] at r2
    exact hd _ _ r2
/-- while: the fuel falls -/
theorem b_while {n : Nat} (hp : PassesOwn (model X.prog X.w) X.A X.env X.xe) (Iv : Nat → L2.St → Hp → Prop) (h0 : Iv n σ H)
    (hs : ∀ m σ' H', Iv m σ' H' → ∃ m', m = m' + 1 ∧ sT X c σ' H' (fun b H1 => if b = true then sS X body { D with nx := Iv m', ct := Iv m', bk := sS X rest D } σ' H1 else sS X rest D σ' H1)) :
    sS X (.While c body [] pos :: rest) D σ H := by
  refine sS_cons (s1_of (ps_while hp pt_s pss_s) ⟨Iv, ⟨n, h0⟩, fun m σ' H' i => ?_⟩)
  obtain ⟨m', rfl, k⟩ := hs m σ' H' i
  refine sT_mono k fun b H1 q => ?_
  cases b with
  | true => exact ⟨Iv m', fun σ2 H2 z => ⟨m', Nat.lt_succ_self _, z⟩, q⟩
  | false => exact q
end
end Rf


set_option Elab.async false
set_option linter.all false
set_option maxRecDepth 100000
set_option maxHeartbeats 1000000
namespace Rf
open PySem PySem.Spec L2 PyProof.Rows
open Py (py)
variable [TbC]

/-! ### defs -/
/-- the promise of a def that raises nothing: its function fm, arguments by ra, the answer by rr -/
def Pm0 {ρ β : Type} (ra : Rep (List V) ρ) (rr : Rep V β) (fm : ρ → Out β) : Sp := fun vs H Q _ => ∃ (F : Hp) (Qe : Nat → Int → Prop) (q : ρ), Le F H ∧ LamX.Tabs TbC.T H ∧ ra H F H vs q ∧ wpO (fm q) (RetP H F rr Q) Qe
/-- an argument's reading does not lean on where it began -/
structure Ns {W α : Type} (r : Rep W α) : Prop where
  at_ : ∀ Hs Hs' F H v a, r Hs F H v a → r Hs' F H v a
theorem nsE {K : PySem.W.Frag} {α : Type} [Py α] : Ns (rE K (α := α)) := ⟨fun _ _ _ _ _ _ h => h⟩
theorem nsB {K : PySem.W.Frag} {α : Type} [Py α] : Ns (rB K (α := α)) := ⟨fun _ _ _ _ _ _ h => h⟩
theorem ns0 : Ns r0 := ⟨fun _ _ _ _ _ _ h => h⟩
theorem nsC {α ρ : Type} {r : Rep V α} {t : Rep (List V) ρ} (h1 : Ns r) (h2 : Ns t) : Ns (rC r t) := ⟨fun _ _ _ _ _ _ ⟨v, us, e, a, b⟩ => ⟨v, us, e, h1.at_ _ _ _ _ _ _ a, h2.at_ _ _ _ _ _ _ b⟩⟩
section
variable {P : Program} {w : World} {K : PySem.W.Frag} {mg : Str → Option Value} {base : Heap}
theorem fn0 {x qual : Str} {st : Stmt} {f : Addr} {fd : FuncData} {N ps : List Str} {k : Nat} {ρ β : Type} {ra : Rep (List V) ρ} {rr : Rep V β} {fm : ρ → Out β} (Fn : Fun K x qual st f fd) (S : FnScope N ps (defScope st)) (hl : ∀ {Hs F H vs q}, ra Hs F H vs q → vs.length = ps.length)
    (body : ∀ (A : Around) (outer : List Env) (s : Shared) (E : XK) (F H : Hp) (Qe : Nat → Int → Prop) (Q : VK) (vs : List V) (q : ρ), Room k (A.deeper (envOfC qual (defScope st) s.heap.objs.size f fd.code)) → Le F H → LamX.Tabs TbC.T H → ra H F H vs q → wpO (fm q) (RetP H F rr Q) Qe →
      sS (cxOf CX0 P w K mg base N qual (defScope st) f fd.code A outer s H E).nox (defBody st) { nx := fun _ H' => Q .non H', rt := Q } (start N vs) H) : FnOk P w K mg base CX0 (k + 1) f fd ps (Pm0 ra rr fm) := by
  obtain ⟨oc, od, kV, doc, pm, an, cdv, ct, osl, rfl, lk, hcd⟩ := Fn.ex
  refine fn_of lk hcd S (fun vs H Q E ⟨F, Qe, q, _, _, h, _⟩ => hl h) fun A outer s H vs Q E hr ⟨F, Qe, q, l, t, h, w⟩ => ?_
  exact ⟨_, PSs.nox pss_s, body A outer s E F H Qe Q vs q hr l t h w⟩
end
section
variable {X : Cx} {H0 : Hp} {L : List (Addr × HO)} {Qe : Nat → Int → Prop} {F : Hp} {σ : L2.St} {ρ β : Type} {x : Str} {p pos : Pos} {e : Expr} {es : List Expr}
theorem vc_fn {ra : Rep (List V) ρ} {rr : Rep V β} {fm : ρ → Out β} {E : XK} (ns : Ns ra) : VC X.K H0 L Qe (fun vs H Q => Pm0 ra rr fm (vs ++ []) H Q E) ra rr fm := fun F vs Hs H q _ st rq Q w => by
  show Pm0 ra rr fm (vs ++ []) H Q E
  rw [List.append_nil]
  exact ⟨F, Qe, q, st.lF, st.tabs, ns.at_ _ _ _ _ _ _ rq, wpO_to w fun c k v F' H' ad le l rv => k v F' H' ad le (st.grow le ad l) rv⟩
theorem ev_fn {k : Nat} {f : Addr} {fd : FuncData} {ps : List Str} {ra : Rep (List V) ρ} {rr : Rep V β} {fm : ρ → Out β} {m : Out ρ} (G : FnOk X.prog X.w X.K X.mg X.base CX0 k f fd ps (Pm0 ra rr fm)) (hr : Room k X.A) (hm : X.mg x = some (.ref f)) (hk : PySem.W.keepIn X.K (.ref f) = true) (hb : Binds X.K fd ps [])
    (ha : EvA X H0 L Qe F σ (e :: es) ra m) (ns : Ns ra) (or : RepOk rr) (hg : Gl X x := by rfl) (hdb : (x == ("__debug__" : Str)) = false := by decide) (he : starEach (e :: es) X.env = (false, eval e X.env) :: starEach es X.env := by rfl) (hpl : (backTo pos (starEach es X.env)).any (·.1) = false := by rfl) :
    Ev X H0 L Qe F σ (.Call (.Name x p) (e :: es) [] pos) rr (m >>= fm) :=
  ev_calls (pe_call (E := E0) G hr hg hm hk hb .nil pass0 pa_s hdb he hpl) (fun _ _ z => z) ha (vc_fn ns) or
end
/-- the heads of a law's own def -/
def rScript (K : PySem.W.Frag) : Rep (List V) (List Int) := fun _ _ H vs ns => ∃ a, vs = [.ref a] ∧ SqL K H a (ns.map V.int) ∧ ns.length ≤ 63
end Rf


set_option Elab.async false
set_option linter.all false
set_option maxRecDepth 100000
set_option maxHeartbeats 1000000
namespace Rf
open PySem PySem.Spec L2 PyProof.Rows
open Py (py)
variable [TbC]

/-! ### joins and loops by a word on the state -/
@[reducible] def un0 {β : Type} (f : β) : Unit → β := fun _ => f
@[reducible] def un2 {α β γ : Type} (f : α → β → γ) : α × β → γ := fun s => f s.1 s.2
@[reducible] def un3 {α β γ δ : Type} (f : α → β → γ → δ) : α × β × γ → δ := fun s => f s.1 s.2.1 s.2.2
@[reducible] def un4 {α β γ δ ε : Type} (f : α → β → γ → δ → ε) : α × β × γ × δ → ε := fun s => f s.1 s.2.1 s.2.2.1 s.2.2.2
@[reducible] def un5 {α β γ δ ε ζ : Type} (f : α → β → γ → δ → ε → ζ) : α × β × γ × δ × ε → ζ := fun s => f s.1 s.2.1 s.2.2.1 s.2.2.2.1 s.2.2.2.2
@[reducible] def un6 {α β γ δ ε ζ η : Type} (f : α → β → γ → δ → ε → ζ → η) : α × β × γ × δ × ε × ζ → η := fun s => f s.1 s.2.1 s.2.2.1 s.2.2.2.1 s.2.2.2.2.1 s.2.2.2.2.2
theorem un0w {β : Type} {f : Out β} {u : Unit} {Po : β → Prop} {Qe : Nat → Int → Prop} (h : wpO (un0 f u) Po Qe) : wpO f Po Qe := h
theorem un2w {α β γ : Type} {f : α → β → Out γ} {a : α} {b : β} {Po : γ → Prop} {Qe : Nat → Int → Prop} (h : wpO (un2 f (a, b)) Po Qe) : wpO (f a b) Po Qe := h
theorem un3w {α β γ δ : Type} {f : α → β → γ → Out δ} {a : α} {b : β} {c : γ} {Po : δ → Prop} {Qe : Nat → Int → Prop} (h : wpO (un3 f (a, b, c)) Po Qe) : wpO (f a b c) Po Qe := h
theorem un4w {α β γ δ ε : Type} {f : α → β → γ → δ → Out ε} {a : α} {b : β} {c : γ} {d : δ} {Po : ε → Prop} {Qe : Nat → Int → Prop} (h : wpO (un4 f (a, b, c, d)) Po Qe) : wpO (f a b c d) Po Qe := h
theorem un5w {α β γ δ ε ζ : Type} {f : α → β → γ → δ → ε → Out ζ} {a : α} {b : β} {c : γ} {d : δ} {e : ε} {Po : ζ → Prop} {Qe : Nat → Int → Prop} (h : wpO (un5 f (a, b, c, d, e)) Po Qe) : wpO (f a b c d e) Po Qe := h
theorem un6w {α β γ δ ε ζ η : Type} {f : α → β → γ → δ → ε → ζ → Out η} {a : α} {b : β} {c : γ} {d : δ} {e : ε} {g : ζ} {Po : η → Prop} {Qe : Nat → Int → Prop} (h : wpO (un6 f (a, b, c, d, e, g)) Po Qe) : wpO (f a b c d e g) Po Qe := h
def Ctl.fin {ρ S : Type} {β : Type} (k : S → Out β) (kr : ρ → Out β) : Ctl ρ S → Out β
  | .go a => k a
  | .brk a => k a
  | .ret r => kr r
section
variable {X : Cx} {He Fe H0 : Hp} {L : List (Addr × HO)} {Qe : Nat → Int → Prop} {F H : Hp} {σ : L2.St} {α β γ ρ τ S : Type} [Py α] [Py β]
variable {e a b c : Expr} {es : List Expr} {body orelse rest : List Stmt} {st : Stmt} {pos p pos' : Pos} {x : Str} {D : Ends} {Po : τ → Prop}
theorem i_if {mc : Out Bool} {m n : Out τ} (hc : EvT X H0 L Qe F σ c mc) (P : Pt He Fe H0 L F H) (h : wpO (mc >>= fun b => if b = true then m else n) Po Qe)
    (k1 : ∀ F' H', wpO m Po Qe → Le F F' → Pt He Fe H0 L F' H' → sS X body D σ H') (k2 : ∀ F' H', wpO n Po Qe → Le F F' → Pt He Fe H0 L F' H' → sS X orelse D σ H') :
    s1 X (.If c body orelse pos) D σ H :=
  s1_of (ps_if pt_s pss_s pss_s) (hc F H (Le.refl _) P.st _ (wpO_to (wpO_bind.mp h) fun b w F' H' ad le st => by
    cases b with
    | true => exact k1 F' H' w ad.le (P.go ad le st)
    | false => exact k2 F' H' w ad.le (P.go ad le st)))
theorem b_join {m : Out S} {k : S → Out τ} (h : wpO (m >>= k) Po Qe) (R : S → L2.St → Hp → Prop) (h1 : ∀ Po' : S → Prop, wpO m Po' Qe → s1 X st { D with nx := fun σ' H' => ∃ s, R s σ' H' ∧ Po' s } σ H)
    (h2 : ∀ s σ' H', R s σ' H' → wpO (k s) Po Qe → sS X rest D σ' H') : sS X (st :: rest) D σ H :=
  sS_cut (h1 _ (wpO_bind.mp h)) fun σ' H' ⟨s, r, w⟩ => h2 s σ' H' r w
theorem wpO_fold {ι : Type} {f : ι → S → Out S} {i : ι} {is : List ι} {a : S} {k : S → Out τ} (h : wpO (foldO f (i :: is) a >>= k) Po Qe) : wpO (f i a) (fun a' => wpO (foldO f is a' >>= k) Po Qe) Qe := by
  unfold foldO at h
  rw [bind_asc] at h
  exact wpO_bind.mp h
theorem wpO_foldC {ι : Type} {f : ι → S → Out (Ctl ρ S)} {i : ι} {is : List ι} {a : S} {k : S → Out τ} {kr : ρ → Out τ} (h : wpO (foldC f (i :: is) a >>= Ctl.fin k kr) Po Qe) :
    wpO (f i a) (fun c => match c with | .go a' => wpO (foldC f is a' >>= Ctl.fin k kr) Po Qe | .brk a' => wpO (k a') Po Qe | .ret r => wpO (kr r) Po Qe) Qe := by
  unfold foldC at h
  rw [bind_asc] at h
  refine wpO_to (wpO_bind.mp h) fun c hc => ?_
  cases c with
  | go a' => exact hc
  | brk a' => exact hc
  | ret r => exact hc
/-- the loop over items that stand fixed, by values -/
def LoopL (X : Cx) (Qe : Nat → Int → Prop) (D : Ends) (body rest : List Stmt) {ι S : Type} (R : S → L2.St → Hp → Prop) (Itm : ι → V → Prop) (f : ι → S → Out S) (upd : L2.St → V → L2.St) : Prop :=
  ∀ i v s σ' H' (Po' : S → Prop), Itm i v → R s σ' H' → wpO (f i s) Po' Qe → sS X body { D with nx := fun σ H => ∃ s', R s' σ H ∧ Po' s', ct := fun σ H => ∃ s', R s' σ H ∧ Po' s', bk := fun _ _ => False } (upd σ' v) H'
/-- .. with break and return -/
def LoopC (X : Cx) (Qe : Nat → Int → Prop) (D : Ends) (body rest : List Stmt) {ι ρ S : Type} (R : S → L2.St → Hp → Prop) (Itm : ι → V → Prop) (f : ι → S → Out (Ctl ρ S)) (upd : L2.St → V → L2.St) (Pr : ρ → Prop) : Prop :=
  ∀ i v s σ' H' (Po' : Ctl ρ S → Prop), Itm i v → R s σ' H' → (∀ r, Po' (.ret r) → Pr r) → wpO (f i s) Po' Qe →
    sS X body { D with nx := fun σ H => ∃ s', R s' σ H ∧ Po' (.go s'), ct := fun σ H => ∃ s', R s' σ H ∧ Po' (.go s'), bk := fun σ H => ∃ s', R s' σ H ∧ Po' (.brk s') } (upd σ' v) H'
abbrev setN (j : Nat) : L2.St → V → L2.St := fun σ v => σ.set j (some v)
abbrev isI : Int → V → Prop := fun i v => v = .int i

/-- for name in range(..), from the turns -/
theorem range_fold {lo : Int} {n : Nat} {f : Int → S → Out S} {s0 : S} {k : S → Out τ} {j : Nat} (h : wpO (foldO f (rng lo (lo + n)) s0 >>= k) Po Qe) (R : S → L2.St → Hp → Prop) (h0 : R s0 σ H)
    (hs : LoopL X Qe D body rest R isI f (setN j)) (hd : ∀ s σ' H', R s σ' H' → wpO (k s) Po Qe → sS X rest D σ' H') :
    ∃ W : Nat → Nat → L2.St → Hp → Prop, (∃ m, W 0 m σ H) ∧ ∀ i m σ H, W i m σ H →
      ((Itr lo n).stop i H ∧ sS X rest D σ H) ∨ ((Itr lo n).go i H ∧ ∃ N : L2.St → Hp → Prop, (∀ σ' H', N σ' H' → ∃ m', m' < m ∧ W (i + 1) m' σ' H') ∧ ∀ x H', (Itr lo n).yld i H x H' → gName j x σ H' fun σ2 H2 => sS X body { D with nx := N, ct := N, bk := sS X rest D } σ2 H2) := by
  refine for_range (lo := lo) (n := n) (D := { D with nx := sS X rest D }) (tb := fun D' σ H => sS X body D' σ H) (fun i σ' H' => i ≤ n ∧ ∃ s, R s σ' H' ∧ wpO (foldO f (rng (lo + i) (lo + n)) s >>= k) Po Qe) ⟨Nat.zero_le _, s0, h0, ?_⟩ (fun i σ' H' hi q => ?_) fun σ' H' q => ?_
  · rw [show lo + ((0 : Nat) : Int) = lo by omega]
    exact h
  · obtain ⟨_, s, r, w⟩ := q
    rw [rng_drop hi] at w
    refine sS_mono (hs _ _ s σ' H' _ rfl r (wpO_fold w)) ⟨fun σ H z => ?_, fun _ _ z => z, fun _ _ z => z.elim, fun σ H z => ?_⟩
    · obtain ⟨s', r', w'⟩ := z
      exact ⟨hi, s', r', w'⟩
    · obtain ⟨s', r', w'⟩ := z
      exact ⟨hi, s', r', w'⟩
  · obtain ⟨_, s, r, w⟩ := q
    rw [rng_nil (Int.le_refl _)] at w
    exact hd _ _ _ r w
theorem range_foldC {lo : Int} {n : Nat} {f : Int → S → Out (Ctl ρ S)} {s0 : S} {k : S → Out τ} {kr : ρ → Out τ} {j : Nat} (h : wpO (foldC f (rng lo (lo + n)) s0 >>= Ctl.fin k kr) Po Qe) (R : S → L2.St → Hp → Prop) (h0 : R s0 σ H)
    (hs : LoopC X Qe D body rest R isI f (setN j) (fun r => wpO (kr r) Po Qe)) (hd : ∀ s σ' H', R s σ' H' → wpO (k s) Po Qe → sS X rest D σ' H') :
    ∃ W : Nat → Nat → L2.St → Hp → Prop, (∃ m, W 0 m σ H) ∧ ∀ i m σ H, W i m σ H →
      ((Itr lo n).stop i H ∧ sS X rest D σ H) ∨ ((Itr lo n).go i H ∧ ∃ N : L2.St → Hp → Prop, (∀ σ' H', N σ' H' → ∃ m', m' < m ∧ W (i + 1) m' σ' H') ∧ ∀ x H', (Itr lo n).yld i H x H' → gName j x σ H' fun σ2 H2 => sS X body { D with nx := N, ct := N, bk := sS X rest D } σ2 H2) := by
  refine for_range (lo := lo) (n := n) (D := { D with nx := sS X rest D }) (tb := fun D' σ H => sS X body D' σ H) (fun i σ' H' => i ≤ n ∧ ∃ s, R s σ' H' ∧ wpO (foldC f (rng (lo + i) (lo + n)) s >>= Ctl.fin k kr) Po Qe) ⟨Nat.zero_le _, s0, h0, ?_⟩ (fun i σ' H' hi q => ?_) fun σ' H' q => ?_
  · rw [show lo + ((0 : Nat) : Int) = lo by omega]
    exact h
  · obtain ⟨_, s, r, w⟩ := q
    rw [rng_drop hi] at w
    refine sS_mono (hs _ _ s σ' H' _ rfl r (fun r z => z) (wpO_foldC w)) ⟨fun σ H z => ?_, fun _ _ z => z, fun σ H z => ?_, fun σ H z => ?_⟩
    · obtain ⟨s', r', w'⟩ := z
      exact ⟨hi, s', r', w'⟩
    · obtain ⟨s', r', w'⟩ := z
      exact hd _ _ _ r' w'
    · obtain ⟨s', r', w'⟩ := z
      exact ⟨hi, s', r', w'⟩
  · obtain ⟨_, s, r, w⟩ := q
    rw [rng_nil (Int.le_refl _)] at w
    exact hd _ _ _ r w
theorem rng_n {n : Int} : rng 0 n = rng 0 ((0 : Int) + (n.toNat : Int)) := by
  by_cases hn : 0 ≤ n
  · rw [show (0 : Int) + (n.toNat : Int) = n by omega]
  · rw [rng_nil (by omega), rng_nil (by omega)]
theorem rng_2 {lo n : Int} : rng lo n = rng lo (lo + ((n - lo).toNat : Int)) := by
  by_cases hn : lo ≤ n
  · rw [show lo + ((n - lo).toNat : Int) = n by omega]
  · rw [rng_nil (by omega), rng_nil (by omega)]
variable {p1 p2 : Pos}
theorem l_r1 {m : Out Int} {f : Int → S → Out S} {s0 : S} {k : S → Out τ} {j : Nat} (hp : PassesOwn (model X.prog X.w) X.A X.env X.xe) (hc : X.calm = true) (hm : X.mg "range" = none) (hN : X.N.Nodup) (he : Ev X H0 L Qe F σ e (rE X.K) m) (P : Pt He Fe H0 L F H)
    (h : wpO (m >>= fun n => rngO 0 n >>= fun is => foldO f is s0 >>= k) Po Qe) (R : S → L2.St → Hp → Prop) (h0 : ∀ F' H', Le F F' → Pt He Fe H0 L F' H' → R s0 σ H')
    (hs : LoopL X Qe D body rest R isI f (setN j)) (hd : ∀ s σ' H', R s σ' H' → wpO (k s) Po Qe → sS X rest D σ' H') (hg : Gl X "range" := by rfl)
    (hj : X.N[j]? = some x := by rfl) (hx : Loc X.env.scope x := by first | exact Or.inl rfl | exact Or.inr rfl) (hf : X.fn x = true ∨ X.env.scope.names.lookup x = some .local := by first | exact .inl rfl | exact .inr rfl) (hst : starEach [e] X.env = (false, eval e X.env) :: starEach [] X.env := by rfl)
    (hfs : ∀ z, foldedSetIterable (.Call (.Name "range" p1) [e] [] p2) X.env z = pure z := by intro _; rfl) : sS X (.For (.Name x p) (.Call (.Name "range" p1) [e] [] p2) body [] pos :: rest) D σ H := by
  refine sS_cons (s1_of (ps_for hp hc (pi_range1 hg hm pa_s hst) (pg_name hN hj hx hf) pss_s hfs) ?_)
  refine (ea_one he okE hst) F H (Le.refl _) P.st _ (wpO_to (wpO_bind.mp h) fun n w vs F' H' ad le st rv => ?_)
  obtain ⟨v, rfl, rv⟩ := rv
  obtain ⟨hz, w⟩ := wpO_guard.mp (wpO_bind.mp w)
  rw [rng_n] at w
  exact ⟨n, by rw [dpI rv], hz.2.2.1, hz.2.2.2, range_fold w R (h0 F' H' ad.le (P.go ad le st)) hs hd⟩
theorem l_r1C {m : Out Int} {f : Int → S → Out (Ctl ρ S)} {s0 : S} {k : S → Out τ} {kr : ρ → Out τ} {j : Nat} (hp : PassesOwn (model X.prog X.w) X.A X.env X.xe) (hc : X.calm = true) (hm : X.mg "range" = none) (hN : X.N.Nodup) (he : Ev X H0 L Qe F σ e (rE X.K) m) (P : Pt He Fe H0 L F H)
    (h : wpO (m >>= fun n => rngO 0 n >>= fun is => foldC f is s0 >>= Ctl.fin k kr) Po Qe) (R : S → L2.St → Hp → Prop) (h0 : ∀ F' H', Le F F' → Pt He Fe H0 L F' H' → R s0 σ H')
    (hs : LoopC X Qe D body rest R isI f (setN j) (fun r => wpO (kr r) Po Qe)) (hd : ∀ s σ' H', R s σ' H' → wpO (k s) Po Qe → sS X rest D σ' H') (hg : Gl X "range" := by rfl)
    (hj : X.N[j]? = some x := by rfl) (hx : Loc X.env.scope x := by first | exact Or.inl rfl | exact Or.inr rfl) (hf : X.fn x = true ∨ X.env.scope.names.lookup x = some .local := by first | exact .inl rfl | exact .inr rfl) (hst : starEach [e] X.env = (false, eval e X.env) :: starEach [] X.env := by rfl)
    (hfs : ∀ z, foldedSetIterable (.Call (.Name "range" p1) [e] [] p2) X.env z = pure z := by intro _; rfl) : sS X (.For (.Name x p) (.Call (.Name "range" p1) [e] [] p2) body [] pos :: rest) D σ H := by
  refine sS_cons (s1_of (ps_for hp hc (pi_range1 hg hm pa_s hst) (pg_name hN hj hx hf) pss_s hfs) ?_)
  refine (ea_one he okE hst) F H (Le.refl _) P.st _ (wpO_to (wpO_bind.mp h) fun n w vs F' H' ad le st rv => ?_)
  obtain ⟨v, rfl, rv⟩ := rv
  obtain ⟨hz, w⟩ := wpO_guard.mp (wpO_bind.mp w)
  rw [rng_n] at w
  exact ⟨n, by rw [dpI rv], hz.2.2.1, hz.2.2.2, range_foldC w R (h0 F' H' ad.le (P.go ad le st)) hs hd⟩
theorem l_r2 {ma mb : Out Int} {f : Int → S → Out S} {s0 : S} {k : S → Out τ} {j : Nat} (hp : PassesOwn (model X.prog X.w) X.A X.env X.xe) (hc : X.calm = true) (hm : X.mg "range" = none) (hN : X.N.Nodup) (ha : Ev X H0 L Qe F σ a (rE X.K) ma) (hb : Ev X H0 L Qe F σ b (rE X.K) mb) (P : Pt He Fe H0 L F H)
    (h : wpO (ma >>= fun lo => mb >>= fun n => rngO lo n >>= fun is => foldO f is s0 >>= k) Po Qe) (R : S → L2.St → Hp → Prop) (h0 : ∀ F' H', Le F F' → Pt He Fe H0 L F' H' → R s0 σ H')
    (hs : LoopL X Qe D body rest R isI f (setN j)) (hd : ∀ s σ' H', R s σ' H' → wpO (k s) Po Qe → sS X rest D σ' H') (hg : Gl X "range" := by rfl)
    (hj : X.N[j]? = some x := by rfl) (hx : Loc X.env.scope x := by first | exact Or.inl rfl | exact Or.inr rfl) (hf : X.fn x = true ∨ X.env.scope.names.lookup x = some .local := by first | exact .inl rfl | exact .inr rfl) (hst : starEach [a, b] X.env = (false, eval a X.env) :: starEach [b] X.env := by rfl) (hst2 : starEach [b] X.env = (false, eval b X.env) :: starEach [] X.env := by rfl)
    (hfs : ∀ z, foldedSetIterable (.Call (.Name "range" p1) [a, b] [] p2) X.env z = pure z := by intro _; rfl) : sS X (.For (.Name x p) (.Call (.Name "range" p1) [a, b] [] p2) body [] pos :: rest) D σ H := by
  refine sS_cons (s1_of (ps_for hp hc (pi_range2 hg hm pa_s (by rw [hst, hst2]; rfl) (by rw [hst2]; rfl)) (pg_name hN hj hx hf) pss_s hfs) ?_)
  refine (ea_two ha hb okE okE hst hst2) F H (Le.refl _) P.st _ ?_
  refine wpO_bind.mpr (wpO_to (wpO_bind.mp h) fun lo w1 => wpO_bind.mpr (wpO_to (wpO_bind.mp w1) fun n w vs F' H' ad le st rv => ?_))
  obtain ⟨v, u, rfl, rv, ru⟩ := rv
  obtain ⟨hz, w⟩ := wpO_guard.mp (wpO_bind.mp w)
  rw [rng_2] at w
  exact ⟨lo, n, by rw [dpI rv, dpI ru], hz, range_fold w R (h0 F' H' ad.le (P.go ad le st)) hs hd⟩
theorem l_r2C {ma mb : Out Int} {f : Int → S → Out (Ctl ρ S)} {s0 : S} {k : S → Out τ} {kr : ρ → Out τ} {j : Nat} (hp : PassesOwn (model X.prog X.w) X.A X.env X.xe) (hc : X.calm = true) (hm : X.mg "range" = none) (hN : X.N.Nodup) (ha : Ev X H0 L Qe F σ a (rE X.K) ma) (hb : Ev X H0 L Qe F σ b (rE X.K) mb) (P : Pt He Fe H0 L F H)
    (h : wpO (ma >>= fun lo => mb >>= fun n => rngO lo n >>= fun is => foldC f is s0 >>= Ctl.fin k kr) Po Qe) (R : S → L2.St → Hp → Prop) (h0 : ∀ F' H', Le F F' → Pt He Fe H0 L F' H' → R s0 σ H')
    (hs : LoopC X Qe D body rest R isI f (setN j) (fun r => wpO (kr r) Po Qe)) (hd : ∀ s σ' H', R s σ' H' → wpO (k s) Po Qe → sS X rest D σ' H') (hg : Gl X "range" := by rfl)
    (hj : X.N[j]? = some x := by rfl) (hx : Loc X.env.scope x := by first | exact Or.inl rfl | exact Or.inr rfl) (hf : X.fn x = true ∨ X.env.scope.names.lookup x = some .local := by first | exact .inl rfl | exact .inr rfl) (hst : starEach [a, b] X.env = (false, eval a X.env) :: starEach [b] X.env := by rfl) (hst2 : starEach [b] X.env = (false, eval b X.env) :: starEach [] X.env := by rfl)
    (hfs : ∀ z, foldedSetIterable (.Call (.Name "range" p1) [a, b] [] p2) X.env z = pure z := by intro _; rfl) : sS X (.For (.Name x p) (.Call (.Name "range" p1) [a, b] [] p2) body [] pos :: rest) D σ H := by
  refine sS_cons (s1_of (ps_for hp hc (pi_range2 hg hm pa_s (by rw [hst, hst2]; rfl) (by rw [hst2]; rfl)) (pg_name hN hj hx hf) pss_s hfs) ?_)
  refine (ea_two ha hb okE okE hst hst2) F H (Le.refl _) P.st _ ?_
  refine wpO_bind.mpr (wpO_to (wpO_bind.mp h) fun lo w1 => wpO_bind.mpr (wpO_to (wpO_bind.mp w1) fun n w vs F' H' ad le st rv => ?_))
  obtain ⟨v, u, rfl, rv, ru⟩ := rv
  obtain ⟨hz, w⟩ := wpO_guard.mp (wpO_bind.mp w)
  rw [rng_2] at w
  exact ⟨lo, n, by rw [dpI rv, dpI ru], hz, range_foldC w R (h0 F' H' ad.le (P.go ad le st)) hs hd⟩
/-- over a list of values that stands still -/
theorem list_fold {f : α → S → Out S} {s0 : S} {k : S → Out τ} {j : Nat} {q : Addr} {ys : List V} {xs : List α} {Itm : α → V → Prop} (hlen : ys.length = xs.length) (hitm : ∀ (i : Nat) (a : α) (v : V), xs[i]? = some a → ys[i]? = some v → Itm a v) (h : wpO (foldO f xs s0 >>= k) Po Qe) (R : S → L2.St → Hp → Prop) (h0 : R s0 σ H) (hold : ∀ s σ' H', R s σ' H' → SqL X.K H' q ys)
    (hs : LoopL X Qe D body rest R Itm f (setN j)) (hd : ∀ s σ' H', R s σ' H' → wpO (k s) Po Qe → sS X rest D σ' H') :
    ∃ W : Nat → Nat → L2.St → Hp → Prop, (∃ m, W 0 m σ H) ∧ ∀ i m σ H, W i m σ H →
      ((Itl X.K q).stop i H ∧ sS X rest D σ H) ∨ ((Itl X.K q).go i H ∧ ∃ N : L2.St → Hp → Prop, (∀ σ' H', N σ' H' → ∃ m', m' < m ∧ W (i + 1) m' σ' H') ∧ ∀ x H', (Itl X.K q).yld i H x H' → gName j x σ H' fun σ2 H2 => sS X body { D with nx := N, ct := N, bk := sS X rest D } σ2 H2) := by
  refine for_list (K := X.K) (a := q) (xs := ys) (D := { D with nx := sS X rest D }) (tb := fun D' σ H => sS X body D' σ H) (fun i σ' H' => i ≤ ys.length ∧ ∃ s, R s σ' H' ∧ wpO (foldO f (xs.drop i) s >>= k) Po Qe) ⟨Nat.zero_le _, s0, h0, by rw [List.drop_zero]; exact h⟩ (fun i σ' H' _ z => ?_) (fun i v σ' H' hi z => ?_) fun σ' H' z => ?_
  · obtain ⟨_, s, r, _⟩ := z
    exact hold _ _ _ r
  · obtain ⟨_, s, r, w⟩ := z
    have hl : i < ys.length := (List.getElem?_eq_some_iff.mp hi).1
    have hl2 : i < xs.length := by omega
    rw [List.drop_eq_getElem_cons hl2] at w
    refine sS_mono (hs _ _ s σ' H' _ (hitm i _ _ (List.getElem?_eq_getElem hl2) hi) r (wpO_fold w)) ⟨fun σ H z => ?_, fun _ _ z => z, fun _ _ z => z.elim, fun σ H z => ?_⟩
    · obtain ⟨s', r', w'⟩ := z
      exact ⟨hl, s', r', w'⟩
    · obtain ⟨s', r', w'⟩ := z
      exact ⟨hl, s', r', w'⟩
  · obtain ⟨_, s, r, w⟩ := z
    rw [hlen, List.drop_length] at w
    exact hd _ _ _ r w
theorem list_foldC {f : α → S → Out (Ctl ρ S)} {s0 : S} {k : S → Out τ} {kr : ρ → Out τ} {j : Nat} {q : Addr} {ys : List V} {xs : List α} {Itm : α → V → Prop} (hlen : ys.length = xs.length) (hitm : ∀ (i : Nat) (a : α) (v : V), xs[i]? = some a → ys[i]? = some v → Itm a v) (h : wpO (foldC f xs s0 >>= Ctl.fin k kr) Po Qe) (R : S → L2.St → Hp → Prop) (h0 : R s0 σ H) (hold : ∀ s σ' H', R s σ' H' → SqL X.K H' q ys)
    (hs : LoopC X Qe D body rest R Itm f (setN j) (fun r => wpO (kr r) Po Qe)) (hd : ∀ s σ' H', R s σ' H' → wpO (k s) Po Qe → sS X rest D σ' H') :
    ∃ W : Nat → Nat → L2.St → Hp → Prop, (∃ m, W 0 m σ H) ∧ ∀ i m σ H, W i m σ H →
      ((Itl X.K q).stop i H ∧ sS X rest D σ H) ∨ ((Itl X.K q).go i H ∧ ∃ N : L2.St → Hp → Prop, (∀ σ' H', N σ' H' → ∃ m', m' < m ∧ W (i + 1) m' σ' H') ∧ ∀ x H', (Itl X.K q).yld i H x H' → gName j x σ H' fun σ2 H2 => sS X body { D with nx := N, ct := N, bk := sS X rest D } σ2 H2) := by
  refine for_list (K := X.K) (a := q) (xs := ys) (D := { D with nx := sS X rest D }) (tb := fun D' σ H => sS X body D' σ H) (fun i σ' H' => i ≤ ys.length ∧ ∃ s, R s σ' H' ∧ wpO (foldC f (xs.drop i) s >>= Ctl.fin k kr) Po Qe) ⟨Nat.zero_le _, s0, h0, by rw [List.drop_zero]; exact h⟩ (fun i σ' H' _ z => ?_) (fun i v σ' H' hi z => ?_) fun σ' H' z => ?_
  · obtain ⟨_, s, r, _⟩ := z
    exact hold _ _ _ r
  · obtain ⟨_, s, r, w⟩ := z
    have hl : i < ys.length := (List.getElem?_eq_some_iff.mp hi).1
    have hl2 : i < xs.length := by omega
    rw [List.drop_eq_getElem_cons hl2] at w
    refine sS_mono (hs _ _ s σ' H' _ (hitm i _ _ (List.getElem?_eq_getElem hl2) hi) r (fun r z => z) (wpO_foldC w)) ⟨fun σ H z => ?_, fun _ _ z => z, fun σ H z => ?_, fun σ H z => ?_⟩
    · obtain ⟨s', r', w'⟩ := z
      exact ⟨hl, s', r', w'⟩
    · obtain ⟨s', r', w'⟩ := z
      exact hd _ _ _ r' w'
    · obtain ⟨s', r', w'⟩ := z
      exact ⟨hl, s', r', w'⟩
  · obtain ⟨_, s, r, w⟩ := z
    rw [hlen, List.drop_length] at w
    exact hd _ _ _ r w
abbrev isD (K : PySem.W.Frag) (F : Hp) {α : Type} [Py α] : α → V → Prop := fun a v => Ds K F v (py a)
theorem itm_of {K : PySem.W.Frag} {F : Hp} {ys : List V} {xs : List α} (hy : DsAll K F ys (xs.map py)) : ∀ (i : Nat) (a : α) (v : V), xs[i]? = some a → ys[i]? = some v → isD K F a v := fun i a v h1 h2 => by
  obtain ⟨u, e, d⟩ := all_at hy h1
  rw [h2] at e
  cases e
  exact d
/-- for x in e, e frozen -/
theorem l_E {m : Out (List α)} {f : α → S → Out S} {s0 : S} {k : S → Out τ} {j : Nat} (hp : PassesOwn (model X.prog X.w) X.A X.env X.xe) (hc : X.calm = true) (hN : X.N.Nodup) (he : Ev X H0 L Qe F σ e (rE X.K) m) (P : Pt He Fe H0 L F H) (h : wpO (m >>= fun is => foldO f is s0 >>= k) Po Qe)
    (R : Hp → S → L2.St → Hp → Prop) (hold : ∀ F2 s σ' H', R F2 s σ' H' → Le F2 H') (h0 : ∀ F' H', Le F F' → Pt He Fe H0 L F' H' → R F' s0 σ H')
    (hs : ∀ F', Le F F' → LoopL X Qe D body rest (R F') (isD X.K F') f (setN j)) (hd : ∀ F' s σ' H', Le F F' → R F' s σ' H' → wpO (k s) Po Qe → sS X rest D σ' H')
    (hj : X.N[j]? = some x := by rfl) (hx : Loc X.env.scope x := by first | exact Or.inl rfl | exact Or.inr rfl) (hf : X.fn x = true ∨ X.env.scope.names.lookup x = some .local := by first | exact .inl rfl | exact .inr rfl)
    (hfs : ∀ z, foldedSetIterable e X.env z = pure z := by intro _; rfl) : sS X (.For (.Name x p) e body [] pos :: rest) D σ H := by
  refine sS_cons (s1_of (ps_for hp hc (pi_list pe_s) (pg_name hN hj hx hf) pss_s hfs) ?_)
  refine he F H (Le.refl _) P.st _ (wpO_to (wpO_bind.mp h) fun xs w v F' H' ad le st rv => ?_)
  obtain ⟨q, ys, rfl, hq, hy⟩ := dpL rv
  exact ⟨q, rfl, ⟨ys, st.lF.sql hq⟩, list_fold (all_len hy) (itm_of hy) w (R F') (h0 F' H' ad.le (P.go ad le st)) (fun s σ' H' r => (hold _ _ _ _ r).sql hq) (hs F' ad.le) fun s σ' H' => hd F' s σ' H' ad.le⟩
theorem l_EC {m : Out (List α)} {f : α → S → Out (Ctl ρ S)} {s0 : S} {k : S → Out τ} {kr : ρ → Out τ} {j : Nat} (hp : PassesOwn (model X.prog X.w) X.A X.env X.xe) (hc : X.calm = true) (hN : X.N.Nodup) (he : Ev X H0 L Qe F σ e (rE X.K) m) (P : Pt He Fe H0 L F H) (h : wpO (m >>= fun is => foldC f is s0 >>= Ctl.fin k kr) Po Qe)
    (R : Hp → S → L2.St → Hp → Prop) (hold : ∀ F2 s σ' H', R F2 s σ' H' → Le F2 H') (h0 : ∀ F' H', Le F F' → Pt He Fe H0 L F' H' → R F' s0 σ H')
    (hs : ∀ F', Le F F' → LoopC X Qe D body rest (R F') (isD X.K F') f (setN j) (fun r => wpO (kr r) Po Qe)) (hd : ∀ F' s σ' H', Le F F' → R F' s σ' H' → wpO (k s) Po Qe → sS X rest D σ' H')
    (hj : X.N[j]? = some x := by rfl) (hx : Loc X.env.scope x := by first | exact Or.inl rfl | exact Or.inr rfl) (hf : X.fn x = true ∨ X.env.scope.names.lookup x = some .local := by first | exact .inl rfl | exact .inr rfl)
    (hfs : ∀ z, foldedSetIterable e X.env z = pure z := by intro _; rfl) : sS X (.For (.Name x p) e body [] pos :: rest) D σ H := by
  refine sS_cons (s1_of (ps_for hp hc (pi_list pe_s) (pg_name hN hj hx hf) pss_s hfs) ?_)
  refine he F H (Le.refl _) P.st _ (wpO_to (wpO_bind.mp h) fun xs w v F' H' ad le st rv => ?_)
  obtain ⟨q, ys, rfl, hq, hy⟩ := dpL rv
  exact ⟨q, rfl, ⟨ys, st.lF.sql hq⟩, list_foldC (all_len hy) (itm_of hy) w (R F') (h0 F' H' ad.le (P.go ad le st)) (fun s σ' H' r => (hold _ _ _ _ r).sql hq) (hs F' ad.le) fun s σ' H' => hd F' s σ' H' ad.le⟩
/-- for x in name, the name a parameter's or an owned list -/
theorem l_V {f : α → S → Out S} {s0 : S} {k : S → Out τ} {j : Nat} (i : Nat) {q : Addr} {ys : List V} {xs : List α} {xn : Str} {pn : Pos} (hp : PassesOwn (model X.prog X.w) X.A X.env X.xe) (hc : X.calm = true) (hN : X.N.Nodup) (hq : SqL X.K H q ys) (hy : DsAll X.K F ys (xs.map py)) (h : wpO (foldO f xs s0 >>= k) Po Qe)
    (R : S → L2.St → Hp → Prop) (hold : ∀ s σ' H', R s σ' H' → SqL X.K H' q ys) (h0 : R s0 σ H) (hs : LoopL X Qe D body rest R (isD X.K F) f (setN j)) (hd : ∀ s σ' H', R s σ' H' → wpO (k s) Po Qe → sS X rest D σ' H')
    (hσ : σ[i]? = some (some (.ref q)) := by rfl) (hni : X.N[i]? = some xn := by rfl) (hnv : Vis X.env.scope xn := by first | exact Or.inl rfl | exact Or.inr (Or.inl rfl) | exact Or.inr (Or.inr rfl))
    (hj : X.N[j]? = some x := by rfl) (hx : Loc X.env.scope x := by first | exact Or.inl rfl | exact Or.inr rfl) (hf : X.fn x = true ∨ X.env.scope.names.lookup x = some .local := by first | exact .inl rfl | exact .inr rfl)
    (hfs : ∀ z, foldedSetIterable (.Name xn pn) X.env z = pure z := by intro _; rfl) (hd1 : (xn == ("__debug__" : Str)) = false := by decide) (hcd : (xn == ("__classdict__" : Str)) = false := by decide) : sS X (.For (.Name x p) (.Name xn pn) body [] pos :: rest) D σ H := by
  refine sS_cons (s1_of (ps_for hp hc (pi_list (pe_var hni hnv hd1 hcd)) (pg_name hN hj hx hf) pss_s hfs) ?_)
  exact ⟨_, hσ, q, rfl, ⟨ys, hq⟩, list_fold (all_len hy) (itm_of hy) h R h0 hold hs hd⟩
theorem l_VC {f : α → S → Out (Ctl ρ S)} {s0 : S} {k : S → Out τ} {kr : ρ → Out τ} {j : Nat} (i : Nat) {q : Addr} {ys : List V} {xs : List α} {xn : Str} {pn : Pos} (hp : PassesOwn (model X.prog X.w) X.A X.env X.xe) (hc : X.calm = true) (hN : X.N.Nodup) (hq : SqL X.K H q ys) (hy : DsAll X.K F ys (xs.map py)) (h : wpO (foldC f xs s0 >>= Ctl.fin k kr) Po Qe)
    (R : S → L2.St → Hp → Prop) (hold : ∀ s σ' H', R s σ' H' → SqL X.K H' q ys) (h0 : R s0 σ H) (hs : LoopC X Qe D body rest R (isD X.K F) f (setN j) (fun r => wpO (kr r) Po Qe)) (hd : ∀ s σ' H', R s σ' H' → wpO (k s) Po Qe → sS X rest D σ' H')
    (hσ : σ[i]? = some (some (.ref q)) := by rfl) (hni : X.N[i]? = some xn := by rfl) (hnv : Vis X.env.scope xn := by first | exact Or.inl rfl | exact Or.inr (Or.inl rfl) | exact Or.inr (Or.inr rfl))
    (hj : X.N[j]? = some x := by rfl) (hx : Loc X.env.scope x := by first | exact Or.inl rfl | exact Or.inr rfl) (hf : X.fn x = true ∨ X.env.scope.names.lookup x = some .local := by first | exact .inl rfl | exact .inr rfl)
    (hfs : ∀ z, foldedSetIterable (.Name xn pn) X.env z = pure z := by intro _; rfl) (hd1 : (xn == ("__debug__" : Str)) = false := by decide) (hcd : (xn == ("__classdict__" : Str)) = false := by decide) : sS X (.For (.Name x p) (.Name xn pn) body [] pos :: rest) D σ H := by
  refine sS_cons (s1_of (ps_for hp hc (pi_list (pe_var hni hnv hd1 hcd)) (pg_name hN hj hx hf) pss_s hfs) ?_)
  exact ⟨_, hσ, q, rfl, ⟨ys, hq⟩, list_foldC (all_len hy) (itm_of hy) h R h0 hold hs hd⟩
/-- while -/
theorem wpO_while {cm : S → Out Bool} {f : S → Out S} {n : Nat} {a : S} {k : S → Out τ} (h : wpO (whileO cm f n a >>= k) Po Qe) : ∃ m, n = m + 1 ∧ wpO (cm a) (fun b => if b = true then wpO (f a) (fun a' => wpO (whileO cm f m a' >>= k) Po Qe) Qe else wpO (k a) Po Qe) Qe := by
  cases n with
  | zero => exact h.elim
  | succ m =>
    refine ⟨m, rfl, ?_⟩
    unfold whileO at h
    rw [bind_asc] at h
    refine wpO_to (wpO_bind.mp h) fun b w => ?_
    cases b with
    | true =>
      have w : wpO ((f a >>= whileO cm f m) >>= k) Po Qe := w
      rw [bind_asc] at w
      exact wpO_bind.mp w
    | false => exact w
theorem l_while {cm : S → Out Bool} {f : S → Out S} {n : Nat} {s0 : S} {k : S → Out τ} (hp : PassesOwn (model X.prog X.w) X.A X.env X.xe) (h : wpO (whileO cm f n s0 >>= k) Po Qe) (R : S → L2.St → Hp → Prop) (h0 : R s0 σ H)
    (ht : ∀ s σ' H' (Pb : Bool → Prop), R s σ' H' → wpO (cm s) Pb Qe → sT X c σ' H' (fun b H1 => R s σ' H1 ∧ Pb b))
    (hs : ∀ s σ' H' (Po' : S → Prop), R s σ' H' → wpO (f s) Po' Qe → sS X body { D with nx := fun σ H => ∃ s', R s' σ H ∧ Po' s', ct := fun σ H => ∃ s', R s' σ H ∧ Po' s', bk := fun _ _ => False } σ' H')
    (hd : ∀ s σ' H', R s σ' H' → wpO (k s) Po Qe → sS X rest D σ' H') : sS X (.While c body [] pos :: rest) D σ H := by
  refine sS_cons (s1_of (ps_while hp pt_s pss_s) ⟨fun n σ' H' => ∃ s, R s σ' H' ∧ wpO (whileO cm f n s >>= k) Po Qe, ⟨n, s0, h0, h⟩, fun n σ' H' ⟨s, r, w⟩ => ?_⟩)
  obtain ⟨m, rfl, w1⟩ := wpO_while w
  refine sT_mono (ht s σ' H' _ r w1) fun b H1 ⟨r1, w1⟩ => ?_
  cases b with
  | true => exact ⟨_, fun σ2 H2 z => ⟨m, Nat.lt_succ_self _, z⟩, sS_mono (hs s σ' H1 _ r1 w1) ⟨fun _ _ z => z, fun _ _ z => z, fun _ _ z => z.elim, fun _ _ z => z⟩⟩
  | false => exact hd s σ' H1 r1 w1
theorem wpO_whileC {cm : S → Out Bool} {f : S → Out (Ctl ρ S)} {n : Nat} {a : S} {k : S → Out τ} {kr : ρ → Out τ} (h : wpO (whileC cm f n a >>= Ctl.fin k kr) Po Qe) :
    ∃ m, n = m + 1 ∧ wpO (cm a) (fun b => if b = true then wpO (f a) (fun z => match z with | .go a' => wpO (whileC cm f m a' >>= Ctl.fin k kr) Po Qe | .brk a' => wpO (k a') Po Qe | .ret r => wpO (kr r) Po Qe) Qe else wpO (k a) Po Qe) Qe := by
  cases n with
  | zero => exact h.elim
  | succ m =>
    refine ⟨m, rfl, ?_⟩
    unfold whileC at h
    rw [bind_asc] at h
    refine wpO_to (wpO_bind.mp h) fun b w => ?_
    cases b with
    | true =>
      rw [if_pos rfl, bind_asc] at w
      rw [if_pos rfl]
      refine wpO_to (wpO_bind.mp w) fun z hz => ?_
      cases z with
      | go a' => exact hz
      | brk a' => exact hz
      | ret r => exact hz
    | false => exact w
theorem l_whileC {cm : S → Out Bool} {f : S → Out (Ctl ρ S)} {n : Nat} {s0 : S} {k : S → Out τ} {kr : ρ → Out τ} (hp : PassesOwn (model X.prog X.w) X.A X.env X.xe) (h : wpO (whileC cm f n s0 >>= Ctl.fin k kr) Po Qe) (R : S → L2.St → Hp → Prop) (h0 : R s0 σ H)
    (ht : ∀ s σ' H' (Pb : Bool → Prop), R s σ' H' → wpO (cm s) Pb Qe → sT X c σ' H' (fun b H1 => R s σ' H1 ∧ Pb b))
    (hs : ∀ s σ' H' (Po' : Ctl ρ S → Prop), R s σ' H' → (∀ r, Po' (.ret r) → wpO (kr r) Po Qe) → wpO (f s) Po' Qe → sS X body { D with nx := fun σ H => ∃ s', R s' σ H ∧ Po' (.go s'), ct := fun σ H => ∃ s', R s' σ H ∧ Po' (.go s'), bk := fun σ H => ∃ s', R s' σ H ∧ Po' (.brk s') } σ' H')
    (hd : ∀ s σ' H', R s σ' H' → wpO (k s) Po Qe → sS X rest D σ' H') : sS X (.While c body [] pos :: rest) D σ H := by
  refine sS_cons (s1_of (ps_while hp pt_s pss_s) ⟨fun n σ' H' => ∃ s, R s σ' H' ∧ wpO (whileC cm f n s >>= Ctl.fin k kr) Po Qe, ⟨n, s0, h0, h⟩, fun n σ' H' ⟨s, r, w⟩ => ?_⟩)
  obtain ⟨m, rfl, w1⟩ := wpO_whileC w
  refine sT_mono (ht s σ' H' _ r w1) fun b H1 ⟨r1, w1⟩ => ?_
  cases b with
  | true => exact ⟨_, fun σ2 H2 z => ⟨m, Nat.lt_succ_self _, z⟩, sS_mono (hs s σ' H1 _ r1 (fun _ z => z) w1) ⟨fun _ _ z => z, fun _ _ z => z, fun _ _ ⟨s', r', w'⟩ => hd s' _ _ r' w', fun _ _ z => z⟩⟩
  | false => exact hd s σ' H1 r1 w1
/-- a test, run -/
theorem et_run {mc : Out Bool} {Pb : Bool → Prop} {Q : Bool → Hp → Prop} (hc : EvT X H0 L Qe F σ c mc) (P : Pt He Fe H0 L F H) (h : wpO mc Pb Qe) (k : ∀ b F' H', Pb b → Le F F' → Pt He Fe H0 L F' H' → Q b H') : sT X c σ H Q :=
  hc F H (Le.refl _) P.st _ (wpO_to h fun b w F' H' ad le st => k b F' H' w ad.le (P.go ad le st))

/-! ### comprehensions -/
theorem wpO_compO {ι : Type} {cm : ι → Out Bool} {f : ι → Out α} {i : ι} {is : List ι} {Q : List α → Prop} (h : wpO (compO cm f (i :: is)) Q Qe) :
    wpO (cm i) (fun b => if b = true then wpO (f i) (fun a => wpO (compO cm f is) (fun r => Q (a :: r)) Qe) Qe else wpO (compO cm f is) Q Qe) Qe := by
  unfold compO at h
  refine wpO_to (wpO_bind.mp h) fun b w => ?_
  cases b with
  | true => exact wpO_to (wpO_bind.mp w) fun a w1 => wpO_bind.mp w1
  | false => exact w
end
end Rf


set_option Elab.async false
set_option linter.all false
set_option maxRecDepth 100000
set_option maxHeartbeats 1000000
namespace Rf
open PySem PySem.Spec L2 PyProof.Rows
open Py (py)
variable [TbC]
/-! ### comprehensions -/
def TeB (X : Cx) (scope : Scope) (elt : Expr) : TE := fun σ H Q => ∀ (s : Shared) (H' : Hp) (C : Addr) (cl : List (Str × Addr)) (fp : List Addr), sE (X.blk s H' scope (compEnvC scope cl C X.env) fp) elt σ H Q
def TtB (X : Cx) (scope : Scope) (ifs : List Expr) : TT := fun σ H Q => ∀ (s : Shared) (H' : Hp) (C : Addr) (cl : List (Str × Addr)) (fp : List Addr), ∃ t, PTs (X.blk s H' scope (compEnvC scope cl C X.env) fp) ifs t ∧ t σ H Q
def EvTs (X : Cx) (H0 : Hp) (L : List (Addr × HO)) (Qe : Nat → Int → Prop) (F : Hp) (σ : L2.St) (ifs : List Expr) (m : Out Bool) : Prop :=
  ∃ t, PTs X ifs t ∧ ∀ F1 H, Le F F1 → Sta H0 F1 L H → ∀ Q : Bool → Hp → Prop, wpO m (fun a => ∀ F2 H2, Adv F1 H F2 → Le H H2 → Sta H0 F2 L H2 → Q a H2) Qe → t σ H Q
section
variable {X : Cx} {H0 : Hp} {L : List (Addr × HO)} {Qe : Nat → Int → Prop} {F : Hp} {σ : L2.St} {α β γ ρ τ : Type} [Py α] [Py β]
variable {e elt c : Expr} {ifs : List Expr} {pos p p1 p2 spos py' : Pos} {x y : Str} {scope : Scope}
theorem ets_nil : EvTs X H0 L Qe F σ [] (.ok true) := ⟨_, pts_nil, fun F1 H l st Q w => w F1 H (Adv.refl _ _) (Le.refl _) st⟩
theorem ets_one {m : Out Bool} (h : EvT X H0 L Qe F σ c m) : EvTs X H0 L Qe F σ [c] m := ⟨_, pts_one pt_s, fun F1 H l st Q w => h F1 H l st Q w⟩
theorem Sta.touch {F0 Hs H : Hp} {D : Addr} {o o1 : HO} (s0 : Sta H0 F0 L Hs) (n : Hs D = none) (s : Sta H0 F L H) (nF : F D = none) (h : H D = some o1) (k : Pl o1) : Sta H0 F L (upd H D o) := by
  refine ⟨s.l0.put (s0.l0.back n) h k, s.lF.put nF h k, fun q hq => ?_, s.nd, s.tt⟩
  have h := s.own q hq
  rw [upd_ne (ne_of_none (s0.own q hq).1 n)]
  exact h
theorem Le.touch {Hs H : Hp} {D : Addr} {o o1 : HO} (n : Hs D = none) (l : Le Hs H) (h : H D = some o1) (k : Pl o1) : Le Hs (upd H D o) := l.put n h k
/-- how the list stands after i items: as so far, the rest still to come -/
structure LcAt {ι : Type} (K : PySem.W.Frag) (H0 : Hp) (L : List (Addr × HO)) (Qe : Nat → Int → Prop) (F1 H1 : Hp) (D : Addr) (cm : ι → Out Bool) (f : ι → Out α) (rest : List ι) (Post : List α → Prop) (n : Nat) (H : Hp) : Prop where
  ex : ∃ F' acc as, Sta H0 F' L H ∧ Adv F1 H1 F' ∧ H D = some (.lst acc) ∧ F' D = none ∧ DsAll K F' acc (as.map py) ∧ acc.length ≤ n ∧ wpO (compO cm f rest) (fun r => Post (as ++ r)) Qe
  le : Le H1 H
theorem lc_turn {ι : Type} {F1 H1 H : Hp} {D : Addr} {cm : ι → Out Bool} {f : ι → Out α} {i : ι} {is : List ι} {Post : List α → Prop} {n : Nat} {σ2 : L2.St} (s0 : Sta H0 F1 L H1) (hD : H1 D = none) (hn : n < sizeLine) (q : LcAt X.K H0 L Qe F1 H1 D cm f (i :: is) Post n H)
    (hc : ∀ F2, Le F1 F2 → ∀ (s : Shared) (H' : Hp) (C : Addr) (cl : List (Str × Addr)) (fp : List Addr), EvTs (X.blk s H' scope (compEnvC scope cl C X.env) fp) H0 L Qe F2 σ2 ifs (cm i))
    (he : ∀ F2, Le F1 F2 → ∀ (s : Shared) (H' : Hp) (C : Addr) (cl : List (Str × Addr)) (fp : List Addr), Ev (X.blk s H' scope (compEnvC scope cl C X.env) fp) H0 L Qe F2 σ2 elt (rE X.K) (f i))
    {Nx : Hp → Prop} (hNx : ∀ H', LcAt X.K H0 L Qe F1 H1 D cm f is Post (n + 1) H' → Nx H') :
    TtB X scope ifs σ2 H fun b H3 => if b = true then TeB X scope elt σ2 H3 fun y H4 => ∃ acc, H4 D = some (.lst acc) ∧ acc.length < sizeLine ∧ Nx (upd H4 D (.lst (acc ++ [y]))) else Nx H3 := by
  obtain ⟨⟨F', acc, as, st, ad, hd, nF, hy, hl, w⟩, le⟩ := q
  intro s H' C cl fp
  obtain ⟨t, pt, kt⟩ := hc F' ad.le s H' C cl fp
  refine ⟨t, pt, kt F' H (Le.refl _) st _ (wpO_to (wpO_compO w) fun b w2 F2 H2 ad2 le2 st2 => ?_)⟩
  have a2 := ad.trans le.dom ad2
  cases b with
  | true =>
    rw [if_pos rfl]
    rw [if_pos rfl] at w2
    intro s H'' C cl fp
    refine he F2 a2.le s H'' C cl fp F2 H2 (Le.refl _) st2 _ (wpO_to w2 fun a w3 v F3 H3 ad3 le3 st3 rv => ⟨acc, le3.at (le2.at hd), Nat.lt_of_le_of_lt hl hn, hNx _ ⟨⟨F3, acc ++ [v], as ++ [a], ?_, a2.trans (le.trans le2).dom ad3, upd_same, ?_, ?_, ?_, ?_⟩, ?_⟩⟩)
    · exact Sta.touch s0 hD st3 (ad3.nw _ _ (le2.at hd) (ad2.nw _ _ hd nF)) (le3.at (le2.at hd)) Pl.lst
    · exact ad3.nw _ _ (le2.at hd) (ad2.nw _ _ hd nF)
    · exact all_snoc (hy.mo (ad2.le.trans ad3.le)) rv
    · rw [List.length_append]
      exact Nat.succ_le_succ hl
    · refine wpO_to w3 fun r q => ?_
      rw [List.append_assoc]
      exact q
    · exact Le.touch hD (le.trans (le2.trans le3)) (le3.at (le2.at hd)) Pl.lst
  | false =>
    rw [if_neg Bool.false_ne_true]
    rw [if_neg Bool.false_ne_true] at w2
    exact hNx _ ⟨⟨F2, acc, as, st2, a2, le2.at hd, ad2.nw _ _ hd nF, hy.mo ad2.le, Nat.le_succ_of_le hl, w2⟩, le.trans le2⟩
theorem lc_end {ι : Type} {F1 H1 H : Hp} {D : Addr} {cm : ι → Out Bool} {f : ι → Out α} {Post : List α → Prop} {n : Nat} {Q : VK} (hD : H1 D = none) (q : LcAt X.K H0 L Qe F1 H1 D cm f [] Post n H)
    (hq : ∀ xs, Post xs → ∀ v F2 H2, Adv F1 H1 F2 → Le H1 H2 → Sta H0 F2 L H2 → rL X.K H1 F2 H2 v xs → Q v H2) : Q (.ref D) H := by
  obtain ⟨⟨F', acc, as, st, ad, hd, nF, hy, hl, w⟩, le⟩ := q
  have w : Post (as ++ []) := w
  rw [List.append_nil] at w
  exact hq as w _ F' H ad le st ⟨D, acc, rfl, hD, nF, hd, hy⟩
theorem lc_start {ι : Type} {F1 H1 : Hp} {D : Addr} {cm : ι → Out Bool} {f : ι → Out α} {is : List ι} {Post : List α → Prop} (s0 : Sta H0 F1 L H1) (hD : H1 D = none) (w : wpO (compO cm f is) Post Qe) : LcAt X.K H0 L Qe F1 H1 D cm f is Post 0 (upd H1 D (.lst [])) :=
  ⟨⟨F1, [], [], s0.new hD, Adv.refl _ _, upd_same, s0.lF.back hD, .nil, Nat.le_refl _, w⟩, Le.new hD⟩
theorem wipe1 {j : Nat} {v : V} : wipe ((wipe σ [j]).set j (some v)) [j] = wipe σ [j] := by
  show (((σ.set j none).set j (some v)).set j none) = σ.set j none
  rw [List.set_set, List.set_set]
/-- where the list's items come from -/
def cmpR (lo hi : Int) : Out (List Int) := guardO ((-(2 ^ 62) ≤ lo ∧ lo < 2 ^ 62 ∧ -(2 ^ 62) ≤ hi ∧ hi < 2 ^ 62) ∧ (hi - lo).toNat ≤ sizeLine) (rng lo hi)
abbrev LcC (X : Cx) (H0 : Hp) (L : List (Addr × HO)) (Qe : Nat → Int → Prop) (scope : Scope) (ifs : List Expr) (elt : Expr) (j : Nat) (σ : L2.St) {ι α : Type} [Py α] (F : Hp) (Itm : Hp → ι → V → Prop) (cm : ι → Out Bool) (f : ι → Out α) : Prop :=
  ∀ F2 i v, Le F F2 → Itm F2 i v → ∀ (s : Shared) (H' : Hp) (C : Addr) (cl : List (Str × Addr)) (fp : List Addr),
    EvTs (X.blk s H' scope (compEnvC scope cl C X.env) fp) H0 L Qe F2 ((wipe σ [j]).set j (some v)) ifs (cm i) ∧ Ev (X.blk s H' scope (compEnvC scope cl C X.env) fp) H0 L Qe F2 ((wipe σ [j]).set j (some v)) elt (rE X.K) (f i)
theorem lc_rng {lo : Int} {n : Nat} {j : Nat} {cm : Int → Out Bool} {f : Int → Out α} {F1 H1 : Hp} {D : Addr} {Q : VK} (s0 : Sta H0 F1 L H1) (l : Le F F1) (hD : H1 D = none) (hn : n ≤ sizeLine)
    (w : wpO (compO cm f (rng lo (lo + n))) (fun xs => ∀ v F2 H2, Adv F1 H1 F2 → Le H1 H2 → Sta H0 F2 L H2 → rL X.K H1 F2 H2 v xs → Q v H2) Qe) (hb : LcC X H0 L Qe scope ifs elt j σ F (fun _ => isI) cm f) :
    ∃ W : Nat → Nat → Hp → Prop, (∃ m, W 0 m (upd H1 D (.lst []))) ∧ ∀ i m H, W i m H →
      ((Itr lo n).stop i H ∧ Q (.ref D) H) ∨ ((Itr lo n).go i H ∧ ∃ Nx : Hp → Prop, (∀ H', Nx H' → ∃ m', m' < m ∧ W (i + 1) m' H') ∧ ∀ x H', (Itr lo n).yld i H x H' → gName j x (wipe σ [j]) H' fun σ2 H2 => wipe σ2 [j] = wipe σ [j] ∧ TtB X scope ifs σ2 H2 fun b H3 =>
        if b = true then TeB X scope elt σ2 H3 fun y H4 => ∃ acc, H4 D = some (.lst acc) ∧ acc.length < sizeLine ∧ Nx (upd H4 D (.lst (acc ++ [y]))) else Nx H3) := by
  refine lc_range (g := gName j) (tt := TtB X scope ifs) (te := TeB X scope elt) (Qd := fun H => Q (.ref D) H) (fun i H => i ≤ n ∧ LcAt X.K H0 L Qe F1 H1 D cm f (rng (lo + i) (lo + n)) _ i H) ⟨Nat.zero_le _, by
    rw [show lo + ((0 : Nat) : Int) = lo by omega]
    exact lc_start s0 hD w⟩ (fun i H hi q => ⟨wipe1, ?_⟩) fun H q => ?_
  · obtain ⟨_, q⟩ := q
    rw [rng_drop hi] at q
    exact lc_turn (X := X) (scope := scope) (ifs := ifs) (elt := elt) (σ2 := (wipe σ [j]).set j (some (.int (lo + i)))) s0 hD (Nat.lt_of_lt_of_le hi hn) q (fun F2 l2 s H' C cl fp => (hb F2 _ _ (l.trans l2) rfl s H' C cl fp).1) (fun F2 l2 s H' C cl fp => (hb F2 _ _ (l.trans l2) rfl s H' C cl fp).2) fun H' z => ⟨hi, z⟩
  · obtain ⟨_, q⟩ := q
    rw [rng_nil (Int.le_refl _)] at q
    exact lc_end hD q fun xs h => h
theorem lc_lst {ι : Type} [Py ι] {q : Addr} {ys : List V} {xs : List ι} {j : Nat} {cm : ι → Out Bool} {f : ι → Out α} {F1 H1 : Hp} {D : Addr} {Q : VK} (s0 : Sta H0 F1 L H1) (l : Le F F1) (hD : H1 D = none) (hq : SqL X.K H1 q ys) (hy : DsAll X.K F1 ys (xs.map py)) (hn : ys.length ≤ sizeLine)
    (w : wpO (compO cm f xs) (fun xs => ∀ v F2 H2, Adv F1 H1 F2 → Le H1 H2 → Sta H0 F2 L H2 → rL X.K H1 F2 H2 v xs → Q v H2) Qe) (hb : LcC X H0 L Qe scope ifs elt j σ F (fun F => isD X.K F) cm f) :
    ∃ W : Nat → Nat → Hp → Prop, (∃ m, W 0 m (upd H1 D (.lst []))) ∧ ∀ i m H, W i m H →
      ((Itl X.K q).stop i H ∧ Q (.ref D) H) ∨ ((Itl X.K q).go i H ∧ ∃ Nx : Hp → Prop, (∀ H', Nx H' → ∃ m', m' < m ∧ W (i + 1) m' H') ∧ ∀ x H', (Itl X.K q).yld i H x H' → gName j x (wipe σ [j]) H' fun σ2 H2 => wipe σ2 [j] = wipe σ [j] ∧ TtB X scope ifs σ2 H2 fun b H3 =>
        if b = true then TeB X scope elt σ2 H3 fun y H4 => ∃ acc, H4 D = some (.lst acc) ∧ acc.length < sizeLine ∧ Nx (upd H4 D (.lst (acc ++ [y]))) else Nx H3) := by
  have hlen := all_len hy
  refine lc_list (K := X.K) (a := q) (xs := ys) (g := gName j) (tt := TtB X scope ifs) (te := TeB X scope elt) (Qd := fun H => Q (.ref D) H) (fun i H => i ≤ ys.length ∧ LcAt X.K H0 L Qe F1 H1 D cm f (xs.drop i) _ i H) ⟨Nat.zero_le _, by
    rw [List.drop_zero]
    exact lc_start s0 hD w⟩ (fun i H hi z => z.2.le.sql hq) (fun i v H hi z => ⟨wipe1, ?_⟩) fun H z => ?_
  · obtain ⟨_, z⟩ := z
    have hl : i < ys.length := (List.getElem?_eq_some_iff.mp hi).1
    have hl2 : i < xs.length := by omega
    rw [List.drop_eq_getElem_cons hl2] at z
    have hv := itm_of hy i _ _ (List.getElem?_eq_getElem hl2) hi
    exact lc_turn (X := X) (scope := scope) (ifs := ifs) (elt := elt) (σ2 := (wipe σ [j]).set j (some v)) s0 hD (Nat.lt_of_lt_of_le hl hn) z (fun F2 l2 s H' C cl fp => (hb F2 _ _ (l.trans l2) (hv.mo l2) s H' C cl fp).1) (fun F2 l2 s H' C cl fp => (hb F2 _ _ (l.trans l2) (hv.mo l2) s H' C cl fp).2) fun H' z => ⟨hl, z⟩
  · obtain ⟨_, z⟩ := z
    rw [hlen, List.drop_length] at z
    exact lc_end hD z fun xs h => h
/-- the source a list, its size known -/
def iListB (K : PySem.W.Frag) (tl : TE) : TI := fun σ H R => tl σ H fun x H1 => ∃ a xs, x = .ref a ∧ SqL K H1 a xs ∧ (xs.length ≤ sizeLine → R (Itl K a) H1)
theorem pi_listB {tg : Expr} : PI X tg e (iListB X.K (sE X e)) := by
  refine ⟨fun pins s σ H R I h => ?_⟩
  have h' : iList X.K (sE X e) σ H (fun J H1 => ∃ a xs, J = Itl X.K a ∧ SqL X.K H1 a xs ∧ (xs.length ≤ sizeLine → R J H1)) := sE_mono h fun v H' ⟨a, xs, e1, hq, k⟩ => ⟨a, e1, ⟨xs, hq⟩, a, xs, rfl, hq, k⟩
  refine thn ((pi_list (tg := tg) pe_s).run pins s σ H _ I h') fun v s1 h1 => thn h1 fun itv s2 h2 => ?_
  obtain ⟨it, fp, tn, J, H2, e1, I2, T, st2, f2, a, xs, ej, hq, k⟩ := h2
  obtain ⟨_, _, _, hz⟩ := I2.list hq
  exact ⟨it, fp, tn, J, H2, e1, I2, T, st2, f2, k hz⟩
theorem teb_pe {s : Shared} {H' : Hp} {C : Addr} {cl : List (Str × Addr)} {fp : List Addr} : PE (X.blk s H' scope (compEnvC scope cl C X.env) fp) elt (TeB X scope elt) := ⟨fun pins s' σ H Q I h => h s H' C cl fp pins s' I⟩
theorem ttb_pt {s : Shared} {H' : Hp} {C : Addr} {cl : List (Str × Addr)} {fp : List Addr} : PTs (X.blk s H' scope (compEnvC scope cl C X.env) fp) ifs (TtB X scope ifs) := ⟨fun pins s' σ H Q I h => by
  obtain ⟨t, p, q⟩ := h s H' C cl fp
  exact p.run pins s' σ H Q I q⟩
abbrev BlkG (X : Cx) (scope : Scope) (x : Str) (j : Nat) (p : Pos) : Prop := ∀ (s : Shared) (H : Hp) (C : Addr) (cl : List (Str × Addr)) (fp : List Addr), PG (X.blk s H scope (compEnvC scope cl C X.env) fp) (.Name x p) (gName j)
theorem lcr_R1 {m : Out Int} {cm : Int → Out Bool} {f : Int → Out α} {j : Nat} (hm : X.mg "range" = none) (he : Ev X H0 L Qe F σ e (rE X.K) m) (hb : LcC X H0 L Qe scope ifs elt j σ F (fun _ => isI) cm f) (hg : Gl X "range" := by rfl) (hst : starEach [e] X.env = (false, eval e X.env) :: starEach [] X.env := by rfl) :
    ∀ F1 H, Le F F1 → Sta H0 F1 L H → ∀ Q : VK, wpO (m >>= fun n => cmpR 0 n >>= fun is => compO cm f is) (fun a => ∀ v F2 H2, Adv F1 H F2 → Le H H2 → Sta H0 F2 L H2 → rL X.K H F2 H2 v a → Q v H2) Qe →
      tLc (iRng1 (sA X [e])) (gName j) (TtB X scope ifs) (TeB X scope elt) [j] σ H Q := fun F1 H l st Q w => by
  refine (ea_one he okE hst) F1 H l st _ (wpO_to (wpO_bind.mp w) fun n w1 vs F' H' ad le st1 rv => ?_)
  obtain ⟨v, rfl, rv⟩ := rv
  obtain ⟨hz, w2⟩ := wpO_guard.mp (wpO_bind.mp w1)
  rw [rng_n] at w2
  have e0 : (n - 0).toNat = n.toNat := by rw [Int.sub_zero]
  refine ⟨n, by rw [dpI rv], hz.1.2.2.1, hz.1.2.2.2, fun D hD => lc_rng st1 (l.trans ad.le) hD (by rw [← e0]; exact hz.2) (wpO_to w2 fun a k v F2 H2 ad2 le2 st2 r2 => k v F2 H2 (ad.trans le.dom ad2) (le.trans le2) st2 (okL.bk le r2)) hb⟩
theorem lcr_R2 {a b : Expr} {ma mb : Out Int} {cm : Int → Out Bool} {f : Int → Out α} {j : Nat} (hm : X.mg "range" = none) (ha : Ev X H0 L Qe F σ a (rE X.K) ma) (hb' : Ev X H0 L Qe F σ b (rE X.K) mb) (hb : LcC X H0 L Qe scope ifs elt j σ F (fun _ => isI) cm f) (hg : Gl X "range" := by rfl) (hst : starEach [a, b] X.env = (false, eval a X.env) :: starEach [b] X.env := by rfl) (hst2 : starEach [b] X.env = (false, eval b X.env) :: starEach [] X.env := by rfl) :
    ∀ F1 H, Le F F1 → Sta H0 F1 L H → ∀ Q : VK, wpO (ma >>= fun lo => mb >>= fun n => cmpR lo n >>= fun is => compO cm f is) (fun a => ∀ v F2 H2, Adv F1 H F2 → Le H H2 → Sta H0 F2 L H2 → rL X.K H F2 H2 v a → Q v H2) Qe →
      tLc (iRng2 (sA X [a, b])) (gName j) (TtB X scope ifs) (TeB X scope elt) [j] σ H Q := fun F1 H l st Q w => by
  refine (ea_two ha hb' okE okE hst hst2) F1 H l st _ ?_
  refine wpO_bind.mpr (wpO_to (wpO_bind.mp w) fun lo w1 => wpO_bind.mpr (wpO_to (wpO_bind.mp w1) fun n w2 vs F' H' ad le st1 rv => ?_))
  obtain ⟨v, u, rfl, rv, ru⟩ := rv
  obtain ⟨hz, w3⟩ := wpO_guard.mp (wpO_bind.mp w2)
  rw [rng_2] at w3
  exact ⟨lo, n, by rw [dpI rv, dpI ru], hz.1, fun D hD => lc_rng st1 (l.trans ad.le) hD hz.2 (wpO_to w3 fun a k v F2 H2 ad2 le2 st2 r2 => k v F2 H2 (ad.trans le.dom ad2) (le.trans le2) st2 (okL.bk le r2)) hb⟩
theorem lcr_B {ι : Type} [Py ι] {m : Out (List ι)} {cm : ι → Out Bool} {f : ι → Out α} {j : Nat} (he : Ev X H0 L Qe F σ e (rB X.K) m) (hb : LcC X H0 L Qe scope ifs elt j σ F (fun F => isD X.K F) cm f) :
    ∀ F1 H, Le F F1 → Sta H0 F1 L H → ∀ Q : VK, wpO (m >>= fun is => compO cm f is) (fun a => ∀ v F2 H2, Adv F1 H F2 → Le H H2 → Sta H0 F2 L H2 → rL X.K H F2 H2 v a → Q v H2) Qe →
      tLc (iListB X.K (sE X e)) (gName j) (TtB X scope ifs) (TeB X scope elt) [j] σ H Q := fun F1 H l st Q w => by
  refine he F1 H l st _ (wpO_to (wpO_bind.mp w) fun xs w1 v F' H' ad le st1 rv => ?_)
  obtain ⟨q, ys, rfl, hq, hy⟩ := rv
  exact ⟨q, ys, rfl, hq, fun hz D hD => lc_lst st1 (l.trans ad.le) hD hq hy hz (wpO_to w1 fun a k v F2 H2 ad2 le2 st2 r2 => k v F2 H2 (ad.trans le.dom ad2) (le.trans le2) st2 (okL.bk le r2)) hb⟩
/-- as values -/
theorem ev_comp {iter : Expr} {wi : TI} {j : Nat} {m : Out (List α)} (hc : X.calm = true) (hN : X.N.Nodup) (hi : PI X (.Name x p) iter wi) (hG : BlkG X scope x j p)
    (h : ∀ F1 H, Le F F1 → Sta H0 F1 L H → ∀ Q : VK, wpO m (fun a => ∀ v F2 H2, Adv F1 H F2 → Le H H2 → Sta H0 F2 L H2 → rL X.K H F2 H2 v a → Q v H2) Qe → tLc wi (gName j) (TtB X scope ifs) (TeB X scope elt) [j] σ H Q)
    (ok : blkC X.N X.env.scope scope [(x, j)] = true := by decide +kernel) (hs : ∀ z, foldedSetIterable iter X.env z = pure z := by intro _; rfl) : Ev X H0 L Qe F σ (.ListComp elt [⟨.Name x p, iter, ifs, 0⟩] scope pos) (rL X.K) m :=
  ev_sem (pe_lc (own := [(x, j)]) hc hN hi (blkOk_by ok) hG (fun _ _ _ _ _ => ttb_pt) (fun _ _ _ _ _ => teb_pe) hs) h
/-- name = [..] -/
theorem b_setLc {He Fe H : Hp} {rest : List Stmt} {D : Ends} {Po : τ → Prop} {k : List α → Out τ} {iter : Expr} {wi : TI} {i j : Nat} {m : Out (List α)} (hc : X.calm = true) (hN : X.N.Nodup) (hi : PI X (.Name x p) iter wi) (hG : BlkG X scope x j p)
    (h : ∀ F1 H, Le F F1 → Sta H0 F1 L H → ∀ Q : VK, wpO m (fun a => ∀ v F2 H2, Adv F1 H F2 → Le H H2 → Sta H0 F2 L H2 → rL X.K H F2 H2 v a → Q v H2) Qe → tLc wi (gName j) (TtB X scope ifs) (TeB X scope elt) [j] σ H Q)
    (P : Pt He Fe H0 L F H) (hw : wpO (m >>= k) Po Qe)
    (cont : ∀ a p ys F' H', wpO (k a) Po Qe → Le F F' → He p = none → Pt He Fe H0 ((p, .lst ys) :: L) F' H' → DsAll X.K F' ys (a.map py) → sS X rest D (σ.set i (some (.ref p))) H')
    (hy : X.N[i]? = some y := by rfl) (hyl : X.env.scope.names.lookup y = some .local := by rfl) (hsw : swapsWith (.ListComp elt [⟨.Name x p, iter, ifs, 0⟩] scope pos) (some (.Name y py')) spos.line X.env = pure true := by exact sw_true rfl rfl rfl (by decide +kernel))
    (ok : blkC X.N X.env.scope scope [(x, j)] = true := by decide +kernel) (hs : ∀ z, foldedSetIterable iter X.env z = pure z := by intro _; rfl) :
    sS X (.Assign [.Name y py'] (.ListComp elt [⟨.Name x p, iter, ifs, 0⟩] scope pos) spos :: rest) D σ H := by
  refine sS_cons (s1_of (ps_setLc (i := i) (own := [(x, j)]) hc hN hy hyl hsw hi (blkOk_by ok) hG (fun _ _ _ _ _ => ttb_pt) (fun _ _ _ _ _ => teb_pe) hs) ?_)
  refine h F H (Le.refl _) P.st _ (wpO_to (wpO_bind.mp hw) fun a w v F' H' ad le st rv => ?_)
  obtain ⟨p, ys, rfl, n, P', hy⟩ := own_of P ad le st rv
  exact cont a p ys F' H' w ad.le n P' hy
end
end Rf


set_option Elab.async false
set_option linter.all false
set_option maxRecDepth 100000
set_option maxHeartbeats 1000000
namespace Rf
open PySem PySem.Spec L2 PyProof.Rows
open Py (py)
variable [TbC]
/-! ### owned lists: choice, freezing -/
section
variable {He Fe H0 F H : Hp} {L : List (Addr × HO)} {α : Type} [Py α]
theorem sel_mem {L : List (Addr × HO)} {js : List Nat} {q : Addr × HO} (h : q ∈ js.filterMap fun j => L[j]?) : q ∈ L := by
  obtain ⟨j, _, e⟩ := List.mem_filterMap.mp h
  exact List.mem_of_getElem? e
theorem sel_nodup {L : List (Addr × HO)} (hL : (L.map (·.1)).Nodup) : ∀ {js : List Nat}, js.Nodup → ((js.filterMap fun j => L[j]?).map (·.1)).Nodup
  | [], _ => List.nodup_nil
  | j :: js, h => by
    rw [List.nodup_cons] at h
    have ih := sel_nodup hL h.2
    rw [List.filterMap_cons]
    cases e : L[j]? with
    | none => exact ih
    | some q =>
      show ((q :: js.filterMap fun j => L[j]?).map (·.1)).Nodup
      rw [List.map_cons, List.nodup_cons]
      refine ⟨fun hm => ?_, ih⟩
      obtain ⟨r, hr, e1⟩ := List.mem_map.mp hm
      obtain ⟨i, hi, e2⟩ := List.mem_filterMap.mp hr
      exact nodup_ne hL e e2 (fun z => h.1 (z ▸ hi)) e1.symm
theorem Pt.sel (P : Pt He Fe H0 L F H) (js : List Nat) (h : js.Nodup) : Pt He Fe H0 (js.filterMap fun j => L[j]?) F H :=
  ⟨⟨P.st.l0, P.st.lF, fun q hq => P.st.own q (sel_mem hq), sel_nodup P.st.nd h, P.st.tt⟩, P.ad, P.dm⟩
theorem Pt.frz {K : PySem.W.Frag} {p : Addr} {ys : List V} {xs : List α} (P : Pt He Fe H0 ((p, .lst ys) :: L) F H) (n : He p = none) (hy : DsAll K F ys (xs.map py)) : ∃ F', Le F F' ∧ Pt He Fe H0 L F' H ∧ Ds K F' (.ref p) (py xs) := by
  have hp := P.st.own _ (List.mem_cons_self (a := (p, HO.lst ys)) (l := L))
  exact ⟨_, Le.new hp.2.1, P.freeze n, .lst upd_same (hy.mo (Le.new hp.2.1))⟩
end
/-! ### the mirrors put in form -/
theorem okb {α β : Type} (a : α) (f : α → Out β) : (Out.ok a >>= f) = f a := by
  generalize hm : (Out.ok a : Out α) = m
  cases m with
  | ok b =>
    cases hm
    rfl
  | err c n => cases hm
  | bad => cases hm
section
variable {X : Cx} {H0 : Hp} {L : List (Addr × HO)} {Qe : Nat → Int → Prop} {F : Hp} {σ : L2.St} {e : Expr} {α : Type}
theorem evc {r : Rep V α} {m m' : Out α} (h : Ev X H0 L Qe F σ e r m) (q : m = m') : Ev X H0 L Qe F σ e r m' := by
  rw [← q]
  exact h
theorem etc {m m' : Out Bool} (h : EvT X H0 L Qe F σ e m) (q : m = m') : EvT X H0 L Qe F σ e m' := by
  rw [← q]
  exact h
theorem etsc {ifs : List Expr} {m m' : Out Bool} (h : EvTs X H0 L Qe F σ ifs m) (q : m = m') : EvTs X H0 L Qe F σ ifs m' := by
  rw [← q]
  exact h
end
/-- the fuel of a while -/
@[irreducible] def wfuel : Nat := 2 ^ 64
class PyNN (α : Type) [Py α] where
  nn : ∀ a : α, py a ≠ PyData.none
omit [TbC] in
instance : PyNN Int := ⟨fun a z => nomatch (show PyData.int a = .none from z)⟩
omit [TbC] in
instance : PyNN Bool := ⟨fun a z => nomatch (show PyData.bool a = .none from z)⟩
omit [TbC] in
instance {α : Type} [Py α] : PyNN (List α) := ⟨fun a z => nomatch (show PyData.list _ = .none from z)⟩
omit [TbC] in
instance {α β : Type} [Py α] [Py β] : PyNN (α × β) := ⟨fun a z => nomatch (show PyData.tuple _ = .none from z)⟩
omit [TbC] in
instance {α : Type} [Py α] : PyNN (Tp α) := ⟨fun a z => nomatch (show PyData.tuple _ = .none from z)⟩

/-! ### isinstance -/
section
variable {X : Cx} {H0 : Hp} {L : List (Addr × HO)} {Qe : Nat → Int → Prop} {F : Hp} {σ : L2.St} {α : Type} [Py α]
variable {e e2 : Expr} {pos p p2 : Pos} {x y : Str}
theorem sqL_ty {K : PySem.W.Frag} {H : Hp} {a : Addr} {xs : List V} (h : SqL K H a xs) : TyX K H (.ref a) (.type "list") := by
  rcases h with (h | ⟨o, h⟩) | ⟨o, its, n, hk, hc, _⟩
  · exact .base (.lst h)
  · exact .base (.frz h)
  · exact .kList hk hc
theorem sqT_ty {K : PySem.W.Frag} {H : Hp} {a : Addr} {xs : List V} (h : SqT K H a xs) : TyX K H (.ref a) (.type "tuple") := by
  rcases h with (h | ⟨o, h⟩) | ⟨o, its, n, hk, hc, _⟩
  · exact .base (.tup h)
  · exact .fTuple h
  · exact .kTuple hk hc
theorem ev_isi {t : String} {T : String} {b : Bool} {γ : Type} {r : Rep V γ} {m : Out γ} (o : RepOk r) (hr : ∀ {Hs F H v a}, Sta H0 F L H → r Hs F H v a → TyX X.K H v (.type T)) (hm : X.mg x = none) (hx : bootBuiltins x = some (.builtin "isinstance")) (hm2 : X.mg y = none) (hy : bootBuiltins y = some (.type t)) (hk : PySem.W.kitOne X.K (.type T) (.type t) = some b) (h : Ev X H0 L Qe F σ e r m)
    (hg : Gl X x := by rfl) (hg2 : Gl X y := by rfl) (hn : x ≠ "__name__" := by decide) (hdb : (x == ("__debug__" : Str)) = false := by decide) (hn2 : y ≠ "__name__" := by decide) (hdb2 : (y == ("__debug__" : Str)) = false := by decide)
    (he : starEach [e, .Name y p2] X.env = (false, eval e X.env) :: starEach [.Name y p2] X.env := by rfl) (hs2 : starEach [.Name y p2] X.env = (false, eval (.Name y p2) X.env) :: starEach [] X.env := by rfl) (hpl : (backTo pos (starEach [.Name y p2] X.env)).any (·.1) = false := by rfl) :
    Ev X H0 L Qe F σ (.Call (.Name x p) [e, .Name y p2] [] pos) (rE X.K) (m >>= fun _ => .ok b) := fun F1 H l st Q w =>
  sE_of (pe_callB call_isi hg hm hx (pa_cons (pe_s (e := e)) (pa_cons (pe_bltn (v := .ty t) hg2 hm2 hy rfl hn2 hdb2) pa_nil hs2) he) hn hdb he hpl) (h F1 H l st _ (wpO_to (wpO_bind.mp w) fun a w1 v F2 H2 ad le st2 rv =>
    ⟨v, .ty t, .type T, .type t, b, rfl, .ty t, hr st2 rv, hk, w1 _ F2 H2 ad le st2 (.bl b)⟩))
theorem ev_isiI {t : String} {b : Bool} {m : Out Int} (hm : X.mg x = none) (hx : bootBuiltins x = some (.builtin "isinstance")) (hm2 : X.mg y = none) (hy : bootBuiltins y = some (.type t)) (hk : PySem.W.kitOne X.K (.type "int") (.type t) = some b) (h : Ev X H0 L Qe F σ e (rE X.K) m)
    (hg : Gl X x := by rfl) (hg2 : Gl X y := by rfl) (hn : x ≠ "__name__" := by decide) (hdb : (x == ("__debug__" : Str)) = false := by decide) (hn2 : y ≠ "__name__" := by decide) (hdb2 : (y == ("__debug__" : Str)) = false := by decide)
    (he : starEach [e, .Name y p2] X.env = (false, eval e X.env) :: starEach [.Name y p2] X.env := by rfl) (hs2 : starEach [.Name y p2] X.env = (false, eval (.Name y p2) X.env) :: starEach [] X.env := by rfl) (hpl : (backTo pos (starEach [.Name y p2] X.env)).any (·.1) = false := by rfl) :
    Ev X H0 L Qe F σ (.Call (.Name x p) [e, .Name y p2] [] pos) (rE X.K) (m >>= fun _ => .ok b) := ev_isi okE (fun _ r => by rw [dpI r]; exact .base (.int _)) hm hx hm2 hy hk h hg hg2 hn hdb hn2 hdb2 he hs2 hpl
theorem ev_isiL {t : String} {b : Bool} {m : Out (List α)} (hm : X.mg x = none) (hx : bootBuiltins x = some (.builtin "isinstance")) (hm2 : X.mg y = none) (hy : bootBuiltins y = some (.type t)) (hk : PySem.W.kitOne X.K (.type "list") (.type t) = some b) (h : Ev X H0 L Qe F σ e (rB X.K) m)
    (hg : Gl X x := by rfl) (hg2 : Gl X y := by rfl) (hn : x ≠ "__name__" := by decide) (hdb : (x == ("__debug__" : Str)) = false := by decide) (hn2 : y ≠ "__name__" := by decide) (hdb2 : (y == ("__debug__" : Str)) = false := by decide)
    (he : starEach [e, .Name y p2] X.env = (false, eval e X.env) :: starEach [.Name y p2] X.env := by rfl) (hs2 : starEach [.Name y p2] X.env = (false, eval (.Name y p2) X.env) :: starEach [] X.env := by rfl) (hpl : (backTo pos (starEach [.Name y p2] X.env)).any (·.1) = false := by rfl) :
    Ev X H0 L Qe F σ (.Call (.Name x p) [e, .Name y p2] [] pos) (rE X.K) (m >>= fun _ => .ok b) := ev_isi okB (fun _ r => by obtain ⟨q, ys, rfl, h1, _⟩ := r; exact sqL_ty h1) hm hx hm2 hy hk h hg hg2 hn hdb hn2 hdb2 he hs2 hpl
/-- data that are tuples -/
class PyTu (α : Type) [Py α] where
  tu : ∀ a : α, ∃ ds, py a = PyData.tuple ds
omit [TbC] in
instance {α β : Type} [Py α] [Py β] : PyTu (α × β) := ⟨fun a => ⟨_, rfl⟩⟩
omit [TbC] in
instance {α β γ : Type} [Py α] [Py β] [Py γ] : PyTu (T3 α β γ) := ⟨fun a => ⟨_, rfl⟩⟩
omit [TbC] in
instance {α : Type} [Py α] : PyTu (Tp α) := ⟨fun a => ⟨_, rfl⟩⟩
theorem ev_isiT {t : String} {b : Bool} [PyTu α] {m : Out α} (hm : X.mg x = none) (hx : bootBuiltins x = some (.builtin "isinstance")) (hm2 : X.mg y = none) (hy : bootBuiltins y = some (.type t)) (hk : PySem.W.kitOne X.K (.type "tuple") (.type t) = some b) (h : Ev X H0 L Qe F σ e (rE X.K) m)
    (hg : Gl X x := by rfl) (hg2 : Gl X y := by rfl) (hn : x ≠ "__name__" := by decide) (hdb : (x == ("__debug__" : Str)) = false := by decide) (hn2 : y ≠ "__name__" := by decide) (hdb2 : (y == ("__debug__" : Str)) = false := by decide)
    (he : starEach [e, .Name y p2] X.env = (false, eval e X.env) :: starEach [.Name y p2] X.env := by rfl) (hs2 : starEach [.Name y p2] X.env = (false, eval (.Name y p2) X.env) :: starEach [] X.env := by rfl) (hpl : (backTo pos (starEach [.Name y p2] X.env)).any (·.1) = false := by rfl) :
    Ev X H0 L Qe F σ (.Call (.Name x p) [e, .Name y p2] [] pos) (rE X.K) (m >>= fun _ => .ok b) := ev_isi okE (fun {_ _ _ v a} st r => by
      obtain ⟨ds, ed⟩ := PyTu.tu a
      have r : Ds X.K _ v (py a) := r
      rw [ed] at r
      cases r with
      | tup h1 h2 => exact sqT_ty (.inl (.inl (st.lF.at h1)))) hm hx hm2 hy hk h hg hg2 hn hdb hn2 hdb2 he hs2 hpl
end

/-! ### sorted -/
/-- data that sort among themselves -/
class PyS (α : Type) [Py α] where
  ali : ∀ a b : α, PySem.W.alike (py a) (py b) = true
  srt : (∀ a : α, ∃ x r, py a = PyData.tuple (x :: r)) ∨ ∀ a : α, py a ≠ .none ∧ ∀ xs, py a ≠ .tuple xs
  sdp : ∀ a : α, (py a).depth ≤ 32
  le : α → α → Bool
  leE : PySem.W.dataLe false (fun a : α => py a) = le
omit [TbC] in
instance : PyS (Int × Int) := ⟨fun a b => by
  show PySem.W.alike (.tuple [.int a.1, .int a.2]) (.tuple [.int b.1, .int b.2]) = true
  simp [PySem.W.alike, PySem.W.alikeAll], .inl fun a => ⟨_, _, rfl⟩, fun a => by
  show PyData.depth (.tuple [.int a.1, .int a.2]) ≤ 32
  simp [PyData.depth, PyData.depthAll], fun p q => decide (p.1 < q.1 ∨ (p.1 = q.1 ∧ p.2 ≤ q.2)), PySem.W.dataLe_ii (fun p : Int × Int => p.1) (fun p => p.2)⟩
omit [TbC] in
instance : PyS Int := ⟨fun a b => by
  show PySem.W.alike (.int a) (.int b) = true
  simp [PySem.W.alike], .inr fun a => ⟨fun z => (nomatch (show PyData.int a = .none from z)), fun _ z => (nomatch (show PyData.int a = .tuple _ from z))⟩, fun a => by
  show PyData.depth (.int a) ≤ 32
  simp [PyData.depth], fun p q => decide (p ≤ q), PySem.W.dataLe_int (fun p : Int => p)⟩
omit [TbC] in
theorem dataLe3 : PySem.W.dataLe false (fun b : T3 Int Int Int => py b) = fun p q => decide (p.a < q.a ∨ (p.a = q.a ∧ (p.b < q.b ∨ (p.b = q.b ∧ p.c ≤ q.c)))) := by
  funext p q
  show (!PySem.W.dataLt (.tuple [.int q.a, .int q.b, .int q.c]) (.tuple [.int p.a, .int p.b, .int p.c])) = _
  rw [PySem.W.dataLt_tuple, PySem.W.dataLt_cons (by simp [PySem.W.alike]), PySem.W.dataLt_cons (by simp [PySem.W.alike]), PySem.W.dataLt_cons (by simp [PySem.W.alike]), PySem.W.dataLt_int, PySem.W.dataLt_int, PySem.W.dataLt_int]
  have e : PyProof.Rows.lexLt PyProof.Rows.itemOrd (PySem.W.keyToksAll []) (PySem.W.keyToksAll []) = false := PyProof.Rows.lex_irrefl _
  rw [e]
  simp only [PyData.eqv, beq_iff_eq]
  by_cases h1 : q.a = p.a
  · by_cases h2 : q.b = p.b
    · by_cases h3 : q.c = p.c
      · simp [h1, h2, h3]
      · simp only [h1, h2, h3, if_true, if_false]
        by_cases h4 : q.c < p.c
        · have : ¬ p.c ≤ q.c := by omega
          simp [h4, this]
        · have : p.c ≤ q.c := by omega
          simp [h4, this]
    · simp only [h1, h2, if_true, if_false]
      by_cases h4 : q.b < p.b
      · have : ¬ (p.b < q.b ∨ (p.b = q.b ∧ p.c ≤ q.c)) := by omega
        simp [h4, this]
      · have : p.b < q.b := by omega
        simp [h4, this]
  · simp only [h1, if_false]
    by_cases h4 : q.a < p.a
    · have : ¬ (p.a < q.a ∨ (p.a = q.a ∧ (p.b < q.b ∨ (p.b = q.b ∧ p.c ≤ q.c)))) := by omega
      simp [h4, this]
    · have : p.a < q.a := by omega
      simp [h4, this]
omit [TbC] in
instance : PyS (T3 Int Int Int) := ⟨fun a b => by
  show PySem.W.alike (.tuple [.int a.a, .int a.b, .int a.c]) (.tuple [.int b.a, .int b.b, .int b.c]) = true
  simp [PySem.W.alike, PySem.W.alikeAll], .inl fun a => ⟨_, _, rfl⟩, fun a => by
  show PyData.depth (.tuple [.int a.a, .int a.b, .int a.c]) ≤ 32
  simp [PyData.depth, PyData.depthAll], _, dataLe3⟩
def sortO {α : Type} [Py α] [PyS α] (xs : List α) : Out (List α) := .ok (xs.mergeSort PyS.le)
section
variable {α : Type} [Py α]
theorem each_vals {ys : List V} {us : List Value} {xs : List α} (r : Vals ys us) (hl : ys.length = xs.length) : PySem.W.EachIs (fun u (b : V × α) => RelV b.1 u) us (ys.zip xs) := by
  induction r generalizing xs with
  | nil => exact .nil
  | cons h t ih =>
    cases xs with
    | nil => simp at hl
    | cons x xs => exact .cons h (ih (by simpa using hl))
theorem vals_each : ∀ {us : List Value} {bs : List (V × α)}, PySem.W.EachIs (fun u (b : V × α) => RelV b.1 u) us bs → Vals (bs.map (·.1)) us
  | _, _, .nil => .nil
  | _, _, .cons h t => .cons h (vals_each t)
theorem zip_dp {K : PySem.W.Frag} {F : Hp} : ∀ {ys : List V} {xs : List α}, DsAll K F ys (xs.map py) → ∀ b ∈ ys.zip xs, Ds K F b.1 (py b.2)
  | _, [], h, b, hb => by simp at hb
  | _, x :: xs, h, b, hb => by
    cases h with
    | cons h1 h2 =>
      rcases List.mem_cons.mp hb with e | hb
      · rw [e]
        exact h1
      · exact zip_dp h2 b hb
theorem dp_zip {K : PySem.W.Frag} {F : Hp} : ∀ {bs : List (V × α)}, (∀ b ∈ bs, Ds K F b.1 (py b.2)) → DsAll K F (bs.map (·.1)) ((bs.map (·.2)).map py)
  | [], _ => .nil
  | b :: bs, h => .cons (h b List.mem_cons_self) (dp_zip fun c hc => h c (List.mem_cons_of_mem _ hc))
theorem zip_snd {ys : List V} {xs : List α} (h : ys.length = xs.length) : (ys.zip xs).map (·.2) = xs := by
  rw [List.map_snd_zip]
  omega
theorem each_reads {X : Cx} {pins : List (Addr × Obj)} {σ : L2.St} {H : Hp} {s : Shared} (I : L2.Inv X pins σ H s) {us : List Value} {bs : List (V × α)} (e : PySem.W.EachIs (fun u (b : V × α) => RelV b.1 u) us bs) (h : ∀ b ∈ bs, Ds X.K H b.1 (py b.2)) :
    PySem.W.EachIs (fun v (b : V × α) => ∃ as, Reads s.heap v (py b.2) as) us bs := by
  induction e with
  | nil => exact .nil
  | cons r t ih => exact .cons (Dp.reads I _ _ _ (Ds.dp _ _ (h _ List.mem_cons_self)) r) (ih fun c hc => h c (List.mem_cons_of_mem _ hc))
end
section
variable {α : Type} [Py α] [PyS α]
def rSortG (K : PySem.W.Frag) (α : Type) [Py α] [PyS α] : List V → Hp → VK → Prop := fun vs H Q => ∃ (a : Addr) (ys : List V) (xs : List α), vs = [V.ref a] ∧ SqL K H a ys ∧ DsAll K H ys (xs.map py) ∧
  ∀ p, H p = none → Q (.ref p) (upd H p (.lst (((ys.zip xs).mergeSort fun a b => PyS.le a.2 b.2).map (·.1))))
theorem cr_sortG {X : Cx} (hu : X.A.units + 64 < cLine) : CallR X (.builtin "sorted") (rSortG X.K α) := by
  intro pins s σ H vs us Q I r h
  obtain ⟨a, ys, xs, rfl, hs, hd, q⟩ := h
  obtain ⟨its, rv, hl, hz⟩ := I.list hs
  rw [Vals.ref1 r]
  have hlen := all_len hd
  have hb := zip_dp hd
  have e := each_vals rv hlen
  have hle : PySem.W.dataLe false (fun b : V × α => py b.2) = fun a b => PyS.le a.2 b.2 := by
    funext x y
    exact congrFun (congrFun (PyS.leE (α := α)) x.2) y.2
  refine PySem.W.sorted_data (enc := fun b : V × α => py b.2) hl.isList e (each_reads I e hb) (fun d hd d' hd' => ?_) ?_ (by rw [List.length_zip]; omega) (fun b _ => ?_) fun out h1 h2 => ?_
  · obtain ⟨x, _, rfl⟩ := List.mem_map.mp hd
    obtain ⟨y, _, rfl⟩ := List.mem_map.mp hd'
    exact PyS.ali _ _
  · rcases PyS.srt (α := α) with h | h
    · refine .inl fun d hd => ?_
      obtain ⟨x, _, rfl⟩ := List.mem_map.mp hd
      exact h x.2
    · refine .inr fun d hd => ?_
      obtain ⟨x, _, rfl⟩ := List.mem_map.mp hd
      exact h x.2
  · have := PyS.sdp b.2
    omega
  · rw [hle] at h2
    have rv2 := vals_each h2
    obtain ⟨ep, he'⟩ := PyProof.Rows.sortedAll_at s.heap its (List.toArray out)
    refine ⟨.ref _, upd H (s.heap.objs.size + 1) _, I.laid (t' := s.toks) (fun _ _ => PyProof.Rows.sortedAll_old) (Nat.le_succ _) (show ObjOk X.prog X.w _ _ _ (.lst _) from ⟨?_, out, ep, rv2, he'⟩), rfl, q _ (I.hok.fresh (Nat.le_succ _))⟩
    rw [List.length_map, List.length_mergeSort, List.length_zip]
    omega
theorem sort_dp {K : PySem.W.Frag} {F : Hp} {ys : List V} {xs : List α} (h : DsAll K F ys (xs.map py)) : DsAll K F (((ys.zip xs).mergeSort fun a b => PyS.le a.2 b.2).map (·.1)) ((xs.mergeSort PyS.le).map py) := by
  have hb := zip_dp h
  have e : ((ys.zip xs).mergeSort fun a b => PyS.le a.2 b.2).map (·.2) = xs.mergeSort PyS.le := by
    have := PySem.W.sort_maps (r := fun a b : V × α => PyS.le a.2 b.2) (s := PyS.le) (·.2) (l := ys.zip xs) (fun _ _ _ _ => rfl)
    rw [this, zip_snd (all_len h)]
  rw [← e]
  exact dp_zip fun b hm => hb b ((List.mem_mergeSort).mp hm)
end
section
variable {X : Cx} {H0 : Hp} {L : List (Addr × HO)} {Qe : Nat → Int → Prop} {F : Hp} {σ : L2.St} {α : Type} [Py α] [PyS α]
variable {e : Expr} {pos p : Pos} {x : Str}
theorem ev_sorted {m : Out (List α)} (hu : X.A.units + 64 < cLine) (hm : X.mg x = none) (hx : bootBuiltins x = some (.builtin "sorted")) (h : Ev X H0 L Qe F σ e (rB X.K) m) (hg : Gl X x := by rfl) (hn : x ≠ "__name__" := by decide) (hdb : (x == ("__debug__" : Str)) = false := by decide) (he : starEach [e] X.env = (false, eval e X.env) :: starEach [] X.env := by rfl) :
    Ev X H0 L Qe F σ (.Call (.Name x p) [e] [] pos) (rL X.K) (m >>= fun xs => sortO xs) :=
  ev_callB (cr_sortG (α := α) hu) hm hx (ea_one h okB he) (fun F vs Hs H q _ st hq Q w => by
    obtain ⟨v, rfl, p, ys, rfl, h1, h2⟩ := hq
    exact ⟨p, ys, q, rfl, h1, h2.mo st.lF, fun l hl => give_new (X := X) st hl (sort_dp h2) w⟩) okL hg hn hdb he
end
end Rf


set_option Elab.async false
set_option linter.all false
set_option maxRecDepth 100000
set_option maxHeartbeats 1000000
namespace Rf
open PySem PySem.Spec L2 PyProof.Rows LamX
open Py (py)
variable [TbC]
/-! ### sorted(xs, key=lambda x: x[0]) -/
section
variable {prog : Program} {w : World} {A : Around} {s : Shared}
theorem lam0_call {x q : Str} {p1 p2 p3 : Pos} {j : Nat} {params : Arguments} {scope : Scope} {cl : List (Str × Addr)} {pm ctv : Value} {f c' a : Addr} {its : List Value} {i : Int} {t : Tok} (hroom : A.depth < recursionLimit) (lim : s.heap.NoLimit)
    (hof : s.heap.get? f = some (PySem.W.kla_obj "<lambda>" q params (.Subscript (.Name x p1) (.Constant (.int 0) j p2) p3) scope cl pm c' ctv)) (hco : s.heap.CodeRec (.ref c') q)
    (hk : scope.kind = .function) (hn : scope.names = [(x, .local)]) (h1 : scope.isCoroutine = false) (h2 : scope.isGenerator = false)
    (hbind : bindArgs (PySem.W.kla_fn "<lambda>" q params (.Subscript (.Name x p1) (.Constant (.int 0) j p2) p3) scope cl pm (.ref c') ctv) ⟨[.ref a], []⟩ = pure [(x, .ref a)])
    (ht : IsTup s.heap a its.toArray) (h0 : its[0]? = some (.int i t)) (hz : its.length ≤ sizeLine) (hd : (x == ("__debug__" : Str)) = false) :
    wpAny (model prog w) A (call (.ref f) [.ref a]) (PySem.W.KeyPure (.int i) s) (fun _ _ => False) s := by
  have hlk : scope.names.lookup x = some .local := by
    rw [hn]
    simp
  refine wpAny_call (PySem.W.kla_callFunE hroom hof rfl h1 h2 rfl hco ?_)
  rw [hbind]
  refine wpAny_pure (wpAny_newFunctionEnv (fun y hy => ?_) (fun y hy => ?_) (fun h₁ hns hsb => ⟨lim.fresh _ hsb, ?_⟩) hk)
  · have hy : y ∈ scope.names := hy
    rw [hn] at hy
    obtain rfl := List.mem_singleton.mp hy
    exact fun z => nomatch z
  · obtain rfl := List.mem_singleton.mp hy
    exact hlk
  show codeAny _ _ (.expr _ (PySem.W.envX q scope s.heap.objs.size f (.ref c') cl)) _ _
  have kp : ∀ b o, s.heap.get? b = some o → h₁.get? b = some o := fun b o e => hsb.extBut b o (Nat.ne_of_lt (Heap.lt_size e)) (Heap.get?_push_of_some _ e)
  have ht1 : IsTup h₁ a its.toArray := by
    obtain ⟨o, e, r⟩ := ht
    exact ⟨o, kp _ _ e, r⟩
  have hl : 0 < its.length := (List.getElem?_eq_some_iff.mp h0).1
  refine PySem.W.kla_codeExpr (Subscript_ (wpAny_Name (wpAny_loadName_local hk hlk hns (v := .ref a) (by simp) ?_) hd))
  refine wpAny_Constant_int ?_
  refine subscriptTail_builtinR (x := .int i t) (IsTup.typeIs ht1) slot_tuple_getitem.lookup ?_ (by with_unfolding_all rfl)
  refine getItem_tuple (j := 0) ht1 (by decide) (by decide) ?_ (by simpa using h0) ⟨rfl, ?_⟩
  · unfold seqIndex?
    rw [List.size_toArray]
    have : (0 : Int) ≤ 0 ∧ (0 : Int) < (its.length : Int) := ⟨Int.le_refl _, by omega⟩
    simp [this, hl]
  · exact ⟨h₁, _, rfl, kp, .int i t⟩
end
/-! the lambda made -/
section
variable {X : Cx} {pins : List (Addr × Obj)} {σ : L2.St} {H : Hp} {s : Shared}
/-- one more code in the table at P -/
theorem le_code {P c : Addr} {q : Str} {ps : Array Value} {l k : Value} (hP : H P = some (.tbl ps)) (hc : H c = none) (ht : TriplesOk ps.toList) (ha : ∀ (pos : Pos) (cv : Value), codeAmong pos ps.toList = some cv → ∃ c, cv = .ref c ∧ H c = some (CodeO c q))
    (hu : ∀ p ∈ TbC.T, p.1 = P → p.2 = q) (pos : Pos) : Le H (upd (upd H P (.tbl (ps ++ #[rawInt pos.line, rawInt pos.col, .ref c]))) c (CodeO c q)) := by
  have nPc : P ≠ c := ne_of_none hP hc
  have oth : ∀ b u, H b = some u → b ≠ P → upd (upd H P (.tbl (ps ++ #[rawInt pos.line, rawInt pos.col, .ref c]))) c (CodeO c q) b = some u := fun b u e h1 => by
    rw [upd_ne (ne_of_none e hc), upd_ne h1]
    exact e
  have cod : ∀ b r, H b = some (CodeO b r) → upd (upd H P (.tbl (ps ++ #[rawInt pos.line, rawInt pos.col, .ref c]))) c (CodeO c q) b = some (CodeO b r) := fun b r e => oth b _ e fun z => by
    rw [z, hP] at e
    exact codeO_ne ps (Option.some.inj e).symm
  have atP : upd (upd H P (.tbl (ps ++ #[rawInt pos.line, rawInt pos.col, .ref c]))) c (CodeO c q) P = some (.tbl (ps ++ #[rawInt pos.line, rawInt pos.col, .ref c])) := by
    rw [upd_ne nPc, upd_same]
  refine ⟨fun b u e n => oth b u e fun z => ?_, fun b qs e => ?_, fun a r m t => ?_⟩
  · rw [z, hP] at e
    exact n ps (Option.some.inj e).symm
  · by_cases hb : b = P
    · rw [hb]
      exact ⟨_, atP⟩
    · exact ⟨qs, oth b _ e hb⟩
  · by_cases hb : a = P
    · obtain rfl : r = q := hu _ m hb
      subst hb
      have eL : (ps ++ #[rawInt pos.line, rawInt pos.col, Value.ref c]).toList = ps.toList ++ [rawInt pos.line, rawInt pos.col, .ref c] := by simp
      refine ⟨_, atP, by rw [eL]; exact TriplesOk_snoc _ _ _ _ ht, fun p' cv hcv => ?_⟩
      rw [eL] at hcv
      rcases among_app _ ht hcv with z | z
      · obtain ⟨d, e1, e2⟩ := ha p' cv z
        exact ⟨d, e1, cod _ _ e2⟩
      · exact ⟨c, z, upd_same⟩
    · obtain ⟨qs, g1, g2, g3⟩ := t
      refine ⟨qs, oth a _ g1 hb, g2, fun p' cv hcv => ?_⟩
      obtain ⟨d, e1, e2⟩ := g3 p' cv hcv
      exact ⟨d, e1, cod _ _ e2⟩
/-- where the def at hand makes its lambda -/
structure LamAt (base : Heap) (mg : Str → Option Value) (code : Value) (q : Str) : Prop where
  at_ : ∃ c P, TabB base mg c P ∧ code = .ref c ∧ (P, q) ∈ TbC.T ∧ ∀ p ∈ TbC.T, p.1 = P → p.2 = q
theorem lam_mk {params : Arguments} {body : Expr} {scope : Scope} {pos : Pos} {E : Value → Shared → Prop} {Q : Value → Shared → Prop} (I : Inv X pins σ H s) (LA : LamAt X.base X.mg X.env.code (X.env.qual ++ "<lambda>")) (hT : Tabs TbC.T H) (hdef : defaultsOf params X.env = ([], []))
    (hfree : ∀ y ∈ scope.names, y.2 = .free → ∃ c, X.env.cells.lookup y.1 = some c)
    (h : ∀ (f c' : Addr) (ctv : Value) (H1 : Hp) (s' : Shared), Inv X pins σ H1 s' → Le H H1 → s'.heap.get? f = some (PySem.W.kla_obj "<lambda>" (X.env.qual ++ "<lambda>") params body scope (cloFrom X.env.cells scope.names []) ((X.mg "__name__").getD .none) c' ctv) →
      H1 f = none → H1 c' = some (CodeO c' (X.env.qual ++ "<lambda>")) → Q (.ref f) s') : wpAny (model X.prog X.w) X.A (eval (.Lambda params body scope pos) X.env) Q E s := by
  obtain ⟨c, P, TB, hcode, hm, hu⟩ := LA.at_
  obtain ⟨ps, hP, ht, ha⟩ := hT _ hm
  have gP := I.hok P _ hP
  refine PySem.W.kla_eval hdef ?_
  rcases hc : codeAmong pos ps.toList with _ | cv
  · refine PySem.W.kla_makeFunction (mg := X.mg) (c := c) (P := P) (ps := ps) (closure_ok hfree) I.ok.glob (I.mod.glob.keeps I.bk) hcode (TB.code.keeps I.bk)
      gP ht hc TB.gP (TB.bm.keeps I.bk) fun d ctv h' tk hx hge hlt hrec htb => ?_
    obtain ⟨d2, oc, vs, t, e2, hoc, hd, hv⟩ := hrec
    cases e2
    have hsz := Nat.le_trans hge (Nat.le_of_lt hlt)
    have nC : H d = none := I.hok.fresh hge
    have J := inv_table (t' := tk) (more := #[rawInt pos.line, rawInt pos.col, .ref d])
      (h' := h'.push (PySem.W.kla_obj "<lambda>" (X.env.qual ++ "<lambda>") params body scope (cloFrom X.env.cells scope.names []) ((X.mg "__name__").getD .none) d ctv)) I hP
      (fun b o hb e => Heap.get?_push_of_some _ (hx b o hb e)) (Heap.get?_push_of_some _ htb) hge ⟨oc, vs, t, Heap.get?_push_of_some _ hoc, hd, hv⟩
    refine h h'.objs.size d ctv _ _ J (le_code (l := .none) (k := .none) hP nC ht ha hu pos) (Heap.get?_push_size _ rfl) ?_ upd_same
    have k1 : h'.objs.size ≠ d := Nat.ne_of_gt hlt
    have k2 : h'.objs.size ≠ P := Nat.ne_of_gt (Nat.lt_of_lt_of_le (Heap.lt_size gP) hsz)
    rw [upd_ne k1, upd_ne k2]
    exact I.hok.fresh hsz
  · obtain ⟨d, e, hco⟩ := ha pos cv hc
    subst e
    refine PySem.W.kla_makeFunctionHit (mg := X.mg) (c := c) (P := P) (ps := ps) (closure_ok hfree) I.ok.glob (I.mod.glob.keeps I.bk) hcode (TB.code.keeps I.bk)
      gP ht hc (TB.bm.keeps I.bk) fun ctv h' tk hx hsz => ?_
    exact h h'.objs.size d ctv H _ (I.kept fun b o e => Heap.get?_push_of_some _ (hx b o e)) (Le.refl _) (Heap.get?_push_size _ rfl) (I.hok.fresh hsz) hco
end
/-- pairs by their first, stably -/
def sortK0 {α : Type} (xs : List (Int × α)) : List (Int × α) := xs.mergeSort fun a b => decide (a.1 ≤ b.1)
section
variable {α : Type} [Py α]
theorem leK0 : PySem.W.dataLe false (fun b : V × (Int × α) => PyData.int b.2.1) = fun a b => decide (a.2.1 ≤ b.2.1) := by
  funext a b
  rw [PySem.W.dataLe_int]
def tSortK (K : PySem.W.Frag) (α : Type) [Py α] (tl : TE) : TE := fun σ H Q => tl σ H fun v H1 => ∃ (a : Addr) (ys : List V) (xs : List (Int × α)), v = .ref a ∧ SqL K H1 a ys ∧ DsAll K H1 ys (xs.map py) ∧ Tabs TbC.T H1 ∧
  ∀ H2, Le H1 H2 → ∀ p, H2 p = none → Q (.ref p) (upd H2 p (.lst (((ys.zip xs).mergeSort fun a b => decide (a.2.1 ≤ b.2.1)).map (·.1))))
theorem ds_pair {K : PySem.W.Frag} {H : Hp} {v : V} {b : Int × α} (h : Ds K H v (py b)) : ∃ a y, v = .ref a ∧ H a = some (.tup [.int b.1, y]) := by
  have h : Ds K H v (.tuple [.int b.1, py b.2]) := h
  cases h with
  | tup h1 h2 =>
    cases h2 with
    | cons g1 g2 =>
      cases g1
      cases g2 with
      | cons g3 g4 =>
        cases g4
        exact ⟨_, _, rfl, h1⟩
variable {X : Cx} {e : Expr} {te : TE} {x y : Str} {p lpos kpos pos p1 p2 p3 : Pos} {j k : Nat} {params : Arguments} {scope : Scope}
theorem pe_sortK (hr : Room (k + 1) X.A) (hm : X.mg x = none) (hx : bootBuiltins x = some (.builtin "sorted")) (LA : LamAt X.base X.mg X.env.code (X.env.qual ++ "<lambda>")) (pe : PE X e te) (hg : Gl X x := by rfl) (hdef : defaultsOf params X.env = ([], []) := by rfl) (hn : scope.names = [(y, .local)] := by rfl)
    (hk : scope.kind = .function := by rfl) (h1 : scope.isCoroutine = false := by rfl) (h2 : scope.isGenerator = false := by rfl) (hd : (y == ("__debug__" : Str)) = false := by decide) (hx2 : x ≠ "__name__" := by decide) (hdb : (x == ("__debug__" : Str)) = false := by decide)
    (hbind : ∀ (q : Str) (cl : List (Str × Addr)) (pm cv ctv : Value) (v : Value), bindArgs (PySem.W.kla_fn "<lambda>" q params (.Subscript (.Name y p1) (.Constant (.int 0) j p2) p3) scope cl pm cv ctv) ⟨[v], []⟩ = pure [(y, v)] := by intros; rfl)
    (he : backTo pos (starEach [e] X.env) = (false, eval e X.env) :: backTo pos (starEach [] X.env) := by rfl) (hpl : (backTo pos (starEach [e] X.env)).any (·.1) = false := by rfl) :
    PE X (.Call (.Name x p) [e] [⟨some (Str.ofString "key"), .Lambda params (.Subscript (.Name y p1) (.Constant (.int 0) j p2) p3) scope lpos, kpos⟩] pos) (tSortK X.K α te) := by
  refine ⟨fun pins s σ H Q I h => ?_⟩
  refine wpAny_Call_Name_kw (ld_blt I hg hm hx ?_ hx2 hdb)
  refine callWith_kw ?_ he hpl (by rfl) (by rfl)
  rw [he]
  refine Calls.spliced_cons (thn (pe.run pins s σ H _ I h) fun u s1 hq => ?_)
  obtain ⟨v, H1, I1, r1, a, ys, xs, rfl, hq, hy, hT, hQ⟩ := hq
  obtain rfl : u = Value.ref a := r1
  refine Calls.spliced_nil ?_
  refine kws_cons (lam_mk I1 LA hT hdef (fun z hz e => ?_) fun f c' ctv H2 s2 I2 l2 hf hfn hco => ?_)
  · rw [hn] at hz
    obtain rfl := List.mem_singleton.mp hz
    cases e
  refine kws_nil ?_
  show wpAny _ _ (call (.builtin "sorted") [.ref a] [(Str.ofString "key", .ref f)]) _ _ s2
  have hq2 := l2.sql hq
  have hy2 := hy.mo l2
  obtain ⟨its, rv, hl, hz⟩ := I2.list hq2
  have hlen := all_len hy2
  have hb := zip_dp hy2
  have ee := each_vals rv hlen
  have tup : ∀ b ∈ ys.zip xs, ∃ a z, b.1 = V.ref a ∧ H2 a = some (.tup [.int b.2.1, z]) := fun b hm => ds_pair (hb b hm)
  have un2 : X.A.in1.in1.depth < recursionLimit := hr.depth
  refine PySem.W.sorted_key_data (b := false) (R := fun v (b : V × (Int × α)) => RelV b.1 v) (fun b => .int b.2.1) hl.isList ee (PySem.W.AllAlike.of fun _ _ => by simp [PySem.W.alike]) ?_ (by rw [List.length_zip]; omega) (fun b _ => ?_) (ksk_s1 _ _) (fun _ => ksk_l1 _ _) (fun _ => ksk_t1 _ _) (fun v b hR hm g tk kp => ?_) fun out c h' tk kp fr hD hlen' hE => ?_
  · exact PySem.W.Sortable.others fun _ => ⟨fun z => (nomatch z), fun _ z => (nomatch z)⟩
  · have := hr.un
    show X.A.units + 2 + (PyData.int b.2.1).depth < cLine
    have : (PyData.int b.2.1).depth = 0 := by simp [PyData.depth]
    omega
  · obtain ⟨a2, z, e1, e2⟩ := tup b hm
    rw [e1] at hR
    obtain rfl : v = Value.ref a2 := hR
    have J : Inv X pins σ H2 { s2 with heap := g, toks := tk } := I2.kept kp
    obtain ⟨us, rvs, ht, hz2⟩ := J.tuple (.inl (.inl e2))
    have rvs' := rvs
    cases rvs with
    | cons r0 r' =>
      obtain ⟨t, rfl⟩ := r0
      obtain ⟨⟨oc, vs, t2, hoc, hdc, hvc⟩, _, _⟩ := J.hok c' _ hco
      exact lam0_call un2 J.nolimit (kp _ _ hf) ⟨c', oc, vs, t2, rfl, hoc, hdc, hvc⟩ hk hn h1 h2 (hbind _ _ _ _ _ _) ht rfl (by rw [← Vals.length rvs']; exact hz2) hd
  · rw [leK0] at hE
    have rv2 := vals_each hE
    refine ⟨.ref _, upd H2 (s2.heap.objs.size + 1) _, I2.laid (t' := tk) kp (Nat.le_succ _) (show ObjOk X.prog X.w _ _ _ (.lst _) from ⟨?_, out, c, rv2, hD⟩), rfl, hQ H2 l2 _ (I2.hok.fresh (Nat.le_succ _))⟩
    rw [List.length_map, List.length_mergeSort, List.length_zip]
    omega
theorem ev_sortK0 {H0 : Hp} {L : List (Addr × HO)} {Qe : Nat → Int → Prop} {F : Hp} {σ : L2.St} {m : Out (List (Int × α))} (hr : Room (k + 1) X.A) (hm : X.mg x = none) (hx : bootBuiltins x = some (.builtin "sorted")) (LA : LamAt X.base X.mg X.env.code (X.env.qual ++ "<lambda>")) (h : Ev X H0 L Qe F σ e (rB X.K) m) (hg : Gl X x := by rfl) (hdef : defaultsOf params X.env = ([], []) := by rfl) (hn : scope.names = [(y, .local)] := by rfl)
    (hk : scope.kind = .function := by rfl) (h1 : scope.isCoroutine = false := by rfl) (h2 : scope.isGenerator = false := by rfl) (hd : (y == ("__debug__" : Str)) = false := by decide) (hx2 : x ≠ "__name__" := by decide) (hdb : (x == ("__debug__" : Str)) = false := by decide)
    (hbind : ∀ (q : Str) (cl : List (Str × Addr)) (pm cv ctv : Value) (v : Value), bindArgs (PySem.W.kla_fn "<lambda>" q params (.Subscript (.Name y p1) (.Constant (.int 0) j p2) p3) scope cl pm cv ctv) ⟨[v], []⟩ = pure [(y, v)] := by intros; rfl)
    (he : backTo pos (starEach [e] X.env) = (false, eval e X.env) :: backTo pos (starEach [] X.env) := by rfl) (hpl : (backTo pos (starEach [e] X.env)).any (·.1) = false := by rfl) :
    Ev X H0 L Qe F σ (.Call (.Name x p) [e] [⟨some (Str.ofString "key"), .Lambda params (.Subscript (.Name y p1) (.Constant (.int 0) j p2) p3) scope lpos, kpos⟩] pos) (rL X.K) (m >>= fun xs => .ok (sortK0 xs)) := fun F1 H l st Q w =>
  sE_of (pe_sortK (α := α) hr hm hx LA pe_s hg hdef hn hk h1 h2 hd hx2 hdb hbind he hpl) (h F1 H l st _ (wpO_to (wpO_bind.mp w) fun xs w1 v F2 H2 ad le st2 rv => by
    obtain ⟨a, ys, rfl, hq, hy⟩ := rv
    have e1 : ((ys.zip xs).mergeSort fun a b => decide (a.2.1 ≤ b.2.1)).map (·.2) = sortK0 xs := by
      have := PySem.W.sort_maps (r := fun a b : V × (Int × α) => decide (a.2.1 ≤ b.2.1)) (s := fun a b => decide (a.1 ≤ b.1)) (·.2) (l := ys.zip xs) (fun _ _ _ _ => rfl)
      rw [this, zip_snd (all_len hy)]
      rfl
    have hs : DsAll X.K F2 (((ys.zip xs).mergeSort fun a b => decide (a.2.1 ≤ b.2.1)).map (·.1)) ((sortK0 xs).map py) := by
      rw [← e1]
      exact dp_zip fun b hm => zip_dp hy b (List.mem_mergeSort.mp hm)
    exact ⟨a, ys, xs, rfl, hq, hy.mo st2.lF, st2.tabs, fun H3 l3 p hp => give_new (X := X) (st2.le l3) hp hs fun v F4 H4 ad4 le4 st4 r4 => w1 v F4 H4 (ad.trans (le.trans l3).dom ad4) ((le.trans l3).trans le4) st4 (okL.bk (le.trans l3) r4)⟩))
end
end Rf


set_option Elab.async false
set_option linter.all false
set_option maxRecDepth 100000
set_option maxHeartbeats 1000000
namespace Rf
open PySem PySem.Spec L2 PyProof.Rows
open Py (py)
variable [TbC]
theorem reI {K : PySem.W.Frag} {F F' : Hp} {ys : List V} {xs : List Int} (h : DsAll K F ys (xs.map py)) : DsAll K F' ys (xs.map py) := by
  rw [DsAll.ints h]
  exact DsAll.ofInts xs
section
variable {X : Cx} {He Fe : Hp} {L : List (Addr × HO)} {Qe : Nat → Int → Prop} {F H : Hp} {σ : L2.St} {α τ : Type} [Py α] {Po : τ → Prop} {D : Ends} {rest : List Stmt} {e e0 : Expr} {pos : Pos}
/-- e0.append(e), e0 a frozen list: all that was frozen since the entry is forgotten -/
theorem b_appendQ {m : Out α} {m0 : Out (List α)} {k : List α → Out τ} {p1 p2 : Pos} (he0 : Ev X He L Qe F σ e0 (rE X.K) m0) (he : Ev X He L Qe F σ e (rE X.K) m) (P : Pt He Fe He L F H) (hFe : ∀ p, Fe p = none)
    (h : wpO (m0 >>= fun z => m >>= fun a => pushO z a >>= k) Po Qe)
    (cont : ∀ z H', wpO (k z) Po Qe → Pt He Fe He L Fe H' → sS X rest D σ H')
    (hpe : PE X (.Call (.Attribute e0 "append" p1) [e] [] p2) (tBM X.K "list" rAppend (sE X e0) (tCons (sE X e) tNil)) := by exact pe_bm PySem.F.plainAttrs_list PySem.F.slot_list_append PySem.F.type_list_append mt_append pe_s (pa_cons pe_s pa_nil))
    (hsw : swapsWith (.Call (.Attribute e0 "append" p1) [e] [] p2) none pos.line X.env = pure false := by rfl) : sS X (.Expr (.Call (.Attribute e0 "append" p1) [e] [] p2) pos :: rest) D σ H := by
  refine sS_cons (s1_of (ps_expr hpe hsw) ?_)
  refine he0 F H (Le.refl _) P.st _ (wpO_to (wpO_bind.mp h) fun z w v0 F1 H1 ad1 le1 st1 r0 => ?_)
  have P1 := P.go ad1 le1 st1
  have r0 : Ds X.K F1 v0 (.list (z.map py)) := r0
  cases r0 with
  | lst hp hz =>
    rename_i p0 zs
    refine ⟨.inl ⟨rfl, zs, .inl (.inl (st1.lF.at hp))⟩, he F1 H1 ad1.le st1 _ (wpO_to (wpO_bind.mp w) fun a w v F2 H2 ad2 le2 st2 rv => ?_)⟩
    obtain ⟨hsz, w⟩ := wpO_guard.mp (wpO_bind.mp w)
    have P2 := P1.go ad2 le2 st2
    have hp2 : F2 p0 = some (.lst zs) := ad2.le.at hp
    have hH2 := st2.lF.at hp2
    have n0 : He p0 = none := by
      cases q : He p0 with
      | none => rfl
      | some o =>
        rw [P2.ad.nw p0 o q (hFe p0)] at hp2
        cases hp2
    refine ⟨p0, zs, v, rfl, rfl, hH2, by rw [all_len hz]; exact hsz, cont _ _ w ⟨⟨st2.l0.put n0 hH2 Pl.lst, .of fun a o e => ?_, fun q hq => ?_, st2.nd, st2.tt⟩, Adv.refl _ _, P2.dm.trans (dom_put hH2)⟩⟩
    · rw [hFe a] at e
      cases e
    · have k := st2.own q hq
      have nq : q.1 ≠ p0 := fun z => by
        rw [z, hp2] at k
        cases k.2.1
      exact ⟨by rw [upd_ne nq]; exact k.1, hFe _, k.2.2⟩
end
/-- the law's own promise: nothing stands frozen at its entry -/
def PmL {ρ β : Type} (ra : Rep (List V) ρ) (rr : Rep V β) (fm : ρ → Out β) : Sp := fun vs H Q _ => ∃ (Qe : Nat → Int → Prop) (q : ρ), LamX.Tabs TbC.T H ∧ ra H (fun _ => none) H vs q ∧ wpO (fm q) (RetP H (fun _ => none) rr Q) Qe
section
variable {P : Program} {w : World} {K : PySem.W.Frag} {mg : Str → Option Value} {base : Heap}
theorem fnL {x qual : Str} {st : Stmt} {f : Addr} {fd : FuncData} {N ps : List Str} {k : Nat} {ρ β : Type} {ra : Rep (List V) ρ} {rr : Rep V β} {fm : ρ → Out β} (Fn : Fun K x qual st f fd) (S : FnScope N ps (defScope st)) (hl : ∀ {Hs F H vs q}, ra Hs F H vs q → vs.length = ps.length)
    (body : ∀ (A : Around) (outer : List Env) (s : Shared) (E : XK) (F H : Hp) (Qe : Nat → Int → Prop) (Q : VK) (vs : List V) (q : ρ), Room k (A.deeper (envOfC qual (defScope st) s.heap.objs.size f fd.code)) → (∀ p, F p = none) → Le F H → LamX.Tabs TbC.T H → ra H F H vs q → wpO (fm q) (RetP H F rr Q) Qe →
      sS (cxOf CX0 P w K mg base N qual (defScope st) f fd.code A outer s H E).nox (defBody st) { nx := fun _ H' => Q .non H', rt := Q } (start N vs) H) : FnOk P w K mg base CX0 (k + 1) f fd ps (PmL ra rr fm) := by
  obtain ⟨oc, od, kV, doc, pm, an, cdv, ct, osl, rfl, lk, hcd⟩ := Fn.ex
  refine fn_of lk hcd S (fun vs H Q E ⟨Qe, q, _, h, _⟩ => hl h) fun A outer s H vs Q E hr ⟨Qe, q, t, h, w⟩ => ?_
  exact ⟨_, PSs.nox pss_s, body A outer s E (fun _ => none) H Qe Q vs q hr (fun _ => rfl) (.of fun a o e => nomatch e) t h w⟩
/-- what the end asks of the law's promise -/
theorem pmL_law {H : Hp} {a : Addr} {ns : List Int} {fm : List Int × Unit → Out Bool} (h : SqL K H a (ns.map V.int)) (t : LamX.Tabs TbC.T H) (e : fm (ns, ()) = .ok true) : PmL (rC (rB K (α := Int)) r0) (rE K (α := Bool)) fm [.ref a] H (fun v _ => v = .bl true) fun _ _ _ => False :=
  ⟨fun _ _ => False, (ns, ()), t, ⟨.ref a, [], rfl, ⟨a, _, rfl, h, DsAll.ofInts ns⟩, rfl⟩, wpO_ok e fun v F' H' _ _ _ r => dpB r⟩
end

omit [TbC] in
theorem walk_lam {l : PySem.W.OpenLaw} {n k : Nat} {q : Program} {loose : List Str} {XP : (Str → Option Value) → Heap → Prop} {YP : World → Heap → Prop} {d dn : DefRec} {K : Params → PySem.W.Frag} {CX : World → CXT} {x nm : Str}
    (hn : l.most = some n) (hn2 : n ≤ sizeLine) (hdf : d.params.defaults = []) (hr : Room k callerA) (hrec : (recsOf q).find? (fun e => e.name == nm) = some dn) (hY : ∀ (w : World) (h : Heap), YP w h → (K w.params).In h)
    (F : ∀ (w : World) (mg : Str → Option Value) (fa : Addr) (h : Heap), XP mg h → YP w h → (K w.params).In h → h.Ns mainGlobals mg → mg d.name = some (.ref fa) →
      (∀ c P, PySem.W.tabIn (K w.params) nm = some (c, P) → PySem.W.CodeHd h c P ∧ h.get? P = some { cls := .none, data := .fields #[] }) → LamX.LawAtS l w (K w.params) (CX w) k n x mg fa h)
    (hCX : ∀ (w : World) (H : Hp) (s : Shared) (e : Value) (s' : Shared), CX w [] H s (fun _ _ _ => False) e s' → False) :
    PySem.W.WalkO q loose XP YP l.row.toRowW d [] (fun f vs => PySem.call f vs) := by
  refine Att.attach_callB hn hdf fun w s₀ s₁ mg mb fa o pm cd doc a vs ns G Y ho hd hcd hmg hobj hints hlen hbits hg => ?_
  obtain ⟨fd, cs, sp, hT, nT, C, hb, hsp, hF⟩ := F w mg fa _ G.X Y (hY w _ Y) G.T.g hmg fun c P e => PySem.W.tab_of G.T (hY w _ Y) hrec e
  exact LamX.law_callTs (hY w _ Y) G.T.g G.T.b G.T.builtins G.T.nolimit hg hT nT C G.T.bmain hobj hints (Nat.le_trans hlen hn2) hr hF hb
    (fun H hH hS => hsp H a ns hlen hbits hH hS) fun H e s' => hCX w H s₁ e s'
end Rf


set_option Elab.async false
set_option linter.all false
set_option maxRecDepth 100000
set_option maxHeartbeats 1000000
namespace Rf
open PySem PySem.Spec L2
local instance tb0 : TbC := ⟨[]⟩
/-! ### plain reasoning about mirrors -/
abbrev Okm {α : Type} (m : Out α) (P : α → Prop) : Prop := ∃ a, m = .ok a ∧ P a
theorem okm_ok {α : Type} {a : α} {P : α → Prop} (h : P a) : Okm (.ok a) P := ⟨a, rfl, h⟩
theorem okm_bind {α β : Type} {m : Out α} {f : α → Out β} {R : α → Prop} {P : β → Prop} (h : Okm m R) (k : ∀ a, R a → Okm (f a) P) : Okm (m >>= f) P := by
  obtain ⟨a, e, r⟩ := h
  rw [e, ok_bind]
  exact k a r
theorem okm_to {α : Type} {m : Out α} {R P : α → Prop} (h : Okm m R) (k : ∀ a, R a → P a) : Okm m P := by
  obtain ⟨a, e, r⟩ := h
  exact ⟨a, e, k a r⟩
theorem guardO_ok {α : Type} {c : Prop} [Decidable c] {a : α} (h : c) : guardO c a = .ok a := by
  unfold guardO
  rw [if_pos h]
theorem mulO_l {i j : Int} (h : -(2 ^ 64) < i ∧ i < 2 ^ 64) : mulO i j = .ok (i * j) := guardO_ok (Or.inl h)
theorem mulO_r {i j : Int} (h : -(2 ^ 64) < j ∧ j < 2 ^ 64) : mulO i j = .ok (i * j) := guardO_ok (Or.inr h)
theorem divO_ok {i j : Int} (h : 0 < j ∧ j < 1073741824) : divO i j = .ok (i.fdiv j) := guardO_ok ⟨by omega, by omega⟩
theorem modO_ok {i j : Int} (h : j ≠ 0) : modO i j = .ok (i.fmod j) := guardO_ok h
theorem powO_ok {i j : Int} (h : 0 ≤ j ∧ j ≤ 1000000 ∧ i.natAbs < 2 ^ 64) : powO i j = .ok (i ^ j.toNat) := guardO_ok h
theorem shlO_ok {i j : Int} (h : 0 ≤ j ∧ j ≤ 1000000 ∧ i.natAbs < 2 ^ 64) : shlO i j = .ok (i * 2 ^ j.toNat) := guardO_ok h
theorem size_eq : sizeLine = 16777216 := by decide
theorem pushO_ok {α : Type} {xs : List α} {a : α} (h : xs.length < 16777216) : pushO xs a = .ok (xs ++ [a]) := guardO_ok (by rw [size_eq]; exact h)
theorem catO_ok {α : Type} {xs ys : List α} (h : xs.length + ys.length ≤ 16777216) : catO xs ys = .ok (xs ++ ys) := guardO_ok (by rw [size_eq]; exact h)
theorem rngO_ok {lo hi : Int} (h : -(2 ^ 62) ≤ lo ∧ lo < 2 ^ 62 ∧ -(2 ^ 62) ≤ hi ∧ hi < 2 ^ 62) : rngO lo hi = .ok (rng lo hi) := guardO_ok h
theorem cmpR_ok {lo hi : Int} (h : -(2 ^ 62) ≤ lo ∧ lo < 2 ^ 62 ∧ -(2 ^ 62) ≤ hi ∧ hi < 2 ^ 62) (h2 : (hi - lo).toNat ≤ 16777216) : cmpR lo hi = .ok (rng lo hi) := guardO_ok ⟨h, by rw [size_eq]; exact h2⟩
theorem getI_nat {α : Type} {xs : List α} {i : Nat} {a : α} (h : xs[i]? = some a) : getI xs (i : Int) = .ok a := by
  have hl : i < xs.length := (List.getElem?_eq_some_iff.mp h).1
  refine getI_ok ?_
  unfold atI ixN
  rw [if_pos (by omega), if_pos (by omega)]
  simpa using h
theorem getI_zero {α : Type} {xs : List α} {a : α} : getI (a :: xs) 0 = .ok a := getI_nat (xs := a :: xs) (i := 0) rfl
theorem getI_at {α : Type} {xs : List α} {i : Int} (h0 : 0 ≤ i) (h1 : i < xs.length) : getI xs i = .ok (xs[i.toNat]'(by omega)) := by
  have e : i = ((i.toNat : Nat) : Int) := by omega
  have := getI_nat (xs := xs) (i := i.toNat) (List.getElem?_eq_getElem (by omega))
  rw [← e] at this
  exact this
theorem getI_last {α : Type} {xs : List α} {a : α} : getI (xs ++ [a]) (-1) = .ok a := by
  refine getI_ok ?_
  unfold atI ixN
  rw [if_neg (by omega), if_pos (by rw [List.length_append]; simp; omega)]
  have : (-1 + ((xs ++ [a]).length : Int)).toNat = xs.length := by
    rw [List.length_append]
    simp
    omega
  show (xs ++ [a])[(-1 + ((xs ++ [a]).length : Int)).toNat]? = some a
  rw [this]
  simp
theorem setI_at {α : Type} {xs : List α} {i : Int} {a : α} (h0 : 0 ≤ i) (h1 : i < xs.length) : setI xs i a = .ok (xs.set i.toNat a) := by
  unfold setI ixN
  rw [if_pos h0, if_pos h1]
/-- a fold along a range -/
theorem okm_fold {S : Type} {f : Int → S → Out S} (I : Int → S → Prop) : ∀ (n : Nat) (lo : Int) (s : S), I lo s → (∀ i s, lo ≤ i → i < lo + n → I i s → Okm (f i s) (I (i + 1))) → Okm (foldO f (rng lo (lo + n)) s) (I (lo + n))
  | 0, lo, s, h, _ => by
    rw [rng_nil (by omega)]
    have : lo + ((0 : Nat) : Int) = lo := by omega
    rw [this]
    exact ⟨s, rfl, h⟩
  | n + 1, lo, s, h, k => by
    rw [rng_cons (by omega)]
    unfold foldO
    refine okm_bind (k lo s (Int.le_refl _) (by omega) h) fun s' h' => ?_
    have e : lo + ((n + 1 : Nat) : Int) = (lo + 1) + (n : Int) := by omega
    rw [e]
    exact okm_fold I n (lo + 1) s' h' fun i s a b => k i s (by omega) (by omega)
theorem okm_range {S : Type} {f : Int → S → Out S} {hi : Int} {s : S} (I : Int → S → Prop) (h : I 0 s) (hh : 0 ≤ hi) (k : ∀ i s, 0 ≤ i → i < hi → I i s → Okm (f i s) (I (i + 1))) : Okm (foldO f (rng 0 hi) s) (I hi) := by
  have := okm_fold I hi.toNat 0 s h fun i s a b => k i s a (by omega)
  have e : (0 : Int) + (hi.toNat : Int) = hi := by omega
  rw [e] at this
  exact this
/-- a comprehension whose parts are plain -/
theorem compO_ok {ι α : Type} {c : ι → Out Bool} {f : ι → Out α} {c' : ι → Bool} {f' : ι → α} : ∀ (is : List ι), (∀ i ∈ is, c i = .ok (c' i)) → (∀ i ∈ is, c' i = true → f i = .ok (f' i)) → compO c f is = .ok ((is.filter c').map f')
  | [], _, _ => rfl
  | i :: is, h1, h2 => by
    unfold compO
    rw [h1 i List.mem_cons_self, ok_bind]
    have ih := compO_ok is (fun j hj => h1 j (List.mem_cons_of_mem _ hj)) (fun j hj => h2 j (List.mem_cons_of_mem _ hj))
    cases hc : c' i with
    | true => rw [if_pos rfl, h2 i List.mem_cons_self hc, ok_bind, ih, ok_bind, List.filter_cons, if_pos hc, List.map_cons]
    | false => rw [if_neg (by simp), ih, List.filter_cons, if_neg (by rw [hc]; simp)]
theorem mem_rng {lo hi i : Int} (h : i ∈ rng lo hi) : lo ≤ i ∧ i < hi := by
  unfold rng at h
  obtain ⟨k, hk, rfl⟩ := List.mem_map.mp h
  have := List.mem_range.mp hk
  omega
theorem rng_len {lo hi : Int} : (rng lo hi).length = (hi - lo).toNat := by
  unfold rng
  rw [List.length_map, List.length_range]
/-- a fold whose turns are plain -/
theorem foldO_ok {ι S : Type} {f : ι → S → Out S} {g : ι → S → S} (I : S → Prop) : ∀ (is : List ι) (s : S), I s → (∀ i ∈ is, ∀ s, I s → f i s = .ok (g i s) ∧ I (g i s)) → foldO f is s = .ok (is.foldl (fun s i => g i s) s) ∧ I (is.foldl (fun s i => g i s) s)
  | [], s, h, _ => ⟨rfl, h⟩
  | i :: is, s, h, k => by
    obtain ⟨e, h'⟩ := k i List.mem_cons_self s h
    unfold foldO
    rw [e, ok_bind]
    exact foldO_ok I is _ h' fun j hj => k j (List.mem_cons_of_mem _ hj)
/-- the whole loop goes on -/
theorem foldC_go {ι ρ S : Type} {f : ι → S → Out (Ctl ρ S)} {s : S} : ∀ (is : List ι), (∀ i ∈ is, f i s = .ok (.go s)) → foldC f is s = .ok (.go s)
  | [], _ => rfl
  | i :: is, h => by
    unfold foldC
    rw [h i List.mem_cons_self, ok_bind]
    exact foldC_go is fun j hj => h j (List.mem_cons_of_mem _ hj)
theorem un0_eq {β : Type} {f : β} {u : Unit} : un0 f u = f := rfl
theorem un2_eq {α β γ : Type} {f : α → β → γ} {q : α × β} : un2 f q = f q.1 q.2 := rfl
theorem un3_eq {α β γ δ : Type} {f : α → β → γ → δ} {q : α × β × γ} : un3 f q = f q.1 q.2.1 q.2.2 := rfl
theorem fmod_rng {i j : Int} (h : 0 < j) : 0 ≤ i.fmod j ∧ i.fmod j < j := ⟨Int.fmod_nonneg_of_pos i h, Int.fmod_lt_of_pos i h⟩
theorem rng_snoc {lo : Int} {n : Nat} : rng lo (lo + ((n + 1 : Nat) : Int)) = rng lo (lo + (n : Int)) ++ [lo + (n : Int)] := by
  unfold rng
  have e1 : (lo + ((n + 1 : Nat) : Int) - lo).toNat = n + 1 := by omega
  have e2 : (lo + (n : Int) - lo).toNat = n := by omega
  rw [e1, e2, List.range_succ, List.map_append]
  rfl
theorem rng0 {n : Nat} : rng 0 (n : Int) = (List.range n).map fun (k : Nat) => (k : Int) := by
  unfold rng
  have e1 : ((n : Int) - 0).toNat = n := by omega
  rw [e1]
  refine List.map_congr_left fun k _ => ?_
  omega
/-- a loop that appends -/
theorem fold_push {α : Type} {f : Int → List α → Out (List α)} {g : Int → α} {hi : Int} {s : List α} (hh : 0 ≤ hi) (h : ∀ k, 0 ≤ k → k < hi → ∀ s' : List α, (s'.length : Int) = s.length + k → f k s' = .ok (s' ++ [g k])) : foldO f (rng 0 hi) s = .ok (s ++ (rng 0 hi).map g) := by
  obtain ⟨a, e, r⟩ := okm_range (f := f) (s := s) (fun i s' => s' = s ++ (rng 0 i).map g) (by rw [rng_nil (Int.le_refl _)]; simp) hh fun k s' a b c => ⟨s' ++ [g k], h k a b s' (by rw [c, List.length_append, List.length_map, rng_len]; omega), by
    rw [c]
    have e1 : k = 0 + ((k.toNat : Nat) : Int) := by omega
    have e2 : k + 1 = 0 + ((k.toNat + 1 : Nat) : Int) := by omega
    rw [e2, rng_snoc, ← e1, List.map_append, List.append_assoc]
    rfl⟩
  rw [e, r]
theorem fold_push_list {ι α : Type} {f : ι → List α → Out (List α)} {g : ι → α} : ∀ (is : List ι) (s : List α), (∀ a ∈ is, ∀ s' : List α, s'.length < s.length + is.length → f a s' = .ok (s' ++ [g a])) → foldO f is s = .ok (s ++ is.map g)
  | [], s, _ => by
    unfold foldO
    simp
  | a :: is, s, h => by
    unfold foldO
    rw [h a List.mem_cons_self s (by simp), ok_bind, fold_push_list is _ fun b hb s' hl => h b (List.mem_cons_of_mem _ hb) s' (by simp at hl ⊢; omega)]
    simp
theorem map_get {α β : Type} {xs : List α} {d : α} {f : α → β} : (rng 0 (xs.length : Int)).map (fun k => f (xs[k.toNat]?.getD d)) = xs.map f := by
  rw [rng0, List.map_map]
  refine List.ext_getElem (by simp) fun i h1 h2 => ?_
  simp at h1
  simp [h1]
theorem getI_d {α : Type} {xs : List α} {i : Int} (d : α) (h0 : 0 ≤ i) (h1 : i < xs.length) : getI xs i = .ok (xs[i.toNat]?.getD d) := by
  rw [getI_at h0 h1]
  have : i.toNat < xs.length := by omega
  simp [this]
theorem fdiv_nat {n : Nat} : ((n : Int).fdiv 2) = ((n / 2 : Nat) : Int) := by
  rw [Int.fdiv_eq_ediv_of_nonneg _ (by decide)]
  omega
/-! ### sorting -/
theorem perm_sorted_eq {α : Type} {r : α → α → Prop} (anti : ∀ a b, r a b → r b a → a = b) (rfl' : ∀ a, r a a) : ∀ {xs ys : List α}, xs.Perm ys → xs.Pairwise r → ys.Pairwise r → xs = ys
  | [], ys, p, _, _ => by rw [List.nil_perm.mp p]
  | x :: xs, [], p, _, _ => by cases (List.perm_nil.mp p)
  | x :: xs, y :: ys, p, h1, h2 => by
    have hxy : r x y := by
      rcases List.mem_cons.mp (p.mem_iff.mpr (List.mem_cons_self (a := y) (l := ys))) with e | hm
      · rw [e]
        exact rfl' x
      · exact (List.pairwise_cons.mp h1).1 y hm
    have hyx : r y x := by
      rcases List.mem_cons.mp (p.mem_iff.mp (List.mem_cons_self (a := x) (l := xs))) with e | hm
      · rw [e]
        exact rfl' y
      · exact (List.pairwise_cons.mp h2).1 x hm
    obtain rfl := anti x y hxy hyx
    rw [perm_sorted_eq anti rfl' ((List.perm_cons x).mp p) (List.pairwise_cons.mp h1).2 (List.pairwise_cons.mp h2).2]
theorem sort_pairwise {α : Type} (le : α → α → Bool) (tr : ∀ a b c, le a b = true → le b c = true → le a c = true) (to : ∀ a b, (le a b || le b a) = true) (xs : List α) : (xs.mergeSort le).Pairwise fun a b => le a b = true :=
  List.pairwise_mergeSort tr to xs
/-- a stable sort by a key keeps a finer order -/
theorem stable_fine {α : Type} (key : α → Int) (r : α → α → Prop) (rfl' : ∀ a, r a a) (lt : ∀ a b, key a < key b → r a b) (xs : List α) (h : xs.Pairwise fun a b => key a = key b → r a b) : (xs.mergeSort fun a b => decide (key a ≤ key b)).Pairwise r := by
  rw [← List.mergeSort_zipIdx]
  have hp : ∀ a b, (List.zipIdxLE (fun a b => decide (key a ≤ key b)) a b || List.zipIdxLE (fun a b => decide (key a ≤ key b)) b a) = true := fun a b => by
    unfold List.zipIdxLE
    by_cases h1 : key a.1 ≤ key b.1
    · by_cases h2 : key b.1 ≤ key a.1
      · have : a.2 ≤ b.2 ∨ b.2 ≤ a.2 := by omega
        simp [h1, h2, this]
      · simp [h1, h2]
    · have h2 : key b.1 ≤ key a.1 := by omega
      simp [h1, h2]
  have tr : ∀ a b c, List.zipIdxLE (fun a b => decide (key a ≤ key b)) a b = true → List.zipIdxLE (fun a b => decide (key a ≤ key b)) b c = true → List.zipIdxLE (fun a b => decide (key a ≤ key b)) a c = true := fun a b c h1 h2 => by
    unfold List.zipIdxLE at *
    simp only [decide_eq_true_eq] at *
    split at h1
    · split at h2
      · rw [if_pos (by omega)]
        split at h1
        · split at h2
          · simp only [decide_eq_true_eq] at h1 h2
            rw [if_pos (by omega)]
            exact decide_eq_true (by omega)
          · rw [if_neg (by omega)]
        · rw [if_neg (by omega)]
      · cases h2
    · cases h1
  have ps := List.pairwise_mergeSort tr hp (xs.zipIdx)
  refine List.pairwise_map.mpr ?_
  refine List.Pairwise.imp_of_mem (fun {a b} ha hb z => ?_) ps
  have ha := List.mem_mergeSort.mp ha
  have hb := List.mem_mergeSort.mp hb
  unfold List.zipIdxLE at z
  simp only [decide_eq_true_eq] at z
  split at z
  · split at z
    · have z := decide_eq_true_eq.mp z
      have ea := List.mk_mem_zipIdx_iff_getElem?.mp ha
      have eb := List.mk_mem_zipIdx_iff_getElem?.mp hb
      by_cases e : a.2 = b.2
      · rw [e, eb] at ea
        rw [← Option.some.inj ea]
        exact rfl' _
      · obtain ⟨l1, g1⟩ := List.getElem?_eq_some_iff.mp ea
        obtain ⟨l2, g2⟩ := List.getElem?_eq_some_iff.mp eb
        have := List.pairwise_iff_getElem.mp h a.2 b.2 l1 l2 (by omega)
        rw [g1, g2] at this
        exact this (by omega)
    · exact lt _ _ (by omega)
  · cases z
end Rf


set_option Elab.async false
set_option linter.all false
set_option maxRecDepth 100000
set_option maxHeartbeats 4000000
namespace K15
open PySem PySem.Spec L2 Rf
open Py (py)
@[irreducible] def m_draws_L2 (turn : Int) (rest_ : Int) (draws_here : (List Int)) : Out (Int × (List Int)) :=
  ((Out.ok (decide ((0 : Int) < rest_))) >>= fun t4 => (if t4 = true then ((modO rest_ (65536 : Int)) >>= fun t3 => (pushO draws_here t3 >>= fun draws_here => ((divO rest_ (65536 : Int)) >>= fun rest_ => (Out.ok (rest_, draws_here))))) else (Out.ok (rest_, draws_here))))
@[irreducible] def m_draws_L1 (script : (List Int)) (k : Int) (draws_here : (List Int)) : Out (List Int) :=
  (((getI script k) >>= fun t1 => (Out.ok (absI t1))) >>= fun rest_ => (((powO (10 : Int) (18 : Int)) >>= fun t2 => (Out.ok (decide (t2 ≤ rest_)))) >>= fun t16 => (if t16 = true then ((Out.ok (60 : Int)) >>= fun t5 => (rngO 0 t5 >>= fun is => foldO (fun turn => (un2 (m_draws_L2  turn))) is (rest_, draws_here) >>= (un2 fun rest_ draws_here => (Out.ok draws_here)))) else ((((mulO rest_ (48271 : Int)) >>= fun t6 => ((mulO (k + (1 : Int)) (69621 : Int)) >>= fun t7 => (Out.ok (t6 + t7)))) >>= fun t8 => (modO t8 (2147483647 : Int))) >>= fun mixed => (((((mulO mixed (16807 : Int)) >>= fun t9 => ((mulO (11 : Int) k) >>= fun t10 => (Out.ok (t9 + t10)))) >>= fun t11 => (Out.ok (t11 + (5 : Int)))) >>= fun t12 => (modO t12 (2147483629 : Int))) >>= fun mixed => ((modO mixed (65536 : Int)) >>= fun t15 => (pushO draws_here t15 >>= fun draws_here => (((divO mixed (65536 : Int)) >>= fun t13 => (modO t13 (32768 : Int))) >>= fun t14 => (pushO draws_here t14 >>= fun draws_here => (Out.ok draws_here))))))))))
@[irreducible] def m_draws (script : (List Int)) : Out (List Int) :=
  ((Out.ok ([] : List Int)) >>= fun draws_here => ((Out.ok (minI (63 : Int) (script.length : Int))) >>= fun t17 => (rngO 0 t17 >>= fun is => foldO (fun k => (m_draws_L1 script k)) is draws_here >>= (fun draws_here => (Out.ok draws_here)))))

@[irreducible] def m_at_ (draws_here : (List Int)) (k : Int) (many : Int) : Out Int :=
  ((Out.ok (decide (k < (draws_here.length : Int)))) >>= fun t2 => (if t2 = true then ((getI draws_here k) >>= fun t1 => (modO t1 many)) else (Out.ok (0 : Int))))

@[irreducible] def m_is_integer (actual : Int) : Out Bool :=
  (andO true (Out.ok (!false)))

@[irreducible] def m_is_row_L1 (item : Int) : Out (Ctl Bool Unit) :=
  (((m_is_integer item) >>= fun t1 => (Out.ok (!t1))) >>= fun t2 => (if t2 = true then ((Out.ok false) >>= fun r => Out.ok (Ctl.ret r)) else (Out.ok (Ctl.go ()))))
@[irreducible] def m_is_row (actual : (List Int)) : Out Bool :=
  ((Out.ok (!true)) >>= fun t3 => (if t3 = true then (Out.ok false) else (foldC (fun item => (un0 (m_is_row_L1  item))) actual () >>= (Ctl.fin (un0 ((Out.ok true))) (fun r => Out.ok r)))))

@[irreducible] def m_counts_L1 (draws_here : (List Int)) (first : Int) (greatest : Int) (k : Int) (out : (List Int)) : Out (List Int) :=
  ((((modO k (24 : Int)) >>= fun t3 => (Out.ok ((first + (2 : Int)) + t3))) >>= fun t4 => (m_at_ draws_here t4 greatest)) >>= fun count => (((((m_at_ draws_here first (7 : Int)) >>= fun t5 => (Out.ok (decide (t5 = (3 : Int))))) >>= fun t6 => (andO t6 (andO (decide (k < (40 : Int))) (Out.ok (decide ((1 : Int) < k)))))) >>= fun t11 => (if t11 = true then ((((getI out (k - (1 : Int))) >>= fun t7 => ((getI out (k - (2 : Int))) >>= fun t8 => (Out.ok (t7 + t8)))) >>= fun t9 => (Out.ok (minI t9 (4294967295 : Int)))) >>= fun count => (Out.ok count)) else (Out.ok count))) >>= (fun count => ((Out.ok count) >>= fun t10 => (pushO out t10 >>= fun out => (Out.ok out))))))
@[irreducible] def m_counts (draws_here : (List Int)) (first : Int) (many : Int) : Out (List Int) :=
  (((m_at_ draws_here first (5 : Int)) >>= fun t1 => (getI ([(2 : Int), (5 : Int), (40 : Int), (1000 : Int), (65536 : Int)] : List Int) t1)) >>= fun greatest => ((Out.ok ([] : List Int)) >>= fun out => ((m_at_ draws_here (first + (1 : Int)) (many + (1 : Int))) >>= fun size => ((((m_at_ draws_here first (16 : Int)) >>= fun t2 => (Out.ok (decide (t2 = (7 : Int))))) >>= fun t13 => (if t13 = true then ((Out.ok (size + (290 : Int))) >>= fun size => (Out.ok size)) else (Out.ok size))) >>= (fun size => ((Out.ok size) >>= fun t12 => (rngO 0 t12 >>= fun is => foldO (fun k => (m_counts_L1 draws_here first greatest k)) is out >>= (fun out => (Out.ok out)))))))))

@[irreducible] def m_rows_L2 (later : (List (Int × Int))) (k : Int) (items : (List (T3 Int Int Int))) : Out (List (T3 Int Int Int)) :=
  ((((((mulO (2 : Int) k) >>= fun t8 => (getI later t8)) >>= fun t9 => (Out.ok t9.1)) >>= fun t13 => (((((mulO (2 : Int) k) >>= fun t10 => (Out.ok (t10 + (1 : Int)))) >>= fun t11 => (getI later t11)) >>= fun t12 => (Out.ok t12.1)) >>= fun t14 => (Out.ok (t13 + t14)))) >>= fun t15 => (Out.ok (T3.mk t15 (1 : Int) k))) >>= fun t16 => (pushO items t16 >>= fun items => (Out.ok items)))
@[irreducible] def m_rows_L3 (item : (T3 Int Int Int)) (row : (List (Int × Int))) : Out (List (Int × Int)) :=
  ((Out.ok (decide (item.b = (0 : Int)))) >>= fun t19 => (if t19 = true then ((Out.ok (item.a, item.c)) >>= fun t17 => (pushO row t17 >>= fun row => (Out.ok row))) else ((Out.ok (item.a, (-(1 : Int)))) >>= fun t18 => (pushO row t18 >>= fun row => (Out.ok row)))))
@[irreducible] def m_rows_L1 (singles : (List (Int × Int))) (turn : Int) (rows_here : (List (List (Int × Int)))) (later : (List (Int × Int))) : Out ((List (List (Int × Int))) × (List (Int × Int))) :=
  (((Out.ok (singles.length : Int)) >>= fun t7 => (cmpR 0 t7 >>= fun is => compO (fun k => (Out.ok true)) (fun k => (((getI singles k) >>= fun t3 => (Out.ok t3.1)) >>= fun t5 => (((getI singles k) >>= fun t4 => (Out.ok t4.2)) >>= fun t6 => (Out.ok (T3.mk t5 (0 : Int) t6))))) is)) >>= fun items => ((divO (later.length : Int) (2 : Int)) >>= fun t20 => (rngO 0 t20 >>= fun is => foldO (fun k => (m_rows_L2 later k)) is items >>= (fun items => ((sortO items) >>= fun items => ((Out.ok ([] : List (Int × Int))) >>= fun row => (foldO (fun item => (m_rows_L3  item)) items row >>= (fun row => ((catO ([row] : List (List (Int × Int))) rows_here) >>= fun rows_here => ((Out.ok row) >>= fun later => (Out.ok (rows_here, later))))))))))))
@[irreducible] def m_rows (counts_here : (List Int)) (most : Int) : Out (List (List (Int × Int))) :=
  ((cmpR 0 (counts_here.length : Int) >>= fun is => compO (fun k => ((getI counts_here k) >>= fun t2 => (Out.ok (decide ((0 : Int) < t2))))) (fun k => ((getI counts_here k) >>= fun t1 => (Out.ok (t1, k)))) is) >>= fun singles => ((Out.ok (decide ((singles.length : Int) < (2 : Int)))) >>= fun t22 => (if t22 = true then (Out.ok ([] : List (List (Int × Int)))) else ((Out.ok ([] : List (List (Int × Int)))) >>= fun rows_here => ((Out.ok ([] : List (Int × Int))) >>= fun later => ((Out.ok most) >>= fun t21 => (rngO 0 t21 >>= fun is => foldO (fun turn => (un2 (m_rows_L1 singles turn))) is (rows_here, later) >>= (un2 fun rows_here later => (Out.ok rows_here)))))))))

@[irreducible] def m_due_L2 (row : (List (Int × Int))) (k : Int) (pairs : Int) (lengths : (List Int)) : Out (Int × (List Int)) :=
  ((((getI row k) >>= fun t10 => (Out.ok t10.2)) >>= fun t11 => (Out.ok (decide (t11 < (0 : Int))))) >>= fun t22 => (if t22 = true then ((Out.ok (pairs + (1 : Int))) >>= fun pairs => (Out.ok (pairs, lengths))) else (((((getI row k) >>= fun t12 => (Out.ok t12.2)) >>= fun t13 => (getI lengths t13)) >>= fun t14 => (Out.ok (t14 + (1 : Int)))) >>= fun t20 => (((getI row k) >>= fun t15 => (Out.ok t15.2)) >>= fun t21 => (setI lengths t21 t20 >>= fun lengths => (Out.ok (pairs, lengths)))))))
@[irreducible] def m_due_L1 (row : (List (Int × Int))) (lengths : (List Int)) (many : Int) : Out ((List Int) × Int) :=
  ((Out.ok (0 : Int)) >>= fun pairs => ((Out.ok (minI many (row.length : Int))) >>= fun t23 => (rngO 0 t23 >>= fun is => foldO (fun k => (un2 (m_due_L2 row k))) is (pairs, lengths) >>= (un2 fun pairs lengths => ((mulO (2 : Int) pairs) >>= fun many => (Out.ok (lengths, many)))))))
@[irreducible] def m_due (counts_here : (List Int)) (most : Int) : Out (List Int) :=
  (((Out.ok counts_here) >>= fun t1 => (compO (fun count => (Out.ok true)) (fun count => (Out.ok (0 : Int))) t1)) >>= fun lengths => (((Out.ok (counts_here.length : Int)) >>= fun t3 => (cmpR 0 t3 >>= fun is => compO (fun k => ((getI counts_here k) >>= fun t2 => (Out.ok (decide ((0 : Int) < t2))))) (fun k => (Out.ok k)) is)) >>= fun used => (((Out.ok (decide ((used.length : Int) = (1 : Int)))) >>= fun t25 => (if t25 = true then ((Out.ok (1 : Int)) >>= fun t7 => ((getI used (0 : Int)) >>= fun t8 => (setI lengths t8 t7 >>= fun lengths => (Out.ok lengths)))) else (Out.ok lengths))) >>= (fun lengths => (((mulO (2 : Int) (used.length : Int)) >>= fun t9 => (Out.ok (t9 - (2 : Int)))) >>= fun many => ((m_rows counts_here most) >>= fun t24 => (foldO (fun row => (un2 (m_due_L1  row))) t24 (lengths, many) >>= (un2 fun lengths many => (Out.ok lengths)))))))))

@[irreducible] def m_is_rows_L2 (item : (Int × Int)) : Out (Ctl Bool Unit) :=
  ((orO (!true) (Out.ok (!decide ((2 : Int) = (2 : Int))))) >>= fun t5 => (if t5 = true then ((Out.ok false) >>= fun r => Out.ok (Ctl.ret r)) else ((((m_is_integer item.1) >>= fun t1 => (Out.ok (!t1))) >>= fun t3 => (orO t3 ((m_is_integer item.2) >>= fun t2 => (Out.ok (!t2))))) >>= fun t4 => (if t4 = true then ((Out.ok false) >>= fun r => Out.ok (Ctl.ret r)) else (Out.ok (Ctl.go ()))))))
@[irreducible] def m_is_rows_L1 (row : (List (Int × Int))) : Out (Ctl Bool Unit) :=
  ((Out.ok (!true)) >>= fun t7 => (if t7 = true then ((Out.ok false) >>= fun r => Out.ok (Ctl.ret r)) else ((Out.ok row) >>= fun t6 => (foldC (fun item => (un0 (m_is_rows_L2  item))) t6 () >>= (Ctl.fin (un0 ((Out.ok (Ctl.go ())))) (fun r => Out.ok (Ctl.ret r)))))))
@[irreducible] def m_is_rows (actual : (List (List (Int × Int)))) : Out Bool :=
  ((Out.ok (!true)) >>= fun t8 => (if t8 = true then (Out.ok false) else (foldC (fun row => (un0 (m_is_rows_L1  row))) actual () >>= (Ctl.fin (un0 ((Out.ok true))) (fun r => Out.ok r)))))

@[irreducible] def m_check_counts_L1 (counts : (List Int)) (k : Int) : Out Unit :=
  ((((getI counts k) >>= fun t1 => (Out.ok (decide (t1 < (0 : Int))))) >>= fun t3 => (orO t3 ((getI counts k) >>= fun t2 => (Out.ok (decide ((4294967296 : Int) ≤ t2)))))) >>= fun t4 => (if t4 = true then Out.bad else (Out.ok ())))
@[irreducible] def m_check_counts (counts : (List Int)) (most : Int) : Out Unit :=
  ((orO (decide (most < (1 : Int))) (Out.ok (decide ((15 : Int) < most)))) >>= fun t6 => (if t6 = true then Out.bad else ((Out.ok (counts.length : Int)) >>= fun t5 => (rngO 0 t5 >>= fun is => foldO (fun k => (un0 (m_check_counts_L1 counts k))) is () >>= (un0 ((Out.ok ())))))))

@[irreducible] def m_used_items (counts : (List Int)) : Out (List (Int × Int)) :=
  ((cmpR 0 (counts.length : Int) >>= fun is => compO (fun k => ((getI counts k) >>= fun t2 => (Out.ok (decide ((0 : Int) < t2))))) (fun k => ((getI counts k) >>= fun t1 => (Out.ok (t1, k)))) is) >>= fun t3 => (sortO t3))

@[irreducible] def m_next_row_L1 (row : (List (Int × Int))) (k : Int) (pairs : (List (Int × Int))) : Out (List (Int × Int)) :=
  ((((((mulO (2 : Int) k) >>= fun t1 => (getI row t1)) >>= fun t2 => (Out.ok t2.1)) >>= fun t6 => (((((mulO (2 : Int) k) >>= fun t3 => (Out.ok (t3 + (1 : Int)))) >>= fun t4 => (getI row t4)) >>= fun t5 => (Out.ok t5.1)) >>= fun t7 => (Out.ok (t6 + t7)))) >>= fun t8 => (Out.ok (t8, (-(1 : Int))))) >>= fun t9 => (pushO pairs t9 >>= fun pairs => (Out.ok pairs)))
@[irreducible] def m_next_row (symbols : (List (Int × Int))) (row : (List (Int × Int))) : Out (List (Int × Int)) :=
  ((Out.ok ([] : List (Int × Int))) >>= fun pairs => ((divO (row.length : Int) (2 : Int)) >>= fun t11 => (rngO 0 t11 >>= fun is => foldO (fun k => (m_next_row_L1 row k)) is pairs >>= (fun pairs => ((catO symbols pairs) >>= fun t10 => (Out.ok (sortK0 t10)))))))

@[irreducible] def m_certificate_L1 (symbols : (List (Int × Int))) (u : Int) (rows : (List (List (Int × Int)))) : Out (List (List (Int × Int))) :=
  (((getI rows (-(1 : Int))) >>= fun t2 => (m_next_row symbols t2)) >>= fun t3 => (pushO rows t3 >>= fun rows => (Out.ok rows)))
@[irreducible] def m_certificate (counts : (List Int)) (most : Int) : Out (List (List (Int × Int))) :=
  ((m_check_counts counts most) >>= fun _ => ((m_used_items counts) >>= fun symbols => (((shlO (1 : Int) most) >>= fun t1 => (Out.ok (decide (t1 < (symbols.length : Int))))) >>= fun t6 => (if t6 = true then Out.bad else ((Out.ok (decide ((symbols.length : Int) < (2 : Int)))) >>= fun t5 => (if t5 = true then (Out.ok ([] : List (List (Int × Int)))) else ((Out.ok ([symbols] : List (List (Int × Int)))) >>= fun rows => ((Out.ok (most - (1 : Int))) >>= fun t4 => (rngO 0 t4 >>= fun is => foldO (fun u => (m_certificate_L1 symbols u)) is rows >>= (fun rows => (Out.ok rows.reverse)))))))))))

@[irreducible] def m_shortest_L2 (row : (List (Int × Int))) (k : Int) (pairs : Int) (lengths : (List Int)) : Out (Int × (List Int)) :=
  ((((getI row k) >>= fun t8 => (Out.ok t8.2)) >>= fun t9 => (Out.ok (decide (t9 < (0 : Int))))) >>= fun t20 => (if t20 = true then ((Out.ok (pairs + (1 : Int))) >>= fun pairs => (Out.ok (pairs, lengths))) else (((((getI row k) >>= fun t10 => (Out.ok t10.2)) >>= fun t11 => (getI lengths t11)) >>= fun t12 => (Out.ok (t12 + (1 : Int)))) >>= fun t18 => (((getI row k) >>= fun t13 => (Out.ok t13.2)) >>= fun t19 => (setI lengths t19 t18 >>= fun lengths => (Out.ok (pairs, lengths)))))))
@[irreducible] def m_shortest_L1 (row : (List (Int × Int))) (lengths : (List Int)) (taken : Int) : Out ((List Int) × Int) :=
  ((Out.ok (0 : Int)) >>= fun pairs => ((Out.ok taken) >>= fun t21 => (rngO 0 t21 >>= fun is => foldO (fun k => (un2 (m_shortest_L2 row k))) is (pairs, lengths) >>= (un2 fun pairs lengths => ((mulO (2 : Int) pairs) >>= fun taken => (Out.ok (lengths, taken)))))))
@[irreducible] def m_shortest (counts : (List Int)) (most : Int) : Out (List Int) :=
  ((m_certificate counts most) >>= fun rows => ((repO ([(0 : Int)] : List Int) (counts.length : Int)) >>= fun lengths => ((m_used_items counts) >>= fun symbols => (((Out.ok (decide ((symbols.length : Int) = (1 : Int)))) >>= fun t23 => (if t23 = true then ((Out.ok (1 : Int)) >>= fun t5 => (((getI symbols (0 : Int)) >>= fun t1 => (Out.ok t1.2)) >>= fun t6 => (setI lengths t6 t5 >>= fun lengths => (Out.ok lengths)))) else (Out.ok lengths))) >>= (fun lengths => (((mulO (2 : Int) (symbols.length : Int)) >>= fun t7 => (Out.ok (t7 - (2 : Int)))) >>= fun taken => ((Out.ok rows) >>= fun t22 => (foldO (fun row => (un2 (m_shortest_L1  row))) t22 (lengths, taken) >>= (un2 fun lengths taken => (Out.ok lengths))))))))))

@[irreducible] def m_law (script : (List Int)) : Out Bool :=
  ((m_draws script) >>= fun draws_here => ((m_counts draws_here (0 : Int) (24 : Int)) >>= fun counts_here => ((Out.ok counts_here) >>= fun kept => (((compO (fun count => (Out.ok (decide ((0 : Int) < count)))) (fun count => (Out.ok count)) counts_here) >>= fun t1 => (Out.ok (t1.length : Int))) >>= fun used => (((m_at_ draws_here (27 : Int) (15 : Int)) >>= fun t2 => (Out.ok ((1 : Int) + t2))) >>= fun most => ((((shlO (1 : Int) most) >>= fun t3 => (Out.ok (decide (t3 < used)))) >>= fun t29 => (if t29 = true then (((m_at_ draws_here (27 : Int) (7 : Int)) >>= fun t4 => (Out.ok ((9 : Int) + t4))) >>= fun most => (Out.ok most)) else (Out.ok most))) >>= (fun most => ((m_certificate counts_here most) >>= fun rows_here => ((((m_is_rows rows_here) >>= fun t5 => (Out.ok (!t5))) >>= fun t7 => (orO t7 ((m_rows kept most) >>= fun t6 => (Out.ok (!decide (rows_here = t6)))))) >>= fun t28 => (if t28 = true then (Out.ok false) else ((m_shortest counts_here most) >>= fun lengths => ((((m_is_row lengths) >>= fun t8 => (Out.ok (!t8))) >>= fun t11 => (orO t11 (((m_due kept most) >>= fun t9 => (Out.ok (!decide (lengths = t9)))) >>= fun t10 => (orO t10 (Out.ok (!decide (counts_here = kept))))))) >>= fun t27 => (if t27 = true then (Out.ok false) else ((Out.ok (1 : Int)) >>= fun t26 => (pushO lengths t26 >>= fun lengths => ((Out.ok ([] : List (Int × Int))) >>= fun t25 => (pushO rows_here t25 >>= fun rows_here => ((Out.ok (decide ((1 : Int) < (rows_here.length : Int)))) >>= fun t24 => (if t24 = true then ((getI rows_here (0 : Int)) >>= fun t17 => ((Out.ok ((1 : Int), (1 : Int))) >>= fun t18 => (pushO t17 t18 >>= fun _ => (((m_certificate counts_here most) >>= fun t12 => ((m_rows kept most) >>= fun t13 => (Out.ok (decide (t12 = t13))))) >>= fun t16 => (andO t16 ((m_shortest counts_here most) >>= fun t14 => ((m_due kept most) >>= fun t15 => (Out.ok (decide (t14 = t15)))))))))) else (((m_certificate counts_here most) >>= fun t19 => ((m_rows kept most) >>= fun t20 => (Out.ok (decide (t19 = t20))))) >>= fun t23 => (andO t23 ((m_shortest counts_here most) >>= fun t21 => ((m_due kept most) >>= fun t22 => (Out.ok (decide (t21 = t22))))))))))))))))))))))))))

end K15


set_option Elab.async false
set_option linter.all false
set_option maxRecDepth 100000
set_option maxHeartbeats 1000000
namespace K15
open PySem PySem.Spec L2 Rf
local instance tb0 : TbC := ⟨[]⟩
theorem draws_L2 (t rest : Int) (d : List Int) (n : Nat) (h : d.length ≤ n) (hn : n < 16777216) : Okm (m_draws_L2 t rest d) (fun q => q.2.length ≤ n + 1) := by
  unfold m_draws_L2
  simp only [okb]
  split
  · rw [modO_ok (by decide), okb, pushO_ok (by omega), okb, divO_ok (by decide), okb]
    refine okm_ok ?_
    rw [List.length_append]
    simp
    omega
  · exact okm_ok (Nat.le_succ_of_le h)
theorem draws_L1 (s : List Int) (k : Int) (d : List Int) (h0 : 0 ≤ k) (h1 : k < s.length) (hs : s.length ≤ 63) (h : (d.length : Int) ≤ 60 * k) : Okm (m_draws_L1 s k d) (fun d => (d.length : Int) ≤ 60 * (k + 1)) := by
  unfold m_draws_L1
  rw [getI_at h0 h1]
  simp only [okb]
  rw [powO_ok (by decide)]
  simp only [okb]
  split
  · rw [rngO_ok (by decide), okb]
    refine okm_bind (R := fun (q : Int × List Int) => (q.2.length : Int) ≤ 60 * k + 60) (okm_range (S := Int × List Int) (hi := 60) (fun i q => (q.2.length : Int) ≤ 60 * k + i) (by simpa using h) (by decide) fun i q a b c => ?_) fun q hq => okm_ok (by omega)
    exact okm_to (draws_L2 i q.1 q.2 (60 * k + i).toNat (by omega) (by omega)) fun q' z => by omega
  · simp only [mulO_r (show -(2 ^ 64) < (48271 : Int) ∧ (48271 : Int) < 2 ^ 64 by decide), mulO_r (show -(2 ^ 64) < (69621 : Int) ∧ (69621 : Int) < 2 ^ 64 by decide), mulO_r (show -(2 ^ 64) < (16807 : Int) ∧ (16807 : Int) < 2 ^ 64 by decide),
      mulO_l (show -(2 ^ 64) < (11 : Int) ∧ (11 : Int) < 2 ^ 64 by decide), modO_ok (show (2147483647 : Int) ≠ 0 by decide), modO_ok (show (2147483629 : Int) ≠ 0 by decide), modO_ok (show (65536 : Int) ≠ 0 by decide), modO_ok (show (32768 : Int) ≠ 0 by decide),
      divO_ok (show (0 : Int) < 65536 ∧ (65536 : Int) < 1073741824 by decide), okb]
    rw [pushO_ok (by omega), okb, pushO_ok (by rw [List.length_append]; simp; omega), okb]
    refine okm_ok ?_
    rw [List.length_append, List.length_append]
    simp
    omega
theorem draws_ok (s : List Int) (hs : s.length ≤ 63) : Okm (m_draws s) (fun _ => True) := by
  unfold m_draws
  have hm : 0 ≤ minI 63 (s.length : Int) ∧ minI 63 (s.length : Int) ≤ s.length ∧ minI 63 (s.length : Int) ≤ 63 := by
    unfold minI
    split <;> omega
  simp only [okb]
  rw [rngO_ok (by omega), okb]
  refine okm_bind (R := fun _ => True) (okm_to (okm_range (fun i (d : List Int) => (d.length : Int) ≤ 60 * i) (by simp) hm.1 fun i d a b c => draws_L1 s i d a (by omega) hs c) fun _ _ => trivial) fun _ _ => okm_ok trivial
theorem at_ok (d : List Int) (k many : Int) (h0 : 0 ≤ k) (h : 0 < many) : Okm (m_at_ d k many) (fun v => 0 ≤ v ∧ v < many) := by
  unfold m_at_
  simp only [okb]
  split
  · rename_i z
    rw [getI_at h0 (by simpa using z), okb, modO_ok (by omega)]
    exact okm_ok (fmod_rng h)
  · exact okm_ok ⟨Int.le_refl _, h⟩
/-- the counts that the law draws -/
def Cnt (c : List Int) : Prop := c.length ≤ 314 ∧ ∀ x ∈ c, 0 ≤ x ∧ x < 4294967296
theorem counts_L1 (d : List Int) (g k : Int) (out : List Int) (hg : 0 < g ∧ g ≤ 65536) (h0 : 0 ≤ k) (h : (out.length : Int) = k ∧ k < 314 ∧ ∀ x ∈ out, 0 ≤ x ∧ x < 4294967296) :
    Okm (m_counts_L1 d 0 g k out) (fun o => (o.length : Int) = k + 1 ∧ ∀ x ∈ o, 0 ≤ x ∧ x < 4294967296) := by
  obtain ⟨hl, hk, hx⟩ := h
  unfold m_counts_L1
  rw [modO_ok (by decide)]
  simp only [okb]
  have hm := fmod_rng (i := k) (show (0 : Int) < 24 by decide)
  refine okm_bind (at_ok d _ g (by omega) hg.1) fun c hc => ?_
  have push : ∀ c : Int, 0 ≤ c ∧ c < 4294967296 → Okm (pushO out c >>= fun out => Out.ok out) (fun o => (o.length : Int) = k + 1 ∧ ∀ x ∈ o, 0 ≤ x ∧ x < 4294967296) := fun c hc => by
    rw [pushO_ok (by omega), okb]
    refine okm_ok ⟨by rw [List.length_append]; simp; omega, fun x hm => ?_⟩
    rcases List.mem_append.mp hm with z | z
    · exact hx x z
    · rw [List.mem_singleton.mp z]
      exact hc
  refine okm_bind (R := fun c => 0 ≤ c ∧ c < 4294967296) ?_ push
  obtain ⟨v, e, _⟩ := at_ok d 0 7 (by decide) (by decide)
  rw [e]
  simp only [okb]
  unfold andO
  split
  · split
    · rw [okb]
      split
      · rename_i z1 z2 z3
        have z3 := decide_eq_true_eq.mp z3
        have z2 := decide_eq_true_eq.mp z2
        rw [getI_at (xs := out) (i := k - 1) (by omega) (by omega), okb, getI_at (xs := out) (i := k - 2) (by omega) (by omega)]
        simp only [okb]
        refine okm_ok ?_
        have a1 := hx _ (List.getElem_mem (l := out) (n := (k - 1).toNat) (by omega))
        have a2 := hx _ (List.getElem_mem (l := out) (n := (k - 2).toNat) (by omega))
        unfold minI
        split <;> omega
      · exact okm_ok (by omega)
    · rw [okb, if_neg (by simp)]
      exact okm_ok (by omega)
  · rw [okb, if_neg (by simp)]
    exact okm_ok (by omega)
theorem counts_ok (d : List Int) : Okm (m_counts d 0 24) Cnt := by
  unfold m_counts
  have hg : Okm (m_at_ d 0 5 >>= fun t1 => getI ([2, 5, 40, 1000, 65536] : List Int) t1) (fun g => 0 < g ∧ g ≤ 65536) := by
    refine okm_bind (at_ok d 0 5 (by decide) (by decide)) fun v hv => ?_
    have : v = 0 ∨ v = 1 ∨ v = 2 ∨ v = 3 ∨ v = 4 := by omega
    rcases this with rfl | rfl | rfl | rfl | rfl
    · exact ⟨2, getI_nat (i := 0) rfl, by decide⟩
    · exact ⟨5, getI_nat (i := 1) rfl, by decide⟩
    · exact ⟨40, getI_nat (i := 2) rfl, by decide⟩
    · exact ⟨1000, getI_nat (i := 3) rfl, by decide⟩
    · exact ⟨65536, getI_nat (i := 4) rfl, by decide⟩
  refine okm_bind hg fun g hg => ?_
  simp only [okb]
  refine okm_bind (at_ok d _ _ (by decide) (by decide)) fun n hn => ?_
  refine okm_bind (R := fun n => 0 ≤ n ∧ n ≤ 314) ?_ fun n hn => ?_
  · obtain ⟨v, e, _⟩ := at_ok d 0 16 (by decide) (by decide)
    rw [e]
    simp only [okb]
    split
    · exact okm_ok (by omega)
    · exact okm_ok (by omega)
  · rw [rngO_ok (by omega), okb]
    refine okm_bind (okm_range (fun i (o : List Int) => (o.length : Int) = i ∧ ∀ x ∈ o, 0 ≤ x ∧ x < 4294967296) (by simp) hn.1 fun i o a b c => counts_L1 d g i o hg a ⟨c.1, by omega, c.2⟩) fun o ho => okm_ok ⟨by omega, ho.2⟩
/-! ### the items, the rows -/
def sg (c : List Int) : List (Int × Int) := ((rng 0 (c.length : Int)).filter fun k => decide (0 < c[k.toNat]?.getD 0)).map fun k => (c[k.toNat]?.getD 0, k)
def sy (c : List Int) : List (Int × Int) := (sg c).mergeSort PyS.le
def hv (row : List (Int × Int)) (k : Int) : Int := (row[(2 * k).toNat]?.getD (0, 0)).1 + (row[(2 * k + 1).toNat]?.getD (0, 0)).1
def pv2 (row : List (Int × Int)) : List (Int × Int) := (rng 0 ((row.length / 2 : Nat) : Int)).map fun k => (hv row k, -1)
def pv3 (row : List (Int × Int)) : List (T3 Int Int Int) := (rng 0 ((row.length / 2 : Nat) : Int)).map fun k => T3.mk (hv row k) 1 k
def nx (s row : List (Int × Int)) : List (Int × Int) := sortK0 (s ++ pv2 row)
def tr3 (p : Int × Int) : T3 Int Int Int := T3.mk p.1 0 p.2
def out3 (t : T3 Int Int Int) : Int × Int := if t.b = 0 then (t.a, t.c) else (t.a, -1)
def rx (s row : List (Int × Int)) : List (Int × Int) := ((s.map tr3 ++ pv3 row).mergeSort PyS.le).map out3
theorem sg_comp (c : List Int) (h : c.length ≤ 314) : (cmpR 0 (c.length : Int) >>= fun is => compO (fun k => ((getI c k) >>= fun t2 => (Out.ok (decide ((0 : Int) < t2))))) (fun k => ((getI c k) >>= fun t1 => (Out.ok (t1, k)))) is) = .ok (sg c) := by
  rw [cmpR_ok (by omega) (by omega), okb]
  refine compO_ok _ (fun k hk => ?_) fun k hk _ => ?_
  · have := mem_rng hk
    rw [getI_d 0 this.1 this.2, okb]
  · have := mem_rng hk
    rw [getI_d 0 this.1 this.2, okb]
theorem used_ok (c : List Int) (h : c.length ≤ 314) : m_used_items c = .ok (sy c) := by
  unfold m_used_items
  rw [sg_comp c h, okb]
  rfl
theorem sg_len (c : List Int) : (sg c).length ≤ c.length := by
  unfold sg
  rw [List.length_map]
  refine Nat.le_trans (List.length_filter_le _ _) ?_
  rw [rng_len]
  omega
theorem sy_len (c : List Int) : (sy c).length = (sg c).length := List.length_mergeSort _
theorem pv2_len (row : List (Int × Int)) : (pv2 row).length = row.length / 2 := by
  unfold pv2
  rw [List.length_map, rng_len]
  omega
theorem nx_len (s row : List (Int × Int)) : (nx s row).length = s.length + row.length / 2 := by
  unfold nx sortK0
  rw [List.length_mergeSort, List.length_append, pv2_len]
theorem next_ok (s row : List (Int × Int)) (h1 : s.length ≤ 314) (h2 : row.length ≤ 700) : m_next_row s row = .ok (nx s row) := by
  unfold m_next_row
  simp only [okb]
  rw [divO_ok (by decide), okb, fdiv_nat, rngO_ok (by omega), okb]
  rw [fold_push (s := []) (g := fun k => (hv row k, (-1 : Int))) (by omega) fun k a b s' hl => ?_]
  · rw [okb, catO_ok (by simp [rng_len]; omega), okb]
    rfl
  · unfold m_next_row_L1
    rw [mulO_l (by decide)]
    simp only [okb]
    rw [getI_d (0, 0) (by omega) (by omega), okb, okb, getI_d (0, 0) (by omega) (by omega)]
    simp only [okb]
    rw [pushO_ok (by simp at hl; omega), okb]
    rfl
theorem rows_L1_ok (s later : List (Int × Int)) (rows : List (List (Int × Int))) (t : Int) (h1 : s.length ≤ 314) (h2 : later.length ≤ 700) (h3 : rows.length ≤ 20) : m_rows_L1 s t rows later = .ok ([rx s later] ++ rows, rx s later) := by
  unfold m_rows_L1
  simp only [okb]
  rw [cmpR_ok (by omega) (by omega), okb, compO_ok (c' := fun _ => true) (f' := fun k => tr3 (s[k.toNat]?.getD (0, 0))) _ (fun _ _ => rfl) fun k hk _ => ?_]
  · rw [okb, divO_ok (by decide), okb, fdiv_nat, rngO_ok (by omega), okb]
    have e1 : (rng 0 (s.length : Int)).filter (fun _ => true) = rng 0 (s.length : Int) := List.filter_eq_self.mpr fun _ _ => rfl
    rw [e1, map_get]
    rw [fold_push (g := fun k => T3.mk (hv later k) 1 k) (by omega) fun k a b s' hl => ?_]
    · rw [okb]
      unfold sortO
      simp only [okb]
      rw [fold_push_list (g := out3) _ _ fun a ha s' hl => ?_]
      · simp only [okb]
        rw [catO_ok (by simp; omega), okb]
        rfl
      · unfold m_rows_L3
        have hs : s'.length < 16777216 := by
          simp [rng_len, List.length_mergeSort] at hl
          omega
        simp only [okb]
        unfold out3
        by_cases z : a.b = 0
        · rw [if_pos (decide_eq_true z), if_pos z, pushO_ok hs, okb]
        · rw [if_neg (by simpa using z), if_neg z, pushO_ok hs, okb]
    · unfold m_rows_L2
      rw [mulO_l (by decide)]
      simp only [okb]
      rw [getI_d (0, 0) (by omega) (by omega), okb, okb, getI_d (0, 0) (by omega) (by omega)]
      simp only [okb]
      rw [pushO_ok (by simp at hl; omega), okb]
      rfl
  · have := mem_rng hk
    rw [getI_d (0, 0) this.1 this.2]
    simp only [okb]
    rfl
def le2 (p q : Int × Int) : Bool := decide (p.1 < q.1 ∨ (p.1 = q.1 ∧ p.2 ≤ q.2))
def le3 (p q : T3 Int Int Int) : Bool := decide (p.a < q.a ∨ (p.a = q.a ∧ (p.b < q.b ∨ (p.b = q.b ∧ p.c ≤ q.c))))
theorem le3_mk {a b c x y z : Int} : le3 ⟨a, b, c⟩ ⟨x, y, z⟩ = true ↔ (a < x ∨ (a = x ∧ (b < y ∨ (b = y ∧ c ≤ z)))) := decide_eq_true_iff
theorem le2_eq : (PyS.le : Int × Int → Int × Int → Bool) = le2 := rfl
theorem le3_eq : (PyS.le : T3 Int Int Int → T3 Int Int Int → Bool) = le3 := rfl
theorem sy_pw (c : List Int) : (sy c).Pairwise fun p q => le2 p q = true := by
  unfold sy
  rw [le2_eq]
  refine sort_pairwise le2 (fun a b d h1 h2 => ?_) (fun a b => ?_) _
  · unfold le2 at *
    simp only [decide_eq_true_eq] at *
    omega
  · unfold le2
    simp only [Bool.or_eq_true, decide_eq_true_eq]
    omega
theorem rng_pw (lo hi : Int) : (rng lo hi).Pairwise fun a b => a < b := by
  unfold rng
  rw [List.pairwise_map]
  refine List.Pairwise.imp (fun {a b} h => ?_) List.pairwise_lt_range
  omega
theorem rx_nx (c : List Int) (row : List (Int × Int)) : rx (sg c) row = nx (sy c) row := by
  have hS : (sy c |>.map tr3) ++ pv3 row = (sy c).map tr3 ++ pv3 row := rfl
  have pS : ((sy c).map tr3 ++ pv3 row).Pairwise fun a b => a.a = b.a → le3 a b = true := by
    refine List.pairwise_append.mpr ⟨?_, ?_, ?_⟩
    · rw [List.pairwise_map]
      refine List.Pairwise.imp (fun {p q} h _ => ?_) (sy_pw c)
      simp only [le2, decide_eq_true_eq] at h
      refine le3_mk.mpr ?_
      omega
    · unfold pv3
      rw [List.pairwise_map]
      refine List.Pairwise.imp (fun {p q} h z => ?_) (rng_pw _ _)
      have z : hv row p = hv row q := z
      refine le3_mk.mpr ?_
      omega
    · intro a ha b hb z
      obtain ⟨p, _, rfl⟩ := List.mem_map.mp ha
      unfold pv3 at hb
      obtain ⟨k, _, rfl⟩ := List.mem_map.mp hb
      have z : p.1 = hv row k := z
      refine le3_mk.mpr ?_
      omega
  have pT := stable_fine (fun t : T3 Int Int Int => t.a) (fun a b => le3 a b = true) (fun a => by unfold le3; simp) (fun a b h => by unfold le3; simp only [decide_eq_true_eq]; omega) _ pS
  have pM := sort_pairwise le3 (fun a b d h1 h2 => by
    unfold le3 at *
    simp only [decide_eq_true_eq] at *
    omega) (fun a b => by
    unfold le3
    simp only [Bool.or_eq_true, decide_eq_true_eq]
    omega) ((sg c).map tr3 ++ pv3 row)
  have perm : (((sg c).map tr3 ++ pv3 row).mergeSort le3).Perm (((sy c).map tr3 ++ pv3 row).mergeSort fun a b => decide (a.a ≤ b.a)) := by
    refine (List.mergeSort_perm _ _).trans (List.Perm.trans ?_ (List.mergeSort_perm _ _).symm)
    refine List.Perm.append_right _ (List.Perm.map _ ?_)
    exact (List.mergeSort_perm _ _).symm
  have e := perm_sorted_eq (r := fun a b => le3 a b = true) (fun a b h1 h2 => by
    obtain ⟨a1, a2, a3⟩ := a
    obtain ⟨b1, b2, b3⟩ := b
    unfold le3 at *
    simp only [decide_eq_true_eq] at *
    have : a1 = b1 := by omega
    have : a2 = b2 := by omega
    have : a3 = b3 := by omega
    subst_vars
    rfl) (fun a => by unfold le3; simp) perm pM pT
  unfold rx nx sortK0
  rw [le3_eq, e]
  have o1 : ∀ t : T3 Int Int Int, (out3 t).1 = t.a := fun t => by
    unfold out3
    split <;> rfl
  have := PySem.W.sort_maps (r := fun a b : T3 Int Int Int => decide (a.a ≤ b.a)) (s := fun a b : Int × Int => decide (a.1 ≤ b.1)) out3 (l := (sy c).map tr3 ++ pv3 row) (fun a _ b _ => by rw [o1, o1])
  rw [this, List.map_append, List.map_map]
  have e1 : (sy c).map (out3 ∘ tr3) = sy c := by
    refine (List.map_congr_left fun p _ => ?_).trans (List.map_id _)
    show (if (0 : Int) = 0 then (p.1, p.2) else (p.1, -1)) = p
    rw [if_pos rfl]
  have e2 : (pv3 row).map out3 = pv2 row := by
    unfold pv3 pv2
    rw [List.map_map]
    exact List.map_congr_left fun k _ => rfl
  rw [e1, e2]
theorem nx_nil (c : List Int) : nx (sy c) [] = sy c := by
  have e : pv2 [] = [] := rfl
  unfold nx sortK0
  rw [e, List.append_nil]
  refine List.mergeSort_of_pairwise ?_
  refine List.Pairwise.imp (fun {p q} h => ?_) (sy_pw c)
  unfold le2 at h
  simp only [decide_eq_true_eq] at *
  omega
def itn (s : List (Int × Int)) : Nat → List (Int × Int)
  | 0 => s
  | i + 1 => nx s (itn s i)
theorem itn_len (s : List (Int × Int)) : ∀ i, (itn s i).length ≤ 2 * s.length
  | 0 => by
    show s.length ≤ _
    omega
  | i + 1 => by
    have := itn_len s i
    show (nx s (itn s i)).length ≤ _
    rw [nx_len]
    omega
def rws (c : List Int) (m : Nat) : List (List (Int × Int)) := ((List.range m).map (itn (sy c))).reverse
def RowI (c : List Int) (i : Int) (q : List (List (Int × Int)) × List (Int × Int)) : Prop := q = (rws c i.toNat, if i = 0 then [] else itn (sy c) (i.toNat - 1))
theorem rws_snoc (c : List Int) (i : Nat) : rws c (i + 1) = [itn (sy c) i] ++ rws c i := by
  unfold rws
  rw [List.range_succ, List.map_append, List.reverse_append]
  rfl
theorem rows_step (c : List Int) (i : Int) (q : List (List (Int × Int)) × List (Int × Int)) (h : c.length ≤ 314) (h0 : 0 ≤ i) (h1 : i < 15) (hq : RowI c i q) : Okm (m_rows_L1 (sg c) i q.1 q.2) (RowI c (i + 1)) := by
  have hs := sg_len c
  have hy := sy_len c
  unfold RowI at hq
  have hl : (rws c i.toNat).length ≤ 20 := by
    unfold rws
    simp
    omega
  have hk : (if i = 0 then ([] : List (Int × Int)) else itn (sy c) (i.toNat - 1)).length ≤ 700 := by
    split
    · simp
    · have := itn_len (sy c) (i.toNat - 1)
      omega
  have en : rx (sg c) (if i = 0 then ([] : List (Int × Int)) else itn (sy c) (i.toNat - 1)) = itn (sy c) i.toNat := by
    rw [rx_nx]
    split
    · rename_i z
      subst z
      exact nx_nil c
    · have e : i.toNat = (i.toNat - 1) + 1 := by omega
      have e2 : nx (sy c) (itn (sy c) (i.toNat - 1)) = itn (sy c) (i.toNat - 1 + 1) := rfl
      rw [← e] at e2
      exact e2
  obtain ⟨q1, q2⟩ := q
  have g1 : q1 = rws c i.toNat := congrArg Prod.fst hq
  have g2 : q2 = (if i = 0 then [] else itn (sy c) (i.toNat - 1)) := congrArg Prod.snd hq
  show Okm (m_rows_L1 (sg c) i q1 q2) _
  rw [g1, g2]
  refine ⟨_, rows_L1_ok (sg c) _ _ i (by omega) hk hl, ?_⟩
  unfold RowI
  have e1 : (i + 1).toNat = i.toNat + 1 := by omega
  rw [en, e1, if_neg (by omega), rws_snoc, Nat.add_sub_cancel]
theorem rows_ok (c : List Int) (m : Nat) (h : c.length ≤ 314) (hm : m ≤ 15) : m_rows c m = .ok (if (sg c).length < 2 then [] else rws c m) := by
  unfold m_rows
  rw [sg_comp c h]
  simp only [okb]
  by_cases z : (sg c).length < 2
  · rw [if_pos (decide_eq_true (by omega)), if_pos z]
  · rw [if_neg (by simp; omega), if_neg z]
    rw [rngO_ok (by omega), okb]
    have b0 : RowI c 0 ([], []) := by
      unfold RowI rws
      rw [if_pos rfl]
      rfl
    obtain ⟨q, e, r⟩ := okm_range (f := fun turn => un2 (m_rows_L1 (sg c) turn)) (s := (([] : List (List (Int × Int))), ([] : List (Int × Int)))) (hi := (m : Int)) (RowI c) b0 (by omega) fun i q a b hq => by
      rw [un2_eq]
      exact rows_step c i q h a (by omega) hq
    rw [e, okb]
    unfold RowI at r
    rw [r, un2_eq, Int.toNat_natCast]
theorem check_ok (c : List Int) (m : Nat) (h : Cnt c) (h1 : 1 ≤ m) (hm : m ≤ 15) : m_check_counts c m = .ok () := by
  unfold m_check_counts orO
  have d1 : decide ((m : Int) < 1) = false := decide_eq_false (by omega)
  have d2 : decide ((15 : Int) < m) = false := decide_eq_false (by omega)
  rw [d1, d2, if_neg (by simp)]
  simp only [okb]
  rw [if_neg (by simp), rngO_ok (by have := h.1; omega), okb]
  obtain ⟨q, e, r⟩ := okm_range (f := fun k => un0 (m_check_counts_L1 c k)) (s := ()) (hi := (c.length : Int)) (fun _ _ => True) trivial (by omega) fun i q a b _ => by
    refine ⟨(), ?_, trivial⟩
    rw [un0_eq]
    unfold m_check_counts_L1 orO
    rw [getI_at a b]
    simp only [okb]
    have := h.2 _ (List.getElem_mem (l := c) (n := i.toNat) (by omega))
    rw [decide_eq_false (by omega), if_neg (by simp), okb, decide_eq_false (by omega), if_neg (by simp)]
  rw [e, okb]
theorem cert_ok (c : List Int) (m : Nat) (h : Cnt c) (h1 : 1 ≤ m) (hm : m ≤ 15) (hu : ((sg c).length : Int) ≤ 2 ^ m) : m_certificate c m = .ok (if (sg c).length < 2 then [] else rws c m) := by
  have hs := sg_len c
  have hy := sy_len c
  have hc := h.1
  unfold m_certificate
  rw [check_ok c m h h1 hm, okb, used_ok c h.1, okb, shlO_ok ⟨by omega, by omega, by decide⟩]
  simp only [okb]
  have e2 : (1 : Int) * 2 ^ (m : Int).toNat = 2 ^ m := by
    rw [Int.one_mul]
    congr 1
  rw [e2, if_neg (by simp; omega)]
  by_cases z : (sg c).length < 2
  · rw [if_pos (decide_eq_true (by omega)), if_pos z]
  · rw [if_neg (by simp; omega), if_neg z, rngO_ok (by omega), okb]
    obtain ⟨q, e, r⟩ := okm_range (f := fun u => m_certificate_L1 (sy c) u) (s := [sy c]) (hi := (m : Int) - 1) (fun i q => q = (List.range (i.toNat + 1)).map (itn (sy c))) rfl (by omega) fun i q a b hq => by
      subst hq
      refine ⟨(List.range (i.toNat + 1 + 1)).map (itn (sy c)), ?_, by
        have e1 : (i + 1).toNat + 1 = i.toNat + 1 + 1 := by omega
        show _ = (List.range ((i + 1).toNat + 1)).map (itn (sy c))
        rw [e1]⟩
      unfold m_certificate_L1
      conv => lhs; rw [List.range_succ, List.map_append, List.map_singleton]
      rw [getI_last, okb]
      have := itn_len (sy c) i.toNat
      rw [next_ok _ _ (by omega) (by omega), okb, pushO_ok (by simp; omega), okb]
      have e4 : (List.range (i.toNat + 1 + 1)).map (itn (sy c)) = (List.range (i.toNat + 1)).map (itn (sy c)) ++ [itn (sy c) (i.toNat + 1)] := by
        rw [List.range_succ, List.map_append]
        rfl
      have e5 : (List.range (i.toNat + 1)).map (itn (sy c)) = (List.range i.toNat).map (itn (sy c)) ++ [itn (sy c) i.toNat] := by
        rw [List.range_succ, List.map_append]
        rfl
      rw [e4, e5]
      rfl
    rw [e, okb, r]
    have e3 : ((m : Int) - 1).toNat + 1 = m := by omega
    rw [e3]
    rfl
/-! ### the lengths -/
theorem L2_eq : m_due_L2 = m_shortest_L2 := by
  funext row k pairs lengths
  unfold m_due_L2 m_shortest_L2
  rfl
def neg (row : List (Int × Int)) : Nat := (row.filter fun p => decide (p.2 < 0)).length
def RwOk (n : Nat) (row : List (Int × Int)) : Prop := row.length ≤ 700 ∧ ∀ p ∈ row, p.2 < n
theorem short_L2 (n : Nat) (row : List (Int × Int)) (k : Int) (q : Int × List Int) (hr : RwOk n row) (h0 : 0 ≤ k) (h1 : k < row.length) (h : q.1 = neg (row.take k.toNat) ∧ q.2.length = n) :
    Okm (m_shortest_L2 row k q.1 q.2) (fun q => q.1 = neg (row.take (k + 1).toNat) ∧ q.2.length = n) := by
  have hk : k.toNat < row.length := by omega
  have e1 : (k + 1).toNat = k.toNat + 1 := by omega
  have et : neg (row.take (k.toNat + 1)) = neg (row.take k.toNat) + (if row[k.toNat].2 < 0 then 1 else 0) := by
    unfold neg
    rw [List.take_succ_eq_append_getElem hk, List.filter_append, List.length_append]
    congr 1
    by_cases z : row[k.toNat].2 < 0
    · simp [z]
    · simp [z]
  unfold m_shortest_L2
  rw [getI_at h0 h1]
  simp only [okb]
  have hx := hr.2 _ (List.getElem_mem hk)
  by_cases z : row[k.toNat].2 < 0
  · rw [if_pos (decide_eq_true z)]
    refine okm_ok ⟨?_, h.2⟩
    rw [e1, et, if_pos z, h.1]
    omega
  · rw [if_neg (by simpa using z), getI_at (by omega) (by omega)]
    simp only [okb]
    rw [setI_at (by omega) (by omega), okb]
    refine okm_ok ⟨?_, ?_⟩
    · rw [e1, et, if_neg z, h.1]
      rfl
    · rw [List.length_set]
      exact h.2
theorem neg_take (row : List (Int × Int)) (k : Nat) : neg (row.take k) ≤ neg row := by
  unfold neg
  exact List.Sublist.length_le (List.Sublist.filter _ (List.take_sublist _ _))
theorem short_L1 (n : Nat) (row : List (Int × Int)) (lengths : List Int) (taken : Int) (hr : RwOk n row) (hl : lengths.length = n) (h0 : 0 ≤ taken) (h1 : taken ≤ row.length) :
    Okm (m_shortest_L1 row lengths taken) (fun q => q.1.length = n ∧ 0 ≤ q.2 ∧ q.2 ≤ 2 * neg row) := by
  unfold m_shortest_L1
  simp only [okb]
  have hz := hr.1
  rw [rngO_ok (by omega), okb]
  refine okm_bind (okm_range (f := fun k => un2 (m_shortest_L2 row k)) (s := ((0 : Int), lengths)) (fun k q => q.1 = neg (row.take k.toNat) ∧ q.2.length = n) ⟨rfl, hl⟩ h0 fun k q a b c => ?_) fun q hq => ?_
  · rw [un2_eq]
    exact short_L2 n row k q hr a (by omega) c
  · have := neg_take row taken.toNat
    rw [un2_eq, mulO_l (by decide), okb]
    refine okm_ok ⟨hq.2, ?_, ?_⟩
    · show 0 ≤ 2 * q.1
      omega
    · show 2 * q.1 ≤ _
      omega
theorem due_L1 (row : List (Int × Int)) (lengths : List Int) (taken : Int) (h1 : taken ≤ row.length) : m_due_L1 row lengths taken = m_shortest_L1 row lengths taken := by
  unfold m_due_L1 m_shortest_L1
  have e : minI taken (row.length : Int) = taken := by
    unfold minI
    split <;> omega
  rw [e, L2_eq]
theorem sg_mem (c : List Int) (h : c.length ≤ 314) : ∀ p ∈ sg c, 0 ≤ p.2 ∧ p.2 < c.length := by
  intro p hp
  unfold sg at hp
  obtain ⟨k, hk, rfl⟩ := List.mem_map.mp hp
  exact mem_rng (List.mem_filter.mp hk).1
theorem sy_mem (c : List Int) (h : c.length ≤ 314) : ∀ p ∈ sy c, 0 ≤ p.2 ∧ p.2 < c.length := fun p hp => sg_mem c h p (List.mem_mergeSort.mp hp)
theorem neg_nx (c : List Int) (h : c.length ≤ 314) (row : List (Int × Int)) : neg (nx (sy c) row) = row.length / 2 := by
  unfold neg nx sortK0
  have p := (List.mergeSort_perm (sy c ++ pv2 row) fun a b => decide (a.1 ≤ b.1)).filter fun p => decide (p.2 < 0)
  rw [p.length_eq, List.filter_append, List.length_append]
  have e1 : (sy c).filter (fun p => decide (p.2 < 0)) = [] := List.filter_eq_nil_iff.mpr fun p hp => by
    have := (sy_mem c h p hp).1
    simp
    omega
  have e2 : (pv2 row).filter (fun p => decide (p.2 < 0)) = pv2 row := List.filter_eq_self.mpr fun p hp => by
    unfold pv2 at hp
    obtain ⟨k, _, rfl⟩ := List.mem_map.mp hp
    rfl
  rw [e1, e2, pv2_len]
  simp
theorem itn_ok (c : List Int) (h : c.length ≤ 314) : ∀ i, RwOk c.length (itn (sy c) i)
  | 0 => ⟨by
    have := itn_len (sy c) 0
    have h2 := sg_len c
    have h3 := sy_len c
    omega, fun p hp => (sy_mem c h p hp).2⟩
  | i + 1 => ⟨by
    have := itn_len (sy c) (i + 1)
    have h2 := sg_len c
    have h3 := sy_len c
    omega, fun p hp => by
    have hp : p ∈ nx (sy c) (itn (sy c) i) := hp
    unfold nx sortK0 at hp
    rcases List.mem_append.mp (List.mem_mergeSort.mp hp) with z | z
    · exact (sy_mem c h p z).2
    · unfold pv2 at z
      obtain ⟨k, _, rfl⟩ := List.mem_map.mp z
      show (-1 : Int) < _
      omega⟩
theorem neg0 (c : List Int) (h : c.length ≤ 314) : neg (itn (sy c) 0) = 0 := by
  show neg (sy c) = 0
  unfold neg
  have e1 : (sy c).filter (fun p => decide (p.2 < 0)) = [] := List.filter_eq_nil_iff.mpr fun p hp => by
    have := (sy_mem c h p hp).1
    simp
    omega
  rw [e1]
  rfl
theorem both_fold (c : List Int) (h : c.length ≤ 314) : ∀ (i : Nat) (lengths : List Int) (taken : Int), lengths.length = c.length → 0 ≤ taken → (∀ j, i = j + 1 → taken ≤ (itn (sy c) j).length) →
    ∃ q : List Int × Int, foldO (fun row => un2 (m_shortest_L1 row)) (rws c i) (lengths, taken) = .ok q ∧ foldO (fun row => un2 (m_due_L1 row)) (rws c i) (lengths, taken) = .ok q ∧ q.1.length = c.length
  | 0, lengths, taken, hl, _, _ => ⟨(lengths, taken), rfl, rfl, hl⟩
  | i + 1, lengths, taken, hl, h0, ht => by
    have ht := ht i rfl
    obtain ⟨q, e, q1, q2, q3⟩ := short_L1 c.length (itn (sy c) i) lengths taken (itn_ok c h i) hl h0 ht
    obtain ⟨r, r1, r2, r3⟩ := both_fold c h i q.1 q.2 q1 q2 fun j hj => by
      subst hj
      have : neg (itn (sy c) (j + 1)) = (itn (sy c) j).length / 2 := neg_nx c h _
      omega
    refine ⟨r, ?_, ?_, r3⟩
    · rw [rws_snoc, List.singleton_append]
      unfold foldO
      rw [un2_eq, e, okb]
      exact r1
    · rw [rws_snoc, List.singleton_append]
      unfold foldO
      rw [un2_eq, due_L1 _ _ _ ht, e, okb]
      exact r2
theorem itn_big (s : List (Int × Int)) : ∀ i, ∃ D : Nat, (itn s i).length + D = 2 * s.length ∧ D * 2 ^ i + 1 ≤ s.length + 2 ^ i
  | 0 => ⟨s.length, by
    show s.length + s.length = _
    omega, by simp⟩
  | i + 1 => by
    obtain ⟨D, h1, h2⟩ := itn_big s i
    have e : (itn s (i + 1)).length = s.length + (itn s i).length / 2 := nx_len s _
    refine ⟨2 * s.length - (itn s (i + 1)).length, by omega, ?_⟩
    have hD : 2 * (2 * s.length - (itn s (i + 1)).length) ≤ D + 1 := by omega
    have hm := Nat.mul_le_mul_right (2 ^ i) hD
    rw [Nat.pow_succ]
    have a0 : ∀ x y : Nat, 2 * x * y = x * (y * 2) := fun x y => by rw [Nat.mul_comm 2 x, Nat.mul_assoc, Nat.mul_comm 2 y]
    have a1 := a0 (2 * s.length - (itn s (i + 1)).length) (2 ^ i)
    have a2 : (D + 1) * 2 ^ i = D * 2 ^ i + 2 ^ i := by rw [Nat.add_mul, Nat.one_mul]
    omega
theorem itn_enough (s : List (Int × Int)) (m : Nat) (h : s.length ≤ 2 ^ (m + 1)) : 2 * s.length ≤ (itn s m).length + 2 := by
  obtain ⟨D, h1, h2⟩ := itn_big s m
  have : D < 3 := by
    rcases Nat.lt_or_ge D 3 with z | z
    · exact z
    · have := Nat.mul_le_mul_right (2 ^ m) z
      rw [Nat.pow_succ] at h
      omega
  omega
theorem rep_ok (n : Nat) (h : n ≤ 314) : repO ([(0 : Int)] : List Int) (n : Int) = .ok (List.replicate n 0) := by
  have e : (List.replicate (n : Int).toNat ([(0 : Int)] : List Int)).flatten = List.replicate n 0 := by
    rw [Int.toNat_natCast]
    induction n with
    | zero => rfl
    | succ n ih =>
      rw [List.replicate_succ, List.flatten_cons, ih (by omega), List.replicate_succ]
      rfl
  rw [← e]
  refine guardO_ok ⟨by omega, by omega, ?_⟩
  rw [size_eq]
  simp
  omega
def us (c : List Int) : List Int := (rng 0 (c.length : Int)).filter fun k => decide (0 < c[k.toNat]?.getD 0)
theorem us_sg (c : List Int) : us c = (sg c).map (·.2) := by
  unfold sg us
  rw [List.map_map]
  exact (List.map_id _).symm
theorem us_len (c : List Int) : (us c).length = (sg c).length := by
  rw [us_sg, List.length_map]
theorem us_comp (c : List Int) (h : c.length ≤ 314) : (cmpR 0 (c.length : Int) >>= fun is => compO (fun k => ((getI c k) >>= fun t2 => (Out.ok (decide ((0 : Int) < t2))))) (fun k => (Out.ok k)) is) = .ok (us c) := by
  rw [cmpR_ok (by omega) (by omega), okb]
  have := compO_ok (c := fun k => ((getI c k) >>= fun t2 => (Out.ok (decide ((0 : Int) < t2))))) (f := fun k => (Out.ok k)) (c' := fun k => decide (0 < c[k.toNat]?.getD 0)) (f' := id) (rng 0 (c.length : Int)) (fun k hk => by
    have := mem_rng hk
    rw [getI_d 0 this.1 this.2, okb]) fun k hk _ => rfl
  rw [this, List.map_id]
  rfl
/-- the first lengths, both ways -/
theorem first_len (c : List Int) (h : c.length ≤ 314) : ∃ L : List Int, L.length = c.length ∧
    (if decide (((sy c).length : Int) = (1 : Int)) = true then ((Out.ok (1 : Int)) >>= fun t5 => (((getI (sy c) (0 : Int)) >>= fun t1 => (Out.ok t1.2)) >>= fun t6 => (setI (List.replicate c.length 0) t6 t5 >>= fun lengths => (Out.ok lengths)))) else (Out.ok (List.replicate c.length 0))) = .ok L ∧
    (if decide (((us c).length : Int) = (1 : Int)) = true then ((Out.ok (1 : Int)) >>= fun t7 => ((getI (us c) (0 : Int)) >>= fun t8 => (setI (List.replicate c.length 0) t8 t7 >>= fun lengths => (Out.ok lengths)))) else (Out.ok (List.replicate c.length 0))) = .ok L := by
  have e1 := sy_len c
  have e2 := us_len c
  by_cases z : (sg c).length = 1
  · rw [if_pos (decide_eq_true (by omega)), if_pos (decide_eq_true (by omega))]
    obtain ⟨p, hp⟩ := List.length_eq_one_iff.mp z
    have hs : sy c = [p] := by
      unfold sy
      rw [hp]
      exact List.mergeSort_singleton p
    have hu : us c = [p.2] := by
      rw [us_sg, hp]
      rfl
    have hm := sg_mem c h p (by rw [hp]; exact List.mem_singleton.mpr rfl)
    rw [hs, hu]
    refine ⟨(List.replicate c.length 0).set p.2.toNat 1, by simp, ?_, ?_⟩
    · rw [okb, getI_zero]
      simp only [okb]
      rw [setI_at hm.1 (by simp; omega), okb]
    · rw [okb, getI_zero]
      simp only [okb]
      rw [setI_at hm.1 (by simp; omega), okb]
  · rw [if_neg (by simp; omega), if_neg (by simp; omega)]
    exact ⟨_, by simp, rfl, rfl⟩
theorem both_ok (c : List Int) (m : Nat) (h : Cnt c) (h1 : 1 ≤ m) (hm : m ≤ 15) (hu : (sg c).length ≤ 2 ^ m) : ∃ L, m_shortest c m = .ok L ∧ m_due c m = .ok L ∧ L.length ≤ 314 := by
  have hc := h.1
  have e1 := sy_len c
  have e2 := us_len c
  have e3 := sg_len c
  obtain ⟨L0, l0, a1, a2⟩ := first_len c hc
  simp only [okb] at a1 a2
  have hu' : ((sg c).length : Int) ≤ 2 ^ m := by
    have : ((2 ^ m : Nat) : Int) = 2 ^ m := by simp
    omega
  have et : (2 : Int) * ((sy c).length : Int) - 2 = 2 * ((us c).length : Int) - 2 := by omega
  have key : ∃ q : List Int × Int, foldO (fun row => un2 (m_shortest_L1 row)) (if (sg c).length < 2 then [] else rws c m) (L0, 2 * ((us c).length : Int) - 2) = .ok q ∧ foldO (fun row => un2 (m_due_L1 row)) (if (sg c).length < 2 then [] else rws c m) (L0, 2 * ((us c).length : Int) - 2) = .ok q ∧ q.1.length = c.length := by
    by_cases z : (sg c).length < 2
    · rw [if_pos z]
      exact ⟨_, rfl, rfl, l0⟩
    · rw [if_neg z]
      refine both_fold c hc m L0 _ l0 (by omega) fun j hj => ?_
      subst hj
      have := itn_enough (sy c) j (by omega)
      omega
  obtain ⟨q, k1, k2, k3⟩ := key
  refine ⟨q.1, ?_, ?_, ?_⟩
  · unfold m_shortest
    rw [cert_ok c m h h1 hm hu', okb, rep_ok _ hc, okb, used_ok c hc]
    simp only [okb]
    rw [a1, okb, mulO_l (by decide)]
    simp only [okb]
    rw [et, k1, okb, un2_eq]
  · unfold m_due
    simp only [okb]
    have ez : compO (fun count => (Out.ok true)) (fun count => (Out.ok (0 : Int))) c = .ok (List.replicate c.length 0) := by
      rw [compO_ok (c' := fun _ => true) (f' := fun _ => (0 : Int)) c (fun _ _ => rfl) fun _ _ _ => rfl]
      congr 1
      rw [List.filter_eq_self.mpr fun _ _ => rfl]
      exact List.map_const'
    rw [ez, okb, us_comp c hc]
    simp only [okb]
    rw [a2, okb, mulO_l (by decide)]
    simp only [okb]
    rw [rows_ok c m hc hm, okb, k2, okb, un2_eq]
  · omega
theorem isrow_ok (xs : List Int) : m_is_row xs = .ok true := by
  unfold m_is_row
  simp only [okb]
  rw [if_neg (by simp), foldC_go xs fun i _ => by
    rw [un0_eq]
    unfold m_is_row_L1 m_is_integer andO
    simp only [okb]
    rfl]
  rw [okb]
  rfl
theorem isrows_ok (xs : List (List (Int × Int))) : m_is_rows xs = .ok true := by
  unfold m_is_rows
  simp only [okb]
  rw [if_neg (by simp), foldC_go xs fun i _ => by
    rw [un0_eq]
    unfold m_is_rows_L1
    simp only [okb]
    rw [if_neg (by simp), foldC_go i fun j _ => by
      rw [un0_eq]
      unfold m_is_rows_L2 m_is_integer andO orO
      simp [okb]]
    rw [okb]
    rfl]
  rw [okb]
  rfl
theorem plain (ns : List Int) (hl : ns.length ≤ 63) : m_law ns = .ok true := by
  obtain ⟨d, ed, _⟩ := draws_ok ns hl
  obtain ⟨c, ec, hc⟩ := counts_ok d
  obtain ⟨a, ea, ha⟩ := at_ok d 27 15 (by decide) (by decide)
  obtain ⟨b, eb, hb⟩ := at_ok d 27 7 (by decide) (by decide)
  have hn := hc.1
  have e3 := sg_len c
  have eu : compO (fun count => (Out.ok (decide ((0 : Int) < count)))) (fun count => (Out.ok count)) c = .ok (c.filter fun x => decide (0 < x)) := by
    have e := compO_ok (c := fun count => (Out.ok (decide ((0 : Int) < count)))) (f := fun count => (Out.ok count)) (c' := fun x => decide (0 < x)) (f' := fun x => x) c (fun _ _ => rfl) fun _ _ _ => rfl
    rw [e, List.map_id']
  have el : (c.filter fun x => decide (0 < x)).length = (sg c).length := by
    have : c = (rng 0 (c.length : Int)).map fun k => c[k.toNat]?.getD 0 := by
      have := map_get (xs := c) (d := 0) (f := id)
      rw [List.map_id] at this
      exact this.symm
    conv => lhs; rw [this]
    rw [List.filter_map, List.length_map]
    unfold sg
    rw [List.length_map]
    rfl
  have hmost : Okm ((shlO (1 : Int) (1 + a) >>= fun t3 => (Out.ok (decide (t3 < ((c.filter fun x => decide (0 < x)).length : Int))))) >>= fun t29 => (if t29 = true then ((m_at_ d (27 : Int) (7 : Int) >>= fun t4 => (Out.ok ((9 : Int) + t4))) >>= fun most => (Out.ok most)) else (Out.ok (1 + a))))
      (fun most => ∃ m : Nat, most = (m : Int) ∧ 1 ≤ m ∧ m ≤ 15 ∧ (sg c).length ≤ 2 ^ m) := by
    rw [shlO_ok ⟨by omega, by omega, by decide⟩]
    simp only [okb]
    have ep : ((2 ^ (1 + a).toNat : Nat) : Int) = 1 * 2 ^ (1 + a).toNat := by simp
    by_cases z : (1 : Int) * 2 ^ (1 + a).toNat < ((c.filter fun x => decide (0 < x)).length : Int)
    · rw [if_pos (decide_eq_true z), eb]
      simp only [okb]
      refine okm_ok ⟨(9 + b).toNat, by omega, by omega, by omega, ?_⟩
      have : 2 ^ 9 ≤ 2 ^ (9 + b).toNat := Nat.pow_le_pow_right (by decide) (by omega)
      omega
    · rw [if_neg (by simpa using z)]
      exact okm_ok ⟨(1 + a).toNat, by omega, by omega, by omega, by omega⟩
  obtain ⟨most, em, m, rfl, h1, h15, hm⟩ := hmost
  obtain ⟨L, s1, s2, s3⟩ := both_ok c m hc h1 h15 hm
  have hu' : ((sg c).length : Int) ≤ 2 ^ m := by
    have : ((2 ^ m : Nat) : Int) = 2 ^ m := by simp
    omega
  have ce := cert_ok c m hc h1 h15 hu'
  have re := rows_ok c m hn h15
  have rl : (if (sg c).length < 2 then ([] : List (List (Int × Int))) else rws c m).length ≤ 15 := by
    split
    · simp
    · unfold rws
      simp
      omega
  have r0 : ∀ row ∈ (if (sg c).length < 2 then ([] : List (List (Int × Int))) else rws c m), row.length ≤ 700 := by
    split
    · intro row h
      cases h
    · intro row h
      unfold rws at h
      obtain ⟨i, _, rfl⟩ := List.mem_map.mp (List.mem_reverse.mp h)
      exact (itn_ok c hn i).1
  generalize (if (sg c).length < 2 then ([] : List (List (Int × Int))) else rws c m) = R at ce re rl r0
  have fin : ((m_certificate c m >>= fun t12 => ((m_rows c m) >>= fun t13 => (Out.ok (decide (t12 = t13))))) >>= fun t16 => (andO t16 ((m_shortest c m) >>= fun t14 => ((m_due c m) >>= fun t15 => (Out.ok (decide (t14 = t15))))))) = .ok true := by
    rw [ce, re, s1, s2]
    simp only [okb, decide_true]
    unfold andO
    rw [if_pos rfl]
  unfold m_law
  rw [ed, okb, ec, okb, okb, eu, okb, okb, ea, okb, okb, em, okb, ce, okb, isrows_ok]
  simp only [okb, Bool.not_true]
  unfold orO
  rw [if_neg (by simp), re]
  simp only [okb, decide_true, Bool.not_true]
  rw [if_neg (by simp), s1]
  simp only [okb]
  rw [isrow_ok]
  simp only [okb, Bool.not_true]
  rw [if_neg (by simp), s2]
  simp only [okb, decide_true, Bool.not_true]
  rw [if_neg (by simp)]
  simp only [okb]
  rw [if_neg (by simp), pushO_ok (by omega), okb, pushO_ok (by omega), okb]
  split
  · rename_i z
    have z := decide_eq_true_eq.mp z
    cases R with
    | nil => simp at z
    | cons r R =>
      rw [List.cons_append, getI_zero]
      simp only [okb]
      have := r0 r List.mem_cons_self
      rw [pushO_ok (by omega), okb]
      unfold andO
      simp [okb]
  · unfold andO
    simp [okb]
end K15


set_option Elab.async false
set_option linter.all false
set_option maxRecDepth 100000
set_option maxHeartbeats 4000000
namespace K15
open PySem PySem.Spec L2 Rf
open Py (py)
def topS (i : Nat) : Stmt := PySem.Challenge.pw_bellows_k15_shortest_as_told.main.body.getD i (.Pass ⟨0, 0, 0, 0⟩)
abbrev s_draws : Stmt := topS 13
abbrev s_at_ : Stmt := topS 14
abbrev s_is_integer : Stmt := topS 15
abbrev s_is_row : Stmt := topS 16
abbrev s_counts : Stmt := topS 17
abbrev s_rows : Stmt := topS 18
abbrev s_due : Stmt := topS 19
abbrev s_is_rows : Stmt := topS 20
abbrev s_check_counts : Stmt := topS 7
abbrev s_used_items : Stmt := topS 8
abbrev s_next_row : Stmt := topS 9
abbrev s_certificate : Stmt := topS 10
abbrev s_shortest : Stmt := topS 11
abbrev s_law : Stmt := topS 21
structure Tx (K : PySem.W.Frag) (mg : Str → Option Value) : Type where
  a_draws : Addr
  d_draws : FuncData
  F_draws : Fun K "_law_draws" "_law_draws" s_draws a_draws d_draws
  n_draws : Binds K d_draws ["_law_script"] []
  g_draws : mg "_law_draws" = some (.ref a_draws)
  a_at_ : Addr
  d_at_ : FuncData
  F_at_ : Fun K "_law_at" "_law_at" s_at_ a_at_ d_at_
  n_at_ : Binds K d_at_ ["_law_draws_here", "_law_k", "_law_many"] []
  g_at_ : mg "_law_at" = some (.ref a_at_)
  a_is_integer : Addr
  d_is_integer : FuncData
  F_is_integer : Fun K "_law_is_integer" "_law_is_integer" s_is_integer a_is_integer d_is_integer
  n_is_integer : Binds K d_is_integer ["_law_actual"] []
  g_is_integer : mg "_law_is_integer" = some (.ref a_is_integer)
  a_is_row : Addr
  d_is_row : FuncData
  F_is_row : Fun K "_law_is_row" "_law_is_row" s_is_row a_is_row d_is_row
  n_is_row : Binds K d_is_row ["_law_actual"] []
  g_is_row : mg "_law_is_row" = some (.ref a_is_row)
  a_counts : Addr
  d_counts : FuncData
  F_counts : Fun K "_law_counts" "_law_counts" s_counts a_counts d_counts
  n_counts : Binds K d_counts ["_law_draws_here", "_law_first", "_law_many"] []
  g_counts : mg "_law_counts" = some (.ref a_counts)
  a_rows : Addr
  d_rows : FuncData
  F_rows : Fun K "_law_rows" "_law_rows" s_rows a_rows d_rows
  n_rows : Binds K d_rows ["_law_counts_here", "_law_most"] []
  g_rows : mg "_law_rows" = some (.ref a_rows)
  a_due : Addr
  d_due : FuncData
  F_due : Fun K "_law_due" "_law_due" s_due a_due d_due
  n_due : Binds K d_due ["_law_counts_here", "_law_most"] []
  g_due : mg "_law_due" = some (.ref a_due)
  a_is_rows : Addr
  d_is_rows : FuncData
  F_is_rows : Fun K "_law_is_rows" "_law_is_rows" s_is_rows a_is_rows d_is_rows
  n_is_rows : Binds K d_is_rows ["_law_actual"] []
  g_is_rows : mg "_law_is_rows" = some (.ref a_is_rows)
  a_check_counts : Addr
  d_check_counts : FuncData
  F_check_counts : Fun K "check_counts" "check_counts" s_check_counts a_check_counts d_check_counts
  n_check_counts : Binds K d_check_counts ["counts", "most"] []
  g_check_counts : mg "check_counts" = some (.ref a_check_counts)
  a_used_items : Addr
  d_used_items : FuncData
  F_used_items : Fun K "used_items" "used_items" s_used_items a_used_items d_used_items
  n_used_items : Binds K d_used_items ["counts"] []
  g_used_items : mg "used_items" = some (.ref a_used_items)
  a_next_row : Addr
  d_next_row : FuncData
  F_next_row : Fun K "next_row" "next_row" s_next_row a_next_row d_next_row
  n_next_row : Binds K d_next_row ["symbols", "row"] []
  g_next_row : mg "next_row" = some (.ref a_next_row)
  a_certificate : Addr
  d_certificate : FuncData
  F_certificate : Fun K "certificate" "certificate" s_certificate a_certificate d_certificate
  n_certificate : Binds K d_certificate ["counts", "most"] []
  g_certificate : mg "certificate" = some (.ref a_certificate)
  a_shortest : Addr
  d_shortest : FuncData
  F_shortest : Fun K "shortest" "shortest" s_shortest a_shortest d_shortest
  n_shortest : Binds K d_shortest ["counts", "most"] []
  g_shortest : mg "shortest" = some (.ref a_shortest)
  a_law : Addr
  d_law : FuncData
  F_law : Fun K "law" "law" s_law a_law d_law
  n_law : Binds K d_law ["_law_script"] []
  g_law : mg "law" = some (.ref a_law)
  b_abs : mg "abs" = none
  b_bool : mg "bool" = none
  b_int : mg "int" = none
  b_isinstance : mg "isinstance" = none
  b_len : mg "len" = none
  b_list : mg "list" = none
  b_min : mg "min" = none
  b_range : mg "range" = none
  b_sorted : mg "sorted" = none
  b_tuple : mg "tuple" = none
  t_COUNT_BOUND : Tok
  c_COUNT_BOUND : mg "COUNT_BOUND" = some (.int 4294967296 t_COUNT_BOUND)
  t_LONGEST : Tok
  c_LONGEST : mg "LONGEST" = some (.int 15 t_LONGEST)
section
variable [TbC] {P : Program} {w : World} {K : PySem.W.Frag} {mg : Str → Option Value} {base : Heap}
abbrev N_draws : List Str := ["_law_script", "_law_draws_here", "_law_k", "_law_rest", "_law_turn", "_law_mixed"]
theorem sc_draws : FnScope ["_law_script", "_law_draws_here", "_law_k", "_law_rest", "_law_turn", "_law_mixed"] ["_law_script"] (defScope s_draws) := ⟨rfl, rfl, rfl, by decide +kernel, rfl, by decide +kernel, by decide +kernel⟩
theorem w_draws (T : Tx K mg) : FnOk P w K mg base CX0 1 T.a_draws T.d_draws ["_law_script"] (Pm0 (rC (rB K (α := Int)) r0) (rL K (α := Int)) (fun q => m_draws q.1)) := by
  refine fn0 T.F_draws sc_draws (fun h => ?_) (fun A outer s E Fe He Qe Q vs q hr lf ht h hw => ?_)
  ·
    obtain ⟨_, _, rfl, _, h⟩ := h
    rw [h]
    rfl
  ·
    have sc := sc_draws
    obtain ⟨script, _⟩ := q
    dsimp only at h hw
    obtain ⟨_, _, rfl, ⟨p_script, y_script, rfl, g_script, h_script⟩, h0⟩ := h
    cases h0
    have pt := Pt.start lf ht
    unfold m_draws at hw
    refine b_setL (i := 1) (evc (ev_list (el_nil (α := Int))) (by simp only [okb, bind_asc])) pt hw (fun draws_here p_draws_here y_draws_here F H hw lf n_draws_here pt h_draws_here => ?_) sc.nd
    replace h_script := h_script.mo lf
    refine l_r1 (j := 2) PassesOwn.never rfl T.b_range sc.nd (evc (ev_min rfl T.b_min (by decide +kernel) ev_int (ev_len T.b_len (by decide +kernel) (ev_vP 0 g_script h_script))) (by simp only [okb, bind_asc])) pt hw (fun s σ' H' => ∃ (F' : Hp) (y_draws_here : List V) (z_2 : Option V) (z_3 : Option V) (z_4 : Option V) (z_5 : Option V), σ' = [some (.ref p_script), some (.ref p_draws_here), z_2, z_3, z_4, z_5] ∧ Le F F' ∧ Pt He Fe He [(p_draws_here, .lst y_draws_here)] F' H' ∧ DsAll K F' y_draws_here (s.map py)) (fun F1 H1 lf pt => ⟨_, _, _, _, _, _, rfl, lf, pt, h_draws_here.mo lf⟩) (fun k v_k draws_here σ H Po hv r hw => ?_) (fun draws_here σ H r hw => ?_)
    ·
      obtain ⟨F, y_draws_here, z_2, z_3, z_4, z_5, rfl, lf, pt, h_draws_here⟩ := r
      replace h_script := h_script.mo lf
      obtain rfl := hv
      have LF0 := lf
      unfold m_draws_L1 at hw
      refine b_setI (i := 3) (evc (ev_abs T.b_abs (by decide +kernel) (ev_ix (ev_vP 0 g_script h_script) (ev_vI 2))) (by simp only [okb, bind_asc])) pt hw (fun rest_ F H hw lf pt => ?_) sc.nd
      replace h_script := h_script.mo lf
      replace h_draws_here := h_draws_here.mo lf
      replace LF0 := LF0.trans lf
      refine b_if (etc (et_ge (ev_vI 3) (ev_pow ev_int ev_int)) (by simp only [okb, bind_asc])) pt hw (fun F H hw lf pt => ?_) (fun F H hw lf pt => ?_)
      ·
        replace h_script := h_script.mo lf
        replace h_draws_here := h_draws_here.mo lf
        replace LF0 := LF0.trans lf
        refine l_r1 (j := 4) PassesOwn.never rfl T.b_range sc.nd (evc ev_int (by simp only [okb, bind_asc])) pt hw (fun s σ' H' => ∃ (F' : Hp) (y_draws_here : List V) (z_4 : Option V), σ' = [some (.ref p_script), some (.ref p_draws_here), some (.int k), some (.int s.1), z_4, z_5] ∧ Le F F' ∧ Pt He Fe He [(p_draws_here, .lst y_draws_here)] F' H' ∧ DsAll K F' y_draws_here (s.2.map py)) (fun F1 H1 lf pt => ⟨_, _, _, rfl, lf, pt, h_draws_here.mo lf⟩) (fun turn v_turn s σ H Po hv r hw => ?_) (fun s σ H r hw => ?_)
        ·
          obtain ⟨rest_, draws_here⟩ := s
          dsimp only at r
          replace hw := un2w hw
          obtain ⟨F, y_draws_here, z_4, rfl, lf, pt, h_draws_here⟩ := r
          replace h_script := h_script.mo lf
          replace LF0 := LF0.trans lf
          obtain rfl := hv
          have LF1 := lf
          unfold m_draws_L2 at hw
          refine b_if (etc (et_gt (ev_vI 3) ev_int) (by simp only [okb, bind_asc])) pt hw (fun F H hw lf pt => ?_) (fun F H hw lf pt => ?_)
          ·
            replace h_script := h_script.mo lf
            replace h_draws_here := h_draws_here.mo lf
            replace LF0 := LF0.trans lf
            replace LF1 := LF1.trans lf
            refine b_append (i := 1) (j := 0) rfl rfl h_draws_here (evc (ev_mod (ev_intOf T.b_int (by decide +kernel) (ev_vI 3)) ev_int) (by simp only [okb, bind_asc])) pt hw (fun draws_here y_draws_here F H hw lf pt h_draws_here => ?_)
            replace h_script := h_script.mo lf
            replace LF0 := LF0.trans lf
            replace LF1 := LF1.trans lf
            refine b_setI (i := 3) (evc (ev_div (ev_vI 3) ev_int) (by simp only [okb, bind_asc])) pt hw (fun rest_ F H hw lf pt => ?_) sc.nd
            replace h_script := h_script.mo lf
            replace h_draws_here := h_draws_here.mo lf
            replace LF0 := LF0.trans lf
            replace LF1 := LF1.trans lf
            refine sS_nil ?_
            refine sS_nil ?_
            exact ⟨(rest_, draws_here), ⟨_, _, _, rfl, LF1, pt, h_draws_here⟩, hw⟩
          ·
            replace h_script := h_script.mo lf
            replace h_draws_here := h_draws_here.mo lf
            replace LF0 := LF0.trans lf
            replace LF1 := LF1.trans lf
            refine sS_nil ?_
            refine sS_nil ?_
            exact ⟨(rest_, draws_here), ⟨_, _, _, rfl, LF1, pt, h_draws_here⟩, hw⟩
        ·
          obtain ⟨rest_, draws_here⟩ := s
          dsimp only at r
          replace hw := un2w hw
          obtain ⟨F, y_draws_here, z_4, rfl, lf, pt, h_draws_here⟩ := r
          replace h_script := h_script.mo lf
          replace LF0 := LF0.trans lf
          refine sS_nil ?_
          refine sS_nil ?_
          exact ⟨draws_here, ⟨_, _, _, _, _, _, rfl, LF0, pt, h_draws_here⟩, hw⟩
      ·
        replace h_script := h_script.mo lf
        replace h_draws_here := h_draws_here.mo lf
        replace LF0 := LF0.trans lf
        refine b_setI (i := 5) (evc (ev_mod (ev_intOf T.b_int (by decide +kernel) (ev_add (ev_mul (ev_vI 3) ev_int) (ev_mul (ev_add (ev_vI 2) ev_int) ev_int))) ev_int) (by simp only [okb, bind_asc])) pt hw (fun mixed F H hw lf pt => ?_) sc.nd
        replace h_script := h_script.mo lf
        replace h_draws_here := h_draws_here.mo lf
        replace LF0 := LF0.trans lf
        refine b_setI (i := 5) (evc (ev_mod (ev_intOf T.b_int (by decide +kernel) (ev_add (ev_add (ev_mul (ev_vI 5) ev_int) (ev_mul ev_int (ev_vI 2))) ev_int)) ev_int) (by simp only [okb, bind_asc])) pt hw (fun mixed F H hw lf pt => ?_) sc.nd
        replace h_script := h_script.mo lf
        replace h_draws_here := h_draws_here.mo lf
        replace LF0 := LF0.trans lf
        refine b_append (i := 1) (j := 0) rfl rfl h_draws_here (evc (ev_mod (ev_intOf T.b_int (by decide +kernel) (ev_vI 5)) ev_int) (by simp only [okb, bind_asc])) pt hw (fun draws_here y_draws_here F H hw lf pt h_draws_here => ?_)
        replace h_script := h_script.mo lf
        replace LF0 := LF0.trans lf
        refine b_append (i := 1) (j := 0) rfl rfl h_draws_here (evc (ev_mod (ev_intOf T.b_int (by decide +kernel) (ev_div (ev_vI 5) ev_int)) ev_int) (by simp only [okb, bind_asc])) pt hw (fun draws_here y_draws_here F H hw lf pt h_draws_here => ?_)
        replace h_script := h_script.mo lf
        replace LF0 := LF0.trans lf
        refine sS_nil ?_
        refine sS_nil ?_
        exact ⟨draws_here, ⟨_, _, _, _, _, _, rfl, LF0, pt, h_draws_here⟩, hw⟩
    ·
      obtain ⟨F, y_draws_here, z_2, z_3, z_4, z_5, rfl, lf, pt, h_draws_here⟩ := r
      replace h_script := h_script.mo lf
      exact b_retO (i := 1) (j := 0) rfl rfl h_draws_here n_draws_here pt (Le.refl _) hw

abbrev N_at_ : List Str := ["_law_draws_here", "_law_k", "_law_many"]
theorem sc_at_ : FnScope ["_law_draws_here", "_law_k", "_law_many"] ["_law_draws_here", "_law_k", "_law_many"] (defScope s_at_) := ⟨rfl, rfl, rfl, by decide +kernel, rfl, by decide +kernel, by decide +kernel⟩
theorem w_at_ (T : Tx K mg) : FnOk P w K mg base CX0 1 T.a_at_ T.d_at_ ["_law_draws_here", "_law_k", "_law_many"] (Pm0 (rC (rB K (α := Int)) (rC (rE K (α := Int)) (rC (rE K (α := Int)) r0))) (rE K (α := Int)) (fun q => m_at_ q.1 q.2.1 q.2.2.1)) := by
  refine fn0 T.F_at_ sc_at_ (fun h => ?_) (fun A outer s E Fe He Qe Q vs q hr lf ht h hw => ?_)
  ·
    obtain ⟨_, _, rfl, _, _, _, rfl, _, _, _, rfl, _, h⟩ := h
    rw [h]
    rfl
  ·
    have sc := sc_at_
    obtain ⟨draws_here, k, many, _⟩ := q
    dsimp only at h hw
    obtain ⟨_, _, rfl, ⟨p_draws_here, y_draws_here, rfl, g_draws_here, h_draws_here⟩, _, _, rfl, h_k, _, _, rfl, h_many, h0⟩ := h
    cases h0
    obtain rfl := dpI h_k
    obtain rfl := dpI h_many
    have pt := Pt.start lf ht
    unfold m_at_ at hw
    refine b_if (etc (et_lt (ev_vI 1) (ev_len T.b_len (by decide +kernel) (ev_vP 0 g_draws_here h_draws_here))) (by simp only [okb, bind_asc])) pt hw (fun F H hw lf pt => ?_) (fun F H hw lf pt => ?_)
    ·
      replace h_draws_here := h_draws_here.mo lf
      exact b_ret (evc (ev_mod (ev_intOf T.b_int (by decide +kernel) (ev_ix (ev_vP 0 g_draws_here h_draws_here) (ev_vI 1))) (ev_vI 2)) (by simp only [okb, bind_asc])) okE pt (Le.refl _) hw
    ·
      replace h_draws_here := h_draws_here.mo lf
      refine sS_nil ?_
      exact b_ret (evc ev_int (by simp only [okb, bind_asc])) okE pt (Le.refl _) hw

abbrev N_is_integer : List Str := ["_law_actual"]
theorem sc_is_integer : FnScope ["_law_actual"] ["_law_actual"] (defScope s_is_integer) := ⟨rfl, rfl, rfl, by decide +kernel, rfl, by decide +kernel, by decide +kernel⟩
theorem w_is_integer (T : Tx K mg) : FnOk P w K mg base CX0 1 T.a_is_integer T.d_is_integer ["_law_actual"] (Pm0 (rC (rE K (α := Int)) r0) (rE K (α := Bool)) (fun q => m_is_integer q.1)) := by
  refine fn0 T.F_is_integer sc_is_integer (fun h => ?_) (fun A outer s E Fe He Qe Q vs q hr lf ht h hw => ?_)
  ·
    obtain ⟨_, _, rfl, _, h⟩ := h
    rw [h]
    rfl
  ·
    have sc := sc_is_integer
    obtain ⟨actual, _⟩ := q
    dsimp only at h hw
    obtain ⟨_, _, rfl, h_actual, h0⟩ := h
    cases h0
    obtain rfl := dpI h_actual
    have pt := Pt.start lf ht
    unfold m_is_integer at hw
    exact b_ret (evc (ev_andV (ev_isiI (t := "int") (b := true) T.b_isinstance (by decide +kernel) T.b_int (by decide +kernel) (kit_ty (by decide +kernel)) (ev_vI 0)) (ev_one (ev_notV (ev_isiI (t := "bool") (b := false) T.b_isinstance (by decide +kernel) T.b_bool (by decide +kernel) (kit_ty (by decide +kernel)) (ev_vI 0))))) (by simp only [okb, bind_asc])) okE pt (Le.refl _) hw

abbrev N_is_row : List Str := ["_law_actual", "_law_item"]
theorem sc_is_row : FnScope ["_law_actual", "_law_item"] ["_law_actual"] (defScope s_is_row) := ⟨rfl, rfl, rfl, by decide +kernel, rfl, by decide +kernel, by decide +kernel⟩
theorem w_is_row (T : Tx K mg) : FnOk P w K mg base CX0 2 T.a_is_row T.d_is_row ["_law_actual"] (Pm0 (rC (rB K (α := Int)) r0) (rE K (α := Bool)) (fun q => m_is_row q.1)) := by
  refine fn0 T.F_is_row sc_is_row (fun h => ?_) (fun A outer s E Fe He Qe Q vs q hr lf ht h hw => ?_)
  ·
    obtain ⟨_, _, rfl, _, h⟩ := h
    rw [h]
    rfl
  ·
    have sc := sc_is_row
    obtain ⟨actual, _⟩ := q
    dsimp only at h hw
    obtain ⟨_, _, rfl, ⟨p_actual, y_actual, rfl, g_actual, h_actual⟩, h0⟩ := h
    cases h0
    have pt := Pt.start lf ht
    unfold m_is_row at hw
    refine b_if (etc (et_not (et_val (ev_isiL (t := "list") (b := true) T.b_isinstance (by decide +kernel) T.b_list (by decide +kernel) (kit_ty (by decide +kernel)) (ev_vP 0 g_actual h_actual)))) (by simp only [okb, bind_asc])) pt hw (fun F H hw lf pt => ?_) (fun F H hw lf pt => ?_)
    ·
      replace h_actual := h_actual.mo lf
      exact b_ret (evc ev_bl (by simp only [okb, bind_asc])) okE pt (Le.refl _) hw
    ·
      replace h_actual := h_actual.mo lf
      refine sS_nil ?_
      refine l_VC (j := 1) 0 PassesOwn.never rfl sc.nd (pt.st.l0.sql g_actual) h_actual hw (fun s σ' H' => ∃ (F' : Hp) (z_1 : Option V), σ' = [some (.ref p_actual), z_1] ∧ Le F F' ∧ Pt He Fe He [] F' H') (fun _ _ _ r => by obtain ⟨F, z_1, rfl, lf, pt⟩ := r; exact pt.st.l0.sql g_actual) ⟨_, _, rfl, Le.refl _, pt⟩ (fun item v_item _ σ H Po hv r hrt hw => ?_) (fun _ σ H r hw => ?_)
      ·
        replace hw := un0w hw
        obtain ⟨F, z_1, rfl, lf, pt⟩ := r
        replace h_actual := h_actual.mo lf
        obtain rfl := dpI hv
        have LF0 := lf
        have rp1 := fun r z => (hrt r z)
        unfold m_is_row_L1 at hw
        refine b_if (etc (et_not (et_val (ev_fn (w_is_integer T) (hr.mono (by decide)) T.g_is_integer T.F_is_integer.kp T.n_is_integer (ea_cons (ev_vI 1) ea_nil okE ok0) (nsC nsE ns0) okE))) (by simp only [okb, bind_asc])) pt hw (fun F H hw lf pt => ?_) (fun F H hw lf pt => ?_)
        ·
          replace h_actual := h_actual.mo lf
          replace LF0 := LF0.trans lf
          exact b_ret (evc ev_bl (by simp only [okb, bind_asc])) okE pt (Le.refl _) (wpO_to (wpO_bind.mp hw) fun r z => rp1 r z)
        ·
          replace h_actual := h_actual.mo lf
          replace LF0 := LF0.trans lf
          refine sS_nil ?_
          refine sS_nil ?_
          exact ⟨(), ⟨_, _, rfl, LF0, pt⟩, hw⟩
      ·
        replace hw := un0w hw
        obtain ⟨F, z_1, rfl, lf, pt⟩ := r
        replace h_actual := h_actual.mo lf
        exact b_ret (evc ev_bl (by simp only [okb, bind_asc])) okE pt (Le.refl _) hw

abbrev N_counts : List Str := ["_law_draws_here", "_law_first", "_law_many", "_law_greatest", "_law_out", "_law_size", "_law_k", "_law_count"]
theorem sc_counts : FnScope ["_law_draws_here", "_law_first", "_law_many", "_law_greatest", "_law_out", "_law_size", "_law_k", "_law_count"] ["_law_draws_here", "_law_first", "_law_many"] (defScope s_counts) := ⟨rfl, rfl, rfl, by decide +kernel, rfl, by decide +kernel, by decide +kernel⟩
theorem w_counts (T : Tx K mg) : FnOk P w K mg base CX0 2 T.a_counts T.d_counts ["_law_draws_here", "_law_first", "_law_many"] (Pm0 (rC (rB K (α := Int)) (rC (rE K (α := Int)) (rC (rE K (α := Int)) r0))) (rL K (α := Int)) (fun q => m_counts q.1 q.2.1 q.2.2.1)) := by
  refine fn0 T.F_counts sc_counts (fun h => ?_) (fun A outer s E Fe He Qe Q vs q hr lf ht h hw => ?_)
  ·
    obtain ⟨_, _, rfl, _, _, _, rfl, _, _, _, rfl, _, h⟩ := h
    rw [h]
    rfl
  ·
    have sc := sc_counts
    obtain ⟨draws_here, first, many, _⟩ := q
    dsimp only at h hw
    obtain ⟨_, _, rfl, ⟨p_draws_here, y_draws_here, rfl, g_draws_here, h_draws_here⟩, _, _, rfl, h_first, _, _, rfl, h_many, h0⟩ := h
    cases h0
    obtain rfl := dpI h_first
    obtain rfl := dpI h_many
    have pt := Pt.start lf ht
    unfold m_counts at hw
    refine b_setI (i := 3) (evc (ev_ix (ev_LB (ev_list (el_cons ev_int (el_cons ev_int (el_cons ev_int (el_cons ev_int (el_cons ev_int (el_nil (α := Int))))))))) (ev_fn (w_at_ T) (hr.mono (by decide)) T.g_at_ T.F_at_.kp T.n_at_ (ea_cons (ev_vP 0 g_draws_here h_draws_here) (ea_cons (ev_vI 1) (ea_cons ev_int ea_nil okE ok0) okE (okC okE ok0)) okB (okC okE (okC okE ok0))) (nsC nsB (nsC nsE (nsC nsE ns0))) okE)) (by simp only [okb, bind_asc])) pt hw (fun greatest F H hw lf pt => ?_) sc.nd
    replace h_draws_here := h_draws_here.mo lf
    refine b_setL (i := 4) (evc (ev_list (el_nil (α := Int))) (by simp only [okb, bind_asc])) pt hw (fun out p_out y_out F H hw lf n_out pt h_out => ?_) sc.nd
    replace h_draws_here := h_draws_here.mo lf
    refine b_setI (i := 5) (evc (ev_fn (w_at_ T) (hr.mono (by decide)) T.g_at_ T.F_at_.kp T.n_at_ (ea_cons (ev_vP 0 g_draws_here h_draws_here) (ea_cons (ev_add (ev_vI 1) ev_int) (ea_cons (ev_add (ev_vI 2) ev_int) ea_nil okE ok0) okE (okC okE ok0)) okB (okC okE (okC okE ok0))) (nsC nsB (nsC nsE (nsC nsE ns0))) okE) (by simp only [okb, bind_asc])) pt hw (fun size F H hw lf pt => ?_) sc.nd
    replace h_draws_here := h_draws_here.mo lf
    replace h_out := h_out.mo lf
    refine b_join hw (fun s σ' H' => ∃ (F' : Hp), σ' = [some (.ref p_draws_here), some (.int first), some (.int many), some (.int greatest), some (.ref p_out), some (.int s), none, none] ∧ Le F F' ∧ Pt He Fe He [(p_out, .lst y_out)] F' H') (fun Po hw => i_if (etc (et_eqI (ev_fn (w_at_ T) (hr.mono (by decide)) T.g_at_ T.F_at_.kp T.n_at_ (ea_cons (ev_vP 0 g_draws_here h_draws_here) (ea_cons (ev_vI 1) (ea_cons ev_int ea_nil okE ok0) okE (okC okE ok0)) okB (okC okE (okC okE ok0))) (nsC nsB (nsC nsE (nsC nsE ns0))) okE) ev_int) (by simp only [okb, bind_asc])) pt hw (fun F H hw lf pt => ?_) (fun F H hw lf pt => ?_)) (fun size σ H r hw => ?_)
    ·
      replace h_draws_here := h_draws_here.mo lf
      replace h_out := h_out.mo lf
      have LF0 := lf
      refine b_setI (i := 5) (evc (ev_add (ev_vI 5) ev_int) (by simp only [okb, bind_asc])) pt hw (fun size F H hw lf pt => ?_) sc.nd
      replace h_draws_here := h_draws_here.mo lf
      replace h_out := h_out.mo lf
      replace LF0 := LF0.trans lf
      refine sS_nil ?_
      exact ⟨size, ⟨_, rfl, LF0, pt⟩, hw⟩
    ·
      replace h_draws_here := h_draws_here.mo lf
      replace h_out := h_out.mo lf
      have LF0 := lf
      refine sS_nil ?_
      exact ⟨size, ⟨_, rfl, LF0, pt⟩, hw⟩
    ·
      obtain ⟨F, rfl, lf, pt⟩ := r
      replace h_draws_here := h_draws_here.mo lf
      replace h_out := h_out.mo lf
      refine l_r1 (j := 6) PassesOwn.never rfl T.b_range sc.nd (evc (ev_vI 5) (by simp only [okb, bind_asc])) pt hw (fun s σ' H' => ∃ (F' : Hp) (y_out : List V) (z_6 : Option V) (z_7 : Option V), σ' = [some (.ref p_draws_here), some (.int first), some (.int many), some (.int greatest), some (.ref p_out), some (.int size), z_6, z_7] ∧ Le F F' ∧ Pt He Fe He [(p_out, .lst y_out)] F' H' ∧ DsAll K F' y_out (s.map py)) (fun F1 H1 lf pt => ⟨_, _, _, _, rfl, lf, pt, h_out.mo lf⟩) (fun k v_k out σ H Po hv r hw => ?_) (fun out σ H r hw => ?_)
      ·
        obtain ⟨F, y_out, z_6, z_7, rfl, lf, pt, h_out⟩ := r
        replace h_draws_here := h_draws_here.mo lf
        obtain rfl := hv
        have LF0 := lf
        unfold m_counts_L1 at hw
        refine b_setI (i := 7) (evc (ev_fn (w_at_ T) (hr.mono (by decide)) T.g_at_ T.F_at_.kp T.n_at_ (ea_cons (ev_vP 0 g_draws_here h_draws_here) (ea_cons (ev_add (ev_add (ev_vI 1) ev_int) (ev_mod (ev_intOf T.b_int (by decide +kernel) (ev_vI 6)) ev_int)) (ea_cons (ev_vI 3) ea_nil okE ok0) okE (okC okE ok0)) okB (okC okE (okC okE ok0))) (nsC nsB (nsC nsE (nsC nsE ns0))) okE) (by simp only [okb, bind_asc])) pt hw (fun count F H hw lf pt => ?_) sc.nd
        replace h_draws_here := h_draws_here.mo lf
        replace h_out := h_out.mo lf
        replace LF0 := LF0.trans lf
        refine b_join hw (fun s σ' H' => ∃ (F' : Hp), σ' = [some (.ref p_draws_here), some (.int first), some (.int many), some (.int greatest), some (.ref p_out), some (.int size), some (.int k), some (.int s)] ∧ Le F F' ∧ Pt He Fe He [(p_out, .lst y_out)] F' H') (fun Po hw => i_if (etc (et_bool (ew_and (et_eqI (ev_fn (w_at_ T) (hr.mono (by decide)) T.g_at_ T.F_at_.kp T.n_at_ (ea_cons (ev_vP 0 g_draws_here h_draws_here) (ea_cons (ev_vI 1) (ea_cons ev_int ea_nil okE ok0) okE (okC okE ok0)) okB (okC okE (okC okE ok0))) (nsC nsB (nsC nsE (nsC nsE ns0))) okE) ev_int) (ew_and1 (et_chainI op_gt op_gt ev_int (ev_vI 6) ev_int)))) (by simp only [okb, bind_asc])) pt hw (fun F H hw lf pt => ?_) (fun F H hw lf pt => ?_)) (fun count σ H r hw => ?_)
        ·
          replace h_draws_here := h_draws_here.mo lf
          replace h_out := h_out.mo lf
          replace LF0 := LF0.trans lf
          have LF1 := lf
          refine b_setI (i := 7) (evc (ev_min rfl T.b_min (by decide +kernel) (ev_add (ev_ix (ev_vO 4 0 h_out) (ev_sub (ev_vI 6) ev_int)) (ev_ix (ev_vO 4 0 h_out) (ev_sub (ev_vI 6) ev_int))) ev_int) (by simp only [okb, bind_asc])) pt hw (fun count F H hw lf pt => ?_) sc.nd
          replace h_draws_here := h_draws_here.mo lf
          replace h_out := h_out.mo lf
          replace LF0 := LF0.trans lf
          replace LF1 := LF1.trans lf
          refine sS_nil ?_
          exact ⟨count, ⟨_, rfl, LF1, pt⟩, hw⟩
        ·
          replace h_draws_here := h_draws_here.mo lf
          replace h_out := h_out.mo lf
          replace LF0 := LF0.trans lf
          have LF1 := lf
          refine sS_nil ?_
          exact ⟨count, ⟨_, rfl, LF1, pt⟩, hw⟩
        ·
          obtain ⟨F, rfl, lf, pt⟩ := r
          replace h_draws_here := h_draws_here.mo lf
          replace h_out := h_out.mo lf
          replace LF0 := LF0.trans lf
          refine b_append (i := 4) (j := 0) rfl rfl h_out (evc (ev_vI 7) (by simp only [okb, bind_asc])) pt hw (fun out y_out F H hw lf pt h_out => ?_)
          replace h_draws_here := h_draws_here.mo lf
          replace LF0 := LF0.trans lf
          refine sS_nil ?_
          exact ⟨out, ⟨_, _, _, _, rfl, LF0, pt, h_out⟩, hw⟩
      ·
        obtain ⟨F, y_out, z_6, z_7, rfl, lf, pt, h_out⟩ := r
        replace h_draws_here := h_draws_here.mo lf
        exact b_retO (i := 4) (j := 0) rfl rfl h_out n_out pt (Le.refl _) hw

abbrev N_rows : List Str := ["_law_counts_here", "_law_most", "_law_singles", "_law_k", "_law_rows_here", "_law_later", "_law_turn", "_law_items", "_law_row", "_law_item"]
theorem sc_rows : FnScope ["_law_counts_here", "_law_most", "_law_singles", "_law_k", "_law_rows_here", "_law_later", "_law_turn", "_law_items", "_law_row", "_law_item"] ["_law_counts_here", "_law_most"] (defScope s_rows) := ⟨rfl, rfl, rfl, by decide +kernel, rfl, by decide +kernel, by decide +kernel⟩
theorem w_rows (T : Tx K mg) : FnOk P w K mg base CX0 1 T.a_rows T.d_rows ["_law_counts_here", "_law_most"] (Pm0 (rC (rB K (α := Int)) (rC (rE K (α := Int)) r0)) (rL K (α := (List (Int × Int)))) (fun q => m_rows q.1 q.2.1)) := by
  refine fn0 T.F_rows sc_rows (fun h => ?_) (fun A outer s E Fe He Qe Q vs q hr lf ht h hw => ?_)
  ·
    obtain ⟨_, _, rfl, _, _, _, rfl, _, h⟩ := h
    rw [h]
    rfl
  ·
    have sc := sc_rows
    obtain ⟨counts_here, most, _⟩ := q
    dsimp only at h hw
    obtain ⟨_, _, rfl, ⟨p_counts_here, y_counts_here, rfl, g_counts_here, h_counts_here⟩, _, _, rfl, h_most, h0⟩ := h
    cases h0
    obtain rfl := dpI h_most
    have pt := Pt.start lf ht
    unfold m_rows at hw
    refine b_set (i := 2) (evc (ev_LE (ev_comp (j := 3) rfl sc.nd (pi_range1 rfl T.b_range pa_s) (fun _ _ _ _ _ => pg_name sc.nd rfl (Or.inl rfl)) (lcr_R1 (cm := (fun k => ((getI counts_here k) >>= fun t2 => (Out.ok (decide ((0 : Int) < t2)))))) (f := (fun k => ((getI counts_here k) >>= fun t1 => (Out.ok (t1, k))))) T.b_range (ev_len T.b_len (by decide +kernel) (ev_vP 0 g_counts_here h_counts_here)) (fun F k v_k lf hv s H C cl fp => by obtain rfl := hv; replace h_counts_here := h_counts_here.mo lf; exact ⟨(etsc (ets_one (et_gt (ev_ix (ev_vP 0 g_counts_here h_counts_here) (ev_vI 3)) ev_int)) (by simp only [okb, bind_asc])), (evc (ev_tup2 (ev_ix (ev_vP 0 g_counts_here h_counts_here) (ev_vI 3)) (ev_vI 3)) (by simp only [okb, bind_asc]))⟩)) (ok := (show blkC N_rows (defScope s_rows) _ [("_law_k", 3)] = true by decide +kernel)))) (by simp only [okb, bind_asc])) pt hw (fun singles v_singles F H hw lf pt h_singles => ?_) sc.nd
    replace h_counts_here := h_counts_here.mo lf
    refine b_if (etc (et_lt (ev_len T.b_len (by decide +kernel) (ev_EB (ev_var 2 h_singles))) ev_int) (by simp only [okb, bind_asc])) pt hw (fun F H hw lf pt => ?_) (fun F H hw lf pt => ?_)
    ·
      replace h_counts_here := h_counts_here.mo lf
      replace h_singles := h_singles.mo lf
      exact b_ret (evc (ev_list (el_nil (α := (List (Int × Int))))) (by simp only [okb, bind_asc])) okL pt (Le.refl _) hw
    ·
      replace h_counts_here := h_counts_here.mo lf
      replace h_singles := h_singles.mo lf
      refine sS_nil ?_
      refine b_setL (i := 4) (evc (ev_list (el_nil (α := (List (Int × Int))))) (by simp only [okb, bind_asc])) pt hw (fun rows_here p_rows_here y_rows_here F H hw lf n_rows_here pt h_rows_here => ?_) sc.nd
      replace h_counts_here := h_counts_here.mo lf
      replace h_singles := h_singles.mo lf
      refine b_set (i := 5) (evc (ev_LE (ev_list (el_nil (α := (Int × Int))))) (by simp only [okb, bind_asc])) pt hw (fun later v_later F H hw lf pt h_later => ?_) sc.nd
      replace h_counts_here := h_counts_here.mo lf
      replace h_singles := h_singles.mo lf
      replace h_rows_here := h_rows_here.mo lf
      refine l_r1 (j := 6) PassesOwn.never rfl T.b_range sc.nd (evc (ev_vI 1) (by simp only [okb, bind_asc])) pt hw (fun s σ' H' => ∃ (F' : Hp) (p_rows_here : Addr) (y_rows_here : List V) (v_later : V) (z_6 : Option V) (z_7 : Option V) (z_3 : Option V) (z_8 : Option V) (z_9 : Option V), σ' = [some (.ref p_counts_here), some (.int most), some v_singles, z_3, some (.ref p_rows_here), some v_later, z_6, z_7, z_8, z_9] ∧ Le F F' ∧ Pt He Fe He [(p_rows_here, .lst y_rows_here)] F' H' ∧ He p_rows_here = none ∧ DsAll K F' y_rows_here (s.1.map py) ∧ Ds K F' v_later (py s.2)) (fun F1 H1 lf pt => ⟨_, _, _, _, _, _, _, _, _, rfl, lf, pt, n_rows_here, h_rows_here.mo lf, h_later.mo lf⟩) (fun turn v_turn s σ H Po hv r hw => ?_) (fun s σ H r hw => ?_)
      ·
        obtain ⟨rows_here, later⟩ := s
        dsimp only at r
        replace hw := un2w hw
        obtain ⟨F, p_rows_here, y_rows_here, v_later, z_6, z_7, z_3, z_8, z_9, rfl, lf, pt, n_rows_here, h_rows_here, h_later⟩ := r
        replace h_counts_here := h_counts_here.mo lf
        replace h_singles := h_singles.mo lf
        obtain rfl := hv
        have LF0 := lf
        unfold m_rows_L1 at hw
        refine b_setLc (i := 7) (j := 3) rfl sc.nd (pi_range1 rfl T.b_range pa_s) (fun _ _ _ _ _ => pg_name sc.nd rfl (Or.inl rfl)) (lcr_R1 (cm := (fun k => (Out.ok true))) (f := (fun k => (((getI singles k) >>= fun t3 => (Out.ok t3.1)) >>= fun t5 => (((getI singles k) >>= fun t4 => (Out.ok t4.2)) >>= fun t6 => (Out.ok (T3.mk t5 (0 : Int) t6)))))) T.b_range (evc (ev_len T.b_len (by decide +kernel) (ev_EB (ev_var 2 h_singles))) (by simp only [okb, bind_asc])) (fun F k v_k lf hv s H C cl fp => by obtain rfl := hv; replace h_counts_here := h_counts_here.mo lf; replace h_singles := h_singles.mo lf; replace h_rows_here := h_rows_here.mo lf; replace h_later := h_later.mo lf; exact ⟨(etsc ets_nil (by simp only [okb, bind_asc])), (evc (ev_tup3 (ev_fst (ev_ix (ev_EB (ev_var 2 h_singles)) (ev_vI 3))) ev_int (ev_snd (ev_ix (ev_EB (ev_var 2 h_singles)) (ev_vI 3)))) (by simp only [okb, bind_asc]))⟩)) pt hw (fun items p_items y_items F H hw lf n_items pt h_items => ?_) (ok := (show blkC N_rows (defScope s_rows) _ [("_law_k", 3)] = true by decide +kernel))
        replace h_counts_here := h_counts_here.mo lf
        replace h_singles := h_singles.mo lf
        replace h_rows_here := h_rows_here.mo lf
        replace h_later := h_later.mo lf
        replace LF0 := LF0.trans lf
        refine l_r1 (j := 3) PassesOwn.never rfl T.b_range sc.nd (evc (ev_div (ev_len T.b_len (by decide +kernel) (ev_EB (ev_var 5 h_later))) ev_int) (by simp only [okb, bind_asc])) pt hw (fun s σ' H' => ∃ (F' : Hp) (y_items : List V) (z_3 : Option V), σ' = [some (.ref p_counts_here), some (.int most), some v_singles, z_3, some (.ref p_rows_here), some v_later, some (.int turn), some (.ref p_items), z_8, z_9] ∧ Le F F' ∧ Pt He Fe He [(p_items, .lst y_items), (p_rows_here, .lst y_rows_here)] F' H' ∧ DsAll K F' y_items (s.map py)) (fun F1 H1 lf pt => ⟨_, _, _, rfl, lf, pt, h_items.mo lf⟩) (fun k v_k items σ H Po hv r hw => ?_) (fun items σ H r hw => ?_)
        ·
          obtain ⟨F, y_items, z_3, rfl, lf, pt, h_items⟩ := r
          replace h_counts_here := h_counts_here.mo lf
          replace h_singles := h_singles.mo lf
          replace h_rows_here := h_rows_here.mo lf
          replace h_later := h_later.mo lf
          replace LF0 := LF0.trans lf
          obtain rfl := hv
          have LF1 := lf
          unfold m_rows_L2 at hw
          refine b_append (i := 7) (j := 0) rfl rfl h_items (evc (ev_tup3 (ev_add (ev_fst (ev_ix (ev_EB (ev_var 5 h_later)) (ev_mul ev_int (ev_vI 3)))) (ev_fst (ev_ix (ev_EB (ev_var 5 h_later)) (ev_add (ev_mul ev_int (ev_vI 3)) ev_int)))) ev_int (ev_vI 3)) (by simp only [okb, bind_asc])) pt hw (fun items y_items F H hw lf pt h_items => ?_)
          replace h_counts_here := h_counts_here.mo lf
          replace h_singles := h_singles.mo lf
          replace h_rows_here := h_rows_here.mo lf
          replace h_later := h_later.mo lf
          replace LF0 := LF0.trans lf
          replace LF1 := LF1.trans lf
          refine sS_nil ?_
          exact ⟨items, ⟨_, _, _, rfl, LF1, pt, h_items⟩, hw⟩
        ·
          obtain ⟨F, y_items, z_3, rfl, lf, pt, h_items⟩ := r
          replace h_counts_here := h_counts_here.mo lf
          replace h_singles := h_singles.mo lf
          replace h_rows_here := h_rows_here.mo lf
          replace h_later := h_later.mo lf
          replace LF0 := LF0.trans lf
          refine b_setL (i := 7) (evc (ev_sorted hr.units T.b_sorted (by decide +kernel) (ev_vO 7 0 h_items)) (by simp only [okb, bind_asc])) pt hw (fun items p_items y_items F H hw lf n_items pt h_items => ?_) sc.nd
          replace pt : Pt He Fe He [(p_items, .lst y_items), (p_rows_here, .lst y_rows_here)] _ _ := pt.sel [0, 2] (by decide)
          replace h_counts_here := h_counts_here.mo lf
          replace h_singles := h_singles.mo lf
          replace h_rows_here := h_rows_here.mo lf
          replace h_later := h_later.mo lf
          replace LF0 := LF0.trans lf
          refine b_setL (i := 8) (evc (ev_list (el_nil (α := (Int × Int)))) (by simp only [okb, bind_asc])) pt hw (fun row p_row y_row F H hw lf n_row pt h_row => ?_) sc.nd
          replace h_counts_here := h_counts_here.mo lf
          replace h_singles := h_singles.mo lf
          replace h_rows_here := h_rows_here.mo lf
          replace h_later := h_later.mo lf
          replace h_items := h_items.mo lf
          replace LF0 := LF0.trans lf
          refine l_V (j := 9) 7 PassesOwn.never rfl sc.nd (.inl (.inl (pt.st.at (j := 1) rfl))) h_items hw (fun s σ' H' => ∃ (F' : Hp) (y_row : List V) (z_9 : Option V), σ' = [some (.ref p_counts_here), some (.int most), some v_singles, z_3, some (.ref p_rows_here), some v_later, some (.int turn), some (.ref p_items), some (.ref p_row), z_9] ∧ Le F F' ∧ Pt He Fe He [(p_row, .lst y_row), (p_items, .lst y_items), (p_rows_here, .lst y_rows_here)] F' H' ∧ DsAll K F' y_row (s.map py)) (fun _ _ _ r => by obtain ⟨F, y_row, z_9, rfl, lf, pt, h_row⟩ := r; exact .inl (.inl (pt.st.at (j := 1) rfl))) ⟨_, _, _, rfl, Le.refl _, pt, h_row⟩ (fun item v_item row σ H Po hv r hw => ?_) (fun row σ H r hw => ?_)
          ·
            obtain ⟨F, y_row, z_9, rfl, lf, pt, h_row⟩ := r
            replace h_counts_here := h_counts_here.mo lf
            replace h_singles := h_singles.mo lf
            replace h_rows_here := h_rows_here.mo lf
            replace h_later := h_later.mo lf
            replace h_items := h_items.mo lf
            replace LF0 := LF0.trans lf
            have h_item := hv.mo lf
            have LF1 := lf
            unfold m_rows_L3 at hw
            refine b_if (etc (et_eqI (ev_t3b (ev_var 9 h_item)) ev_int) (by simp only [okb, bind_asc])) pt hw (fun F H hw lf pt => ?_) (fun F H hw lf pt => ?_)
            ·
              replace h_counts_here := h_counts_here.mo lf
              replace h_singles := h_singles.mo lf
              replace h_rows_here := h_rows_here.mo lf
              replace h_later := h_later.mo lf
              replace h_items := h_items.mo lf
              replace h_row := h_row.mo lf
              replace h_item := h_item.mo lf
              replace LF0 := LF0.trans lf
              replace LF1 := LF1.trans lf
              refine b_append (i := 8) (j := 0) rfl rfl h_row (evc (ev_tup2 (ev_t3a (ev_var 9 h_item)) (ev_t3c (ev_var 9 h_item))) (by simp only [okb, bind_asc])) pt hw (fun row y_row F H hw lf pt h_row => ?_)
              replace h_counts_here := h_counts_here.mo lf
              replace h_singles := h_singles.mo lf
              replace h_rows_here := h_rows_here.mo lf
              replace h_later := h_later.mo lf
              replace h_items := h_items.mo lf
              replace h_item := h_item.mo lf
              replace LF0 := LF0.trans lf
              replace LF1 := LF1.trans lf
              refine sS_nil ?_
              refine sS_nil ?_
              exact ⟨row, ⟨_, _, _, rfl, LF1, pt, h_row⟩, hw⟩
            ·
              replace h_counts_here := h_counts_here.mo lf
              replace h_singles := h_singles.mo lf
              replace h_rows_here := h_rows_here.mo lf
              replace h_later := h_later.mo lf
              replace h_items := h_items.mo lf
              replace h_row := h_row.mo lf
              replace h_item := h_item.mo lf
              replace LF0 := LF0.trans lf
              replace LF1 := LF1.trans lf
              refine b_append (i := 8) (j := 0) rfl rfl h_row (evc (ev_tup2 (ev_t3a (ev_var 9 h_item)) (ev_neg ev_int)) (by simp only [okb, bind_asc])) pt hw (fun row y_row F H hw lf pt h_row => ?_)
              replace h_counts_here := h_counts_here.mo lf
              replace h_singles := h_singles.mo lf
              replace h_rows_here := h_rows_here.mo lf
              replace h_later := h_later.mo lf
              replace h_items := h_items.mo lf
              replace h_item := h_item.mo lf
              replace LF0 := LF0.trans lf
              replace LF1 := LF1.trans lf
              refine sS_nil ?_
              refine sS_nil ?_
              exact ⟨row, ⟨_, _, _, rfl, LF1, pt, h_row⟩, hw⟩
          ·
            obtain ⟨F, y_row, z_9, rfl, lf, pt, h_row⟩ := r
            replace h_counts_here := h_counts_here.mo lf
            replace h_singles := h_singles.mo lf
            replace h_rows_here := h_rows_here.mo lf
            replace h_later := h_later.mo lf
            replace h_items := h_items.mo lf
            replace LF0 := LF0.trans lf
            obtain ⟨F, lf, pt, h_row⟩ := pt.frz n_row h_row
            replace h_counts_here := h_counts_here.mo lf
            replace h_singles := h_singles.mo lf
            replace h_rows_here := h_rows_here.mo lf
            replace h_later := h_later.mo lf
            replace h_items := h_items.mo lf
            replace LF0 := LF0.trans lf
            refine b_setL (i := 4) (evc (ev_cat (α := (List (Int × Int))) (ev_LB (ev_list (el_cons (ev_var 8 h_row) (el_nil (α := (List (Int × Int))))))) (ev_vO 4 1 h_rows_here)) (by simp only [okb, bind_asc])) pt hw (fun rows_here p_rows_here y_rows_here F H hw lf n_rows_here pt h_rows_here => ?_) sc.nd
            replace pt : Pt He Fe He [(p_rows_here, .lst y_rows_here), (p_items, .lst y_items)] _ _ := pt.sel [0, 1] (by decide)
            replace h_counts_here := h_counts_here.mo lf
            replace h_singles := h_singles.mo lf
            replace h_later := h_later.mo lf
            replace h_items := h_items.mo lf
            replace h_row := h_row.mo lf
            replace LF0 := LF0.trans lf
            refine b_set (i := 5) (evc (ev_var 8 h_row) (by simp only [okb, bind_asc])) pt hw (fun later v_later F H hw lf pt h_later => ?_) sc.nd
            replace h_counts_here := h_counts_here.mo lf
            replace h_singles := h_singles.mo lf
            replace h_rows_here := h_rows_here.mo lf
            replace h_items := h_items.mo lf
            replace h_row := h_row.mo lf
            replace LF0 := LF0.trans lf
            refine sS_nil ?_
            replace pt : Pt He Fe He [(p_rows_here, .lst y_rows_here)] _ _ := pt.sel [0] (by decide)
            exact ⟨(rows_here, later), ⟨_, _, _, _, _, _, _, _, _, rfl, LF0, pt, n_rows_here, h_rows_here, h_later⟩, hw⟩
      ·
        obtain ⟨rows_here, later⟩ := s
        dsimp only at r
        replace hw := un2w hw
        obtain ⟨F, p_rows_here, y_rows_here, v_later, z_6, z_7, z_3, z_8, z_9, rfl, lf, pt, n_rows_here, h_rows_here, h_later⟩ := r
        replace h_counts_here := h_counts_here.mo lf
        replace h_singles := h_singles.mo lf
        exact b_retO (i := 4) (j := 0) rfl rfl h_rows_here n_rows_here pt (Le.refl _) hw

abbrev N_due : List Str := ["_law_counts_here", "_law_most", "_law_lengths", "_law_count", "_law_used", "_law_k", "_law_many", "_law_row", "_law_pairs"]
theorem sc_due : FnScope ["_law_counts_here", "_law_most", "_law_lengths", "_law_count", "_law_used", "_law_k", "_law_many", "_law_row", "_law_pairs"] ["_law_counts_here", "_law_most"] (defScope s_due) := ⟨rfl, rfl, rfl, by decide +kernel, rfl, by decide +kernel, by decide +kernel⟩
theorem w_due (T : Tx K mg) : FnOk P w K mg base CX0 2 T.a_due T.d_due ["_law_counts_here", "_law_most"] (Pm0 (rC (rB K (α := Int)) (rC (rE K (α := Int)) r0)) (rL K (α := Int)) (fun q => m_due q.1 q.2.1)) := by
  refine fn0 T.F_due sc_due (fun h => ?_) (fun A outer s E Fe He Qe Q vs q hr lf ht h hw => ?_)
  ·
    obtain ⟨_, _, rfl, _, _, _, rfl, _, h⟩ := h
    rw [h]
    rfl
  ·
    have sc := sc_due
    obtain ⟨counts_here, most, _⟩ := q
    dsimp only at h hw
    obtain ⟨_, _, rfl, ⟨p_counts_here, y_counts_here, rfl, g_counts_here, h_counts_here⟩, _, _, rfl, h_most, h0⟩ := h
    cases h0
    obtain rfl := dpI h_most
    have pt := Pt.start lf ht
    unfold m_due at hw
    refine b_setLc (i := 2) (j := 3) rfl sc.nd pi_listB (fun _ _ _ _ _ => pg_name sc.nd rfl (Or.inl rfl)) (lcr_B (cm := (fun count => (Out.ok true))) (f := (fun count => (Out.ok (0 : Int)))) (evc (ev_vP 0 g_counts_here h_counts_here) (by simp only [okb, bind_asc])) (fun F count v_count lf hv s H C cl fp => by obtain rfl := dpI hv; replace h_counts_here := h_counts_here.mo lf; exact ⟨(etsc ets_nil (by simp only [okb, bind_asc])), (evc ev_int (by simp only [okb, bind_asc]))⟩)) pt hw (fun lengths p_lengths y_lengths F H hw lf n_lengths pt h_lengths => ?_) (ok := (show blkC N_due (defScope s_due) _ [("_law_count", 3)] = true by decide +kernel))
    replace h_counts_here := h_counts_here.mo lf
    refine b_setLc (i := 4) (j := 5) rfl sc.nd (pi_range1 rfl T.b_range pa_s) (fun _ _ _ _ _ => pg_name sc.nd rfl (Or.inl rfl)) (lcr_R1 (cm := (fun k => ((getI counts_here k) >>= fun t2 => (Out.ok (decide ((0 : Int) < t2)))))) (f := (fun k => (Out.ok k))) T.b_range (evc (ev_len T.b_len (by decide +kernel) (ev_vP 0 g_counts_here h_counts_here)) (by simp only [okb, bind_asc])) (fun F k v_k lf hv s H C cl fp => by obtain rfl := hv; replace h_counts_here := h_counts_here.mo lf; replace h_lengths := h_lengths.mo lf; exact ⟨(etsc (ets_one (et_gt (ev_ix (ev_vP 0 g_counts_here h_counts_here) (ev_vI 5)) ev_int)) (by simp only [okb, bind_asc])), (evc (ev_vI 5) (by simp only [okb, bind_asc]))⟩)) pt hw (fun used p_used y_used F H hw lf n_used pt h_used => ?_) (ok := (show blkC N_due (defScope s_due) _ [("_law_k", 5)] = true by decide +kernel))
    replace h_counts_here := h_counts_here.mo lf
    replace h_lengths := h_lengths.mo lf
    obtain ⟨F, lf, pt, h_used⟩ := pt.frz n_used h_used
    replace h_counts_here := h_counts_here.mo lf
    replace h_lengths := h_lengths.mo lf
    refine b_join hw (fun s σ' H' => ∃ (F' : Hp) (y_lengths : List V), σ' = [some (.ref p_counts_here), some (.int most), some (.ref p_lengths), none, some (.ref p_used), none, none, none, none] ∧ Le F F' ∧ Pt He Fe He [(p_lengths, .lst y_lengths)] F' H' ∧ DsAll K F' y_lengths (s.map py)) (fun Po hw => i_if (etc (et_eqI (ev_len T.b_len (by decide +kernel) (ev_EB (ev_var 4 h_used))) ev_int) (by simp only [okb, bind_asc])) pt hw (fun F H hw lf pt => ?_) (fun F H hw lf pt => ?_)) (fun lengths σ H r hw => ?_)
    ·
      replace h_counts_here := h_counts_here.mo lf
      replace h_lengths := h_lengths.mo lf
      replace h_used := h_used.mo lf
      have LF0 := lf
      refine b_setItem (i := 2) (j := 0) rfl rfl h_lengths (evc ev_int (by simp only [okb, bind_asc])) (evc (ev_ix (ev_EB (ev_var 4 h_used)) ev_int) (by simp only [okb, bind_asc])) pt hw (fun lengths y_lengths F H hw lf pt h_lengths => ?_)
      replace h_counts_here := h_counts_here.mo lf
      replace h_used := h_used.mo lf
      replace LF0 := LF0.trans lf
      refine sS_nil ?_
      exact ⟨lengths, ⟨_, _, rfl, LF0, pt, h_lengths⟩, hw⟩
    ·
      replace h_counts_here := h_counts_here.mo lf
      replace h_lengths := h_lengths.mo lf
      replace h_used := h_used.mo lf
      have LF0 := lf
      refine sS_nil ?_
      exact ⟨lengths, ⟨_, _, rfl, LF0, pt, h_lengths⟩, hw⟩
    ·
      obtain ⟨F, y_lengths, rfl, lf, pt, h_lengths⟩ := r
      replace h_counts_here := h_counts_here.mo lf
      replace h_used := h_used.mo lf
      refine b_setI (i := 6) (evc (ev_sub (ev_mul ev_int (ev_len T.b_len (by decide +kernel) (ev_EB (ev_var 4 h_used)))) ev_int) (by simp only [okb, bind_asc])) pt hw (fun many F H hw lf pt => ?_) sc.nd
      replace h_counts_here := h_counts_here.mo lf
      replace h_lengths := h_lengths.mo lf
      replace h_used := h_used.mo lf
      refine l_E (j := 7) PassesOwn.never rfl sc.nd (evc (ev_LE (ev_fn (w_rows T) (hr.mono (by decide)) T.g_rows T.F_rows.kp T.n_rows (ea_cons (ev_vP 0 g_counts_here h_counts_here) (ea_cons (ev_vI 1) ea_nil okE ok0) okB (okC okE ok0)) (nsC nsB (nsC nsE ns0)) okL)) (by simp only [okb, bind_asc])) pt hw (fun F s σ' H' => ∃ (F' : Hp) (y_lengths : List V) (z_7 : Option V) (z_8 : Option V) (z_5 : Option V), σ' = [some (.ref p_counts_here), some (.int most), some (.ref p_lengths), none, some (.ref p_used), z_5, some (.int s.2), z_7, z_8] ∧ Le F F' ∧ Pt He Fe He [(p_lengths, .lst y_lengths)] F' H' ∧ DsAll K F' y_lengths (s.1.map py)) (fun _ _ _ _ r => by obtain ⟨F, y_lengths, z_7, z_8, z_5, rfl, lf, pt, h_lengths⟩ := r; exact lf.trans pt.st.lF) (fun F H lf pt => ⟨_, _, _, _, _, rfl, Le.refl _, pt, h_lengths.mo lf⟩) (fun F lf => ?_) (fun F s σ H lf r hw => ?_)
      ·
        replace h_counts_here := h_counts_here.mo lf
        replace h_lengths := h_lengths.mo lf
        replace h_used := h_used.mo lf
        intro row v_row s σ H Po hv r hw
        obtain ⟨lengths, many⟩ := s
        dsimp only at r
        replace hw := un2w hw
        obtain ⟨F, y_lengths, z_7, z_8, z_5, rfl, lf, pt, h_lengths⟩ := r
        replace h_counts_here := h_counts_here.mo lf
        replace h_used := h_used.mo lf
        have h_row := hv.mo lf
        have LF0 := lf
        unfold m_due_L1 at hw
        refine b_setI (i := 8) (evc ev_int (by simp only [okb, bind_asc])) pt hw (fun pairs F H hw lf pt => ?_) sc.nd
        replace h_counts_here := h_counts_here.mo lf
        replace h_lengths := h_lengths.mo lf
        replace h_used := h_used.mo lf
        replace h_row := h_row.mo lf
        replace LF0 := LF0.trans lf
        refine l_r1 (j := 5) PassesOwn.never rfl T.b_range sc.nd (evc (ev_min rfl T.b_min (by decide +kernel) (ev_vI 6) (ev_len T.b_len (by decide +kernel) (ev_EB (ev_var 7 h_row)))) (by simp only [okb, bind_asc])) pt hw (fun s σ' H' => ∃ (F' : Hp) (y_lengths : List V) (z_5 : Option V), σ' = [some (.ref p_counts_here), some (.int most), some (.ref p_lengths), none, some (.ref p_used), z_5, some (.int many), some v_row, some (.int s.1)] ∧ Le F F' ∧ Pt He Fe He [(p_lengths, .lst y_lengths)] F' H' ∧ DsAll K F' y_lengths (s.2.map py)) (fun F1 H1 lf pt => ⟨_, _, _, rfl, lf, pt, h_lengths.mo lf⟩) (fun k v_k s σ H Po hv r hw => ?_) (fun s σ H r hw => ?_)
        ·
          obtain ⟨pairs, lengths⟩ := s
          dsimp only at r
          replace hw := un2w hw
          obtain ⟨F, y_lengths, z_5, rfl, lf, pt, h_lengths⟩ := r
          replace h_counts_here := h_counts_here.mo lf
          replace h_used := h_used.mo lf
          replace h_row := h_row.mo lf
          replace LF0 := LF0.trans lf
          obtain rfl := hv
          have LF1 := lf
          unfold m_due_L2 at hw
          refine b_if (etc (et_lt (ev_snd (ev_ix (ev_EB (ev_var 7 h_row)) (ev_vI 5))) ev_int) (by simp only [okb, bind_asc])) pt hw (fun F H hw lf pt => ?_) (fun F H hw lf pt => ?_)
          ·
            replace h_counts_here := h_counts_here.mo lf
            replace h_lengths := h_lengths.mo lf
            replace h_used := h_used.mo lf
            replace h_row := h_row.mo lf
            replace LF0 := LF0.trans lf
            replace LF1 := LF1.trans lf
            refine b_setI (i := 8) (evc (ev_add (ev_vI 8) ev_int) (by simp only [okb, bind_asc])) pt hw (fun pairs F H hw lf pt => ?_) sc.nd
            replace h_counts_here := h_counts_here.mo lf
            replace h_lengths := h_lengths.mo lf
            replace h_used := h_used.mo lf
            replace h_row := h_row.mo lf
            replace LF0 := LF0.trans lf
            replace LF1 := LF1.trans lf
            refine sS_nil ?_
            refine sS_nil ?_
            exact ⟨(pairs, lengths), ⟨_, _, _, rfl, LF1, pt, h_lengths⟩, hw⟩
          ·
            replace h_counts_here := h_counts_here.mo lf
            replace h_lengths := h_lengths.mo lf
            replace h_used := h_used.mo lf
            replace h_row := h_row.mo lf
            replace LF0 := LF0.trans lf
            replace LF1 := LF1.trans lf
            refine b_setItem (i := 2) (j := 0) rfl rfl h_lengths (evc (ev_add (ev_ix (ev_vO 2 0 h_lengths) (ev_snd (ev_ix (ev_EB (ev_var 7 h_row)) (ev_vI 5)))) ev_int) (by simp only [okb, bind_asc])) (evc (ev_snd (ev_ix (ev_EB (ev_var 7 h_row)) (ev_vI 5))) (by simp only [okb, bind_asc])) pt hw (fun lengths y_lengths F H hw lf pt h_lengths => ?_)
            replace h_counts_here := h_counts_here.mo lf
            replace h_used := h_used.mo lf
            replace h_row := h_row.mo lf
            replace LF0 := LF0.trans lf
            replace LF1 := LF1.trans lf
            refine sS_nil ?_
            refine sS_nil ?_
            exact ⟨(pairs, lengths), ⟨_, _, _, rfl, LF1, pt, h_lengths⟩, hw⟩
        ·
          obtain ⟨pairs, lengths⟩ := s
          dsimp only at r
          replace hw := un2w hw
          obtain ⟨F, y_lengths, z_5, rfl, lf, pt, h_lengths⟩ := r
          replace h_counts_here := h_counts_here.mo lf
          replace h_used := h_used.mo lf
          replace h_row := h_row.mo lf
          replace LF0 := LF0.trans lf
          refine b_setI (i := 6) (evc (ev_mul ev_int (ev_vI 8)) (by simp only [okb, bind_asc])) pt hw (fun many F H hw lf pt => ?_) sc.nd
          replace h_counts_here := h_counts_here.mo lf
          replace h_lengths := h_lengths.mo lf
          replace h_used := h_used.mo lf
          replace h_row := h_row.mo lf
          replace LF0 := LF0.trans lf
          refine sS_nil ?_
          exact ⟨(lengths, many), ⟨_, _, _, _, _, rfl, LF0, pt, h_lengths⟩, hw⟩
      ·
        replace h_counts_here := h_counts_here.mo lf
        replace h_lengths := h_lengths.mo lf
        replace h_used := h_used.mo lf
        obtain ⟨lengths, many⟩ := s
        dsimp only at r
        replace hw := un2w hw
        obtain ⟨F, y_lengths, z_7, z_8, z_5, rfl, lf, pt, h_lengths⟩ := r
        replace h_counts_here := h_counts_here.mo lf
        replace h_used := h_used.mo lf
        exact b_retO (i := 2) (j := 0) rfl rfl h_lengths n_lengths pt (Le.refl _) hw

abbrev N_is_rows : List Str := ["_law_actual", "_law_row", "_law_item"]
theorem sc_is_rows : FnScope ["_law_actual", "_law_row", "_law_item"] ["_law_actual"] (defScope s_is_rows) := ⟨rfl, rfl, rfl, by decide +kernel, rfl, by decide +kernel, by decide +kernel⟩
theorem w_is_rows (T : Tx K mg) : FnOk P w K mg base CX0 2 T.a_is_rows T.d_is_rows ["_law_actual"] (Pm0 (rC (rB K (α := (List (Int × Int)))) r0) (rE K (α := Bool)) (fun q => m_is_rows q.1)) := by
  refine fn0 T.F_is_rows sc_is_rows (fun h => ?_) (fun A outer s E Fe He Qe Q vs q hr lf ht h hw => ?_)
  ·
    obtain ⟨_, _, rfl, _, h⟩ := h
    rw [h]
    rfl
  ·
    have sc := sc_is_rows
    obtain ⟨actual, _⟩ := q
    dsimp only at h hw
    obtain ⟨_, _, rfl, ⟨p_actual, y_actual, rfl, g_actual, h_actual⟩, h0⟩ := h
    cases h0
    have pt := Pt.start lf ht
    unfold m_is_rows at hw
    refine b_if (etc (et_not (et_val (ev_isiL (t := "list") (b := true) T.b_isinstance (by decide +kernel) T.b_list (by decide +kernel) (kit_ty (by decide +kernel)) (ev_vP 0 g_actual h_actual)))) (by simp only [okb, bind_asc])) pt hw (fun F H hw lf pt => ?_) (fun F H hw lf pt => ?_)
    ·
      replace h_actual := h_actual.mo lf
      exact b_ret (evc ev_bl (by simp only [okb, bind_asc])) okE pt (Le.refl _) hw
    ·
      replace h_actual := h_actual.mo lf
      refine sS_nil ?_
      refine l_VC (j := 1) 0 PassesOwn.never rfl sc.nd (pt.st.l0.sql g_actual) h_actual hw (fun s σ' H' => ∃ (F' : Hp) (z_1 : Option V) (z_2 : Option V), σ' = [some (.ref p_actual), z_1, z_2] ∧ Le F F' ∧ Pt He Fe He [] F' H') (fun _ _ _ r => by obtain ⟨F, z_1, z_2, rfl, lf, pt⟩ := r; exact pt.st.l0.sql g_actual) ⟨_, _, _, rfl, Le.refl _, pt⟩ (fun row v_row _ σ H Po hv r hrt hw => ?_) (fun _ σ H r hw => ?_)
      ·
        replace hw := un0w hw
        obtain ⟨F, z_1, z_2, rfl, lf, pt⟩ := r
        replace h_actual := h_actual.mo lf
        have h_row := hv.mo lf
        have LF0 := lf
        have rp1 := fun r z => (hrt r z)
        unfold m_is_rows_L1 at hw
        refine b_if (etc (et_not (et_val (ev_isiL (t := "list") (b := true) T.b_isinstance (by decide +kernel) T.b_list (by decide +kernel) (kit_ty (by decide +kernel)) (ev_EB (ev_var 1 h_row))))) (by simp only [okb, bind_asc])) pt hw (fun F H hw lf pt => ?_) (fun F H hw lf pt => ?_)
        ·
          replace h_actual := h_actual.mo lf
          replace h_row := h_row.mo lf
          replace LF0 := LF0.trans lf
          exact b_ret (evc ev_bl (by simp only [okb, bind_asc])) okE pt (Le.refl _) (wpO_to (wpO_bind.mp hw) fun r z => rp1 r z)
        ·
          replace h_actual := h_actual.mo lf
          replace h_row := h_row.mo lf
          replace LF0 := LF0.trans lf
          refine sS_nil ?_
          refine l_EC (j := 2) PassesOwn.never rfl sc.nd (evc (ev_var 1 h_row) (by simp only [okb, bind_asc])) pt hw (fun F s σ' H' => ∃ (F' : Hp) (z_2 : Option V), σ' = [some (.ref p_actual), some v_row, z_2] ∧ Le F F' ∧ Pt He Fe He [] F' H') (fun _ _ _ _ r => by obtain ⟨F, z_2, rfl, lf, pt⟩ := r; exact lf.trans pt.st.lF) (fun F H lf pt => ⟨_, _, rfl, Le.refl _, pt⟩) (fun F lf => ?_) (fun F _ σ H lf r hw => ?_)
          ·
            replace h_actual := h_actual.mo lf
            replace h_row := h_row.mo lf
            replace LF0 := LF0.trans lf
            intro item v_item _ σ H Po hv r hrt hw
            replace hw := un0w hw
            obtain ⟨F, z_2, rfl, lf, pt⟩ := r
            replace h_actual := h_actual.mo lf
            replace h_row := h_row.mo lf
            replace LF0 := LF0.trans lf
            have h_item := hv.mo lf
            have LF1 := lf
            have rp2 := fun r z => rp1 r (hrt r z)
            unfold m_is_rows_L2 at hw
            refine b_if (etc (et_bool (ew_or (et_not (et_val (ev_isiT (t := "tuple") (b := true) T.b_isinstance (by decide +kernel) T.b_tuple (by decide +kernel) (kit_ty (by decide +kernel)) (ev_var 2 h_item)))) (ew_or1 (et_neI (ev_lenP T.b_len (by decide +kernel) (ev_var 2 h_item)) ev_int)))) (by simp only [okb, bind_asc])) pt hw (fun F H hw lf pt => ?_) (fun F H hw lf pt => ?_)
            ·
              replace h_actual := h_actual.mo lf
              replace h_row := h_row.mo lf
              replace h_item := h_item.mo lf
              replace LF0 := LF0.trans lf
              replace LF1 := LF1.trans lf
              exact b_ret (evc ev_bl (by simp only [okb, bind_asc])) okE pt (Le.refl _) (wpO_to (wpO_bind.mp hw) fun r z => rp2 r z)
            ·
              replace h_actual := h_actual.mo lf
              replace h_row := h_row.mo lf
              replace h_item := h_item.mo lf
              replace LF0 := LF0.trans lf
              replace LF1 := LF1.trans lf
              refine sS_nil ?_
              refine b_if (etc (et_bool (ew_or (et_not (et_val (ev_fn (w_is_integer T) (hr.mono (by decide)) T.g_is_integer T.F_is_integer.kp T.n_is_integer (ea_cons (ev_fst (ev_var 2 h_item)) ea_nil okE ok0) (nsC nsE ns0) okE))) (ew_or1 (et_not (et_val (ev_fn (w_is_integer T) (hr.mono (by decide)) T.g_is_integer T.F_is_integer.kp T.n_is_integer (ea_cons (ev_snd (ev_var 2 h_item)) ea_nil okE ok0) (nsC nsE ns0) okE)))))) (by simp only [okb, bind_asc])) pt hw (fun F H hw lf pt => ?_) (fun F H hw lf pt => ?_)
              ·
                replace h_actual := h_actual.mo lf
                replace h_row := h_row.mo lf
                replace h_item := h_item.mo lf
                replace LF0 := LF0.trans lf
                replace LF1 := LF1.trans lf
                exact b_ret (evc ev_bl (by simp only [okb, bind_asc])) okE pt (Le.refl _) (wpO_to (wpO_bind.mp hw) fun r z => rp2 r z)
              ·
                replace h_actual := h_actual.mo lf
                replace h_row := h_row.mo lf
                replace h_item := h_item.mo lf
                replace LF0 := LF0.trans lf
                replace LF1 := LF1.trans lf
                refine sS_nil ?_
                refine sS_nil ?_
                exact ⟨(), ⟨_, _, rfl, LF1, pt⟩, hw⟩
          ·
            replace h_actual := h_actual.mo lf
            replace h_row := h_row.mo lf
            replace LF0 := LF0.trans lf
            replace hw := un0w hw
            obtain ⟨F, z_2, rfl, lf, pt⟩ := r
            replace h_actual := h_actual.mo lf
            replace h_row := h_row.mo lf
            replace LF0 := LF0.trans lf
            refine sS_nil ?_
            exact ⟨(), ⟨_, _, _, rfl, LF0, pt⟩, hw⟩
      ·
        replace hw := un0w hw
        obtain ⟨F, z_1, z_2, rfl, lf, pt⟩ := r
        replace h_actual := h_actual.mo lf
        exact b_ret (evc ev_bl (by simp only [okb, bind_asc])) okE pt (Le.refl _) hw

abbrev N_check_counts : List Str := ["counts", "most", "k"]
theorem sc_check_counts : FnScope ["counts", "most", "k"] ["counts", "most"] (defScope s_check_counts) := ⟨rfl, rfl, rfl, by decide +kernel, rfl, by decide +kernel, by decide +kernel⟩
theorem w_check_counts (T : Tx K mg) : FnOk P w K mg base CX0 1 T.a_check_counts T.d_check_counts ["counts", "most"] (Pm0 (rC (rB K (α := Int)) (rC (rE K (α := Int)) r0)) (rE K (α := Unit)) (fun q => m_check_counts q.1 q.2.1)) := by
  refine fn0 T.F_check_counts sc_check_counts (fun h => ?_) (fun A outer s E Fe He Qe Q vs q hr lf ht h hw => ?_)
  ·
    obtain ⟨_, _, rfl, _, _, _, rfl, _, h⟩ := h
    rw [h]
    rfl
  ·
    have sc := sc_check_counts
    obtain ⟨counts, most, _⟩ := q
    dsimp only at h hw
    obtain ⟨_, _, rfl, ⟨p_counts, y_counts, rfl, g_counts, h_counts⟩, _, _, rfl, h_most, h0⟩ := h
    cases h0
    obtain rfl := dpI h_most
    have pt := Pt.start lf ht
    unfold m_check_counts at hw
    refine b_if (etc (et_bool (ew_or (et_lt (ev_vI 1) ev_int) (ew_or1 (et_gt (ev_vI 1) (ev_gI T.c_LONGEST))))) (by simp only [okb, bind_asc])) pt hw (fun F H hw lf pt => ?_) (fun F H hw lf pt => ?_)
    ·
      replace h_counts := h_counts.mo lf
      exact hw.elim
    ·
      replace h_counts := h_counts.mo lf
      refine sS_nil ?_
      refine l_r1 (j := 2) PassesOwn.never rfl T.b_range sc.nd (evc (ev_len T.b_len (by decide +kernel) (ev_vP 0 g_counts h_counts)) (by simp only [okb, bind_asc])) pt hw (fun s σ' H' => ∃ (F' : Hp) (z_2 : Option V), σ' = [some (.ref p_counts), some (.int most), z_2] ∧ Le F F' ∧ Pt He Fe He [] F' H') (fun F1 H1 lf pt => ⟨_, _, rfl, lf, pt⟩) (fun k v_k _ σ H Po hv r hw => ?_) (fun _ σ H r hw => ?_)
      ·
        replace hw := un0w hw
        obtain ⟨F, z_2, rfl, lf, pt⟩ := r
        replace h_counts := h_counts.mo lf
        obtain rfl := hv
        have LF0 := lf
        unfold m_check_counts_L1 at hw
        refine b_if (etc (et_bool (ew_or (et_lt (ev_ix (ev_vP 0 g_counts h_counts) (ev_vI 2)) ev_int) (ew_or1 (et_ge (ev_ix (ev_vP 0 g_counts h_counts) (ev_vI 2)) (ev_gI T.c_COUNT_BOUND))))) (by simp only [okb, bind_asc])) pt hw (fun F H hw lf pt => ?_) (fun F H hw lf pt => ?_)
        ·
          replace h_counts := h_counts.mo lf
          replace LF0 := LF0.trans lf
          exact hw.elim
        ·
          replace h_counts := h_counts.mo lf
          replace LF0 := LF0.trans lf
          refine sS_nil ?_
          refine sS_nil ?_
          exact ⟨(), ⟨_, _, rfl, LF0, pt⟩, hw⟩
      ·
        replace hw := un0w hw
        obtain ⟨F, z_2, rfl, lf, pt⟩ := r
        replace h_counts := h_counts.mo lf
        refine sS_nil ?_
        exact end_non (K := K) pt (Le.refl _) hw

abbrev N_used_items : List Str := ["counts", "k"]
theorem sc_used_items : FnScope ["counts", "k"] ["counts"] (defScope s_used_items) := ⟨rfl, rfl, rfl, by decide +kernel, rfl, by decide +kernel, by decide +kernel⟩
theorem w_used_items (T : Tx K mg) : FnOk P w K mg base CX0 1 T.a_used_items T.d_used_items ["counts"] (Pm0 (rC (rB K (α := Int)) r0) (rL K (α := (Int × Int))) (fun q => m_used_items q.1)) := by
  refine fn0 T.F_used_items sc_used_items (fun h => ?_) (fun A outer s E Fe He Qe Q vs q hr lf ht h hw => ?_)
  ·
    obtain ⟨_, _, rfl, _, h⟩ := h
    rw [h]
    rfl
  ·
    have sc := sc_used_items
    obtain ⟨counts, _⟩ := q
    dsimp only at h hw
    obtain ⟨_, _, rfl, ⟨p_counts, y_counts, rfl, g_counts, h_counts⟩, h0⟩ := h
    cases h0
    have pt := Pt.start lf ht
    unfold m_used_items at hw
    exact b_ret (evc (ev_sorted hr.units T.b_sorted (by decide +kernel) (ev_LB (ev_comp (j := 1) rfl sc.nd (pi_range1 rfl T.b_range pa_s) (fun _ _ _ _ _ => pg_name sc.nd rfl (Or.inl rfl)) (lcr_R1 (cm := (fun k => ((getI counts k) >>= fun t2 => (Out.ok (decide ((0 : Int) < t2)))))) (f := (fun k => ((getI counts k) >>= fun t1 => (Out.ok (t1, k))))) T.b_range (ev_len T.b_len (by decide +kernel) (ev_vP 0 g_counts h_counts)) (fun F k v_k lf hv s H C cl fp => by obtain rfl := hv; replace h_counts := h_counts.mo lf; exact ⟨(etsc (ets_one (et_gt (ev_ix (ev_vP 0 g_counts h_counts) (ev_vI 1)) ev_int)) (by simp only [okb, bind_asc])), (evc (ev_tup2 (ev_ix (ev_vP 0 g_counts h_counts) (ev_vI 1)) (ev_vI 1)) (by simp only [okb, bind_asc]))⟩)) (ok := (show blkC N_used_items (defScope s_used_items) _ [("k", 1)] = true by decide +kernel))))) (by simp only [okb, bind_asc])) okL pt (Le.refl _) hw

abbrev N_next_row : List Str := ["symbols", "row", "pairs", "k"]
theorem sc_next_row : FnScope ["symbols", "row", "pairs", "k"] ["symbols", "row"] (defScope s_next_row) := ⟨rfl, rfl, rfl, by decide +kernel, rfl, by decide +kernel, by decide +kernel⟩
theorem w_next_row (T : Tx K mg) (LM_next_row : LamAt base mg T.d_next_row.code ("next_row" ++ ".<locals>." ++ "<lambda>")) : FnOk P w K mg base CX0 2 T.a_next_row T.d_next_row ["symbols", "row"] (Pm0 (rC (rB K (α := (Int × Int))) (rC (rB K (α := (Int × Int))) r0)) (rL K (α := (Int × Int))) (fun q => m_next_row q.1 q.2.1)) := by
  refine fn0 T.F_next_row sc_next_row (fun h => ?_) (fun A outer s E Fe He Qe Q vs q hr lf ht h hw => ?_)
  ·
    obtain ⟨_, _, rfl, _, _, _, rfl, _, h⟩ := h
    rw [h]
    rfl
  ·
    have sc := sc_next_row
    obtain ⟨symbols, row, _⟩ := q
    dsimp only at h hw
    obtain ⟨_, _, rfl, ⟨p_symbols, y_symbols, rfl, g_symbols, h_symbols⟩, _, _, rfl, ⟨p_row, y_row, rfl, g_row, h_row⟩, h0⟩ := h
    cases h0
    have pt := Pt.start lf ht
    unfold m_next_row at hw
    refine b_setL (i := 2) (evc (ev_list (el_nil (α := (Int × Int)))) (by simp only [okb, bind_asc])) pt hw (fun pairs p_pairs y_pairs F H hw lf n_pairs pt h_pairs => ?_) sc.nd
    replace h_symbols := h_symbols.mo lf
    replace h_row := h_row.mo lf
    refine l_r1 (j := 3) PassesOwn.never rfl T.b_range sc.nd (evc (ev_div (ev_len T.b_len (by decide +kernel) (ev_vP 1 g_row h_row)) ev_int) (by simp only [okb, bind_asc])) pt hw (fun s σ' H' => ∃ (F' : Hp) (y_pairs : List V) (z_3 : Option V), σ' = [some (.ref p_symbols), some (.ref p_row), some (.ref p_pairs), z_3] ∧ Le F F' ∧ Pt He Fe He [(p_pairs, .lst y_pairs)] F' H' ∧ DsAll K F' y_pairs (s.map py)) (fun F1 H1 lf pt => ⟨_, _, _, rfl, lf, pt, h_pairs.mo lf⟩) (fun k v_k pairs σ H Po hv r hw => ?_) (fun pairs σ H r hw => ?_)
    ·
      obtain ⟨F, y_pairs, z_3, rfl, lf, pt, h_pairs⟩ := r
      replace h_symbols := h_symbols.mo lf
      replace h_row := h_row.mo lf
      obtain rfl := hv
      have LF0 := lf
      unfold m_next_row_L1 at hw
      refine b_append (i := 2) (j := 0) rfl rfl h_pairs (evc (ev_tup2 (ev_add (ev_fst (ev_ix (ev_vP 1 g_row h_row) (ev_mul ev_int (ev_vI 3)))) (ev_fst (ev_ix (ev_vP 1 g_row h_row) (ev_add (ev_mul ev_int (ev_vI 3)) ev_int)))) (ev_neg ev_int)) (by simp only [okb, bind_asc])) pt hw (fun pairs y_pairs F H hw lf pt h_pairs => ?_)
      replace h_symbols := h_symbols.mo lf
      replace h_row := h_row.mo lf
      replace LF0 := LF0.trans lf
      refine sS_nil ?_
      exact ⟨pairs, ⟨_, _, _, rfl, LF0, pt, h_pairs⟩, hw⟩
    ·
      obtain ⟨F, y_pairs, z_3, rfl, lf, pt, h_pairs⟩ := r
      replace h_symbols := h_symbols.mo lf
      replace h_row := h_row.mo lf
      exact b_ret (evc (ev_sortK0 hr T.b_sorted (by decide +kernel) LM_next_row (ev_LB (ev_cat (α := (Int × Int)) (ev_vP 0 g_symbols h_symbols) (ev_vO 2 0 h_pairs)))) (by simp only [okb, bind_asc])) okL pt (Le.refl _) hw

abbrev N_certificate : List Str := ["counts", "most", "symbols", "rows", "_"]
theorem sc_certificate : FnScope ["counts", "most", "symbols", "rows", "_"] ["counts", "most"] (defScope s_certificate) := ⟨rfl, rfl, rfl, by decide +kernel, rfl, by decide +kernel, by decide +kernel⟩
theorem w_certificate (T : Tx K mg) (LM_next_row : LamAt base mg T.d_next_row.code ("next_row" ++ ".<locals>." ++ "<lambda>")) : FnOk P w K mg base CX0 3 T.a_certificate T.d_certificate ["counts", "most"] (Pm0 (rC (rB K (α := Int)) (rC (rE K (α := Int)) r0)) (rL K (α := (List (Int × Int)))) (fun q => m_certificate q.1 q.2.1)) := by
  refine fn0 T.F_certificate sc_certificate (fun h => ?_) (fun A outer s E Fe He Qe Q vs q hr lf ht h hw => ?_)
  ·
    obtain ⟨_, _, rfl, _, _, _, rfl, _, h⟩ := h
    rw [h]
    rfl
  ·
    have sc := sc_certificate
    obtain ⟨counts, most, _⟩ := q
    dsimp only at h hw
    obtain ⟨_, _, rfl, ⟨p_counts, y_counts, rfl, g_counts, h_counts⟩, _, _, rfl, h_most, h0⟩ := h
    cases h0
    obtain rfl := dpI h_most
    have pt := Pt.start lf ht
    unfold m_certificate at hw
    refine b_drop (evc (ev_fn (w_check_counts T) (hr.mono (by decide)) T.g_check_counts T.F_check_counts.kp T.n_check_counts (ea_cons (ev_vP 0 g_counts h_counts) (ea_cons (ev_vI 1) ea_nil okE ok0) okB (okC okE ok0)) (nsC nsB (nsC nsE ns0)) okE) (by simp only [okb, bind_asc])) pt hw (fun _ F H hw lf pt => ?_)
    replace h_counts := h_counts.mo lf
    refine b_set (i := 2) (evc (ev_LE (ev_fn (w_used_items T) (hr.mono (by decide)) T.g_used_items T.F_used_items.kp T.n_used_items (ea_cons (ev_vP 0 g_counts h_counts) ea_nil okB ok0) (nsC nsB ns0) okL)) (by simp only [okb, bind_asc])) pt hw (fun symbols v_symbols F H hw lf pt h_symbols => ?_) sc.nd
    replace h_counts := h_counts.mo lf
    refine b_if (etc (et_gt (ev_len T.b_len (by decide +kernel) (ev_EB (ev_var 2 h_symbols))) (ev_shl ev_int (ev_vI 1))) (by simp only [okb, bind_asc])) pt hw (fun F H hw lf pt => ?_) (fun F H hw lf pt => ?_)
    ·
      replace h_counts := h_counts.mo lf
      replace h_symbols := h_symbols.mo lf
      exact hw.elim
    ·
      replace h_counts := h_counts.mo lf
      replace h_symbols := h_symbols.mo lf
      refine sS_nil ?_
      refine b_if (etc (et_lt (ev_len T.b_len (by decide +kernel) (ev_EB (ev_var 2 h_symbols))) ev_int) (by simp only [okb, bind_asc])) pt hw (fun F H hw lf pt => ?_) (fun F H hw lf pt => ?_)
      ·
        replace h_counts := h_counts.mo lf
        replace h_symbols := h_symbols.mo lf
        exact b_ret (evc (ev_list (el_nil (α := (List (Int × Int))))) (by simp only [okb, bind_asc])) okL pt (Le.refl _) hw
      ·
        replace h_counts := h_counts.mo lf
        replace h_symbols := h_symbols.mo lf
        refine sS_nil ?_
        refine b_setL (i := 3) (evc (ev_list (el_cons (ev_var 2 h_symbols) (el_nil (α := (List (Int × Int)))))) (by simp only [okb, bind_asc])) pt hw (fun rows p_rows y_rows F H hw lf n_rows pt h_rows => ?_) sc.nd
        replace h_counts := h_counts.mo lf
        replace h_symbols := h_symbols.mo lf
        refine l_r1 (j := 4) PassesOwn.never rfl T.b_range sc.nd (evc (ev_sub (ev_vI 1) ev_int) (by simp only [okb, bind_asc])) pt hw (fun s σ' H' => ∃ (F' : Hp) (y_rows : List V) (z_4 : Option V), σ' = [some (.ref p_counts), some (.int most), some v_symbols, some (.ref p_rows), z_4] ∧ Le F F' ∧ Pt He Fe He [(p_rows, .lst y_rows)] F' H' ∧ DsAll K F' y_rows (s.map py)) (fun F1 H1 lf pt => ⟨_, _, _, rfl, lf, pt, h_rows.mo lf⟩) (fun u v_u rows σ H Po hv r hw => ?_) (fun rows σ H r hw => ?_)
        ·
          obtain ⟨F, y_rows, z_4, rfl, lf, pt, h_rows⟩ := r
          replace h_counts := h_counts.mo lf
          replace h_symbols := h_symbols.mo lf
          obtain rfl := hv
          have LF0 := lf
          unfold m_certificate_L1 at hw
          refine b_append (i := 3) (j := 0) rfl rfl h_rows (evc (ev_LE (ev_fn (w_next_row T LM_next_row) (hr.mono (by decide)) T.g_next_row T.F_next_row.kp T.n_next_row (ea_cons (ev_EB (ev_var 2 h_symbols)) (ea_cons (ev_EB (ev_ix (ev_vO 3 0 h_rows) (ev_neg ev_int))) ea_nil okB ok0) okB (okC okB ok0)) (nsC nsB (nsC nsB ns0)) okL)) (by simp only [okb, bind_asc])) pt hw (fun rows y_rows F H hw lf pt h_rows => ?_)
          replace h_counts := h_counts.mo lf
          replace h_symbols := h_symbols.mo lf
          replace LF0 := LF0.trans lf
          refine sS_nil ?_
          exact ⟨rows, ⟨_, _, _, rfl, LF0, pt, h_rows⟩, hw⟩
        ·
          obtain ⟨F, y_rows, z_4, rfl, lf, pt, h_rows⟩ := r
          replace h_counts := h_counts.mo lf
          replace h_symbols := h_symbols.mo lf
          exact b_ret (evc (ev_revd (ev_vO 3 0 h_rows)) (by simp only [okb, bind_asc])) okL pt (Le.refl _) hw

abbrev N_shortest : List Str := ["counts", "most", "rows", "lengths", "symbols", "taken", "row", "pairs", "k"]
theorem sc_shortest : FnScope ["counts", "most", "rows", "lengths", "symbols", "taken", "row", "pairs", "k"] ["counts", "most"] (defScope s_shortest) := ⟨rfl, rfl, rfl, by decide +kernel, rfl, by decide +kernel, by decide +kernel⟩
theorem w_shortest (T : Tx K mg) (LM_next_row : LamAt base mg T.d_next_row.code ("next_row" ++ ".<locals>." ++ "<lambda>")) : FnOk P w K mg base CX0 4 T.a_shortest T.d_shortest ["counts", "most"] (Pm0 (rC (rB K (α := Int)) (rC (rE K (α := Int)) r0)) (rL K (α := Int)) (fun q => m_shortest q.1 q.2.1)) := by
  refine fn0 T.F_shortest sc_shortest (fun h => ?_) (fun A outer s E Fe He Qe Q vs q hr lf ht h hw => ?_)
  ·
    obtain ⟨_, _, rfl, _, _, _, rfl, _, h⟩ := h
    rw [h]
    rfl
  ·
    have sc := sc_shortest
    obtain ⟨counts, most, _⟩ := q
    dsimp only at h hw
    obtain ⟨_, _, rfl, ⟨p_counts, y_counts, rfl, g_counts, h_counts⟩, _, _, rfl, h_most, h0⟩ := h
    cases h0
    obtain rfl := dpI h_most
    have pt := Pt.start lf ht
    unfold m_shortest at hw
    refine b_set (i := 2) (evc (ev_LE (ev_fn (w_certificate T LM_next_row) (hr.mono (by decide)) T.g_certificate T.F_certificate.kp T.n_certificate (ea_cons (ev_vP 0 g_counts h_counts) (ea_cons (ev_vI 1) ea_nil okE ok0) okB (okC okE ok0)) (nsC nsB (nsC nsE ns0)) okL)) (by simp only [okb, bind_asc])) pt hw (fun rows v_rows F H hw lf pt h_rows => ?_) sc.nd
    replace h_counts := h_counts.mo lf
    refine b_setL (i := 3) (evc (ev_rep (ev_list (el_cons ev_int (el_nil (α := Int)))) (ev_len T.b_len (by decide +kernel) (ev_vP 0 g_counts h_counts))) (by simp only [okb, bind_asc])) pt hw (fun lengths p_lengths y_lengths F H hw lf n_lengths pt h_lengths => ?_) sc.nd
    replace h_counts := h_counts.mo lf
    replace h_rows := h_rows.mo lf
    refine b_set (i := 4) (evc (ev_LE (ev_fn (w_used_items T) (hr.mono (by decide)) T.g_used_items T.F_used_items.kp T.n_used_items (ea_cons (ev_vP 0 g_counts h_counts) ea_nil okB ok0) (nsC nsB ns0) okL)) (by simp only [okb, bind_asc])) pt hw (fun symbols v_symbols F H hw lf pt h_symbols => ?_) sc.nd
    replace h_counts := h_counts.mo lf
    replace h_rows := h_rows.mo lf
    replace h_lengths := h_lengths.mo lf
    refine b_join hw (fun s σ' H' => ∃ (F' : Hp) (y_lengths : List V), σ' = [some (.ref p_counts), some (.int most), some v_rows, some (.ref p_lengths), some v_symbols, none, none, none, none] ∧ Le F F' ∧ Pt He Fe He [(p_lengths, .lst y_lengths)] F' H' ∧ DsAll K F' y_lengths (s.map py)) (fun Po hw => i_if (etc (et_eqI (ev_len T.b_len (by decide +kernel) (ev_EB (ev_var 4 h_symbols))) ev_int) (by simp only [okb, bind_asc])) pt hw (fun F H hw lf pt => ?_) (fun F H hw lf pt => ?_)) (fun lengths σ H r hw => ?_)
    ·
      replace h_counts := h_counts.mo lf
      replace h_rows := h_rows.mo lf
      replace h_lengths := h_lengths.mo lf
      replace h_symbols := h_symbols.mo lf
      have LF0 := lf
      refine b_setItem (i := 3) (j := 0) rfl rfl h_lengths (evc ev_int (by simp only [okb, bind_asc])) (evc (ev_snd (ev_ix (ev_EB (ev_var 4 h_symbols)) ev_int)) (by simp only [okb, bind_asc])) pt hw (fun lengths y_lengths F H hw lf pt h_lengths => ?_)
      replace h_counts := h_counts.mo lf
      replace h_rows := h_rows.mo lf
      replace h_symbols := h_symbols.mo lf
      replace LF0 := LF0.trans lf
      refine sS_nil ?_
      exact ⟨lengths, ⟨_, _, rfl, LF0, pt, h_lengths⟩, hw⟩
    ·
      replace h_counts := h_counts.mo lf
      replace h_rows := h_rows.mo lf
      replace h_lengths := h_lengths.mo lf
      replace h_symbols := h_symbols.mo lf
      have LF0 := lf
      refine sS_nil ?_
      exact ⟨lengths, ⟨_, _, rfl, LF0, pt, h_lengths⟩, hw⟩
    ·
      obtain ⟨F, y_lengths, rfl, lf, pt, h_lengths⟩ := r
      replace h_counts := h_counts.mo lf
      replace h_rows := h_rows.mo lf
      replace h_symbols := h_symbols.mo lf
      refine b_setI (i := 5) (evc (ev_sub (ev_mul ev_int (ev_len T.b_len (by decide +kernel) (ev_EB (ev_var 4 h_symbols)))) ev_int) (by simp only [okb, bind_asc])) pt hw (fun taken F H hw lf pt => ?_) sc.nd
      replace h_counts := h_counts.mo lf
      replace h_rows := h_rows.mo lf
      replace h_lengths := h_lengths.mo lf
      replace h_symbols := h_symbols.mo lf
      refine l_E (j := 6) PassesOwn.never rfl sc.nd (evc (ev_var 2 h_rows) (by simp only [okb, bind_asc])) pt hw (fun F s σ' H' => ∃ (F' : Hp) (y_lengths : List V) (z_6 : Option V) (z_7 : Option V) (z_8 : Option V), σ' = [some (.ref p_counts), some (.int most), some v_rows, some (.ref p_lengths), some v_symbols, some (.int s.2), z_6, z_7, z_8] ∧ Le F F' ∧ Pt He Fe He [(p_lengths, .lst y_lengths)] F' H' ∧ DsAll K F' y_lengths (s.1.map py)) (fun _ _ _ _ r => by obtain ⟨F, y_lengths, z_6, z_7, z_8, rfl, lf, pt, h_lengths⟩ := r; exact lf.trans pt.st.lF) (fun F H lf pt => ⟨_, _, _, _, _, rfl, Le.refl _, pt, h_lengths.mo lf⟩) (fun F lf => ?_) (fun F s σ H lf r hw => ?_)
      ·
        replace h_counts := h_counts.mo lf
        replace h_rows := h_rows.mo lf
        replace h_lengths := h_lengths.mo lf
        replace h_symbols := h_symbols.mo lf
        intro row v_row s σ H Po hv r hw
        obtain ⟨lengths, taken⟩ := s
        dsimp only at r
        replace hw := un2w hw
        obtain ⟨F, y_lengths, z_6, z_7, z_8, rfl, lf, pt, h_lengths⟩ := r
        replace h_counts := h_counts.mo lf
        replace h_rows := h_rows.mo lf
        replace h_symbols := h_symbols.mo lf
        have h_row := hv.mo lf
        have LF0 := lf
        unfold m_shortest_L1 at hw
        refine b_setI (i := 7) (evc ev_int (by simp only [okb, bind_asc])) pt hw (fun pairs F H hw lf pt => ?_) sc.nd
        replace h_counts := h_counts.mo lf
        replace h_rows := h_rows.mo lf
        replace h_lengths := h_lengths.mo lf
        replace h_symbols := h_symbols.mo lf
        replace h_row := h_row.mo lf
        replace LF0 := LF0.trans lf
        refine l_r1 (j := 8) PassesOwn.never rfl T.b_range sc.nd (evc (ev_vI 5) (by simp only [okb, bind_asc])) pt hw (fun s σ' H' => ∃ (F' : Hp) (y_lengths : List V) (z_8 : Option V), σ' = [some (.ref p_counts), some (.int most), some v_rows, some (.ref p_lengths), some v_symbols, some (.int taken), some v_row, some (.int s.1), z_8] ∧ Le F F' ∧ Pt He Fe He [(p_lengths, .lst y_lengths)] F' H' ∧ DsAll K F' y_lengths (s.2.map py)) (fun F1 H1 lf pt => ⟨_, _, _, rfl, lf, pt, h_lengths.mo lf⟩) (fun k v_k s σ H Po hv r hw => ?_) (fun s σ H r hw => ?_)
        ·
          obtain ⟨pairs, lengths⟩ := s
          dsimp only at r
          replace hw := un2w hw
          obtain ⟨F, y_lengths, z_8, rfl, lf, pt, h_lengths⟩ := r
          replace h_counts := h_counts.mo lf
          replace h_rows := h_rows.mo lf
          replace h_symbols := h_symbols.mo lf
          replace h_row := h_row.mo lf
          replace LF0 := LF0.trans lf
          obtain rfl := hv
          have LF1 := lf
          unfold m_shortest_L2 at hw
          refine b_if (etc (et_lt (ev_snd (ev_ix (ev_EB (ev_var 6 h_row)) (ev_vI 8))) ev_int) (by simp only [okb, bind_asc])) pt hw (fun F H hw lf pt => ?_) (fun F H hw lf pt => ?_)
          ·
            replace h_counts := h_counts.mo lf
            replace h_rows := h_rows.mo lf
            replace h_lengths := h_lengths.mo lf
            replace h_symbols := h_symbols.mo lf
            replace h_row := h_row.mo lf
            replace LF0 := LF0.trans lf
            replace LF1 := LF1.trans lf
            refine b_setI (i := 7) (evc (ev_add (ev_vI 7) ev_int) (by simp only [okb, bind_asc])) pt hw (fun pairs F H hw lf pt => ?_) sc.nd
            replace h_counts := h_counts.mo lf
            replace h_rows := h_rows.mo lf
            replace h_lengths := h_lengths.mo lf
            replace h_symbols := h_symbols.mo lf
            replace h_row := h_row.mo lf
            replace LF0 := LF0.trans lf
            replace LF1 := LF1.trans lf
            refine sS_nil ?_
            refine sS_nil ?_
            exact ⟨(pairs, lengths), ⟨_, _, _, rfl, LF1, pt, h_lengths⟩, hw⟩
          ·
            replace h_counts := h_counts.mo lf
            replace h_rows := h_rows.mo lf
            replace h_lengths := h_lengths.mo lf
            replace h_symbols := h_symbols.mo lf
            replace h_row := h_row.mo lf
            replace LF0 := LF0.trans lf
            replace LF1 := LF1.trans lf
            refine b_setItem (i := 3) (j := 0) rfl rfl h_lengths (evc (ev_add (ev_ix (ev_vO 3 0 h_lengths) (ev_snd (ev_ix (ev_EB (ev_var 6 h_row)) (ev_vI 8)))) ev_int) (by simp only [okb, bind_asc])) (evc (ev_snd (ev_ix (ev_EB (ev_var 6 h_row)) (ev_vI 8))) (by simp only [okb, bind_asc])) pt hw (fun lengths y_lengths F H hw lf pt h_lengths => ?_)
            replace h_counts := h_counts.mo lf
            replace h_rows := h_rows.mo lf
            replace h_symbols := h_symbols.mo lf
            replace h_row := h_row.mo lf
            replace LF0 := LF0.trans lf
            replace LF1 := LF1.trans lf
            refine sS_nil ?_
            refine sS_nil ?_
            exact ⟨(pairs, lengths), ⟨_, _, _, rfl, LF1, pt, h_lengths⟩, hw⟩
        ·
          obtain ⟨pairs, lengths⟩ := s
          dsimp only at r
          replace hw := un2w hw
          obtain ⟨F, y_lengths, z_8, rfl, lf, pt, h_lengths⟩ := r
          replace h_counts := h_counts.mo lf
          replace h_rows := h_rows.mo lf
          replace h_symbols := h_symbols.mo lf
          replace h_row := h_row.mo lf
          replace LF0 := LF0.trans lf
          refine b_setI (i := 5) (evc (ev_mul ev_int (ev_vI 7)) (by simp only [okb, bind_asc])) pt hw (fun taken F H hw lf pt => ?_) sc.nd
          replace h_counts := h_counts.mo lf
          replace h_rows := h_rows.mo lf
          replace h_lengths := h_lengths.mo lf
          replace h_symbols := h_symbols.mo lf
          replace h_row := h_row.mo lf
          replace LF0 := LF0.trans lf
          refine sS_nil ?_
          exact ⟨(lengths, taken), ⟨_, _, _, _, _, rfl, LF0, pt, h_lengths⟩, hw⟩
      ·
        replace h_counts := h_counts.mo lf
        replace h_rows := h_rows.mo lf
        replace h_lengths := h_lengths.mo lf
        replace h_symbols := h_symbols.mo lf
        obtain ⟨lengths, taken⟩ := s
        dsimp only at r
        replace hw := un2w hw
        obtain ⟨F, y_lengths, z_6, z_7, z_8, rfl, lf, pt, h_lengths⟩ := r
        replace h_counts := h_counts.mo lf
        replace h_rows := h_rows.mo lf
        replace h_symbols := h_symbols.mo lf
        exact b_retO (i := 3) (j := 0) rfl rfl h_lengths n_lengths pt (Le.refl _) hw

abbrev N_law : List Str := ["_law_script", "_law_draws_here", "_law_counts_here", "_law_kept", "_law_used", "_law_count", "_law_most", "_law_rows_here", "_law_lengths"]
theorem sc_law : FnScope ["_law_script", "_law_draws_here", "_law_counts_here", "_law_kept", "_law_used", "_law_count", "_law_most", "_law_rows_here", "_law_lengths"] ["_law_script"] (defScope s_law) := ⟨rfl, rfl, rfl, by decide +kernel, rfl, by decide +kernel, by decide +kernel⟩
theorem w_law (T : Tx K mg) (LM_next_row : LamAt base mg T.d_next_row.code ("next_row" ++ ".<locals>." ++ "<lambda>")) : FnOk P w K mg base CX0 5 T.a_law T.d_law ["_law_script"] (PmL (rC (rB K (α := Int)) r0) (rE K (α := Bool)) (fun q => m_law q.1)) := by
  refine fnL T.F_law sc_law (fun h => ?_) (fun A outer s E Fe He Qe Q vs q hr hFe lf ht h hw => ?_)
  ·
    obtain ⟨_, _, rfl, _, h⟩ := h
    rw [h]
    rfl
  ·
    have sc := sc_law
    obtain ⟨script, _⟩ := q
    dsimp only at h hw
    obtain ⟨_, _, rfl, ⟨p_script, y_script, rfl, g_script, h_script⟩, h0⟩ := h
    cases h0
    have pt := Pt.start lf ht
    unfold m_law at hw
    refine b_set (i := 1) (evc (ev_LE (ev_fn (w_draws T) (hr.mono (by decide)) T.g_draws T.F_draws.kp T.n_draws (ea_cons (ev_vP 0 g_script h_script) ea_nil okB ok0) (nsC nsB ns0) okL)) (by simp only [okb, bind_asc])) pt hw (fun draws_here v_draws_here F H hw lf pt h_draws_here => ?_) sc.nd
    replace h_script := h_script.mo lf
    refine b_setL (i := 2) (evc (ev_fn (w_counts T) (hr.mono (by decide)) T.g_counts T.F_counts.kp T.n_counts (ea_cons (ev_EB (ev_var 1 h_draws_here)) (ea_cons ev_int (ea_cons ev_int ea_nil okE ok0) okE (okC okE ok0)) okB (okC okE (okC okE ok0))) (nsC nsB (nsC nsE (nsC nsE ns0))) okL) (by simp only [okb, bind_asc])) pt hw (fun counts_here p_counts_here y_counts_here F H hw lf n_counts_here pt h_counts_here => ?_) sc.nd
    replace h_script := h_script.mo lf
    replace h_draws_here := h_draws_here.mo lf
    refine b_setL (i := 3) (evc (ev_listOf T.b_list (by decide +kernel) (ev_vO 2 0 h_counts_here)) (by simp only [okb, bind_asc])) pt hw (fun kept p_kept y_kept F H hw lf n_kept pt h_kept => ?_) sc.nd
    replace h_script := h_script.mo lf
    replace h_draws_here := h_draws_here.mo lf
    replace h_counts_here := h_counts_here.mo lf
    refine b_setI (i := 4) (evc (ev_len T.b_len (by decide +kernel) (ev_LB (ev_comp (j := 5) rfl sc.nd pi_listB (fun _ _ _ _ _ => pg_name sc.nd rfl (Or.inl rfl)) (lcr_B (cm := (fun count => (Out.ok (decide ((0 : Int) < count))))) (f := (fun count => (Out.ok count))) (ev_vO 2 1 h_counts_here) (fun F count v_count lf hv s H C cl fp => by obtain rfl := dpI hv; replace h_script := h_script.mo lf; replace h_draws_here := h_draws_here.mo lf; replace h_counts_here := h_counts_here.mo lf; replace h_kept := h_kept.mo lf; exact ⟨(etsc (ets_one (et_gt (ev_vI 5) ev_int)) (by simp only [okb, bind_asc])), (evc (ev_vI 5) (by simp only [okb, bind_asc]))⟩)) (ok := (show blkC N_law (defScope s_law) _ [("_law_count", 5)] = true by decide +kernel))))) (by simp only [okb, bind_asc])) pt hw (fun used F H hw lf pt => ?_) sc.nd
    replace h_script := h_script.mo lf
    replace h_draws_here := h_draws_here.mo lf
    replace h_counts_here := h_counts_here.mo lf
    replace h_kept := h_kept.mo lf
    refine b_setI (i := 6) (evc (ev_add ev_int (ev_fn (w_at_ T) (hr.mono (by decide)) T.g_at_ T.F_at_.kp T.n_at_ (ea_cons (ev_EB (ev_var 1 h_draws_here)) (ea_cons ev_int (ea_cons ev_int ea_nil okE ok0) okE (okC okE ok0)) okB (okC okE (okC okE ok0))) (nsC nsB (nsC nsE (nsC nsE ns0))) okE)) (by simp only [okb, bind_asc])) pt hw (fun most F H hw lf pt => ?_) sc.nd
    replace h_script := h_script.mo lf
    replace h_draws_here := h_draws_here.mo lf
    replace h_counts_here := h_counts_here.mo lf
    replace h_kept := h_kept.mo lf
    refine b_join hw (fun s σ' H' => ∃ (F' : Hp), σ' = [some (.ref p_script), some v_draws_here, some (.ref p_counts_here), some (.ref p_kept), some (.int used), none, some (.int s), none, none] ∧ Le F F' ∧ Pt He Fe He [(p_kept, .lst y_kept), (p_counts_here, .lst y_counts_here)] F' H') (fun Po hw => i_if (etc (et_gt (ev_vI 4) (ev_shl ev_int (ev_vI 6))) (by simp only [okb, bind_asc])) pt hw (fun F H hw lf pt => ?_) (fun F H hw lf pt => ?_)) (fun most σ H r hw => ?_)
    ·
      replace h_script := h_script.mo lf
      replace h_draws_here := h_draws_here.mo lf
      replace h_counts_here := h_counts_here.mo lf
      replace h_kept := h_kept.mo lf
      have LF0 := lf
      refine b_setI (i := 6) (evc (ev_add ev_int (ev_fn (w_at_ T) (hr.mono (by decide)) T.g_at_ T.F_at_.kp T.n_at_ (ea_cons (ev_EB (ev_var 1 h_draws_here)) (ea_cons ev_int (ea_cons ev_int ea_nil okE ok0) okE (okC okE ok0)) okB (okC okE (okC okE ok0))) (nsC nsB (nsC nsE (nsC nsE ns0))) okE)) (by simp only [okb, bind_asc])) pt hw (fun most F H hw lf pt => ?_) sc.nd
      replace h_script := h_script.mo lf
      replace h_draws_here := h_draws_here.mo lf
      replace h_counts_here := h_counts_here.mo lf
      replace h_kept := h_kept.mo lf
      replace LF0 := LF0.trans lf
      refine sS_nil ?_
      exact ⟨most, ⟨_, rfl, LF0, pt⟩, hw⟩
    ·
      replace h_script := h_script.mo lf
      replace h_draws_here := h_draws_here.mo lf
      replace h_counts_here := h_counts_here.mo lf
      replace h_kept := h_kept.mo lf
      have LF0 := lf
      refine sS_nil ?_
      exact ⟨most, ⟨_, rfl, LF0, pt⟩, hw⟩
    ·
      obtain ⟨F, rfl, lf, pt⟩ := r
      replace h_script := h_script.mo lf
      replace h_draws_here := h_draws_here.mo lf
      replace h_counts_here := h_counts_here.mo lf
      replace h_kept := h_kept.mo lf
      refine b_setL (i := 7) (evc (ev_fn (w_certificate T LM_next_row) (hr.mono (by decide)) T.g_certificate T.F_certificate.kp T.n_certificate (ea_cons (ev_vO 2 1 h_counts_here) (ea_cons (ev_vI 6) ea_nil okE ok0) okB (okC okE ok0)) (nsC nsB (nsC nsE ns0)) okL) (by simp only [okb, bind_asc])) pt hw (fun rows_here p_rows_here y_rows_here F H hw lf n_rows_here pt h_rows_here => ?_) sc.nd
      replace h_script := h_script.mo lf
      replace h_draws_here := h_draws_here.mo lf
      replace h_counts_here := h_counts_here.mo lf
      replace h_kept := h_kept.mo lf
      refine b_if (etc (et_bool (ew_or (et_not (et_val (ev_fn (w_is_rows T) (hr.mono (by decide)) T.g_is_rows T.F_is_rows.kp T.n_is_rows (ea_cons (ev_vO 7 0 h_rows_here) ea_nil okB ok0) (nsC nsB ns0) okE))) (ew_or1 (et_neD (α := (List (List (Int × Int)))) hr.units (ev_BD (ev_vO 7 0 h_rows_here)) (ev_BD (ev_LB (ev_fn (w_rows T) (hr.mono (by decide)) T.g_rows T.F_rows.kp T.n_rows (ea_cons (ev_vO 3 1 h_kept) (ea_cons (ev_vI 6) ea_nil okE ok0) okB (okC okE ok0)) (nsC nsB (nsC nsE ns0)) okL))))))) (by simp only [okb, bind_asc])) pt hw (fun F H hw lf pt => ?_) (fun F H hw lf pt => ?_)
      ·
        replace h_script := h_script.mo lf
        replace h_draws_here := h_draws_here.mo lf
        replace h_counts_here := h_counts_here.mo lf
        replace h_kept := h_kept.mo lf
        replace h_rows_here := h_rows_here.mo lf
        exact b_ret (evc ev_bl (by simp only [okb, bind_asc])) okE pt (Le.refl _) hw
      ·
        replace h_script := h_script.mo lf
        replace h_draws_here := h_draws_here.mo lf
        replace h_counts_here := h_counts_here.mo lf
        replace h_kept := h_kept.mo lf
        replace h_rows_here := h_rows_here.mo lf
        refine sS_nil ?_
        refine b_setL (i := 8) (evc (ev_fn (w_shortest T LM_next_row) (hr.mono (by decide)) T.g_shortest T.F_shortest.kp T.n_shortest (ea_cons (ev_vO 2 2 h_counts_here) (ea_cons (ev_vI 6) ea_nil okE ok0) okB (okC okE ok0)) (nsC nsB (nsC nsE ns0)) okL) (by simp only [okb, bind_asc])) pt hw (fun lengths p_lengths y_lengths F H hw lf n_lengths pt h_lengths => ?_) sc.nd
        replace h_script := h_script.mo lf
        replace h_draws_here := h_draws_here.mo lf
        replace h_counts_here := h_counts_here.mo lf
        replace h_kept := h_kept.mo lf
        replace h_rows_here := h_rows_here.mo lf
        refine b_if (etc (et_bool (ew_or (et_not (et_val (ev_fn (w_is_row T) (hr.mono (by decide)) T.g_is_row T.F_is_row.kp T.n_is_row (ea_cons (ev_vO 8 0 h_lengths) ea_nil okB ok0) (nsC nsB ns0) okE))) (ew_or (et_neD (α := (List Int)) hr.units (ev_BD (ev_vO 8 0 h_lengths)) (ev_BD (ev_LB (ev_fn (w_due T) (hr.mono (by decide)) T.g_due T.F_due.kp T.n_due (ea_cons (ev_vO 3 2 h_kept) (ea_cons (ev_vI 6) ea_nil okE ok0) okB (okC okE ok0)) (nsC nsB (nsC nsE ns0)) okL)))) (ew_or1 (et_neD (α := (List Int)) hr.units (ev_BD (ev_vO 2 3 h_counts_here)) (ev_BD (ev_vO 3 2 h_kept))))))) (by simp only [okb, bind_asc])) pt hw (fun F H hw lf pt => ?_) (fun F H hw lf pt => ?_)
        ·
          replace h_script := h_script.mo lf
          replace h_draws_here := h_draws_here.mo lf
          replace h_counts_here := h_counts_here.mo lf
          replace h_kept := h_kept.mo lf
          replace h_rows_here := h_rows_here.mo lf
          replace h_lengths := h_lengths.mo lf
          exact b_ret (evc ev_bl (by simp only [okb, bind_asc])) okE pt (Le.refl _) hw
        ·
          replace h_script := h_script.mo lf
          replace h_draws_here := h_draws_here.mo lf
          replace h_counts_here := h_counts_here.mo lf
          replace h_kept := h_kept.mo lf
          replace h_rows_here := h_rows_here.mo lf
          replace h_lengths := h_lengths.mo lf
          refine sS_nil ?_
          refine b_append (i := 8) (j := 0) rfl rfl h_lengths (evc ev_int (by simp only [okb, bind_asc])) pt hw (fun lengths y_lengths F H hw lf pt h_lengths => ?_)
          replace h_script := h_script.mo lf
          replace h_draws_here := h_draws_here.mo lf
          replace h_counts_here := h_counts_here.mo lf
          replace h_kept := h_kept.mo lf
          replace h_rows_here := h_rows_here.mo lf
          refine b_append (i := 7) (j := 1) rfl rfl h_rows_here (evc (ev_LE (ev_list (el_nil (α := (Int × Int))))) (by simp only [okb, bind_asc])) pt hw (fun rows_here y_rows_here F H hw lf pt h_rows_here => ?_)
          replace h_script := h_script.mo lf
          replace h_draws_here := h_draws_here.mo lf
          replace h_counts_here := h_counts_here.mo lf
          replace h_kept := h_kept.mo lf
          replace h_lengths := h_lengths.mo lf
          refine b_if (etc (et_gt (ev_len T.b_len (by decide +kernel) (ev_vO 7 1 h_rows_here)) ev_int) (by simp only [okb, bind_asc])) pt hw (fun F H hw lf pt => ?_) (fun F H hw lf pt => ?_)
          ·
            replace h_script := h_script.mo lf
            replace h_draws_here := h_draws_here.mo lf
            replace h_counts_here := h_counts_here.mo lf
            replace h_kept := h_kept.mo lf
            replace h_rows_here := h_rows_here.mo lf
            replace h_lengths := h_lengths.mo lf
            refine b_appendQ (m0 := (getI rows_here (0 : Int))) (m := (Out.ok ((1 : Int), (1 : Int)))) (evc (ev_ix (ev_vO 7 1 h_rows_here) ev_int) (by simp only [okb, bind_asc])) (evc (ev_tup2 ev_int ev_int) (by simp only [okb, bind_asc])) pt hFe hw (fun _ H hw pt => ?_)
            replace h_script := reI (F' := Fe) h_script
            replace h_counts_here := reI (F' := Fe) h_counts_here
            replace h_kept := reI (F' := Fe) h_kept
            replace pt : Pt He Fe He [(p_lengths, .lst y_lengths), (p_kept, .lst y_kept), (p_counts_here, .lst y_counts_here)] _ _ := pt.sel [0, 2, 3] (by decide)
            replace h_lengths := reI (F' := Fe) h_lengths
            refine sS_nil ?_
            exact b_ret (evc (ev_andV (ev_eqD (α := (List (List (Int × Int)))) hr.units (ev_BD (ev_LB (ev_fn (w_certificate T LM_next_row) (hr.mono (by decide)) T.g_certificate T.F_certificate.kp T.n_certificate (ea_cons (ev_vO 2 2 h_counts_here) (ea_cons (ev_vI 6) ea_nil okE ok0) okB (okC okE ok0)) (nsC nsB (nsC nsE ns0)) okL))) (ev_BD (ev_LB (ev_fn (w_rows T) (hr.mono (by decide)) T.g_rows T.F_rows.kp T.n_rows (ea_cons (ev_vO 3 1 h_kept) (ea_cons (ev_vI 6) ea_nil okE ok0) okB (okC okE ok0)) (nsC nsB (nsC nsE ns0)) okL)))) (ev_one (ev_eqD (α := (List Int)) hr.units (ev_BD (ev_LB (ev_fn (w_shortest T LM_next_row) (hr.mono (by decide)) T.g_shortest T.F_shortest.kp T.n_shortest (ea_cons (ev_vO 2 2 h_counts_here) (ea_cons (ev_vI 6) ea_nil okE ok0) okB (okC okE ok0)) (nsC nsB (nsC nsE ns0)) okL))) (ev_BD (ev_LB (ev_fn (w_due T) (hr.mono (by decide)) T.g_due T.F_due.kp T.n_due (ea_cons (ev_vO 3 1 h_kept) (ea_cons (ev_vI 6) ea_nil okE ok0) okB (okC okE ok0)) (nsC nsB (nsC nsE ns0)) okL)))))) (by simp only [okb, bind_asc])) okE pt (Le.refl _) hw
          ·
            replace h_script := h_script.mo lf
            replace h_draws_here := h_draws_here.mo lf
            replace h_counts_here := h_counts_here.mo lf
            replace h_kept := h_kept.mo lf
            replace h_rows_here := h_rows_here.mo lf
            replace h_lengths := h_lengths.mo lf
            refine sS_nil ?_
            exact b_ret (evc (ev_andV (ev_eqD (α := (List (List (Int × Int)))) hr.units (ev_BD (ev_LB (ev_fn (w_certificate T LM_next_row) (hr.mono (by decide)) T.g_certificate T.F_certificate.kp T.n_certificate (ea_cons (ev_vO 2 3 h_counts_here) (ea_cons (ev_vI 6) ea_nil okE ok0) okB (okC okE ok0)) (nsC nsB (nsC nsE ns0)) okL))) (ev_BD (ev_LB (ev_fn (w_rows T) (hr.mono (by decide)) T.g_rows T.F_rows.kp T.n_rows (ea_cons (ev_vO 3 2 h_kept) (ea_cons (ev_vI 6) ea_nil okE ok0) okB (okC okE ok0)) (nsC nsB (nsC nsE ns0)) okL)))) (ev_one (ev_eqD (α := (List Int)) hr.units (ev_BD (ev_LB (ev_fn (w_shortest T LM_next_row) (hr.mono (by decide)) T.g_shortest T.F_shortest.kp T.n_shortest (ea_cons (ev_vO 2 3 h_counts_here) (ea_cons (ev_vI 6) ea_nil okE ok0) okB (okC okE ok0)) (nsC nsB (nsC nsE ns0)) okL))) (ev_BD (ev_LB (ev_fn (w_due T) (hr.mono (by decide)) T.g_due T.F_due.kp T.n_due (ea_cons (ev_vO 3 2 h_kept) (ea_cons (ev_vI 6) ea_nil okE ok0) okB (okC okE ok0)) (nsC nsB (nsC nsE ns0)) okL)))))) (by simp only [okb, bind_asc])) okE pt (Le.refl _) hw

end
end K15


set_option Elab.async false
set_option linter.all false
set_option maxRecDepth 100000
set_option maxHeartbeats 4000000
namespace K15
open PySem PySem.Spec L2 Rf
open Py (py)
theorem all_mk {l : PySem.W.OpenLaw} {w : World} {K : PySem.W.Frag} {h : Heap} {mg : Str → Option Value} {fa cL PL f0 f1 f2 f3 f4 f5 f6 f7 f8 f9 f10 f11 f12 f13 : Addr} (X : K.In h) (G : h.Ns mainGlobals mg) (hfa : mg "law" = some (.ref fa))
    (htab : ∀ c P, PySem.W.tabIn K "next_row" = some (c, P) → PySem.W.CodeHd h c P ∧ h.get? P = some { cls := .none, data := .fields #[] }) (plain : ∀ ns : List Int, ns.length ≤ 63 → (∀ z ∈ ns, Builtin.Int.intBits z ≤ 1048576) → m_law ns = .ok true)
    {od0 an0 od1 an1 od2 an2 od3 an3 od4 an4 od5 an5 od6 an6 od7 an7 od8 an8 od9 an9 od10 an10 od11 an11 od12 an12 od13 an13 odL : Option Addr} {sl0 sl1 sl2 sl3 sl4 sl5 sl6 sl7 sl8 sl9 sl10 sl11 sl12 sl13 slL : Array (Option Value)} {oc0 kV0 dc0 pm0 cd0 ct0 oc1 kV1 dc1 pm1 cd1 ct1 oc2 kV2 dc2 pm2 cd2 ct2 oc3 kV3 dc3 pm3 cd3 ct3 oc4 kV4 dc4 pm4 cd4 ct4 oc5 kV5 dc5 pm5 cd5 ct5 oc6 kV6 dc6 pm6 cd6 ct6 oc7 kV7 dc7 pm7 cd7 ct7 oc8 kV8 dc8 pm8 cd8 ct8 oc9 kV9 dc9 pm9 cd9 ct9 oc10 kV10 dc10 pm10 cd10 ct10 oc11 kV11 dc11 pm11 cd11 ct11 oc12 kV12 dc12 pm12 cd12 ct12 oc13 kV13 dc13 pm13 cd13 ct13 ocL : Value} {vsL : Array Value} {tk0 tk1 : Tok}
    (a0 : PySem.W.nsIn K mainGlobals "_law_draws" = some (some (.ref f0))) (l0 : K.lookup f0 = some ⟨oc0, od0, .func (PySem.W.fnOf "_law_draws" "_law_draws" (defArgs s_draws) (defBody s_draws) (defScope s_draws) .none kV0 dc0 pm0 an0 cd0 ct0), sl0⟩) (c0 : PySem.W.codeIn K cd0 "_law_draws" = true) (k0 : PySem.W.keepIn K (.ref f0) = true)
    (a1 : PySem.W.nsIn K mainGlobals "_law_at" = some (some (.ref f1))) (l1 : K.lookup f1 = some ⟨oc1, od1, .func (PySem.W.fnOf "_law_at" "_law_at" (defArgs s_at_) (defBody s_at_) (defScope s_at_) .none kV1 dc1 pm1 an1 cd1 ct1), sl1⟩) (c1 : PySem.W.codeIn K cd1 "_law_at" = true) (k1 : PySem.W.keepIn K (.ref f1) = true)
    (a2 : PySem.W.nsIn K mainGlobals "_law_is_integer" = some (some (.ref f2))) (l2 : K.lookup f2 = some ⟨oc2, od2, .func (PySem.W.fnOf "_law_is_integer" "_law_is_integer" (defArgs s_is_integer) (defBody s_is_integer) (defScope s_is_integer) .none kV2 dc2 pm2 an2 cd2 ct2), sl2⟩) (c2 : PySem.W.codeIn K cd2 "_law_is_integer" = true) (k2 : PySem.W.keepIn K (.ref f2) = true)
    (a3 : PySem.W.nsIn K mainGlobals "_law_is_row" = some (some (.ref f3))) (l3 : K.lookup f3 = some ⟨oc3, od3, .func (PySem.W.fnOf "_law_is_row" "_law_is_row" (defArgs s_is_row) (defBody s_is_row) (defScope s_is_row) .none kV3 dc3 pm3 an3 cd3 ct3), sl3⟩) (c3 : PySem.W.codeIn K cd3 "_law_is_row" = true) (k3 : PySem.W.keepIn K (.ref f3) = true)
    (a4 : PySem.W.nsIn K mainGlobals "_law_counts" = some (some (.ref f4))) (l4 : K.lookup f4 = some ⟨oc4, od4, .func (PySem.W.fnOf "_law_counts" "_law_counts" (defArgs s_counts) (defBody s_counts) (defScope s_counts) .none kV4 dc4 pm4 an4 cd4 ct4), sl4⟩) (c4 : PySem.W.codeIn K cd4 "_law_counts" = true) (k4 : PySem.W.keepIn K (.ref f4) = true)
    (a5 : PySem.W.nsIn K mainGlobals "_law_rows" = some (some (.ref f5))) (l5 : K.lookup f5 = some ⟨oc5, od5, .func (PySem.W.fnOf "_law_rows" "_law_rows" (defArgs s_rows) (defBody s_rows) (defScope s_rows) .none kV5 dc5 pm5 an5 cd5 ct5), sl5⟩) (c5 : PySem.W.codeIn K cd5 "_law_rows" = true) (k5 : PySem.W.keepIn K (.ref f5) = true)
    (a6 : PySem.W.nsIn K mainGlobals "_law_due" = some (some (.ref f6))) (l6 : K.lookup f6 = some ⟨oc6, od6, .func (PySem.W.fnOf "_law_due" "_law_due" (defArgs s_due) (defBody s_due) (defScope s_due) .none kV6 dc6 pm6 an6 cd6 ct6), sl6⟩) (c6 : PySem.W.codeIn K cd6 "_law_due" = true) (k6 : PySem.W.keepIn K (.ref f6) = true)
    (a7 : PySem.W.nsIn K mainGlobals "_law_is_rows" = some (some (.ref f7))) (l7 : K.lookup f7 = some ⟨oc7, od7, .func (PySem.W.fnOf "_law_is_rows" "_law_is_rows" (defArgs s_is_rows) (defBody s_is_rows) (defScope s_is_rows) .none kV7 dc7 pm7 an7 cd7 ct7), sl7⟩) (c7 : PySem.W.codeIn K cd7 "_law_is_rows" = true) (k7 : PySem.W.keepIn K (.ref f7) = true)
    (a8 : PySem.W.nsIn K mainGlobals "check_counts" = some (some (.ref f8))) (l8 : K.lookup f8 = some ⟨oc8, od8, .func (PySem.W.fnOf "check_counts" "check_counts" (defArgs s_check_counts) (defBody s_check_counts) (defScope s_check_counts) .none kV8 dc8 pm8 an8 cd8 ct8), sl8⟩) (c8 : PySem.W.codeIn K cd8 "check_counts" = true) (k8 : PySem.W.keepIn K (.ref f8) = true)
    (a9 : PySem.W.nsIn K mainGlobals "used_items" = some (some (.ref f9))) (l9 : K.lookup f9 = some ⟨oc9, od9, .func (PySem.W.fnOf "used_items" "used_items" (defArgs s_used_items) (defBody s_used_items) (defScope s_used_items) .none kV9 dc9 pm9 an9 cd9 ct9), sl9⟩) (c9 : PySem.W.codeIn K cd9 "used_items" = true) (k9 : PySem.W.keepIn K (.ref f9) = true)
    (a10 : PySem.W.nsIn K mainGlobals "next_row" = some (some (.ref f10))) (l10 : K.lookup f10 = some ⟨oc10, od10, .func (PySem.W.fnOf "next_row" "next_row" (defArgs s_next_row) (defBody s_next_row) (defScope s_next_row) .none kV10 dc10 pm10 an10 cd10 ct10), sl10⟩) (c10 : PySem.W.codeIn K cd10 "next_row" = true) (k10 : PySem.W.keepIn K (.ref f10) = true)
    (a11 : PySem.W.nsIn K mainGlobals "certificate" = some (some (.ref f11))) (l11 : K.lookup f11 = some ⟨oc11, od11, .func (PySem.W.fnOf "certificate" "certificate" (defArgs s_certificate) (defBody s_certificate) (defScope s_certificate) .none kV11 dc11 pm11 an11 cd11 ct11), sl11⟩) (c11 : PySem.W.codeIn K cd11 "certificate" = true) (k11 : PySem.W.keepIn K (.ref f11) = true)
    (a12 : PySem.W.nsIn K mainGlobals "shortest" = some (some (.ref f12))) (l12 : K.lookup f12 = some ⟨oc12, od12, .func (PySem.W.fnOf "shortest" "shortest" (defArgs s_shortest) (defBody s_shortest) (defScope s_shortest) .none kV12 dc12 pm12 an12 cd12 ct12), sl12⟩) (c12 : PySem.W.codeIn K cd12 "shortest" = true) (k12 : PySem.W.keepIn K (.ref f12) = true)
    (a13 : PySem.W.nsIn K mainGlobals "law" = some (some (.ref f13))) (l13 : K.lookup f13 = some ⟨oc13, od13, .func (PySem.W.fnOf "law" "law" (defArgs s_law) (defBody s_law) (defScope s_law) .none kV13 dc13 pm13 an13 cd13 ct13), sl13⟩) (c13 : PySem.W.codeIn K cd13 "law" = true) (k13 : PySem.W.keepIn K (.ref f13) = true)
    (z0 : PySem.W.nsIn K mainGlobals "abs" = some none)
    (z1 : PySem.W.nsIn K mainGlobals "bool" = some none)
    (z2 : PySem.W.nsIn K mainGlobals "int" = some none)
    (z3 : PySem.W.nsIn K mainGlobals "isinstance" = some none)
    (z4 : PySem.W.nsIn K mainGlobals "len" = some none)
    (z5 : PySem.W.nsIn K mainGlobals "list" = some none)
    (z6 : PySem.W.nsIn K mainGlobals "min" = some none)
    (z7 : PySem.W.nsIn K mainGlobals "range" = some none)
    (z8 : PySem.W.nsIn K mainGlobals "sorted" = some none)
    (z9 : PySem.W.nsIn K mainGlobals "tuple" = some none)
    (v0 : PySem.W.nsIn K mainGlobals "COUNT_BOUND" = some (some (.int 4294967296 tk0)))
    (v1 : PySem.W.nsIn K mainGlobals "LONGEST" = some (some (.int 15 tk1)))
    (ec : cd10 = .ref cL) (cc : K.lookup cL = some ⟨ocL, odL, .fields vsL, slL⟩) (hv : (vsL[11]? : Option Value) = some (.ref PL)) (nP : K.lookup PL = none) :
    LamX.LawAtS l w K CX0 5 63 "_law_script" mg fa h := by
  have e := hfa.symm.trans (PySem.W.mg_of X G a13)
  obtain rfl : f13 = fa := by
    cases e
    rfl
  have F0 := fun_mk (st := s_draws) l0 c0 k0
  have F1 := fun_mk (st := s_at_) l1 c1 k1
  have F2 := fun_mk (st := s_is_integer) l2 c2 k2
  have F3 := fun_mk (st := s_is_row) l3 c3 k3
  have F4 := fun_mk (st := s_counts) l4 c4 k4
  have F5 := fun_mk (st := s_rows) l5 c5 k5
  have F6 := fun_mk (st := s_due) l6 c6 k6
  have F7 := fun_mk (st := s_is_rows) l7 c7 k7
  have F8 := fun_mk (st := s_check_counts) l8 c8 k8
  have F9 := fun_mk (st := s_used_items) l9 c9 k9
  have F10 := fun_mk (st := s_next_row) l10 c10 k10
  have F11 := fun_mk (st := s_certificate) l11 c11 k11
  have F12 := fun_mk (st := s_shortest) l12 c12 k12
  have F13 := fun_mk (st := s_law) l13 c13 k13
  let T : Tx K mg := {
    a_draws := f0
    d_draws := PySem.W.fnOf "_law_draws" "_law_draws" (defArgs s_draws) (defBody s_draws) (defScope s_draws) .none kV0 dc0 pm0 an0 cd0 ct0
    F_draws := F0
    n_draws := F0.binds (ps := ["_law_script"]) fun _ _ _ _ _ _ us hl => match us, hl with | [_], _ => rfl
    g_draws := PySem.W.mg_of X G a0
    a_at_ := f1
    d_at_ := PySem.W.fnOf "_law_at" "_law_at" (defArgs s_at_) (defBody s_at_) (defScope s_at_) .none kV1 dc1 pm1 an1 cd1 ct1
    F_at_ := F1
    n_at_ := F1.binds (ps := ["_law_draws_here", "_law_k", "_law_many"]) fun _ _ _ _ _ _ us hl => match us, hl with | [_, _, _], _ => rfl
    g_at_ := PySem.W.mg_of X G a1
    a_is_integer := f2
    d_is_integer := PySem.W.fnOf "_law_is_integer" "_law_is_integer" (defArgs s_is_integer) (defBody s_is_integer) (defScope s_is_integer) .none kV2 dc2 pm2 an2 cd2 ct2
    F_is_integer := F2
    n_is_integer := F2.binds (ps := ["_law_actual"]) fun _ _ _ _ _ _ us hl => match us, hl with | [_], _ => rfl
    g_is_integer := PySem.W.mg_of X G a2
    a_is_row := f3
    d_is_row := PySem.W.fnOf "_law_is_row" "_law_is_row" (defArgs s_is_row) (defBody s_is_row) (defScope s_is_row) .none kV3 dc3 pm3 an3 cd3 ct3
    F_is_row := F3
    n_is_row := F3.binds (ps := ["_law_actual"]) fun _ _ _ _ _ _ us hl => match us, hl with | [_], _ => rfl
    g_is_row := PySem.W.mg_of X G a3
    a_counts := f4
    d_counts := PySem.W.fnOf "_law_counts" "_law_counts" (defArgs s_counts) (defBody s_counts) (defScope s_counts) .none kV4 dc4 pm4 an4 cd4 ct4
    F_counts := F4
    n_counts := F4.binds (ps := ["_law_draws_here", "_law_first", "_law_many"]) fun _ _ _ _ _ _ us hl => match us, hl with | [_, _, _], _ => rfl
    g_counts := PySem.W.mg_of X G a4
    a_rows := f5
    d_rows := PySem.W.fnOf "_law_rows" "_law_rows" (defArgs s_rows) (defBody s_rows) (defScope s_rows) .none kV5 dc5 pm5 an5 cd5 ct5
    F_rows := F5
    n_rows := F5.binds (ps := ["_law_counts_here", "_law_most"]) fun _ _ _ _ _ _ us hl => match us, hl with | [_, _], _ => rfl
    g_rows := PySem.W.mg_of X G a5
    a_due := f6
    d_due := PySem.W.fnOf "_law_due" "_law_due" (defArgs s_due) (defBody s_due) (defScope s_due) .none kV6 dc6 pm6 an6 cd6 ct6
    F_due := F6
    n_due := F6.binds (ps := ["_law_counts_here", "_law_most"]) fun _ _ _ _ _ _ us hl => match us, hl with | [_, _], _ => rfl
    g_due := PySem.W.mg_of X G a6
    a_is_rows := f7
    d_is_rows := PySem.W.fnOf "_law_is_rows" "_law_is_rows" (defArgs s_is_rows) (defBody s_is_rows) (defScope s_is_rows) .none kV7 dc7 pm7 an7 cd7 ct7
    F_is_rows := F7
    n_is_rows := F7.binds (ps := ["_law_actual"]) fun _ _ _ _ _ _ us hl => match us, hl with | [_], _ => rfl
    g_is_rows := PySem.W.mg_of X G a7
    a_check_counts := f8
    d_check_counts := PySem.W.fnOf "check_counts" "check_counts" (defArgs s_check_counts) (defBody s_check_counts) (defScope s_check_counts) .none kV8 dc8 pm8 an8 cd8 ct8
    F_check_counts := F8
    n_check_counts := F8.binds (ps := ["counts", "most"]) fun _ _ _ _ _ _ us hl => match us, hl with | [_, _], _ => rfl
    g_check_counts := PySem.W.mg_of X G a8
    a_used_items := f9
    d_used_items := PySem.W.fnOf "used_items" "used_items" (defArgs s_used_items) (defBody s_used_items) (defScope s_used_items) .none kV9 dc9 pm9 an9 cd9 ct9
    F_used_items := F9
    n_used_items := F9.binds (ps := ["counts"]) fun _ _ _ _ _ _ us hl => match us, hl with | [_], _ => rfl
    g_used_items := PySem.W.mg_of X G a9
    a_next_row := f10
    d_next_row := PySem.W.fnOf "next_row" "next_row" (defArgs s_next_row) (defBody s_next_row) (defScope s_next_row) .none kV10 dc10 pm10 an10 cd10 ct10
    F_next_row := F10
    n_next_row := F10.binds (ps := ["symbols", "row"]) fun _ _ _ _ _ _ us hl => match us, hl with | [_, _], _ => rfl
    g_next_row := PySem.W.mg_of X G a10
    a_certificate := f11
    d_certificate := PySem.W.fnOf "certificate" "certificate" (defArgs s_certificate) (defBody s_certificate) (defScope s_certificate) .none kV11 dc11 pm11 an11 cd11 ct11
    F_certificate := F11
    n_certificate := F11.binds (ps := ["counts", "most"]) fun _ _ _ _ _ _ us hl => match us, hl with | [_, _], _ => rfl
    g_certificate := PySem.W.mg_of X G a11
    a_shortest := f12
    d_shortest := PySem.W.fnOf "shortest" "shortest" (defArgs s_shortest) (defBody s_shortest) (defScope s_shortest) .none kV12 dc12 pm12 an12 cd12 ct12
    F_shortest := F12
    n_shortest := F12.binds (ps := ["counts", "most"]) fun _ _ _ _ _ _ us hl => match us, hl with | [_, _], _ => rfl
    g_shortest := PySem.W.mg_of X G a12
    a_law := f13
    d_law := PySem.W.fnOf "law" "law" (defArgs s_law) (defBody s_law) (defScope s_law) .none kV13 dc13 pm13 an13 cd13 ct13
    F_law := F13
    n_law := F13.binds (ps := ["_law_script"]) fun _ _ _ _ _ _ us hl => match us, hl with | [_], _ => rfl
    g_law := PySem.W.mg_of X G a13
    b_abs := PySem.W.mg_none_of X G z0
    b_bool := PySem.W.mg_none_of X G z1
    b_int := PySem.W.mg_none_of X G z2
    b_isinstance := PySem.W.mg_none_of X G z3
    b_len := PySem.W.mg_none_of X G z4
    b_list := PySem.W.mg_none_of X G z5
    b_min := PySem.W.mg_none_of X G z6
    b_range := PySem.W.mg_none_of X G z7
    b_sorted := PySem.W.mg_none_of X G z8
    b_tuple := PySem.W.mg_none_of X G z9
    t_COUNT_BOUND := tk0
    c_COUNT_BOUND := PySem.W.mg_of X G v0
    t_LONGEST := tk1
    c_LONGEST := PySem.W.mg_of X G v1
  }
  have tb : PySem.W.tabIn K "next_row" = some (cL, PL) := by
    cases ec
    unfold PySem.W.tabIn
    rw [a10]
    simp only [l10, cc, hv]
  obtain ⟨hC, hP⟩ := htab cL PL tb
  letI : TbC := ⟨[(PL, ("next_row" ++ ".<locals>." ++ "<lambda>" : Str))]⟩
  refine ⟨T.d_law, [(cL, PL)], PmL (rC (rB K (α := Int)) r0) (rE K (α := Bool)) (fun q => m_law q.1), fun p hp => ?_, fun p hp => ?_, fun p hp => ?_, fun s u => .of_eq rfl, fun H a ns hl hb hH hS => ?_, fun base _ _ hTB => ?_⟩
  · obtain rfl := List.mem_singleton.mp hp
    exact hP
  · obtain rfl := List.mem_singleton.mp hp
    exact nP
  · obtain rfl := List.mem_singleton.mp hp
    exact hC
  · refine pmL_law hS (fun p hp => ?_) (plain ns hl hb)
    obtain rfl := List.mem_singleton.mp hp
    exact LamX.TabS.nil (hH (cL, PL) (List.mem_singleton.mpr rfl))
  · have TB := hTB (cL, PL) (List.mem_singleton.mpr rfl)
    exact w_law T ⟨cL, PL, TB, ec, List.mem_singleton.mpr rfl, fun p hp _ => by
      obtain rfl := List.mem_singleton.mp hp
      rfl⟩
end K15


open PySem PySem.W PyProof.Rows in
set_option maxRecDepth 100000 in
set_option maxHeartbeats 0 in
theorem PySem.Challenge.cw_bellows_k15_shortest_as_told_holds : PySem.Challenge.rw_bellows_k15_shortest_as_told.Holds := by
  w_on; o_law; k_head; (case hw => w_witness2)
  k_fill
  refine Rf.walk_lam (l := PySem.Challenge.rw_bellows_k15_shortest_as_told) (k := 5) (n := 63) (CX := fun _ => L2.CX0) (x := "_law_script") (nm := "next_row") rfl (by decide) rfl ⟨rfl, by decide, by decide⟩ rfl (fun w h Y => PySem.W.km_in_of Y) ?F fun _ _ _ _ _ z => z
  case F =>
    intro w mg fa h XX Y KX G hmg htab
    refine' K15.all_mk KX G hmg htab (fun ns h _ => K15.plain ns h) ?a0 ?l0 ?c0 ?k0 ?a1 ?l1 ?c1 ?k1 ?a2 ?l2 ?c2 ?k2 ?a3 ?l3 ?c3 ?k3 ?a4 ?l4 ?c4 ?k4 ?a5 ?l5 ?c5 ?k5 ?a6 ?l6 ?c6 ?k6 ?a7 ?l7 ?c7 ?k7 ?a8 ?l8 ?c8 ?k8 ?a9 ?l9 ?c9 ?k9 ?a10 ?l10 ?c10 ?k10 ?a11 ?l11 ?c11 ?k11 ?a12 ?l12 ?c12 ?k12 ?a13 ?l13 ?c13 ?k13 ?z0 ?z1 ?z2 ?z3 ?z4 ?z5 ?z6 ?z7 ?z8 ?z9 ?v0 ?v1 ?ec ?cc ?hv ?nP
    (case a0 => k_is)
    (case l0 => k_is)
    (case c0 => k_is)
    (case k0 => k_is)
    (case a1 => k_is)
    (case l1 => k_is)
    (case c1 => k_is)
    (case k1 => k_is)
    (case a2 => k_is)
    (case l2 => k_is)
    (case c2 => k_is)
    (case k2 => k_is)
    (case a3 => k_is)
    (case l3 => k_is)
    (case c3 => k_is)
    (case k3 => k_is)
    (case a4 => k_is)
    (case l4 => k_is)
    (case c4 => k_is)
    (case k4 => k_is)
    (case a5 => k_is)
    (case l5 => k_is)
    (case c5 => k_is)
    (case k5 => k_is)
    (case a6 => k_is)
    (case l6 => k_is)
    (case c6 => k_is)
    (case k6 => k_is)
    (case a7 => k_is)
    (case l7 => k_is)
    (case c7 => k_is)
    (case k7 => k_is)
    (case a8 => k_is)
    (case l8 => k_is)
    (case c8 => k_is)
    (case k8 => k_is)
    (case a9 => k_is)
    (case l9 => k_is)
    (case c9 => k_is)
    (case k9 => k_is)
    (case a10 => k_is)
    (case l10 => k_is)
    (case c10 => k_is)
    (case k10 => k_is)
    (case a11 => k_is)
    (case l11 => k_is)
    (case c11 => k_is)
    (case k11 => k_is)
    (case a12 => k_is)
    (case l12 => k_is)
    (case c12 => k_is)
    (case k12 => k_is)
    (case a13 => k_is)
    (case l13 => k_is)
    (case c13 => k_is)
    (case k13 => k_is)
    (case z0 => k_is)
    (case z1 => k_is)
    (case z2 => k_is)
    (case z3 => k_is)
    (case z4 => k_is)
    (case z5 => k_is)
    (case z6 => k_is)
    (case z7 => k_is)
    (case z8 => k_is)
    (case z9 => k_is)
    (case v0 => k_is)
    (case v1 => k_is)
    (case ec => exact rfl)
    (case cc => k_is)
    (case hv => exact rfl)
    (case nP => kernel_rfl)
#print axioms PySem.Challenge.cw_bellows_k15_shortest_as_told_holds


