import PyProof.Rows.All
import Wide.All
import OpenK.AllK
import Wide.FinOn
import HandS.ForMost
import HandS.ForExc
import HandS.IsInst
import HandS.TupAny
import HandS.TupMul
import HandS.Deep
import HandS.CallSlots
import HandS.Flow
import HandS.Style
import PyProof.ListMulRoad
import PyProof.FactsAll.tuple_2
import HandS.ExcField
import HandS.ExcIs
import KE.KExcIs
import HandS.ExcInit
import KE.KExcSuper
import HandS.ExcSuper
import PySem.Challenge.RW_handedacross_k03_whole_texts_of_terms
import HandS.Codes
set_option Elab.async false
set_option linter.all false
set_option maxRecDepth 100000
set_option maxHeartbeats 2000000
set_option maxHeartbeats 4000000
set_option maxHeartbeats 8000000
/-! PD0: data of the program (Dt), how they lie in the abstract heap (Rp), hidden cells. -/
namespace PD
open PySem L2

/-- a datum: what a value is, with all that hangs on it -/
inductive Dt where
  | non
  | bl (b : Bool)
  | int (i : Int)
  | str (s : Str)
  | lst (xs : List Dt)
  | tup (xs : List Dt)
  | ins (C : Addr) (ns : List Str) (vs : List Dt)
  | scr (ns : List Int)

mutual
inductive Rp (K : PySem.W.Frag) (H : Hp) : V → Dt → Prop
  | non : Rp K H .non .non
  | bl (b : Bool) : Rp K H (.bl b) (.bl b)
  | int (i : Int) : Rp K H (.int i) (.int i)
  | str (s : Str) : Rp K H (.str s) (.str s)
  | lst {a : Addr} {us : List V} {ds : List Dt} : H a = some (.lst us) → RpAll K H us ds → Rp K H (.ref a) (.lst ds)
  | tup {a : Addr} {us : List V} {ds : List Dt} : SqT K H a us → RpAll K H us ds → Rp K H (.ref a) (.tup ds)
  | ins {a C dx : Addr} {ns : List Str} {us : List V} {ds : List Dt} : H a = some (.ins C dx (ns.zip us)) → ns.length = us.length → RpAll K H us ds → Rp K H (.ref a) (.ins C ns ds)
  | scr {a : Addr} {ns : List Int} : SqL K H a (ns.map V.int) → Rp K H (.ref a) (.scr ns)
inductive RpAll (K : PySem.W.Frag) (H : Hp) : List V → List Dt → Prop
  | nil : RpAll K H [] []
  | cons {v : V} {vs : List V} {d : Dt} {ds : List Dt} : Rp K H v d → RpAll K H vs ds → RpAll K H (v :: vs) (d :: ds)
end

/-- what the one heap knows the other knows -/
def Le (H H' : Hp) : Prop := ∀ a o, H a = some o → H' a = some o
theorem Le.refl (H : Hp) : Le H H := fun _ _ h => h
theorem Le.trans {H H1 H2 : Hp} (a : Le H H1) (b : Le H1 H2) : Le H H2 := fun x o h => b x o (a x o h)
theorem Le.sql {K : PySem.W.Frag} {H H' : Hp} {a : Addr} {xs : List V} (e : Le H H') (h : SqL K H a xs) : SqL K H' a xs := by
  rcases h with (h | ⟨o, h⟩) | h
  · exact Or.inl (Or.inl (e _ _ h))
  · exact Or.inl (Or.inr ⟨o, e _ _ h⟩)
  · exact Or.inr h
theorem Le.sqt {K : PySem.W.Frag} {H H' : Hp} {a : Addr} {xs : List V} (e : Le H H') (h : SqT K H a xs) : SqT K H' a xs := by
  rcases h with (h | ⟨o, h⟩) | h
  · exact Or.inl (Or.inl (e _ _ h))
  · exact Or.inl (Or.inr ⟨o, e _ _ h⟩)
  · exact Or.inr h

section
variable {K : PySem.W.Frag} {H H' : Hp}
mutual
theorem Rp.mono (e : Le H H') : ∀ (d : Dt) {v : V}, Rp K H v d → Rp K H' v d
  | .non, _, h => by cases h; exact .non
  | .bl _, _, h => by cases h; exact .bl _
  | .int _, _, h => by cases h; exact .int _
  | .str _, _, h => by cases h; exact .str _
  | .lst ds, _, h => by cases h with | lst hs ha => exact .lst (e _ _ hs) (RpAll.mono e ds ha)
  | .tup ds, _, h => by cases h with | tup hs ha => exact .tup (e.sqt hs) (RpAll.mono e ds ha)
  | .ins C ns ds, _, h => by cases h with | ins hs hl ha => exact .ins (e _ _ hs) hl (RpAll.mono e ds ha)
  | .scr ns, _, h => by cases h with | scr hs => exact .scr (e.sql hs)
theorem RpAll.mono (e : Le H H') : ∀ (ds : List Dt) {vs : List V}, RpAll K H vs ds → RpAll K H' vs ds
  | [], _, h => by cases h; exact .nil
  | d :: ds, _, h => by cases h with | cons h1 h2 => exact .cons (Rp.mono e d h1) (RpAll.mono e ds h2)
end
theorem RpAll.length : ∀ {ds : List Dt} {vs : List V}, RpAll K H vs ds → vs.length = ds.length
  | [], _, h => by cases h; rfl
  | _ :: ds, _, h => by cases h with | cons _ h2 => simp [RpAll.length h2]
theorem RpAll.get : ∀ {ds : List Dt} {vs : List V} {i : Nat} {v : V}, RpAll K H vs ds → vs[i]? = some v → ∃ d, ds[i]? = some d ∧ Rp K H v d
  | [], _, _, _, h, e => by cases h; simp at e
  | d :: ds, _, 0, v, h, e => by cases h with | cons h1 h2 => simp at e; subst e; exact ⟨d, rfl, h1⟩
  | d :: ds, _, i + 1, v, h, e => by cases h with | cons h1 h2 => simpa using RpAll.get (i := i) h2 (by simpa using e)
theorem RpAll.get' : ∀ {ds : List Dt} {vs : List V} {i : Nat} {d : Dt}, RpAll K H vs ds → ds[i]? = some d → ∃ v, vs[i]? = some v ∧ Rp K H v d
  | [], _, _, _, h, e => by simp at e
  | _ :: ds, _, 0, d, h, e => by cases h with | cons h1 h2 => simp at e; subst e; exact ⟨_, rfl, h1⟩
  | _ :: ds, _, i + 1, d, h, e => by cases h with | cons h1 h2 => simpa using RpAll.get' (i := i) h2 (by simpa using e)
theorem RpAll.append : ∀ {ds es : List Dt} {vs us : List V}, RpAll K H vs ds → RpAll K H us es → RpAll K H (vs ++ us) (ds ++ es)
  | [], _, _, _, h, k => by cases h; exact k
  | _ :: _, _, _, _, h, k => by cases h with | cons h1 h2 => exact .cons h1 (RpAll.append h2 k)
theorem RpAll.take : ∀ {ds : List Dt} {vs : List V} (n : Nat), RpAll K H vs ds → RpAll K H (vs.take n) (ds.take n)
  | _, _, 0, _ => .nil
  | [], _, _ + 1, h => by cases h; exact .nil
  | _ :: _, _, n + 1, h => by cases h with | cons h1 h2 => exact .cons h1 (RpAll.take n h2)
theorem RpAll.drop : ∀ {ds : List Dt} {vs : List V} (n : Nat), RpAll K H vs ds → RpAll K H (vs.drop n) (ds.drop n)
  | _, _, 0, h => h
  | [], _, _ + 1, h => by cases h; exact .nil
  | _ :: _, _, n + 1, h => by cases h with | cons h1 h2 => exact RpAll.drop n h2
theorem RpAll.set : ∀ {ds : List Dt} {vs : List V} (i : Nat) {v : V} {d : Dt}, RpAll K H vs ds → Rp K H v d → RpAll K H (vs.set i v) (ds.set i d)
  | [], _, _, _, _, h, _ => by cases h; exact .nil
  | _ :: _, _, 0, _, _, h, k => by cases h with | cons h1 h2 => exact .cons k h2
  | _ :: _, _, i + 1, _, _, h, k => by cases h with | cons h1 h2 => exact .cons h1 (RpAll.set i h2 k)
theorem RpAll.ints : ∀ (ns : List Int), RpAll K H (ns.map V.int) (ns.map Dt.int)
  | [] => .nil
  | n :: ns => .cons (.int n) (RpAll.ints ns)
end

/-! ### to the library's data -/
mutual
def toPy : Dt → Option PyData
  | .non => some .none
  | .bl b => some (.bool b)
  | .int i => some (.int i)
  | .str s => some (.str s)
  | .lst xs => (toPys xs).map .list
  | .tup xs => (toPys xs).map .tuple
  | .ins _ _ _ => none
  | .scr _ => none
def toPys : List Dt → Option (List PyData)
  | [] => some []
  | d :: ds => (toPy d).bind fun x => (toPys ds).map (x :: ·)
end
section
variable {K : PySem.W.Frag} {H : Hp}
mutual
theorem Rp.dp : ∀ (d : Dt) {v : V} {e : PyData}, Rp K H v d → toPy d = some e → Dp K H v e
  | .non, _, _, h, q => by cases h; simp [toPy] at q; subst q; exact .non
  | .bl _, _, _, h, q => by cases h; simp [toPy] at q; subst q; exact .bl _
  | .int _, _, _, h, q => by cases h; simp [toPy] at q; subst q; exact .int _
  | .str _, _, _, h, q => by cases h; simp [toPy] at q; subst q; exact .str _
  | .lst ds, _, _, h, q => by
    cases h with
    | lst hs ha =>
      simp only [toPy, Option.map_eq_some_iff] at q
      obtain ⟨es, q1, rfl⟩ := q
      exact .lst (Or.inl (Or.inl hs)) (RpAll.dp ds ha q1)
  | .tup ds, _, _, h, q => by
    cases h with
    | tup hs ha =>
      simp only [toPy, Option.map_eq_some_iff] at q
      obtain ⟨es, q1, rfl⟩ := q
      exact .tup hs (RpAll.dp ds ha q1)
  | .ins _ _ _, _, _, _, q => by simp [toPy] at q
  | .scr _, _, _, _, q => by simp [toPy] at q
theorem RpAll.dp : ∀ (ds : List Dt) {vs : List V} {es : List PyData}, RpAll K H vs ds → toPys ds = some es → DpAll K H vs es
  | [], _, _, h, q => by cases h; simp [toPys] at q; subst q; exact .nil
  | d :: ds, _, _, h, q => by
    cases h with
    | cons h1 h2 =>
      simp only [toPys, Option.bind_eq_some_iff, Option.map_eq_some_iff] at q
      obtain ⟨x, q1, y, q2, rfl⟩ := q
      exact .cons (Rp.dp d h1 q1) (RpAll.dp ds h2 q2)
end
end

/-! ### hidden cells -/
open Classical in
noncomputable def hid (H : Hp) (S : Addr → Prop) : Hp := fun a => if S a then none else H a
section
variable {H H' : Hp} {S S' : Addr → Prop} {a : Addr} {o : HO}
theorem hid_some (h : H a = some o) (hs : ¬ S a) : hid H S a = some o := by unfold hid; rw [if_neg hs]; exact h
theorem hid_of (h : hid H S a = some o) : H a = some o ∧ ¬ S a := by
  unfold hid at h
  by_cases hs : S a
  · rw [if_pos hs] at h; cases h
  · rw [if_neg hs] at h; exact ⟨h, hs⟩
theorem hid_le : Le (hid H S) H := fun a o h => (hid_of h).1
theorem hid_sub (h : ∀ a, S' a → S a) : Le (hid H S) (hid H S') := fun a o e => hid_some (hid_of e).1 fun q => (hid_of e).2 (h a q)
end
end PD

/-! PD1: slots with data, frames, what an evaluation is to reach. -/
namespace PD
open PySem L2

/-- what a slot holds: a datum, or a list of one's own that may be changed in place -/
inductive Dv where
  | dat (d : Dt)
  | own (c : List Dt)
abbrev Sl := List (Option Dv)
/-- an exception: the name of its class, its fields -/
structure Exn where
  cls : Str
  fs : List Dt
inductive Re (α : Type) where
  | ok (a : α) (δ : Sl)
  | exc (x : Exn) (δ : Sl)
  | bad
def Re.bind {α β : Type} : Re α → (α → Sl → Re β) → Re β
  | .ok a δ, f => f a δ
  | .exc x δ, _ => .exc x δ
  | .bad, _ => .bad
/-- the classes of exceptions: where the class stands, the names of its fields -/
abbrev Cls := Str → Option (Addr × List Str)

abbrev As := List (Option Addr)
/-- the slots hold the data; as: where the own lists stand; S: the hidden cells -/
structure EO (K : PySem.W.Frag) (S : Addr → Prop) (as : As) (H : Hp) (σ : L2.St) (δ : Sl) : Prop where
  l1 : σ.length = δ.length
  l2 : as.length = δ.length
  dat : ∀ (i : Nat) (d : Dt), δ[i]? = some (some (Dv.dat d)) → ∃ v, σ[i]? = some (some v) ∧ Rp K (hid H S) v d
  own : ∀ (i : Nat) (c : List Dt), δ[i]? = some (some (Dv.own c)) → ∃ (a : Addr) (us : List V), as[i]? = some (some a) ∧ σ[i]? = some (some (V.ref a)) ∧ H a = some (.lst us) ∧ RpAll K (hid H S) us c
  isown : ∀ (i : Nat) (a : Addr), as[i]? = some (some a) → S a ∧ ∃ c : List Dt, δ[i]? = some (some (Dv.own c))
  inj : ∀ (i j : Nat) (a : Addr), as[i]? = some (some a) → as[j]? = some (some a) → i = j
  trk : ∀ a, S a → ∃ o, H a = some o
/-- an expression's step -/
structure Fr (S : Addr → Prop) (as : As) (H H' : Hp) : Prop where
  keep : ∀ a o, ¬ S a → H a = some o → H' a = some o
  hidd : ∀ a, S a → (∀ i : Nat, as[i]? ≠ some (some a)) → H' a = H a
/-- the hidden cells but those of the slots ow -/
def But (ow : List Nat) (S : Addr → Prop) (as : As) : Addr → Prop := fun a => S a ∧ ∀ i ∈ ow, as[i]? ≠ some (some a)
/-- a statement's step; ow: the slots whose own lists are made here (they may be shown again) -/
structure Stp (ow : List Nat) (S : Addr → Prop) (as : As) (H : Hp) (S' : Addr → Prop) (as' : As) (H' : Hp) : Prop where
  but : ∀ a, But ow S as a → But ow S' as' a
  new : ∀ a, S' a → ¬ S a → H a = none
  keep : ∀ a o, ¬ S a → H a = some o → H' a = some o
  hidd : ∀ a, But ow S as a → (∀ i : Nat, as[i]? ≠ some (some a)) → H' a = H a
  same : ∀ i : Nat, i ∉ ow → as'[i]? = as[i]?
section
variable {K : PySem.W.Frag} {S S1 S2 : Addr → Prop} {as as1 as2 : As} {H H1 H2 : Hp} {σ : L2.St} {δ : Sl} {ow : List Nat}
theorem Fr.refl : Fr S as H H := ⟨fun _ _ _ h => h, fun _ _ _ => rfl⟩
theorem Fr.trans (f : Fr S as H H1) (g : Fr S as H1 H2) : Fr S as H H2 := ⟨fun a o hs h => g.keep a o hs (f.keep a o hs h), fun a hs hi => (g.hidd a hs hi).trans (f.hidd a hs hi)⟩
theorem Fr.le (f : Fr S as H H1) : Le (hid H S) (hid H1 S) := fun a o h => hid_some (f.keep a o (hid_of h).2 (hid_of h).1) (hid_of h).2
theorem Fr.new {p : Addr} {o : HO} (t : ∀ a, S a → ∃ o, H a = some o) (h : H p = none) : Fr S as H (upd H p o) := by
  have hp : ¬ S p := fun q => by obtain ⟨o, e⟩ := t p q; rw [h] at e; cases e
  exact ⟨fun a u _ e => by rw [upd_ne (ne_of_none e h)]; exact e, fun a hs _ => upd_ne (fun e => hp (e ▸ hs))⟩
theorem Fr.stp (f : Fr S as H H1) : Stp ow S as H S as H1 := ⟨fun _ h => h, fun _ h n => (n h).elim, f.keep, fun a h => f.hidd a h.1, fun _ _ => rfl⟩
theorem Stp.refl : Stp ow S as H S as H := Fr.refl.stp
theorem Stp.nin (f : Stp ow S as H S1 as1 H1) {a : Addr} {o : HO} (hs : ¬ S a) (h : H a = some o) : ¬ S1 a := fun q => by
  have := f.new a q hs; rw [h] at this; cases this
theorem Stp.noas (f : Stp ow S as H S1 as1 H1) {a : Addr} (hs : But ow S as a) (hi : ∀ i : Nat, as[i]? ≠ some (some a)) : ∀ i : Nat, as1[i]? ≠ some (some a) := fun i e => by
  by_cases h : i ∈ ow
  · exact (f.but a hs).2 i h e
  · rw [f.same i h] at e; exact hi i e
theorem Stp.trans (f : Stp ow S as H S1 as1 H1) (g : Stp ow S1 as1 H1 S2 as2 H2) : Stp ow S as H S2 as2 H2 where
  but := fun a h => g.but a (f.but a h)
  new := fun a h n => by
    by_cases q : S1 a
    · exact f.new a q n
    · have z := g.new a h q
      cases e : H a with
      | none => rfl
      | some o => rw [f.keep a o n e] at z; cases z
  keep := fun a o n e => g.keep a o (f.nin n e) (f.keep a o n e)
  hidd := fun a hs hi => (g.hidd a (f.but a hs) (f.noas hs hi)).trans (f.hidd a hs hi)
  same := fun i hi => (g.same i hi).trans (f.same i hi)
theorem Stp.le (f : Stp ow S as H S1 as1 H1) : Le (hid H2 (But ow S1 as1)) (hid H2 (But ow S as)) := hid_sub f.but
theorem but_sub : ∀ a, But ow S as a → S a := fun _ h => h.1
theorem but_le : Le (hid H S) (hid H (But ow S as)) := hid_sub but_sub
theorem EO.hidle (e : EO K S as H σ δ) (f : Fr S as H H1) (w : ∀ (i : Nat) (c : List Dt), δ[i]? = some (some (Dv.own c)) → ∀ a : Addr, as[i]? = some (some a) → H1 a = H a) : EO K S as H1 σ δ where
  l1 := e.l1
  l2 := e.l2
  dat := fun i d h => by obtain ⟨v, h1, h2⟩ := e.dat i d h; exact ⟨v, h1, Rp.mono f.le _ h2⟩
  own := fun i c h => by
    obtain ⟨a, us, h1, h2, h3, h4⟩ := e.own i c h
    exact ⟨a, us, h1, h2, (w i c h a h1).trans h3, RpAll.mono f.le _ h4⟩
  isown := e.isown
  inj := e.inj
  trk := fun a h => by
    by_cases q : ∃ i : Nat, as[i]? = some (some a)
    · obtain ⟨i, q⟩ := q
      obtain ⟨_, c, hc⟩ := e.isown i a q
      obtain ⟨b, us, h1, _, h3, _⟩ := e.own i c hc
      rw [q] at h1; cases h1
      exact ⟨_, (w i c hc a q).trans h3⟩
    · obtain ⟨o, ho⟩ := e.trk a h
      exact ⟨o, (f.hidd a h fun i z => q ⟨i, z⟩).trans ho⟩
/-- a new object -/
theorem EO.new (e : EO K S as H σ δ) {p : Addr} {o : HO} (h : H p = none) : EO K S as (upd H p o) σ δ := by
  refine e.hidle (Fr.new e.trk h) fun i c hc a ha => ?_
  obtain ⟨o', ho⟩ := e.trk a (e.isown i a ha).1
  exact upd_ne (ne_of_none ho h)
theorem EO.nS (e : EO K S as H σ δ) {p : Addr} (h : H p = none) : ¬ S p := fun q => by obtain ⟨o, ho⟩ := e.trk p q; rw [h] at ho; cases ho
theorem EO.frnew (e : EO K S as H σ δ) {p : Addr} {o : HO} (h : H p = none) : Fr S as H (upd H p o) := Fr.new e.trk h
/-- a new cell that the data may lean on -/
theorem EO.at_new (e : EO K S as H σ δ) {p : Addr} {o : HO} (h : H p = none) : hid (upd H p o) S p = some o := hid_some upd_same (e.nS h)
/-- one more hidden cell -/
theorem EO.hide (e : EO K S as H σ δ) {p : Addr} {o : HO} (hp : H p = none) : EO K (fun a => S a ∨ a = p) as (upd H p o) σ δ := by
  have lez : Le (hid H S) (hid (upd H p o) (fun a => S a ∨ a = p)) := fun a u h => by
    obtain ⟨h1, h2⟩ := hid_of h
    have ne := ne_of_none h1 hp
    exact hid_some (by rw [upd_ne ne]; exact h1) (fun q => q.elim h2 ne)
  refine ⟨e.l1, e.l2, fun i d h => ?_, fun i c h => ?_, fun i a h => ⟨Or.inl (e.isown i a h).1, (e.isown i a h).2⟩, e.inj, fun a h => ?_⟩
  · obtain ⟨v, h1, h2⟩ := e.dat i d h
    exact ⟨v, h1, Rp.mono lez _ h2⟩
  · obtain ⟨a, us, h1, h2, h3, h4⟩ := e.own i c h
    exact ⟨a, us, h1, h2, by rw [upd_ne (ne_of_none h3 hp)]; exact h3, RpAll.mono lez _ h4⟩
  · by_cases z : a = p
    · subst z; exact ⟨o, upd_same⟩
    · obtain ⟨u, hu⟩ := e.trk a (h.resolve_right z)
      exact ⟨u, by rw [upd_ne z]; exact hu⟩
end

/-! ### what an evaluation is to reach -/
/-- an exception as it lies behind a raise -/
def Xr (K : PySem.W.Frag) (cl : Cls) (H : Hp) (x : Exn) (cls : Value) (dd : Option Addr) : Prop :=
  ∃ C ns, cl x.cls = some (C, ns) ∧ cls = Value.ref C ∧ ((ns = [] ∧ x.fs = [] ∧ dd = none) ∨ ∃ da us, dd = some da ∧ H da = some (.xd (ns.zip us)) ∧ ns.length = us.length ∧ RpAll K H us x.fs)
theorem Xr.mono {K : PySem.W.Frag} {cl : Cls} {H H' : Hp} {x : Exn} {cls : Value} {dd : Option Addr} (e : Le H H') (h : Xr K cl H x cls dd) : Xr K cl H' x cls dd := by
  obtain ⟨C, ns, h1, h2, h3 | ⟨da, us, h3, h4, h5, h6⟩⟩ := h
  · exact ⟨C, ns, h1, h2, Or.inl h3⟩
  · exact ⟨C, ns, h1, h2, Or.inr ⟨da, us, h3, e _ _ h4, h5, RpAll.mono e _ h6⟩⟩
section
variable (K : PySem.W.Frag) (cl : Cls) (W : WX)
def Pk (S : Addr → Prop) (as : As) (σ : L2.St) (H : Hp) (Q : VK) : Re Dt → Prop
  | .ok d δ => ∀ v H', Fr S as H H' → EO K S as H' σ δ → Rp K (hid H' S) v d → Q v H'
  | .exc x δ => ∀ cls dd H', Fr S as H H' → EO K S as H' σ δ → Xr K cl (hid H' S) x cls dd → W cls dd σ H'
  | .bad => False
def PkB (S : Addr → Prop) (as : As) (σ : L2.St) (H : Hp) (Q : Bool → Hp → Prop) : Re Bool → Prop
  | .ok b δ => ∀ H', Fr S as H H' → EO K S as H' σ δ → Q b H'
  | .exc x δ => ∀ cls dd H', Fr S as H H' → EO K S as H' σ δ → Xr K cl (hid H' S) x cls dd → W cls dd σ H'
  | .bad => False
/-- an argument: a datum, or the own list of a slot -/
inductive Ar where
  | val (d : Dt)
  | slot (i : Nat)
inductive ArAll (H : Hp) (σ : L2.St) : List V → List Ar → Prop
  | nil : ArAll H σ [] []
  | val {v : V} {vs : List V} {d : Dt} {r : List Ar} : Rp K H v d → ArAll H σ vs r → ArAll H σ (v :: vs) (.val d :: r)
  | slot {v : V} {vs : List V} {i : Nat} {r : List Ar} : σ[i]? = some (some v) → ArAll H σ vs r → ArAll H σ (v :: vs) (.slot i :: r)
def PkA (S : Addr → Prop) (as : As) (σ : L2.St) (H : Hp) (Q : List V → Hp → Prop) : Re (List Ar) → Prop
  | .ok rs δ => ∀ vs H', Fr S as H H' → EO K S as H' σ δ → ArAll K (hid H' S) σ vs rs → Q vs H'
  | .exc x δ => ∀ cls dd H', Fr S as H H' → EO K S as H' σ δ → Xr K cl (hid H' S) x cls dd → W cls dd σ H'
  | .bad => False
def ED (te : TE) (δ : Sl) (r : Re Dt) : Prop := ∀ S as σ H Q, EO K S as H σ δ → Pk K cl W S as σ H Q r → te σ H Q
def EB (tt : TT) (δ : Sl) (r : Re Bool) : Prop := ∀ S as σ H Q, EO K S as H σ δ → PkB K cl W S as σ H Q r → tt σ H Q
def EA (ta : TA) (δ : Sl) (r : Re (List Ar)) : Prop := ∀ S as σ H Q, EO K S as H σ δ → PkA K cl W S as σ H Q r → ta σ H Q
end
section
variable {K : PySem.W.Frag} {cl : Cls} {W : WX} {S : Addr → Prop} {as : As} {σ : L2.St} {H H1 : Hp} {δ : Sl}
theorem Pk.after {Q : VK} {r : Re Dt} (f : Fr S as H H1) (p : Pk K cl W S as σ H Q r) : Pk K cl W S as σ H1 Q r := by
  cases r with
  | ok d δ => exact fun v H' g => p v H' (f.trans g)
  | exc x δ => exact fun c d H' g => p c d H' (f.trans g)
  | bad => exact p
theorem PkB.after {Q : Bool → Hp → Prop} {r : Re Bool} (f : Fr S as H H1) (p : PkB K cl W S as σ H Q r) : PkB K cl W S as σ H1 Q r := by
  cases r with
  | ok d δ => exact fun H' g => p H' (f.trans g)
  | exc x δ => exact fun c d H' g => p c d H' (f.trans g)
  | bad => exact p
theorem PkA.after {Q : List V → Hp → Prop} {r : Re (List Ar)} (f : Fr S as H H1) (p : PkA K cl W S as σ H Q r) : PkA K cl W S as σ H1 Q r := by
  cases r with
  | ok d δ => exact fun v H' g => p v H' (f.trans g)
  | exc x δ => exact fun c d H' g => p c d H' (f.trans g)
  | bad => exact p
theorem ArAll.mono {H H' : Hp} (e : Le H H') : ∀ {rs : List Ar} {vs : List V}, ArAll K H σ vs rs → ArAll K H' σ vs rs
  | _, _, .nil => .nil
  | _, _, .val h r => .val (Rp.mono e _ h) (ArAll.mono e r)
  | _, _, .slot h r => .slot h (ArAll.mono e r)
/-- a, then what follows -/
theorem ED.bind {ta : TE} {ra : Re Dt} {f : Dt → Sl → Re Dt} {Q : VK} {Q1 : VK} (h : ED K cl W ta δ ra) (eo : EO K S as H σ δ) (p : Pk K cl W S as σ H Q (ra.bind f))
    (k : ∀ d δ1 v H1, Fr S as H H1 → EO K S as H1 σ δ1 → Rp K (hid H1 S) v d → Pk K cl W S as σ H1 Q (f d δ1) → Q1 v H1) : ta σ H Q1 := by
  refine h S as σ H Q1 eo ?_
  cases ra with
  | ok d δ1 => exact fun v H1 f1 e1 r1 => k d δ1 v H1 f1 e1 r1 (Pk.after f1 p)
  | exc x δ1 => exact p
  | bad => exact p
theorem ED.bindB {ta : TE} {ra : Re Dt} {f : Dt → Sl → Re Bool} {Q : Bool → Hp → Prop} {Q1 : VK} (h : ED K cl W ta δ ra) (eo : EO K S as H σ δ) (p : PkB K cl W S as σ H Q (ra.bind f))
    (k : ∀ d δ1 v H1, Fr S as H H1 → EO K S as H1 σ δ1 → Rp K (hid H1 S) v d → PkB K cl W S as σ H1 Q (f d δ1) → Q1 v H1) : ta σ H Q1 := by
  refine h S as σ H Q1 eo ?_
  cases ra with
  | ok d δ1 => exact fun v H1 f1 e1 r1 => k d δ1 v H1 f1 e1 r1 (PkB.after f1 p)
  | exc x δ1 => exact p
  | bad => exact p
theorem ED.bindA {ta : TE} {ra : Re Dt} {f : Dt → Sl → Re (List Ar)} {Q : List V → Hp → Prop} {Q1 : VK} (h : ED K cl W ta δ ra) (eo : EO K S as H σ δ) (p : PkA K cl W S as σ H Q (ra.bind f))
    (k : ∀ d δ1 v H1, Fr S as H H1 → EO K S as H1 σ δ1 → Rp K (hid H1 S) v d → PkA K cl W S as σ H1 Q (f d δ1) → Q1 v H1) : ta σ H Q1 := by
  refine h S as σ H Q1 eo ?_
  cases ra with
  | ok d δ1 => exact fun v H1 f1 e1 r1 => k d δ1 v H1 f1 e1 r1 (PkA.after f1 p)
  | exc x δ1 => exact p
  | bad => exact p
theorem EB.bind {tt : TT} {rb : Re Bool} {f : Bool → Sl → Re Dt} {Q : VK} {Q1 : Bool → Hp → Prop} (h : EB K cl W tt δ rb) (eo : EO K S as H σ δ) (p : Pk K cl W S as σ H Q (rb.bind f))
    (k : ∀ b δ1 H1, Fr S as H H1 → EO K S as H1 σ δ1 → Pk K cl W S as σ H1 Q (f b δ1) → Q1 b H1) : tt σ H Q1 := by
  refine h S as σ H Q1 eo ?_
  cases rb with
  | ok d δ1 => exact fun H1 f1 e1 => k d δ1 H1 f1 e1 (Pk.after f1 p)
  | exc x δ1 => exact p
  | bad => exact p
theorem EB.bindB {tt : TT} {rb : Re Bool} {f : Bool → Sl → Re Bool} {Q Q1 : Bool → Hp → Prop} (h : EB K cl W tt δ rb) (eo : EO K S as H σ δ) (p : PkB K cl W S as σ H Q (rb.bind f))
    (k : ∀ b δ1 H1, Fr S as H H1 → EO K S as H1 σ δ1 → PkB K cl W S as σ H1 Q (f b δ1) → Q1 b H1) : tt σ H Q1 := by
  refine h S as σ H Q1 eo ?_
  cases rb with
  | ok d δ1 => exact fun H1 f1 e1 => k d δ1 H1 f1 e1 (PkB.after f1 p)
  | exc x δ1 => exact p
  | bad => exact p
theorem EA.bind {ta : TA} {ra : Re (List Ar)} {f : List Ar → Sl → Re Dt} {Q : VK} {Q1 : List V → Hp → Prop} (h : EA K cl W ta δ ra) (eo : EO K S as H σ δ) (p : Pk K cl W S as σ H Q (ra.bind f))
    (k : ∀ rs δ1 vs H1, Fr S as H H1 → EO K S as H1 σ δ1 → ArAll K (hid H1 S) σ vs rs → Pk K cl W S as σ H1 Q (f rs δ1) → Q1 vs H1) : ta σ H Q1 := by
  refine h S as σ H Q1 eo ?_
  cases ra with
  | ok d δ1 => exact fun v H1 f1 e1 r1 => k d δ1 v H1 f1 e1 r1 (Pk.after f1 p)
  | exc x δ1 => exact p
  | bad => exact p
theorem EA.bindA {ta : TA} {ra : Re (List Ar)} {f : List Ar → Sl → Re (List Ar)} {Q Q1 : List V → Hp → Prop} (h : EA K cl W ta δ ra) (eo : EO K S as H σ δ) (p : PkA K cl W S as σ H Q (ra.bind f))
    (k : ∀ rs δ1 vs H1, Fr S as H H1 → EO K S as H1 σ δ1 → ArAll K (hid H1 S) σ vs rs → PkA K cl W S as σ H1 Q (f rs δ1) → Q1 vs H1) : ta σ H Q1 := by
  refine h S as σ H Q1 eo ?_
  cases ra with
  | ok d δ1 => exact fun v H1 f1 e1 r1 => k d δ1 v H1 f1 e1 r1 (PkA.after f1 p)
  | exc x δ1 => exact p
  | bad => exact p
/-- ok: the value is there -/
theorem Pk.here {Q : VK} {d : Dt} {v : V} (p : Pk K cl W S as σ H Q (.ok d δ)) (eo : EO K S as H σ δ) (r : Rp K (hid H S) v d) : Q v H := p v H Fr.refl eo r
/-- ok: a new object holds the value -/
theorem Pk.new {Q : VK} {d : Dt} {a : Addr} {o : HO} (p : Pk K cl W S as σ H Q (.ok d δ)) (eo : EO K S as H σ δ) (hn : H a = none) (r : Rp K (hid (upd H a o) S) (.ref a) d) : Q (.ref a) (upd H a o) :=
  p _ _ (eo.frnew hn) (eo.new hn) r
end
end PD

/-! PDr: tuple * int for any count. -/
namespace L2
open PySem PySem.Spec PyProof.Rows
theorem tuple_mul_same (l : Addr) (items : Array Value) (n : Nat) (dd : Option Addr) (sl : Array (Option Value)) (x : Int) (u : Tok) (c0 : (decide (x < -(2 ^ 63)) || decide (x ≥ 2 ^ 63)) = false) (c1 : (items.isEmpty || x == 1) = true) :
    Meets (Builtin.«tuple.__mul__» ⟨[.ref l, .int x u], []⟩) (fun _ R s => s.heap.get? l = some { cls := .type "tuple", dict := dd, data := .seq items n, slots := sl } ∧ R (.ok (.ret (Value.ref l))) s) :=
  .of_wp fun prog w A R s h => by
    obtain ⟨hp, g, d, tk, os⟩ := s
    obtain ⟨hl, h⟩ := h
    have f1 := AutoSeq1.idx_int
    wp_walk using wpAny_loadPart' hl
    repeat (first
      | (refine wpAny_ite_false (decide_eq_false (by rw [c0]; exact Bool.false_ne_true)) ?_; wp_walk using wpAny_loadPart' hl)
      | (refine wpAny_ite_true (decide_eq_true (by rw [c1])) ?_; wp_walk using wpAny_loadPart' hl))
    exact ⟨_, rfl, h⟩
theorem tuple_mul_zero (l : Addr) (items : Array Value) (n : Nat) (dd : Option Addr) (sl : Array (Option Value)) (x : Int) (u : Tok) (c0 : (decide (x < -(2 ^ 63)) || decide (x ≥ 2 ^ 63)) = false) (c1 : (items.isEmpty || x == 1) = false) (c2 : (decide (x ≤ 0) || items.isEmpty) = true) :
    Meets (Builtin.«tuple.__mul__» ⟨[.ref l, .int x u], []⟩) (fun _ R s => s.heap.get? l = some { cls := .type "tuple", dict := dd, data := .seq items n, slots := sl } ∧
      R (.ok (.ret (Value.ref s.heap.objs.size))) { s with heap := s.heap.push { cls := Value.type "tuple", data := Data.seq #[] }, toks := s.toks }) :=
  .of_wp fun prog w A R s h => by
    obtain ⟨hp, g, d, tk, os⟩ := s
    obtain ⟨hl, h⟩ := h
    have f1 := AutoSeq1.idx_int
    wp_walk using wpAny_loadPart' hl
    repeat (first
      | (refine wpAny_ite_false (decide_eq_false (by rw [c0]; exact Bool.false_ne_true)) ?_; wp_walk using wpAny_loadPart' hl)
      | (refine wpAny_ite_false (decide_eq_false (by rw [c1]; exact Bool.false_ne_true)) ?_; wp_walk using wpAny_loadPart' hl)
      | (refine wpAny_ite_true (decide_eq_true (by rw [c2])) ?_; wp_walk using wpAny_loadPart' hl))
    exact ⟨_, rfl, h⟩
def rRepU (K : PySem.W.Frag) : R2 := fun x y H Q => ∃ l k xs, x = .ref l ∧ y = .int k ∧ SqT K H l xs ∧ 0 ≤ k ∧ k ≤ 1000 ∧ xs.length ≤ 1000 ∧
  ((xs = [] ∨ k = 1) → Q (.ref l) H) ∧ (xs ≠ [] → k ≠ 1 → ∀ p, H p = none → Q (.ref p) (upd H p (.tup (List.replicate k.toNat xs).flatten)))
theorem op_repU {X : Cx} : OpR X (binaryOp .Mult) (rRepU X.K) := by
  intro pins s σ H x y v u Q I rx ry h
  obtain ⟨l, k, xs, rfl, rfl, hT, h0, h1, hz, q1, q2⟩ := h
  by_cases hk : xs = [] ∨ k = 1
  · cases rx
    obtain ⟨t, rfl⟩ := ry
    obtain ⟨its, r, ⟨⟨cls, dd, data, sl⟩, ho, hc, n, hd⟩, hs⟩ := I.tuple hT
    simp only at hc hd
    subst hc hd
    have hle : its.length = xs.length := r.length.symm
    have c0 : (decide (k < -(2 ^ 63)) || decide (k ≥ 2 ^ 63)) = false := by
      rw [decide_eq_false (by omega), decide_eq_false (by omega)] <;> rfl
    have c1 : (its.toArray.isEmpty || k == 1) = true := by
      rcases hk with e | e
      · have e2 : its = [] := List.eq_nil_of_length_eq_zero (by rw [hle, e]; rfl)
        rw [e2]; rfl
      · subst e; simp
    exact wpAny_binaryOp_repeat_ref (T := "tuple") (U := "int") (by decide) ⟨_, ho, rfl⟩ (fun s' => typeIs_int s' k t) noFill_tuple_mul F.fills_int_mul F.slot_int_rmul repeat_tuple F.slot_int_index.lookup
      (call_meets F.slot_int_rmul (typeIs_int s k t) F.entry_int_rmul (F.args_int_rmul_2 _ _) (int_rmul_tuple k t l its.toArray n dd sl)
        ⟨ho, rfl, ⟨_, ho, rfl⟩, call_meets F.slot_tuple_mul ⟨_, ho, rfl⟩ F.entry_tuple_mul (F.args_tuple_mul_2 _ _) (tuple_mul_same l its.toArray n dd sl k t c0 c1) ⟨ho, .ref l, H, I, rfl, q1 hk⟩⟩)
  · have hx : xs ≠ [] := fun e => hk (.inl e)
    have hk1 : k ≠ 1 := fun e => hk (.inr e)
    by_cases hk0 : k = 0
    · subst hk0
      cases rx
      obtain ⟨t, rfl⟩ := ry
      obtain ⟨its, r, ⟨⟨cls, dd, data, sl⟩, ho, hc, n, hd⟩, hs⟩ := I.tuple hT
      simp only at hc hd
      subst hc hd
      have hle : its.length = xs.length := r.length.symm
      have c1 : (its.toArray.isEmpty || (0 : Int) == 1) = false := by
        cases its with
        | nil => exact absurd (List.eq_nil_of_length_eq_zero hle.symm) hx
        | cons a b => rfl
      have c2 : (decide ((0 : Int) ≤ 0) || its.toArray.isEmpty) = true := rfl
      refine wpAny_binaryOp_repeat_ref (T := "tuple") (U := "int") (by decide) ⟨_, ho, rfl⟩ (fun s' => typeIs_int s' 0 t) noFill_tuple_mul F.fills_int_mul F.slot_int_rmul repeat_tuple F.slot_int_index.lookup
        (call_meets F.slot_int_rmul (typeIs_int s 0 t) F.entry_int_rmul (F.args_int_rmul_2 _ _) (int_rmul_tuple 0 t l its.toArray n dd sl)
          ⟨ho, rfl, ⟨_, ho, rfl⟩, call_meets F.slot_tuple_mul ⟨_, ho, rfl⟩ F.entry_tuple_mul (F.args_tuple_mul_2 _ _) (tuple_mul_zero l its.toArray n dd sl 0 t rfl c1 c2) ⟨ho, ?_⟩⟩)
      refine ⟨.ref s.heap.objs.size, _, I.laid (t' := s.toks) (o := .tup (List.replicate (0 : Int).toNat xs).flatten) (fun b ob q => Heap.get?_push_of_some _ q) (Nat.le_refl _) ?_, rfl, q2 hx hk1 _ (I.hok.fresh (Nat.le_refl _))⟩
      exact ⟨by show 0 ≤ sizeLine; exact Nat.zero_le _, [], .nil, IsTup.new _ _⟩
    · exact op_repT pins s σ H _ _ v u Q I rx ry ⟨l, k, xs, rfl, rfl, hT, hx, by omega, h1, hz, q2 hx hk1⟩
end L2

/-! PD2: the operations on data; the reading of an expression (trE) and what it is worth (evE). -/
namespace PD
open PySem L2

def LIM : Nat := 100000
/-! ### operations -/
/-- a text, so many times -/
def repS (k : Nat) (s : Str) : Str := ⟨(List.replicate k s.cps).foldl (· ++ ·) #[]⟩
def binD (op : Operator) : Dt → Dt → Option Dt
  | .int i, .int j => match op with
    | .Add => some (.int (i + j))
    | .Sub => some (.int (i - j))
    | .Mult => if (-(2 ^ 64) < i ∧ i < 2 ^ 64) ∨ (-(2 ^ 64) < j ∧ j < 2 ^ 64) then some (.int (i * j)) else none
    | .Mod => if 0 < j then some (.int (i % j)) else none
    | .FloorDiv => if 0 < j ∧ j < 1073741824 then some (.int (i / j)) else none
    | .Pow => if 0 ≤ j ∧ j ≤ 1000000 ∧ i.natAbs < 2 ^ 64 then some (.int (i ^ j.toNat)) else none
    | _ => none
  | .str s, .str t => match op with
    | .Add => if s.length + t.length ≤ LIM then some (.str (s ++ t)) else none
    | _ => none
  | .lst xs, .lst ys => match op with
    | .Add => if xs.length + ys.length ≤ LIM then some (.lst (xs ++ ys)) else none
    | _ => none
  | .tup xs, .tup ys => match op with
    | .Add => if xs.length + ys.length ≤ LIM then some (.tup (xs ++ ys)) else none
    | _ => none
  | .lst xs, .int k => match op with
    | .Mult => if 0 ≤ k ∧ k ≤ 1000 ∧ xs.length ≤ 50 then some (.lst (List.replicate k.toNat xs).flatten) else none
    | _ => none
  | .tup xs, .int k => match op with
    | .Mult => if 0 ≤ k ∧ k ≤ 1000 ∧ xs.length ≤ 50 then some (.tup (List.replicate k.toNat xs).flatten) else none
    | _ => none
  | .str s, .int k => match op with
    | .Mult => if 2 ≤ k ∧ k ≤ 1000 ∧ 1 ≤ s.length ∧ s.length ≤ 50 then some (.str (repS k.toNat s)) else none
    | _ => none
  | _, _ => none
def flD : Dt → Option V
  | .non => some .non
  | .bl b => some (.bl b)
  | .int i => some (.int i)
  | .str s => some (.str s)
  | _ => none
def flDs : List Dt → Option (List V)
  | [] => some []
  | d :: ds => (flD d).bind fun v => (flDs ds).map (v :: ·)
def eqD (a b : Dt) : Option Bool := (toPy a).bind fun x => (toPy b).bind fun y => if x.canLay0 = true ∧ y.canLay0 = true ∧ min x.depth y.depth ≤ 190 then some (PyData.eqv x y) else none
def inD : Dt → Dt → Option Bool
  | .str c, .str z => if c.cps.size = 1 then some (decide (c.cps.getD 0 0 ∈ z.cps.toList)) else none
  | d, .lst xs => (flD d).bind fun v => (flDs xs).map fun vs => inV v vs
  | d, .tup xs => (flD d).bind fun v => (flDs xs).map fun vs => inV v vs
  | _, _ => none
def isNon : Dt → Bool
  | .non => true
  | _ => false
def cmpD (op : CmpOp) (a b : Dt) : Option Bool := match op with
  | .Eq => eqD a b
  | .NotEq => (eqD a b).map (!·)
  | .In => inD a b
  | .NotIn => (inD a b).map (!·)
  | .Is => match b with | .non => some (isNon a) | _ => none
  | .IsNot => match b with | .non => some (!isNon a) | _ => none
  | .Lt => match a, b with | .int i, .int j => some (decide (i < j)) | _, _ => none
  | .LtE => match a, b with | .int i, .int j => some (decide (i ≤ j)) | _, _ => none
  | .Gt => match a, b with | .int i, .int j => some (decide (j < i)) | _, _ => none
  | .GtE => match a, b with | .int i, .int j => some (decide (j ≤ i)) | _, _ => none
def ixD : Dt → Dt → Option Dt
  | .lst xs, .int i => atI xs i
  | .tup xs, .int i => atI xs i
  | .str s, .int i => if s.length ≤ LIM then (atI s.cps.toList i).map fun c => .str ⟨#[c]⟩ else none
  | .scr ns, .int i => (atI ns i).map .int
  | _, _ => none
def cutD (xs : List Dt) (lo hi : Option Int) : List Dt := (xs.drop (HT.sIx xs.length 0 lo)).take (HT.sIx xs.length xs.length hi - HT.sIx xs.length 0 lo)
def slD (d : Dt) (lo hi : Option Int) : Option Dt := match d with
  | .lst xs => some (.lst (cutD xs lo hi))
  | .tup xs => some (.tup (cutD xs lo hi))
  | .str s => if s.length ≤ LIM then some (.str (cutS s lo hi)) else none
  | _ => none
def truD : Dt → Option Bool
  | .non => some false
  | .bl b => some b
  | .int i => some (i != 0)
  | .str s => if s.length ≤ LIM then some ((s.length : Int) != 0) else none
  | .lst xs => some (!xs.isEmpty)
  | .tup xs => some (!xs.isEmpty)
  | _ => none
def lenD : Dt → Option Nat
  | .str s => if s.length ≤ LIM then some s.length else none
  | .lst xs => some xs.length
  | .tup xs => some xs.length
  | .scr ns => some ns.length
  | _ => none
def tyD : Dt → Option String
  | .non => some "NoneType"
  | .bl _ => some "bool"
  | .int _ => some "int"
  | .str _ => some "str"
  | .lst _ => some "list"
  | .tup _ => some "tuple"
  | _ => none
def intsD : List Dt → Option (List Int)
  | [] => some []
  | .int i :: ds => (intsD ds).map (i :: ·)
  | _ => none
def blsD : List Dt → Option (List Bool)
  | [] => some []
  | .bl b :: ds => (blsD ds).map (b :: ·)
  | _ => none
def strsD : List Dt → Option (List Str)
  | [] => some []
  | .str s :: ds => (strsD ds).map (s :: ·)
  | _ => none
/-- sep.join(list) -/
def joinD (a : Str) : Dt → Option Dt
  | .lst ds => (strsD ds).bind fun ys => if (ys.map (·.length)).sum + ys.length * a.length ≤ LIM then some (.str (Txt.join a ys)) else none
  | _ => none
/-- the greatest of a list that is not empty -/
def maxI : List Int → Int
  | [] => 0
  | [x] => x
  | x :: y :: r => max x (maxI (y :: r))
def minI : List Int → Int
  | [] => 0
  | [x] => x
  | x :: y :: r => min x (minI (y :: r))
/-- the built-ins by name -/
def bltD (f : Str) (ds : List Dt) : Option Dt :=
  if f = "len" then (match ds with | [d] => (lenD d).map fun (n : Nat) => Dt.int (n : Int) | _ => none)
  else if f = "sum" then (match ds with | [.lst xs] => (intsD xs).map fun ns => .int ns.sum | _ => none)
  else if f = "max" then (match ds with
    | [.lst xs] => (intsD xs).bind fun ns => if ns = [] then none else some (.int (maxI ns))
    | [.int i, .int j] => some (.int (if j > i then j else i))
    | _ => none)
  else if f = "min" then (match ds with
    | [.lst xs] => (intsD xs).bind fun ns => if ns = [] then none else some (.int (minI ns))
    | [.int i, .int j] => some (.int (if j < i then j else i))
    | _ => none)
  else if f = "abs" then (match ds with | [.int i] => some (.int (if i < 0 then -i else i)) | _ => none)
  else if f = "int" then (match ds with | [.int i] => some (.int i) | [.bl b] => some (.int (if b then 1 else 0)) | _ => none)
  else if f = "list" then (match ds with | [.lst xs] => some (.lst xs) | [.tup xs] => some (.lst xs) | _ => none)
  else if f = "tuple" then (match ds with | [.lst xs] => some (.tup xs) | [.tup xs] => some (.tup xs) | _ => none)
  else if f = "all" then (match ds with | [.lst xs] => (blsD xs).map fun bs => .bl (bs.all id) | _ => none)
  else if f = "any" then (match ds with | [.lst xs] => (blsD xs).map fun bs => .bl (bs.any id) | _ => none)
  else none
def isB (f : Str) : Bool := f = "len" || f = "sum" || f = "max" || f = "min" || f = "abs" || f = "int" || f = "list" || f = "tuple" || f = "all" || f = "any"
/-- isinstance of a datum and a built-in class -/
def isiD (d : Dt) (T : String) : Option Bool := (tyD d).bind fun t => kitB t T
def tyOf? (x : Str) : Option String := if x = "int" then some "int" else if x = "str" then some "str" else if x = "bool" then some "bool" else if x = "tuple" then some "tuple" else if x = "list" then some "list" else if x = "dict" then some "dict" else none

/-! ### readings of operations, whatever the kinds -/
def rEqU (K : PySem.W.Frag) : R2 := fun x y H Q => ∃ d e, Dp K H x d ∧ Dp K H y e ∧ d.canLay0 = true ∧ e.canLay0 = true ∧ min d.depth e.depth ≤ 190 ∧ Q (.bl (PyData.eqv d e)) H
def rNeU (K : PySem.W.Frag) : R2 := fun x y H Q => ∃ d e, Dp K H x d ∧ Dp K H y e ∧ d.canLay0 = true ∧ e.canLay0 = true ∧ min d.depth e.depth ≤ 190 ∧ Q (.bl (!PyData.eqv d e)) H
def rBin (K : PySem.W.Frag) (op : Operator) : R2 := match op with
  | .Add => fun x y H Q => rI0 (fun i j => .int (i + j)) x y H Q ∨ (∃ i j, x = .str i ∧ y = .str j ∧ i.length + j.length ≤ sizeLine ∧ Q (.str (i ++ j)) H) ∨ rCat x y H Q ∨ rCatA K x y H Q
  | .Sub => rI0 fun i j => .int (i - j)
  | .Mult => fun x y H Q => rI CMul (fun i j => .int (i * j)) x y H Q ∨ rRep x y H Q ∨ rRepU K x y H Q ∨ ∃ s k, x = .str s ∧ y = .int k ∧ 2 ≤ k ∧ k ≤ 1000 ∧ 1 ≤ s.length ∧ s.length ≤ 50 ∧ Q (.str (repS k.toNat s)) H
  | .Mod => rI (fun _ j => 0 < j) fun i j => .int (i % j)
  | .FloorDiv => rI CDiv fun i j => .int (i / j)
  | .Pow => rI CPow fun i j => .int (i ^ j.toNat)
  | _ => fun _ _ _ _ => False
def rCmp (K : PySem.W.Frag) (op : CmpOp) : R2 := match op with
  | .Eq => rEqU K
  | .NotEq => rNeU K
  | .Lt => rI0 fun i j => .bl (decide (i < j))
  | .LtE => rI0 fun i j => .bl (decide (i ≤ j))
  | .Gt => rI0 fun i j => .bl (decide (j < i))
  | .GtE => rI0 fun i j => .bl (decide (j ≤ i))
  | .Is => fun x y H Q => y = .non ∧ Q (.bl (decide (x = .non))) H
  | .IsNot => fun x y H Q => y = .non ∧ Q (.bl (!decide (x = .non))) H
  | .In => fun x y H Q => (∃ (c : Nat) (z : Str), x = .str ⟨#[c]⟩ ∧ y = .str z ∧ Q (.bl (decide (c ∈ z.cps.toList))) H) ∨ rIn K false x y H Q
  | .NotIn => fun x y H Q => (∃ (c : Nat) (z : Str), x = .str ⟨#[c]⟩ ∧ y = .str z ∧ Q (.bl (!decide (c ∈ z.cps.toList))) H) ∨ rIn K true x y H Q
def rSlc (K : PySem.W.Frag) : V → Option Int → Option Int → Hp → VK → Prop := fun x lo hi H Q => rSlL K x lo hi H Q ∨ rSlA K x lo hi H Q ∨ rSlS x lo hi H Q
def rBlt (K : PySem.W.Frag) (f : Str) : List V → Hp → VK → Prop :=
  if f = "len" then fun xs H Q => ∃ x n, xs = [x] ∧ LenV K x H n ∧ Q (.int n) H
  else if f = "sum" then rSum K
  else if f = "max" then fun xs H Q => rMax K xs H Q ∨ ∃ i j, xs = [.int i, .int j] ∧ Q (.int (if j > i then j else i)) H
  else if f = "min" then fun xs H Q => rMin K xs H Q ∨ ∃ i j, xs = [.int i, .int j] ∧ Q (.int (if j < i then j else i)) H
  else if f = "abs" then fun xs H Q => ∃ i, xs = [.int i] ∧ Q (.int (if i < 0 then -i else i)) H
  else if f = "int" then fun xs H Q => (∃ i, xs = [.int i] ∧ Q (.int i) H) ∨ ∃ k, xs = [.bl k] ∧ Q (.int (if k then 1 else 0)) H
  else if f = "list" then fun xs H Q => ∃ p ys, xs = [.ref p] ∧ (SqL K H p ys ∨ SqT K H p ys) ∧ ∀ l, H l = none → Q (.ref l) (upd H l (.lst ys))
  else if f = "tuple" then fun xs H Q => ∃ p ys, xs = [.ref p] ∧ ((SqL K H p ys ∧ ∀ l, H l = none → Q (.ref l) (upd H l (.tup ys))) ∨ (SqT K H p ys ∧ Q (.ref p) H))
  else if f = "all" then rAll K
  else if f = "any" then rAny K
  else fun _ _ _ => False

/-! ### where one stands -/
structure Gm where
  K : PySem.W.Frag
  cl : Cls
  N : List Str
  sc : Scope
  gl : Str → Option (V × Dt)
  fn : Str → Option (Sl → Re Dt)
  ow : List Nat
  rz : Str → Bool
  fz : Bool
  fr : Str → Option (Sl → Re (List Dt))
  fq : Str → Bool
  xs : Str → Str → Option Bool
  xc : Str → Option V
def visB (sc : Scope) (x : Str) : Bool := match sc.names.lookup x with
  | some .local => true
  | some .cell => true
  | some .free => true
  | _ => false
def glbB (sc : Scope) (x : Str) : Bool := match sc.names.lookup x with
  | some .globalImplicit => true
  | _ => false
def locB (sc : Scope) (x : Str) : Bool := match sc.names.lookup x with
  | some .local => true
  | _ => false
def okName (x : Str) : Bool := !(x == "__debug__") && !(x == "__classdict__") && !(x == "__name__")
def rJoin (K : PySem.W.Frag) : V → List V → Hp → VK → Prop := fun x xs H Q => ∃ a p, ∃ ys : List Str, x = .str a ∧ xs = [.ref p] ∧ (SqL K H p (ys.map V.str) ∨ SqT K H p (ys.map V.str)) ∧
  (ys.map (·.length)).sum + ys.length * a.length ≤ 16777216 ∧ Q (.str (Txt.join a ys)) H
/-- the slot of a name -/
def Gm.slot (Γ : Gm) (x : Str) : Option Nat := if visB Γ.sc x && okName x then (let i := Γ.N.idxOf x; if i < Γ.N.length then some i else none) else none
def Gm.glob (Γ : Gm) (x : Str) : Bool := glbB Γ.sc x && okName x
def nostar : Expr → Bool
  | .Starred _ _ => false
  | _ => true
def isSet : Expr → Bool
  | .Set _ _ _ => true
  | _ => false
/-- a promise by what a def does to data -/
def spD (K : PySem.W.Frag) (cl : Cls) (sem : Sl → Re Dt) : Sp := fun vs H Q E => ∃ S as δ, EO K S as H (vs.map some) δ ∧ Pk K cl (fun c d _ H => E c d H) S as (vs.map some) H Q (sem δ)

/-- a new list, with the contents c, is handed over -/
def PkF (K : PySem.W.Frag) (cl : Cls) (W : WX) (S : Addr → Prop) (as : As) (σ : L2.St) (H : Hp) (Q : VK) : Re (List Dt) → Prop
  | .ok c δ => ∀ a us H0, Fr S as H H0 → EO K S as H0 σ δ → H0 a = none → RpAll K (hid H0 S) us c → Q (.ref a) (upd H0 a (.lst us))
  | .exc x δ => ∀ cls dd H', Fr S as H H' → EO K S as H' σ δ → Xr K cl (hid H' S) x cls dd → W cls dd σ H'
  | .bad => False
def spF (K : PySem.W.Frag) (cl : Cls) (sem : Sl → Re (List Dt)) : Sp := fun vs H Q E => ∃ S as δ, EO K S as H (vs.map some) δ ∧ PkF K cl (fun c d _ H => E c d H) S as (vs.map some) H Q (sem δ)

/-! ### data read from slots; arguments -/
def getS (δ : Sl) (i : Nat) : Option Dv := (δ[i]?).join
/-- a call of a def of data: the arguments from what they are, the own ones from the slots; behind it the own ones are put back -/
def argS (δ : Sl) : List Ar → Option Sl
  | [] => some []
  | .val d :: r => (argS δ r).map (some (.dat d) :: ·)
  | .slot i :: r => match getS δ i with
    | some (.own c) => (argS δ r).map (some (.own c) :: ·)
    | _ => none
def slotsOf : List Ar → List Nat
  | [] => []
  | .val _ :: r => slotsOf r
  | .slot i :: r => i :: slotsOf r
def backS : List Ar → Sl → Sl → Sl
  | [], _, δ => δ
  | .val _ :: r, _ :: xs, δ => backS r xs δ
  | .slot i :: r, x :: xs, δ => (backS r xs δ).set i x
  | _, [], δ => δ
def valsOf : List Ar → Option (List Dt)
  | [] => some []
  | .val d :: r => (valsOf r).map (d :: ·)
  | .slot _ :: _ => none
def callD {α : Type} (sem : Sl → Re α) (rs : List Ar) (δ : Sl) : Re α := if (slotsOf rs).Nodup then (match argS δ rs with
  | none => .bad
  | some xs => match sem xs with
    | .ok d xs' => .ok d (backS rs xs' δ)
    | .exc x xs' => .exc x (backS rs xs' δ)
    | .bad => .bad) else .bad
def opt {α : Type} (o : Option α) (δ : Sl) : Re α := match o with | some a => .ok a δ | none => .bad
def wipeS (δ : Sl) : List Nat → Sl
  | [] => δ
  | v :: vs => (wipeS δ vs).set v none
/-- behind a comprehension: the own lists as they are now, the rest as it was -/
def keepS (vs : List Nat) (δ δ' : Sl) : Sl := δ'.mapIdx fun i x => if i ∈ vs then (δ[i]?).join else x
def isownS (δ : Sl) (i : Nat) : Bool := match getS δ i with
  | some (.own _) => true
  | _ => false

/-- a target of names -/
inductive Tg where
  | name (i : Nat)
  | tup (is : List Nat)
def slotsT (Γ : Gm) : List Expr → Option (List Nat)
  | [] => some []
  | .Name x _ :: r => if locB Γ.sc x && okName x && decide (Γ.N.idxOf x < Γ.N.length) then (slotsT Γ r).map (Γ.N.idxOf x :: ·) else none
  | _ => none
def tgt (Γ : Gm) : Expr → Option Tg
  | .Name x _ => if locB Γ.sc x && okName x && decide (Γ.N.idxOf x < Γ.N.length) then some (.name (Γ.N.idxOf x)) else none
  | .Tuple es _ _ => (slotsT Γ es).map .tup
  | _ => none
def gs (is : List Nat) : TGs := match is with
  | [] => gNil
  | i :: r => gCons (gName i) (gs r)
def gT (K : PySem.W.Frag) : Tg → TG
  | .name i => gName i
  | .tup is => gTup K is.length (gs is)
def setAll : List Nat → List Dt → Sl → Option Sl
  | [], [], δ => some δ
  | i :: is, d :: ds, δ => if isownS δ i then none else setAll is ds (δ.set i (some (.dat d)))
  | _, _, _ => none
/-- a datum given to a target -/
def putT (t : Tg) (d : Dt) (δ : Sl) : Option Sl := match t with
  | .name i => if isownS δ i then none else some (δ.set i (some (.dat d)))
  | .tup is => match d with
    | .tup ds => setAll is ds δ
    | _ => none
/-- the names that a comprehension's block has of its own, with their slots -/
def ownOf (Γ : Gm) (scope : Scope) : List (Str × Nat) := scope.names.filterMap fun (x, k) => match k with
  | .local => if Γ.N.idxOf x < Γ.N.length then some (x, Γ.N.idxOf x) else none
  | .cell => if Γ.N.idxOf x < Γ.N.length then some (x, Γ.N.idxOf x) else none
  | _ => none
def tgSlots : Tg → List Nat
  | .name i => [i]
  | .tup is => is
/-- what a for walks: a list, a tuple or a text -/
def iSeq (K : PySem.W.Frag) (tl : TE) : TI := fun σ H R => tl σ H fun x H1 => (∃ a, x = .ref a ∧ (∃ xs, SqL K H1 a xs) ∧ R (Itl K a) H1) ∨ (∃ a, x = .ref a ∧ (∃ xs, SqT K H1 a xs) ∧ R (Itt K a) H1) ∨ ∃ z, x = .str z ∧ R (Its z) H1
def itemsD : Dt → Option (List Dt)
  | .lst xs => some xs
  | .tup xs => some xs
  | .str s => some (s.cps.toList.map fun c => .str ⟨#[c]⟩)
  | _ => none
def rangeD (lo : Int) (n : Nat) : List Dt := (List.range n).map fun (i : Nat) => Dt.int (lo + (i : Int))
def noI : TI := fun _ _ _ => False
def noE : TE := fun _ _ _ => False
def noT : TT := fun _ _ _ => False
def noA : TA := fun _ _ _ => False
/-- a truth by what it is -/
def tTr (K : PySem.W.Frag) (ta : TE) : TT := fun σ H Q => ta σ H fun x H' => ∃ k, TruV K x H' k ∧ Q k H'

/-! ### the reading of an expression -/
mutual
def trE (n : Nat) (Γ : Gm) (W : WX) (e : Expr) : TE := match n with
  | 0 => noE
  | n + 1 => match e with
    | .Name x _ => match Γ.slot x with
      | some i => tVar i
      | none => if Γ.glob x then (match Γ.gl x with | some (v, _) => tC v | none => noE) else noE
    | .Constant c _ _ => match c with
      | .none => tC .non
      | .bool b => tC (.bl b)
      | .int i => tC (.int i)
      | .str s => tC (.str s)
      | _ => noE
    | .BinOp a op b _ => tOp (rBin Γ.K op) (trE n Γ W a) (trE n Γ W b)
    | .UnaryOp op a _ => match op with
      | .Not => tNotV (trE n Γ W a)
      | .USub => tUn (rU fun i => .int (-i)) (trE n Γ W a)
      | _ => noE
    | .BoolOp op es _ => trBool n Γ W op es
    | .Compare a ops cs _ => match ops, cs with
      | [op], [b] => if isSet b then noE else tOp (rCmp Γ.K op) (trE n Γ W a) (trE n Γ W b)
      | [op, op'], [b, c] => if isSet b || isSet c then noE else tChain (rCmp Γ.K op) (rCmp Γ.K op') (trE n Γ W a) (trE n Γ W b) (trE n Γ W c)
      | _, _ => noE
    | .IfExp c a b _ => tIf (trT n Γ W c) (trE n Γ W a) (trE n Γ W b)
    | .Tuple es _ _ => tTup (trA n Γ W es)
    | .List es _ => tLst (trA n Γ W es)
    | .Subscript a s _ => match s with
      | .Slice lo hi st _ => match st with
        | none => tSl (rSlc Γ.K) (trE n Γ W a) (match lo with | none => tNoPart | some l => tPart (trE n Γ W l)) (match hi with | none => tNoPart | some h => tPart (trE n Γ W h))
        | some _ => noE
      | i => tOp (rIx Γ.K) (trE n Γ W a) (trE n Γ W i)
    | .Call f args kws pos => match f, kws with
      | .Name x _, [] => if Γ.glob x then (match Γ.fn x with
          | some sem => match args with
            | [] => noE
            | e :: es => if (e :: es).all nostar then tCallS (spD Γ.K Γ.cl sem) (WE W) (trA n Γ W (e :: es)) else noE
          | none => if x = "isinstance" then (match args with
              | [e, .Name T _] => if Γ.glob T && nostar e then (match tyOf? T with | some t => tCB (rIsi Γ.K) (tCons (trE n Γ W e) (tCons (tC (.ty t)) tNil)) | none => noE) else noE
              | _ => noE)
            else if isB x then (match args with
              | [] => noE
              | e :: es => if (e :: es).all nostar then tCB (rBlt Γ.K x) (trA n Γ W (e :: es)) else noE)
            else noE) else noE
      | .Attribute (.Constant (.str a) _ _) m ap, [] => match args with
        | [e] => if (m = "join") ∧ nostar e = true ∧ (ap.endLine == pos.line) = true then tM1 (rJoin Γ.K) (tC (.str a)) (trE n Γ W e) else noE
        | _ => noE
      | _, _ => noE
    | .ListComp elt gens scope _ => match gens with
      | [⟨tg, iter, ifs, 0⟩] => if isSet iter then noE else if blkC Γ.N Γ.sc scope (ownOf Γ scope) then (match tgt { Γ with sc := scope } tg with
          | some t => tLc (trI n Γ W iter) (gT Γ.K t) (trIfs n { Γ with sc := scope } (fun _ _ _ _ => False) ifs) (trE n { Γ with sc := scope } (fun _ _ _ _ => False) elt) ((ownOf Γ scope).map (·.2))
          | none => noE) else noE
      | [⟨tg, iter, ifs, 0⟩, ⟨tg1, iter1, ifs1, 0⟩] => if isSet iter || isSet iter1 then noE else if blkC Γ.N Γ.sc scope (ownOf Γ scope) then (match tgt { Γ with sc := scope } tg, tgt { Γ with sc := scope } tg1 with
          | some t, some t1 => if (tgSlots t1).all fun i => decide (i ∈ (ownOf Γ scope).map (·.2)) then
              tLc2 (trI n Γ W iter) (gT Γ.K t) (trIfs n { Γ with sc := scope } (fun _ _ _ _ => False) ifs) (trI n { Γ with sc := scope } (fun _ _ _ _ => False) iter1) (gT Γ.K t1)
                (trIfs n { Γ with sc := scope } (fun _ _ _ _ => False) ifs1) (trE n { Γ with sc := scope } (fun _ _ _ _ => False) elt) ((ownOf Γ scope).map (·.2)) (tgSlots t1) else noE
          | _, _ => noE) else noE
      | _ => noE
    | _ => noE
def trT (n : Nat) (Γ : Gm) (W : WX) (e : Expr) : TT := match n with
  | 0 => noT
  | n + 1 => match e with
    | .UnaryOp .Not a _ => tNot (trT n Γ W a)
    | .BoolOp op es _ => trBoolT n Γ W op es
    | .IfExp _ _ _ _ => noT
    | .Compare a ops cs _ => match ops, cs with
      | [op], [b] => if isSet b then noT else tTest (tOp (rCmp Γ.K op) (trE n Γ W a) (trE n Γ W b))
      | [op, op'], [b, c] => if isSet b || isSet c then noT else tTest (tChain (rCmp Γ.K op) (rCmp Γ.K op') (trE n Γ W a) (trE n Γ W b) (trE n Γ W c))
      | _, _ => noT
    | e => tTr Γ.K (trE n Γ W e)
def trA (n : Nat) (Γ : Gm) (W : WX) (es : List Expr) : TA := match n with
  | 0 => noA
  | n + 1 => match es with
    | [] => tNil
    | e :: r => if nostar e then tCons (trE n Γ W e) (trA n Γ W r) else noA
def trBool (n : Nat) (Γ : Gm) (W : WX) (op : BoolOp) (es : List Expr) : TE := match n with
  | 0 => noE
  | n + 1 => match es with
    | [] => noE
    | [a] => trE n Γ W a
    | a :: b :: r => match op with
      | .And => tAndV (trE n Γ W a) (trBool n Γ W op (b :: r))
      | .Or => tOrV (trE n Γ W a) (trBool n Γ W op (b :: r))
def trBoolT (n : Nat) (Γ : Gm) (W : WX) (op : BoolOp) (es : List Expr) : TT := match n with
  | 0 => noT
  | n + 1 => match es with
    | [] => noT
    | [a] => trT n Γ W a
    | a :: b :: r => match op with
      | .And => tAnd (trT n Γ W a) (trBoolT n Γ W op (b :: r))
      | .Or => tOr (trT n Γ W a) (trBoolT n Γ W op (b :: r))
def trI (n : Nat) (Γ : Gm) (W : WX) (e : Expr) : TI := match n with
  | 0 => noI
  | n + 1 => match e with
    | .Call (.Name x p) args [] q => if x = "range" then (if Γ.glob x then (match args with
        | [a] => if nostar a then iRng1 (trA n Γ W [a]) else noI
        | [a, b] => if nostar a && nostar b then iRng2 (trA n Γ W [a, b]) else noI
        | _ => noI) else noI) else iSeq Γ.K (trE n Γ W (.Call (.Name x p) args [] q))
    | e => iSeq Γ.K (trE n Γ W e)
def trIfs (n : Nat) (Γ : Gm) (W : WX) (es : List Expr) : TT := match n with
  | 0 => noT
  | n + 1 => match es with
    | [] => tYes
    | [c] => trT n Γ W c
    | _ => noT
end

/-- the slot of a name that holds an own list -/
def slotOwn (Γ : Gm) (e : Expr) (δ : Sl) : Option Nat := match e with
  | .Name x _ => match Γ.slot x with
    | some i => if isownS δ i then some i else none
    | none => none
  | _ => none
/-- an argument, or what a subscript is of: a datum, or a slot's own list -/
def arX (n : Nat) (Γ : Gm) (e : Expr) (δ : Sl) (r : Re Dt) : Re Ar := if n = 0 then .bad else match slotOwn Γ e δ with
  | some i => .ok (.slot i) δ
  | none => r.bind fun d δ1 => .ok (.val d) δ1
/-! ### the turns of a comprehension -/
def evLc (ifs : Sl → Re Bool) (elt : Sl → Re Dt) (t : Tg) (vs : List Nat) : List Dt → Sl → Re (List Dt)
  | [], δ => .ok [] δ
  | d :: r, δ => match putT t d (wipeS δ vs) with
    | none => .bad
    | some δ0 => match ifs δ0 with
      | .ok true δ1 => match elt δ1 with
        | .ok y δ2 => (evLc ifs elt t vs r (keepS vs δ δ2)).bind fun ys δ3 => .ok (y :: ys) δ3
        | _ => .bad
      | .ok false δ1 => evLc ifs elt t vs r (keepS vs δ δ1)
      | _ => .bad
def evLc2 (ifs : Sl → Re Bool) (it1 : Sl → Re (List Dt)) (ifs1 : Sl → Re Bool) (elt : Sl → Re Dt) (t t1 : Tg) (vs : List Nat) : List Dt → Sl → Re (List Dt)
  | [], δ => .ok [] δ
  | d :: r, δ => match putT t d (wipeS δ vs) with
    | none => .bad
    | some δ0 => match ifs δ0 with
      | .ok true δ1 => match it1 δ1 with
        | .ok ds1 δ2 => (match evLc ifs1 elt t1 (tgSlots t1) ds1 δ2 with
          | .ok ys δ3 => (evLc2 ifs it1 ifs1 elt t t1 vs r (keepS vs δ δ3)).bind fun zs δ4 => .ok (ys ++ zs) δ4
          | _ => .bad)
        | _ => .bad
      | .ok false δ1 => evLc2 ifs it1 ifs1 elt t t1 vs r (keepS vs δ δ1)
      | _ => .bad

/-! ### what an expression is worth -/
mutual
def evE (n : Nat) (Γ : Gm) (e : Expr) (δ : Sl) : Re Dt := match n with
  | 0 => .bad
  | n + 1 => match e with
    | .Name x _ => match Γ.slot x with
      | some i => match getS δ i with
        | some (.dat d) => .ok d δ
        | _ => .bad
      | none => if Γ.glob x then (match Γ.gl x with | some (_, d) => .ok d δ | none => .bad) else .bad
    | .Constant c _ _ => match c with
      | .none => .ok .non δ
      | .bool b => .ok (.bl b) δ
      | .int i => .ok (.int i) δ
      | .str s => .ok (.str s) δ
      | _ => .bad
    | .BinOp a op b _ => (evE n Γ a δ).bind fun x δ1 => (evE n Γ b δ1).bind fun y δ2 => opt (binD op x y) δ2
    | .UnaryOp op a _ => match op with
      | .Not => (evE n Γ a δ).bind fun x δ1 => match x with | .bl b => .ok (.bl (!b)) δ1 | _ => .bad
      | .USub => (evE n Γ a δ).bind fun x δ1 => match x with | .int i => .ok (.int (-i)) δ1 | _ => .bad
      | _ => .bad
    | .BoolOp op es _ => evBool n Γ op es δ
    | .Compare a ops cs _ => match ops, cs with
      | [op], [b] => if isSet b then .bad else (evE n Γ a δ).bind fun x δ1 => (evE n Γ b δ1).bind fun y δ2 => opt ((cmpD op x y).map .bl) δ2
      | [op, op'], [b, c] => if isSet b || isSet c then .bad else (evE n Γ a δ).bind fun x δ1 => (evE n Γ b δ1).bind fun y δ2 => match cmpD op x y with
        | some true => (evE n Γ c δ2).bind fun z δ3 => opt ((cmpD op' y z).map .bl) δ3
        | some false => .ok (.bl false) δ2
        | none => .bad
      | _, _ => .bad
    | .IfExp c a b _ => (evT n Γ c δ).bind fun t δ1 => if t then evE n Γ a δ1 else evE n Γ b δ1
    | .Tuple es _ _ => (evA n Γ es δ).bind fun rs δ1 => match valsOf rs with | some ds => if ds.length ≤ LIM then .ok (.tup ds) δ1 else .bad | none => .bad
    | .List es _ => (evA n Γ es δ).bind fun rs δ1 => match valsOf rs with | some ds => if ds.length ≤ LIM then .ok (.lst ds) δ1 else .bad | none => .bad
    | .Subscript a s _ => match s with
      | .Slice lo hi st _ => match st with
        | none => (evE n Γ a δ).bind fun x δ1 => (match lo with
            | none => (.ok none δ1 : Re (Option Int))
            | some l => (evE n Γ l δ1).bind fun y δ2 => match y with | .int i => .ok (some i) δ2 | _ => .bad).bind fun l δ2 => (match hi with
            | none => (.ok none δ2 : Re (Option Int))
            | some h => (evE n Γ h δ2).bind fun y δ3 => match y with | .int i => .ok (some i) δ3 | _ => .bad).bind fun h δ3 => opt (slD x l h) δ3
        | some _ => .bad
      | i => (arX n Γ a δ (evE n Γ a δ)).bind fun x δ1 => (evE n Γ i δ1).bind fun y δ2 => match x with
        | .val d => opt (ixD d y) δ2
        | .slot k => match getS δ2 k, y with
          | some (.own c), .int j => opt (atI c j) δ2
          | _, _ => .bad
    | .Call f args kws pos => match f, kws with
      | .Name x _, [] => if Γ.glob x then (match Γ.fn x with
          | some sem => match args with
            | [] => .bad
            | e :: es => if (e :: es).all nostar then (evA n Γ (e :: es) δ).bind fun rs δ1 => callD sem rs δ1 else .bad
          | none => if x = "isinstance" then (match args with
              | [e, .Name T _] => if Γ.glob T && nostar e then (match tyOf? T with | some t => (evE n Γ e δ).bind fun d δ1 => opt ((isiD d t).map .bl) δ1 | none => .bad) else .bad
              | _ => .bad)
            else if isB x then (match args with
              | [] => .bad
              | e :: es => if (e :: es).all nostar then (evA n Γ (e :: es) δ).bind fun rs δ1 => match valsOf rs with | some ds => opt (bltD x ds) δ1 | none => .bad else .bad)
            else .bad) else .bad
      | .Attribute (.Constant (.str a) _ _) m ap, [] => match args with
        | [e] => if (m = "join") ∧ nostar e = true ∧ (ap.endLine == pos.line) = true then (evE n Γ e δ).bind fun y δ2 => opt (joinD a y) δ2 else .bad
        | _ => .bad
      | _, _ => .bad
    | .ListComp elt gens scope _ => match gens with
      | [⟨tg, iter, ifs, 0⟩] => if isSet iter then .bad else if blkC Γ.N Γ.sc scope (ownOf Γ scope) then (match tgt { Γ with sc := scope } tg with
          | some t => if ((ownOf Γ scope).map (·.2)).any (isownS δ) then .bad else if (tgSlots t).all fun i => decide (i ∈ (ownOf Γ scope).map (·.2)) then
              (evI n Γ iter δ).bind fun ds δ1 => (evLc (evIfs n { Γ with sc := scope } ifs) (evE n { Γ with sc := scope } elt) t ((ownOf Γ scope).map (·.2)) ds δ1).bind fun ys δ2 => if ys.length ≤ LIM then .ok (.lst ys) δ2 else .bad
            else .bad
          | none => .bad) else .bad
      | [⟨tg, iter, ifs, 0⟩, ⟨tg1, iter1, ifs1, 0⟩] => if isSet iter || isSet iter1 then .bad else if blkC Γ.N Γ.sc scope (ownOf Γ scope) then (match tgt { Γ with sc := scope } tg, tgt { Γ with sc := scope } tg1 with
          | some t, some t1 => if ((ownOf Γ scope).map (·.2)).any (isownS δ) then .bad else
            if (tgSlots t1).all fun i => decide (i ∈ (ownOf Γ scope).map (·.2)) then if (tgSlots t).all fun i => decide (i ∈ (ownOf Γ scope).map (·.2)) then
              (evI n Γ iter δ).bind fun ds δ1 => (evLc2 (evIfs n { Γ with sc := scope } ifs) (evI n { Γ with sc := scope } iter1) (evIfs n { Γ with sc := scope } ifs1) (evE n { Γ with sc := scope } elt) t t1 ((ownOf Γ scope).map (·.2)) ds δ1).bind fun ys δ2 => if ys.length ≤ LIM then .ok (.lst ys) δ2 else .bad
            else .bad else .bad
          | _, _ => .bad) else .bad
      | _ => .bad
    | _ => .bad
def evT (n : Nat) (Γ : Gm) (e : Expr) (δ : Sl) : Re Bool := match n with
  | 0 => .bad
  | n + 1 => match e with
    | .UnaryOp .Not a _ => (evT n Γ a δ).bind fun t δ1 => .ok (!t) δ1
    | .BoolOp op es _ => evBoolT n Γ op es δ
    | .IfExp _ _ _ _ => .bad
    | .Compare a ops cs _ => match ops, cs with
      | [op], [b] => if isSet b then .bad else (evE n Γ a δ).bind fun x δ1 => (evE n Γ b δ1).bind fun y δ2 => opt (cmpD op x y) δ2
      | [op, op'], [b, c] => if isSet b || isSet c then .bad else (evE n Γ a δ).bind fun x δ1 => (evE n Γ b δ1).bind fun y δ2 => match cmpD op x y with
        | some true => (evE n Γ c δ2).bind fun z δ3 => opt (cmpD op' y z) δ3
        | some false => .ok false δ2
        | none => .bad
      | _, _ => .bad
    | e => (evE n Γ e δ).bind fun x δ1 => opt (truD x) δ1
def evA (n : Nat) (Γ : Gm) (es : List Expr) (δ : Sl) : Re (List Ar) := match n with
  | 0 => .bad
  | n + 1 => match es with
    | [] => .ok [] δ
    | e :: r => if nostar e then (arX n Γ e δ (evE n Γ e δ)).bind fun x δ1 => (evA n Γ r δ1).bind fun xs δ2 => .ok (x :: xs) δ2 else .bad
def evBool (n : Nat) (Γ : Gm) (op : BoolOp) (es : List Expr) (δ : Sl) : Re Dt := match n with
  | 0 => .bad
  | n + 1 => match es with
    | [] => .bad
    | [a] => evE n Γ a δ
    | a :: b :: r => match op with
      | .And => (evE n Γ a δ).bind fun x δ1 => match x with | .bl true => evBool n Γ op (b :: r) δ1 | .bl false => .ok (.bl false) δ1 | _ => .bad
      | .Or => (evE n Γ a δ).bind fun x δ1 => match x with | .bl true => .ok (.bl true) δ1 | .bl false => evBool n Γ op (b :: r) δ1 | _ => .bad
def evBoolT (n : Nat) (Γ : Gm) (op : BoolOp) (es : List Expr) (δ : Sl) : Re Bool := match n with
  | 0 => .bad
  | n + 1 => match es with
    | [] => .bad
    | [a] => evT n Γ a δ
    | a :: b :: r => match op with
      | .And => (evT n Γ a δ).bind fun x δ1 => if x then evBoolT n Γ op (b :: r) δ1 else .ok false δ1
      | .Or => (evT n Γ a δ).bind fun x δ1 => if x then .ok true δ1 else evBoolT n Γ op (b :: r) δ1
def evI (n : Nat) (Γ : Gm) (e : Expr) (δ : Sl) : Re (List Dt) := match n with
  | 0 => .bad
  | n + 1 => match e with
    | .Call (.Name x p) args [] q => if x = "range" then (if Γ.glob x then (match args with
        | [a] => if nostar a then (evA n Γ [a] δ).bind fun rs δ1 => match rs with | [.val (.int j)] => if -100000 ≤ j ∧ j ≤ 100000 then .ok (rangeD 0 j.toNat) δ1 else .bad | _ => .bad else .bad
        | [a, b] => if nostar a && nostar b then (evA n Γ [a, b] δ).bind fun rs δ1 => match rs with
          | [.val (.int i), .val (.int j)] => if -100000 ≤ i ∧ i ≤ 100000 ∧ -100000 ≤ j ∧ j ≤ 100000 then .ok (rangeD i (j - i).toNat) δ1 else .bad
          | _ => .bad else .bad
        | _ => .bad) else .bad) else (evE n Γ (.Call (.Name x p) args [] q) δ).bind fun d δ1 => opt (itemsD d) δ1
    | e => (evE n Γ e δ).bind fun d δ1 => opt (itemsD d) δ1
def evIfs (n : Nat) (Γ : Gm) (es : List Expr) (δ : Sl) : Re Bool := match n with
  | 0 => .bad
  | n + 1 => match es with
    | [] => .ok true δ
    | [c] => evT n Γ c δ
    | _ => .bad
end
end PD

/-! PD3: the readings are right (PE, PT, PA, PI of trE, trT, trA, trI). -/
namespace PD
open PySem L2

/-- the context is as the letters say -/
structure Mt (Γ : Gm) (X : Cx) (W : WX) : Prop where
  K : X.K = Γ.K
  N : X.N = Γ.N
  nd : Γ.N.Nodup
  vis : ∀ x, visB Γ.sc x = true → Vis X.env.scope x
  loc : ∀ x, locB Γ.sc x = true → X.env.scope.names.lookup x = some .local
  glb : ∀ x, glbB Γ.sc x = true → Gl X x
  cel : ∀ x, (Γ.sc.names.lookup x = some .cell ∨ Γ.sc.names.lookup x = some .free) → (X.env.scope.names.lookup x = some .cell ∨ X.env.scope.names.lookup x = some .free)
  calm : X.calm = true
  tk : Takes X W
  gl : ∀ x v d, Γ.gl x = some (v, d) → ∃ u, X.mg x = some u ∧ RelV v u
  fn : ∀ x s, Γ.fn x = some s → ∃ f fd ps j, Room j X.A ∧ FnOk X.prog X.w X.K X.mg X.base (L2.CX X.prog X.w) j f fd ps (spD Γ.K Γ.cl s) ∧ X.mg x = some (.ref f) ∧ PySem.W.keepIn X.K (.ref f) = true ∧ Binds X.K fd ps []
  fr : ∀ x s, Γ.fr x = some s → ∃ f fd ps j, Room j X.A ∧ FnOk X.prog X.w X.K X.mg X.base (L2.CX X.prog X.w) j f fd ps (spF Γ.K Γ.cl s) ∧ X.mg x = some (.ref f) ∧ PySem.W.keepIn X.K (.ref f) = true ∧ Binds X.K fd ps []
  bl : ∀ x : Str, (isB x = true ∨ x = "isinstance" ∨ x = "range" ∨ (tyOf? x).isSome = true) → X.mg x = none
  un : X.A.units + 190 < cLine

section
variable {X : Cx} {W : WX} {Γ : Gm}
theorem pe_no {e : Expr} : PE X e noE := ⟨fun _ _ _ _ _ _ h => h.elim⟩
theorem pt_no {e : Expr} : PT X e noT := ⟨fun _ _ _ _ _ _ h => h.elim⟩
theorem pw_no {e : Expr} : PW X e noT := ⟨fun _ _ _ _ _ _ _ h => h.elim⟩
theorem pa_no {es : List Expr} : PA X es noA := ⟨fun _ _ _ _ _ _ _ h => h.elim⟩
theorem pi_no {tg e : Expr} : PI X tg e noI := ⟨fun _ _ _ _ _ _ h => h.elim⟩
theorem pts_no {es : List Expr} : PTs X es noT := ⟨fun _ _ _ _ _ _ h => h.elim⟩
theorem star_cons {e : Expr} {es : List Expr} {env : Env} (h : nostar e = true) : starEach (e :: es) env = (false, eval e env) :: starEach es env := by
  cases e <;> first | rfl | (exact Bool.noConfusion h)
theorem back_plain {pos : Pos} {env : Env} : ∀ {es : List Expr}, es.all nostar = true → (backTo pos (starEach es env)).any (·.1) = false
  | [], _ => rfl
  | e :: es, h => by
    rw [List.all_cons, Bool.and_eq_true] at h
    rw [star_cons h.1]
    show (false || (backTo pos (starEach es env)).any (·.1)) = false
    rw [back_plain h.2]; rfl
theorem mark_no {op : CmpOp} {b : Expr} (h : isSet b = false) : behindInMarks op b = false := by
  cases b <;> first | rfl | (exact Bool.noConfusion h)
theorem CallR.or {f : Value} {r r' : List V → Hp → VK → Prop} (h : CallR X f r) (h' : CallR X f r') : CallR X f (fun xs H Q => r xs H Q ∨ r' xs H Q) := by
  intro pins s σ H xs us Q I rx q
  rcases q with q | q
  · exact h pins s σ H xs us Q I rx q
  · exact h' pins s σ H xs us Q I rx q
theorem repS_fold (s : Str) : ∀ (k : Nat) (a : Array Nat), ((List.replicate k s.cps).foldl (· ++ ·) a).size = a.size + k * s.length
  | 0, a => by simp
  | k + 1, a => by
    rw [List.replicate_succ, List.foldl_cons, repS_fold s k, Array.size_append]
    show a.size + s.cps.size + k * s.cps.size = a.size + (k + 1) * s.cps.size
    rw [Nat.succ_mul]; omega
theorem repS_len (k : Nat) (s : Str) : (repS k s).length = k * s.length := by
  have := repS_fold s k #[]
  rw [show (#[] : Array Nat).size = 0 from rfl, Nat.zero_add] at this
  exact this
theorem op_repS : OpR X (binaryOp .Mult) (fun x y H Q => ∃ s k, x = .str s ∧ y = .int k ∧ 2 ≤ k ∧ k ≤ 1000 ∧ 1 ≤ s.length ∧ s.length ≤ 50 ∧ Q (.str (repS k.toNat s)) H) := by
  intro pins s σ H x y v u Q I rx ry h
  obtain ⟨z, k, rfl, rfl, h1, h2, h3, h4, q⟩ := h
  obtain ⟨t, rfl⟩ := rx
  obtain ⟨t', rfl⟩ := ry
  have e1 : ¬ k < 1 := by omega
  have e2 : (k == 1 || z.length == 0) = false := by
    have a : (k == 1) = false := beq_false_of_ne (by omega)
    have b : (z.length == 0) = false := beq_false_of_ne (by omega)
    rw [a, b]; rfl
  have hm : z.length * k.toNat ≤ 50 * 1000 := Nat.mul_le_mul h4 (by omega)
  refine PySem.P.mul_str (by rw [decide_eq_false (by omega), decide_eq_false (by omega)] <;> rfl) (fun _ _ => ?_) (fun _ _ => ?_) ?_
  · have : (50 : Int) ≤ (2 ^ 63 - 1) / k := by
      rw [Int.le_ediv_iff_mul_le (by omega)]
      omega
    omega
  · show decide (z.length * k.toNat > sizeLine) = false
    exact decide_eq_false (by rw [sizeLine_eq]; omega)
  · rw [if_neg e1, if_neg (by rw [e2]; exact Bool.false_ne_true)]
    refine ⟨?_, ⟨.str _, H, I.tok _, ⟨_, rfl⟩, q⟩⟩
    show (repS k.toNat z).length ≤ sizeLine
    rw [repS_len, sizeLine_eq]
    have := Nat.mul_comm z.length k.toNat
    omega
theorem op_bin {op : Operator} : OpR X (binaryOp op) (rBin X.K op) := by
  cases op
  case Add => exact op_add.or (op_add_str.or (op_cat.or op_catA))
  case Sub => exact op_sub
  case Mult => exact op_mul.or (op_rep.or (op_repU.or op_repS))
  case Mod => exact op_mod
  case FloorDiv => exact op_fdiv
  case Pow => exact op_pow
  all_goals (intro pins s σ H x y v u Q I rx ry q; exact False.elim q)
theorem op_eqU (hu : X.A.units + 190 < cLine) : OpR X (compareOp .Eq) (rEqU X.K) := by
  intro pins s σ H x y v u Q I rx ry h
  obtain ⟨d, e, hd, he, sd, se, hm, q⟩ := h
  obtain ⟨as, r1⟩ := Dp.reads I d x v hd rx
  obtain ⟨bs, r2⟩ := Dp.reads I e y u he ry
  exact SeqAt.compareEq_reads r1 r2 sd se (by omega) ⟨.bl _, H, I, rfl, q⟩
theorem op_neU (hu : X.A.units + 190 < cLine) : OpR X (compareOp .NotEq) (rNeU X.K) := by
  intro pins s σ H x y v u Q I rx ry h
  obtain ⟨d, e, hd, he, sd, se, hm, q⟩ := h
  obtain ⟨as, r1⟩ := Dp.reads I d x v hd rx
  obtain ⟨bs, r2⟩ := Dp.reads I e y u he ry
  exact SeqAt.compareNe_reads r1 r2 sd se (by omega) ⟨.bl _, H, I, rfl, q⟩
theorem op_cmp (hu : X.A.units + 190 < cLine) {op : CmpOp} : OpR X (compareOp op) (rCmp X.K op) := by
  cases op
  case Eq => exact op_eqU hu
  case NotEq => exact op_neU hu
  case Lt => exact op_lt
  case LtE => exact op_le
  case Gt => exact op_gt
  case GtE => exact op_ge
  case Is => exact op_isN
  case IsNot => exact op_notN
  case In => exact op_in_sign.or op_in_seq
  case NotIn => exact op_notIn_sign.or op_notIn_seq
theorem sl_all : SlR X (rSlc X.K) := sl_list.or (sl_tupA.or sl_str)
theorem plain_ix {i : Expr} (h : ∀ lo hi st p, i ≠ .Slice lo hi st p) : PlainIx i := by
  intro o v
  cases i
  case Slice lo hi st p => exact absurd rfl (h lo hi st p)
  all_goals rfl
theorem last_no {op op' : CmpOp} {b c : Expr} (hb : isSet b = false) (hc : isSet c = false) : lastMarks [op, op'] [b, c] = false := by
  show behindInMarks op' c = false
  exact mark_no hc
/-- the built-ins -/
theorem pe_blt (hc : X.calm = true) {x : Str} {p pos : Pos} {e : Expr} {es : List Expr} {t : TA} (hb : isB x = true) (hg : Gl X x) (hm : X.mg x = none) (ha : PA X (e :: es) t) (hs : (e :: es).all nostar = true) :
    PE X (.Call (.Name x p) (e :: es) [] pos) (tCB (rBlt X.K x) t) := by
  have he : starEach (e :: es) X.env = (false, eval e X.env) :: starEach es X.env := star_cons (by rw [List.all_cons, Bool.and_eq_true] at hs; exact hs.1)
  have hpl : (backTo pos (starEach es X.env)).any (·.1) = false := back_plain (by rw [List.all_cons, Bool.and_eq_true] at hs; exact hs.2)
  unfold isB at hb
  simp only [Bool.or_eq_true, decide_eq_true_eq] at hb
  rcases hb with ((((((((hb | hb) | hb) | hb) | hb) | hb) | hb) | hb) | hb) | hb <;> subst hb
  · exact pe_callB call_len hg hm (by decide +kernel) ha (by decide) (by decide) he hpl
  · exact pe_callB (cr_sum hc) hg hm (by decide +kernel) ha (by decide) (by decide) he hpl
  · exact pe_callB (CallR.or (cr_max hc) (call_max2 hc)) hg hm (by decide +kernel) ha (by decide) (by decide) he hpl
  · exact pe_callB (CallR.or (cr_min hc) (call_min2 hc)) hg hm (by decide +kernel) ha (by decide) (by decide) he hpl
  · exact pe_callB call_abs hg hm (by decide +kernel) ha (by decide) (by decide) he hpl
  · exact pe_callTy call_int1 hg hm (by decide +kernel) ha (by decide) (by decide) he hpl
  · exact pe_callTy call_list_of hg hm (by decide +kernel) ha (by decide) (by decide) he hpl
  · exact pe_callTy call_tuple_of hg hm (by decide +kernel) ha (by decide) (by decide) he hpl
  · exact pe_callB (cr_all hc) hg hm (by decide +kernel) ha (by decide) (by decide) he hpl
  · exact pe_callB (cr_any hc) hg hm (by decide +kernel) ha (by decide) (by decide) he hpl
theorem tyOf_boot {T : Str} {t : String} (h : tyOf? T = some t) : bootBuiltins T = some (.type t) ∧ T ≠ "__name__" ∧ (T == ("__debug__" : Str)) = false := by
  unfold tyOf? at h
  split at h
  · next e => subst e; cases h; exact ⟨by decide +kernel, by decide, by decide⟩
  split at h
  · next e => subst e; cases h; exact ⟨by decide +kernel, by decide, by decide⟩
  split at h
  · next e => subst e; cases h; exact ⟨by decide +kernel, by decide, by decide⟩
  split at h
  · next e => subst e; cases h; exact ⟨by decide +kernel, by decide, by decide⟩
  split at h
  · next e => subst e; cases h; exact ⟨by decide +kernel, by decide, by decide⟩
  split at h
  · next e => subst e; cases h; exact ⟨by decide +kernel, by decide, by decide⟩
  · cases h
theorem pi_seq {tg l : Expr} {tl : TE} (hl : PE X l tl) : PI X tg l (iSeq X.K tl) := by
  refine ⟨fun pins s σ H R I h => ?_⟩
  refine thn (hl.run pins s σ H _ I h) fun v s1 ⟨x, H1, I1, r1, q1⟩ => ?_
  rcases q1 with ⟨a, e, ⟨xs, hq⟩, q⟩ | ⟨a, e, ⟨xs, hq⟩, q⟩ | ⟨z, e, q⟩
  · subst e
    cases r1
    obtain ⟨its, rv, p, hz⟩ := I1.list hq
    refine wpAny_pyIter_list p.isList ?_
    refine ⟨s1.heap.objs.size, [s1.heap.objs.size], _, _, H1, rfl, I1.kept (t' := s1.toks) fun b o e => Heap.get?_push_of_some _ e, turn_list a _, ⟨_, Heap.get?_push_size _ rfl, rfl, rfl⟩, fun b hb => ?_, q⟩
    have e : b = s1.heap.objs.size := by simpa using hb
    subst e
    exact I1.fpOk (Nat.le_refl _) (I1.hok.fresh (Nat.le_refl _))
  · subst e
    cases r1
    obtain ⟨its, rv, p, hz⟩ := I1.tuple hq
    refine wpAny_pyIter_tuple (show s1.heap.IsTuple a its.toArray from p) ?_
    refine ⟨s1.heap.objs.size, [s1.heap.objs.size], _, _, H1, rfl, I1.kept (t' := s1.toks) fun b o e => Heap.get?_push_of_some _ e, turn_tuple a _, ⟨_, Heap.get?_push_size _ rfl, rfl, rfl⟩, fun b hb => ?_, q⟩
    have e : b = s1.heap.objs.size := by simpa using hb
    subst e
    exact I1.fpOk (Nat.le_refl _) (I1.hok.fresh (Nat.le_refl _))
  · subst e
    obtain ⟨t, rfl⟩ := r1
    cases ha : z.cps.all (· < 128)
    · exact wpAny_pyIter_wide ha (pi_one (tk := s1.toks) I1 _ (turn_str _ z t "str_iterator" (.inr rfl)) ⟨_, Heap.get?_push_size _ rfl, rfl, rfl⟩ q)
    · exact wpAny_pyIter_ascii ha (pi_one (tk := s1.toks) I1 _ (turn_str _ z t "str_ascii_iterator" (.inl rfl)) ⟨_, Heap.get?_push_size _ rfl, rfl, rfl⟩ q)
theorem idx_get {N : List Str} {x : Str} (h : N.idxOf x < N.length) : N[N.idxOf x]? = some x := by
  rw [List.getElem?_eq_getElem h]
  exact congrArg some (List.getElem_idxOf h)
theorem Mt.slot (M : Mt Γ X W) {x : Str} {i : Nat} (h : Γ.slot x = some i) : X.N[i]? = some x ∧ Vis X.env.scope x ∧ (x == ("__debug__" : Str)) = false ∧ (x == ("__classdict__" : Str)) = false := by
  unfold Gm.slot at h
  split at h
  · next hv =>
    simp only [Bool.and_eq_true] at hv
    simp only at h
    split at h
    · next hl =>
      cases h
      have ho := hv.2
      unfold okName at ho
      simp only [Bool.and_eq_true, Bool.not_eq_true'] at ho
      exact ⟨by rw [M.N]; exact idx_get hl, M.vis x hv.1, ho.1.1, ho.1.2⟩
    · cases h
  · cases h
theorem Mt.glob (M : Mt Γ X W) {x : Str} (h : Γ.glob x = true) : Gl X x ∧ (x == ("__debug__" : Str)) = false ∧ x ≠ "__name__" := by
  unfold Gm.glob at h
  simp only [Bool.and_eq_true] at h
  have ho := h.2
  unfold okName at ho
  simp only [Bool.and_eq_true, Bool.not_eq_true'] at ho
  exact ⟨M.glb x h.1, ho.1.1, by simpa using ho.2⟩
/-- targets -/
theorem Mt.name (M : Mt Γ X W) {x : Str} {pos : Pos} (h : (locB Γ.sc x && okName x && decide (Γ.N.idxOf x < Γ.N.length)) = true) : PG X (.Name x pos) (gName (Γ.N.idxOf x)) := by
  simp only [Bool.and_eq_true, decide_eq_true_eq] at h
  exact pg_name (by rw [M.N]; exact M.nd) (by rw [M.N]; exact idx_get h.2) (.inl (M.loc x h.1.1)) (.inr (M.loc x h.1.1))
theorem Mt.names (M : Mt Γ X W) : ∀ {es : List Expr} {is : List Nat}, slotsT Γ es = some is → PGs X es (gs is) ∧ (assignEach es X.env).length = is.length ∧ (assignEach es X.env).findIdx? (·.1) = none
  | [], is, h => by
    unfold slotsT at h
    cases h
    exact ⟨pgs_nil, rfl, rfl⟩
  | e :: es, is, h => by
    cases e
    case Name x p =>
      unfold slotsT at h
      split at h
      · next hc =>
        simp only [Option.map_eq_some_iff] at h
        obtain ⟨js, hj, rfl⟩ := h
        obtain ⟨h1, h2, h3⟩ := M.names hj
        refine ⟨pgs_cons (M.name hc) h1 rfl, ?_, ?_⟩
        · show (assignEach es X.env).length + 1 = js.length + 1
          rw [h2]
        · show ((false, assign (.Name x p) X.env) :: assignEach es X.env).findIdx? (·.1) = none
          rw [List.findIdx?_cons, h3]
          rfl
      · cases h
    all_goals (unfold slotsT at h; cases h)
theorem Mt.tgt (M : Mt Γ X W) {e : Expr} {t : Tg} (h : tgt Γ e = some t) : PG X e (gT Γ.K t) := by
  cases e
  case Name x p =>
    change (if (locB Γ.sc x && okName x && decide (Γ.N.idxOf x < Γ.N.length)) = true then some (Tg.name (Γ.N.idxOf x)) else none) = some t at h
    split at h
    · next hc => cases h; exact M.name hc
    · cases h
  case Tuple es k p =>
    unfold PD.tgt at h
    simp only [Option.map_eq_some_iff] at h
    obtain ⟨is, hi, rfl⟩ := h
    obtain ⟨h1, h2, h3⟩ := M.names hi
    have q := pg_tup (pos := p) (k := k) M.calm h1 h2 h3
    rw [M.K] at q
    exact q
  all_goals (unfold PD.tgt at h; cases h)
theorem lookup_relabel {env : Env} : ∀ {names : List (Str × NameKind)} {x : Str},
    (names.map fun (n, k) => if (k == NameKind.free && env.scope.kind == .function && env.kindOf n == some .cell) then (n, NameKind.cell) else (n, k)).lookup x =
      (names.lookup x).map fun k => if (k == NameKind.free && env.scope.kind == .function && env.kindOf x == some .cell) then NameKind.cell else k
  | [], _ => rfl
  | (n, k) :: r, x => by
    have ih := @lookup_relabel env r x
    show List.lookup x ((if (k == NameKind.free && env.scope.kind == .function && env.kindOf n == some .cell) = true then (n, NameKind.cell) else (n, k)) :: _) = _
    cases hx : x == n with
    | true =>
      have e : x = n := by simpa using hx
      subst e
      by_cases hc : (k == NameKind.free && env.scope.kind == .function && env.kindOf x == some .cell) = true
      · rw [if_pos hc]; simp only [List.lookup_cons, hx, Option.map_some, hc, if_true]
      · rw [if_neg hc]; simp only [List.lookup_cons, hx, Option.map_some]; rw [if_neg hc]
    | false =>
      by_cases hc : (k == NameKind.free && env.scope.kind == .function && env.kindOf n == some .cell) = true
      · rw [if_pos hc]; simp only [List.lookup_cons, hx]; exact ih
      · rw [if_neg hc]; simp only [List.lookup_cons, hx]; exact ih
theorem vis_of {sc : Scope} {x : Str} (h : visB sc x = true) : sc.names.lookup x = some .local ∨ sc.names.lookup x = some .cell ∨ sc.names.lookup x = some .free := by
  unfold visB at h
  split at h
  · next e => exact .inl e
  · next e => exact .inr (.inl e)
  · next e => exact .inr (.inr e)
  · cases h
theorem Mt.blk (M : Mt Γ X W) (s : Shared) (H : Hp) (scope : Scope) (C : Addr) (cl : List (Str × Addr)) (fp : List Addr) :
    Mt { Γ with sc := scope } (X.blk s H scope (compEnvC scope cl C X.env) fp) (fun _ _ _ _ => False) where
  K := M.K
  N := M.N
  nd := M.nd
  vis := fun x h => by
    show (relabel scope X.env).names.lookup x = _ ∨ (relabel scope X.env).names.lookup x = _ ∨ (relabel scope X.env).names.lookup x = _
    unfold relabel
    simp only [lookup_relabel]
    rcases vis_of h with e | e | e
    · rw [e]; exact .inl rfl
    · rw [e]; exact .inr (.inl rfl)
    · rw [e, Option.map_some]
      split
      · exact .inr (.inl rfl)
      · exact .inr (.inr rfl)
  loc := fun x h => by
    show (relabel scope X.env).names.lookup x = _
    unfold relabel
    simp only [lookup_relabel]
    unfold locB at h
    split at h
    · next e => rw [e]; rfl
    · cases h
  glb := fun x h => by
    show (relabel scope X.env).names.lookup x = _
    unfold relabel
    simp only [lookup_relabel]
    unfold glbB at h
    split at h
    · next e => rw [e]; rfl
    · cases h
  cel := fun x h => by
    show (relabel scope X.env).names.lookup x = _ ∨ (relabel scope X.env).names.lookup x = _
    unfold relabel
    simp only [lookup_relabel]
    rcases h with e | e
    · rw [e]; exact .inl rfl
    · rw [e, Option.map_some]
      split
      · exact .inl rfl
      · exact .inr rfl
  calm := M.calm
  tk := takes0
  gl := M.gl
  fn := M.fn
  fr := M.fr
  bl := M.bl
  un := M.un
theorem blk_ok (M : Mt Γ X W) {scope : Scope} {own : List (Str × Nat)} (h : blkC Γ.N Γ.sc scope own = true) : BlkOk X.N X.env.scope scope own := by
  obtain ⟨h1, h2, h3, h4, h5⟩ := blkOk_by h
  exact ⟨h1, h2, by rw [M.N]; exact h3, fun y hy e => M.cel _ (h4 y hy e), by rw [M.N]; exact h5⟩
theorem fold_no {iter : Expr} (h : isSet iter = false) : ∀ (env : Env) (x : Value), foldedSetIterable iter env x = pure x := by
  intro env x
  cases iter <;> first | rfl | (exact Bool.noConfusion h)
theorem true_plain {e : Expr} {env : Env} (h1 : ∀ a p, e ≠ .UnaryOp .Not a p) (h2 : ∀ op es p, e ≠ .BoolOp op es p) (h3 : ∀ a b c p, e ≠ .IfExp a b c p) (h4 : ∀ a b c p, e ≠ .Compare a b c p) :
    ∀ whole, isTrue e env whole = (do let v ← whole; standAt e.pos; holding [v] (truthy v)) := by
  intro whole
  cases e
  case UnaryOp op a p =>
    cases op
    case Not => exact absurd rfl (h1 a p)
    all_goals rfl
  case BoolOp op es p => exact absurd rfl (h2 op es p)
  case IfExp a b c p => exact absurd rfl (h3 a b c p)
  case Compare a b c p => exact absurd rfl (h4 a b c p)
  all_goals rfl
end
end PD

/-! PD4: the readings are right, all of them. -/
namespace PD
open PySem L2

structure PAll (n : Nat) (Γ : Gm) (X : Cx) (W : WX) : Prop where
  e : ∀ e, PE X e (trE n Γ W e)
  t : ∀ e, PT X e (trT n Γ W e)
  a : ∀ es, PA X es (trA n Γ W es)
  b : ∀ op es pos, PE X (.BoolOp op es pos) (trBool n Γ W op es)
  w : ∀ op es pos, PW X (.BoolOp op es pos) (trBoolT n Γ W op es)
  i : ∀ tg e, PI X tg e (trI n Γ W e)
  f : ∀ es, PTs X es (trIfs n Γ W es)

theorem pall0 {Γ : Gm} {X : Cx} {W : WX} : PAll 0 Γ X W := ⟨fun _ => pe_no, fun _ => pt_no, fun _ => pa_no, fun _ _ _ => pe_no, fun _ _ _ => pw_no, fun _ _ => pi_no, fun _ => pts_no⟩

section
variable {n : Nat} {Γ : Gm} {X : Cx} {W : WX}
theorem star_one {e : Expr} {env : Env} (h : nostar e = true) : starEach [e] env = [(false, eval e env)] := by
  cases e
  case Starred v p => cases h
  all_goals rfl
theorem pe_call_tr (M : Mt Γ X W) (A : PAll n Γ X W) (f : Expr) (args : List Expr) (kws : List Keyword) (pos : Pos) : PE X (.Call f args kws pos) (trE (n + 1) Γ W (.Call f args kws pos)) := by
  unfold trE
  dsimp only
  split
  · next x p =>
    split
    · next hg =>
      obtain ⟨g1, g2, g3⟩ := M.glob hg
      split
      · next sem hf =>
        split
        · exact pe_no
        · next e es =>
          split
          · next hs =>
            obtain ⟨fa, fd, ps, j, hr, F, hm, hk, hb⟩ := M.fn x sem hf
            have hs' := hs
            rw [List.all_cons, Bool.and_eq_true] at hs'
            exact pe_callS F hr g1 hm hk hb (fun σ => passAt M.tk σ) (A.a _) g2 (star_cons hs'.1) (back_plain hs'.2)
          · exact pe_no
      · next hf =>
        split
        · next hx =>
          subst hx
          split
          · next e T q =>
            split
            · next hc =>
              simp only [Bool.and_eq_true] at hc
              split
              · next t ht =>
                obtain ⟨gT, _, _⟩ := M.glob hc.1
                obtain ⟨b1, b2, b3⟩ := tyOf_boot ht
                have mT : X.mg T = none := M.bl T (.inr (.inr (.inr (by rw [ht]; rfl))))
                have q1 := pe_callB (X := X) (id := "isinstance") call_isi g1 (M.bl _ (.inr (.inl rfl))) (by decide +kernel) (pa_cons (A.e e) (pa_cons (pe_bltn (pos := q) gT mT b1 (show RelV (.ty t) (.type t) from rfl) b2 b3) pa_nil) (star_cons hc.2)) (by decide) (by decide) (p := p) (pos := pos) (star_cons hc.2) rfl
                rw [M.K] at q1
                exact q1
              · exact pe_no
            · exact pe_no
          · exact pe_no
        · split
          · next hb =>
            split
            · exact pe_no
            · next e es =>
              split
              · next hs =>
                have q1 := pe_blt (X := X) (p := p) (pos := pos) M.calm hb g1 (M.bl x (.inl hb)) (A.a (e :: es)) hs
                rw [M.K] at q1
                exact q1
              · exact pe_no
          · exact pe_no
    · exact pe_no
  · next a ck cp m ap =>
    split
    · next e =>
      split
      · next hc =>
        obtain ⟨rfl, h2, h3⟩ := hc
        have q1 := pe_join (X := X) (o := .Constant (.str a) ck cp) (apos := ap) (pos := pos) pe_str (A.e e) (star_one h2) rfl h3
        rw [M.K] at q1
        exact q1
      · exact pe_no
    · exact pe_no
  · exact pe_no
theorem pe_comp_tr (M : Mt Γ X W) (A : PAll n Γ X W) (B : ∀ Γ X W, Mt Γ X W → PAll n Γ X W) (elt : Expr) (gens : List Comprehension) (scope : Scope) (pos : Pos) : PE X (.ListComp elt gens scope pos) (trE (n + 1) Γ W (.ListComp elt gens scope pos)) := by
  unfold trE
  dsimp only
  have hN : X.N.Nodup := by rw [M.N]; exact M.nd
  split
  · next tg iter ifs =>
    split
    · exact pe_no
    · next hi =>
      have hi' : isSet iter = false := by simpa using hi
      split
      · next hb =>
        split
        · next t ht =>
          exact pe_lc (own := ownOf Γ scope) M.calm hN (A.i tg iter) (blk_ok M hb) (fun s H C cl fp => (M.blk s H scope C cl fp).tgt ht) (fun s H C cl fp => (B _ _ _ (M.blk s H scope C cl fp)).f ifs)
            (fun s H C cl fp => (B _ _ _ (M.blk s H scope C cl fp)).e elt) (fold_no hi' _)
        · exact pe_no
      · exact pe_no
  · next tg iter ifs tg1 iter1 ifs1 =>
    split
    · exact pe_no
    · next hi =>
      have hi' : isSet iter = false ∧ isSet iter1 = false := by simpa [Bool.or_eq_true, not_or] using hi
      split
      · next hb =>
        split
        · next t t1 ht ht1 =>
          split
          · next hv =>
            simp only [List.all_eq_true, decide_eq_true_eq] at hv
            exact pe_lc2 (own := ownOf Γ scope) M.calm hN (A.i tg iter) (blk_ok M hb) hv (fun s H C cl fp => (M.blk s H scope C cl fp).tgt ht) (fun s H C cl fp => (B _ _ _ (M.blk s H scope C cl fp)).f ifs)
              (fun s H C cl fp => (B _ _ _ (M.blk s H scope C cl fp)).i tg1 iter1) (fun s H C cl fp => (M.blk s H scope C cl fp).tgt ht1) (fun s H C cl fp => (B _ _ _ (M.blk s H scope C cl fp)).f ifs1)
              (fun s H C cl fp => (B _ _ _ (M.blk s H scope C cl fp)).e elt) (fold_no hi'.1 _) (fun env => fold_no hi'.2 env)
          · exact pe_no
        · exact pe_no
      · exact pe_no
  · exact pe_no
theorem pe_tr (M : Mt Γ X W) (A : PAll n Γ X W) (B : ∀ Γ X W, Mt Γ X W → PAll n Γ X W) (e : Expr) : PE X e (trE (n + 1) Γ W e) := by
  cases e
  case Call f args kws pos => exact pe_call_tr M A f args kws pos
  case ListComp elt gens scope pos => exact pe_comp_tr M A B elt gens scope pos
  case Name x pos =>
    unfold trE
    dsimp only
    split
    · next i hi =>
      obtain ⟨h1, h2, h3, h4⟩ := M.slot hi
      exact pe_var h1 h2 h3 h4
    · split
      · next hg =>
        obtain ⟨g1, g2, g3⟩ := M.glob hg
        split
        · next v d hd =>
          obtain ⟨u, hm, r⟩ := M.gl x v d hd
          exact pe_glob g1 hm r g2
        · exact pe_no
      · exact pe_no
  case Constant c k pos =>
    unfold trE
    dsimp only
    split
    · exact pe_non
    · exact pe_bl
    · exact pe_int
    · exact pe_str
    · exact pe_no
  case BinOp a op b pos =>
    unfold trE
    have q := pe_op (pos := pos) (op_bin (X := X) (op := op)) (A.e a) (A.e b)
    rw [M.K] at q
    exact q
  case UnaryOp op a pos =>
    unfold trE
    cases op
    case Not => exact pe_not (A.e a)
    case USub => exact pe_un un_neg (A.e a)
    all_goals exact pe_no
  case BoolOp op es pos => exact A.b op es pos
  case Compare a ops cs pos =>
    unfold trE
    dsimp only
    split
    · next op b =>
      split
      · exact pe_no
      · next hb =>
        have q := pe_cmpR (pos := pos) (op_cmp (X := X) M.un (op := op)) (A.e a) (A.e b) (mark_no (by simpa using hb))
        rw [M.K] at q
        exact q
    · next op op' b c =>
      split
      · exact pe_no
      · next hb =>
        have hb' : isSet b = false ∧ isSet c = false := by simpa [Bool.or_eq_true, not_or] using hb
        have q := pe_chain (pos := pos) (op_cmp (X := X) M.un (op := op)) (op_cmp (X := X) M.un (op := op')) (A.e a) (A.e b) (A.e c) (last_no hb'.1 hb'.2)
        rw [M.K] at q
        exact q
    · exact pe_no
  case IfExp c a b pos => exact pe_ifExp (A.t c) (A.e a) (A.e b)
  case Tuple es k pos => exact pe_tup (A.a es)
  case List es pos => exact pe_lst (A.a es)
  case Subscript a s pos =>
    unfold trE
    dsimp only
    split
    · next lo hi st p =>
      split
      · have q := pe_slice (pos := pos) (p2 := p) (sl_all (X := X)) (A.e a) (lo := lo) (hi := hi) (tl := match lo with | none => tNoPart | some l => tPart (trE n Γ W l)) (th := match hi with | none => tNoPart | some h => tPart (trE n Γ W h))
          (by cases lo with | none => exact po_none | some l => exact po_some (A.e l)) (by cases hi with | none => exact po_none | some l => exact po_some (A.e l))
        rw [M.K] at q
        exact q
      · exact pe_no
    · next hs =>
      have q := pe_ix (pos := pos) (ix_seq (X := X)) (A.e a) (A.e s) (plain_ix fun lo hi st p e => hs lo hi st p e)
      rw [M.K] at q
      exact q
  all_goals exact pe_no
theorem pt_tr (M : Mt Γ X W) (A : PAll n Γ X W) (e : Expr) : PT X e (trT (n + 1) Γ W e) := by
  have plain : ∀ e, (∀ a p, e ≠ .UnaryOp .Not a p) → (∀ op es p, e ≠ .BoolOp op es p) → (∀ a b c p, e ≠ .IfExp a b c p) → (∀ a b c p, e ≠ .Compare a b c p) → PT X e (tTr Γ.K (trE n Γ W e)) := fun e h1 h2 h3 h4 => by
    have q := pt_truth (A.e e) (true_plain (env := X.env) h1 h2 h3 h4)
    rw [M.K] at q
    exact q
  cases e
  case UnaryOp op a pos =>
    cases op
    case Not => exact pt_not (A.t a)
    all_goals exact plain _ (fun _ _ h => by cases h) (fun _ _ _ h => by cases h) (fun _ _ _ _ h => by cases h) (fun _ _ _ _ h => by cases h)
  case BoolOp op es pos => exact (A.w op es pos).pt
  case IfExp a b c p => exact pt_no
  case Compare a ops cs pos =>
    unfold trT
    dsimp only
    split
    · next op b =>
      split
      · exact pt_no
      · next hb =>
        have q := pt_cmpR (pos := pos) (op_cmp (X := X) M.un (op := op)) (A.e a) (A.e b) (mark_no (by simpa using hb))
        rw [M.K] at q
        exact q
    · next op op' b c =>
      split
      · exact pt_no
      · next hb =>
        have hb' : isSet b = false ∧ isSet c = false := by simpa [Bool.or_eq_true, not_or] using hb
        have q := pt_chain (pos := pos) (op_cmp (X := X) M.un (op := op)) (op_cmp (X := X) M.un (op := op')) (A.e a) (A.e b) (A.e c) (last_no hb'.1 hb'.2)
        rw [M.K] at q
        exact q
    · exact pt_no
  all_goals exact plain _ (fun _ _ h => by cases h) (fun _ _ _ h => by cases h) (fun _ _ _ _ h => by cases h) (fun _ _ _ _ h => by cases h)
theorem pall (n : Nat) : ∀ (Γ : Gm) (X : Cx) (W : WX), Mt Γ X W → PAll n Γ X W := by
  induction n with
  | zero => exact fun _ _ _ _ => pall0
  | succ n ih =>
    intro Γ X W M
    have A := ih Γ X W M
    refine ⟨pe_tr M A ih, pt_tr M A, fun es => ?_, fun op es pos => ?_, fun op es pos => ?_, fun tg e => ?_, fun es => ?_⟩
    · cases es with
      | nil => exact pa_nil
      | cons e r =>
        unfold trA
        dsimp only
        split
        · next h => exact pa_cons (A.e e) (A.a r) (star_cons h)
        · exact pa_no
    · unfold trBool
      match es with
      | [] => exact pe_no
      | [a] => exact pe_one (A.e a)
      | a :: b :: r =>
        cases op
        · exact pe_and (A.e a) (A.b _ _ _)
        · exact pe_or (A.e a) (A.b _ _ _)
    · unfold trBoolT
      match es with
      | [] => exact pw_no
      | [a] =>
        cases op
        · exact pw_and1 (A.t a)
        · exact pw_or1 (A.t a)
      | a :: b :: r =>
        cases op
        · exact pw_and (A.t a) (A.w _ _ _)
        · exact pw_or (A.t a) (A.w _ _ _)
    · have plain : ∀ e, PI X tg e (iSeq Γ.K (trE n Γ W e)) := fun e => by
        have q := pi_seq (tg := tg) (A.e e)
        rw [M.K] at q
        exact q
      unfold trI
      split
      · next x p args q =>
        split
        · next hx =>
          subst hx
          split
          · next hg =>
            obtain ⟨g1, g2, g3⟩ := M.glob hg
            split
            · next a =>
              split
              · next ha => exact pi_range1 g1 (M.bl _ (.inr (.inr (.inl rfl)))) (A.a [a]) (star_cons ha)
              · exact pi_no
            · next a b =>
              split
              · next hab =>
                simp only [Bool.and_eq_true] at hab
                exact pi_range2 g1 (M.bl _ (.inr (.inr (.inl rfl)))) (A.a [a, b]) (by rw [star_cons hab.1, star_cons hab.2]; rfl) (star_cons hab.2)
              · exact pi_no
            · exact pi_no
          · exact pi_no
        · exact plain _
      · exact plain _
    · unfold trIfs
      match es with
      | [] => exact pts_nil
      | [c] => exact pts_one (A.t c)
      | _ :: _ :: _ => exact pts_no
end
end PD

/-! PD5: the operations on data are those of the readings. -/
namespace PD
open PySem L2
section
variable {K : PySem.W.Frag} {cl : Cls} {W : WX} {S : Addr → Prop} {as : As} {σ : L2.St} {H : Hp} {δ : Sl} {Q : VK}
theorem lim_size {n : Nat} (h : n ≤ LIM) : n ≤ sizeLine := by
  rw [sizeLine_eq]; unfold LIM at h; omega
theorem lim_lt {n : Nat} (h : n < LIM) : n < sizeLine := by
  rw [sizeLine_eq]; unfold LIM at h; omega
theorem Rp.lift {v : V} {d : Dt} (h : Rp K (hid H S) v d) : Rp K H v d := Rp.mono hid_le d h
theorem RpAll.rep {us : List V} {ds : List Dt} (h : RpAll K H us ds) : ∀ n, RpAll K H (List.replicate n us).flatten (List.replicate n ds).flatten
  | 0 => .nil
  | n + 1 => by
    rw [List.replicate_succ, List.replicate_succ, List.flatten_cons, List.flatten_cons]
    exact RpAll.append h (RpAll.rep h n)
theorem RpAll.nil_iff {us : List V} {ds : List Dt} (h : RpAll K H us ds) : us = [] ↔ ds = [] := by
  have := h.length
  constructor
  · intro e; subst e; exact List.eq_nil_of_length_eq_zero this.symm
  · intro e; subst e; exact List.eq_nil_of_length_eq_zero this
/-- a new list, a new tuple -/
theorem Pk.newL {us : List V} {ds : List Dt} (p : Pk K cl W S as σ H Q (.ok (.lst ds) δ)) (eo : EO K S as H σ δ) (h : RpAll K (hid H S) us ds) {a : Addr} (hn : H a = none) : Q (.ref a) (upd H a (.lst us)) :=
  p.new eo hn (.lst (eo.at_new hn) (RpAll.mono (eo.frnew (o := .lst us) hn).le _ h))
theorem Pk.newT {us : List V} {ds : List Dt} (p : Pk K cl W S as σ H Q (.ok (.tup ds) δ)) (eo : EO K S as H σ δ) (h : RpAll K (hid H S) us ds) {a : Addr} (hn : H a = none) : Q (.ref a) (upd H a (.tup us)) :=
  p.new eo hn (.tup (Or.inl (Or.inl (eo.at_new hn))) (RpAll.mono (eo.frnew (o := .tup us) hn).le _ h))
theorem bin_ok {op : Operator} {x y d : Dt} {v u : V} (eo : EO K S as H σ δ) (hx : Rp K (hid H S) v x) (hy : Rp K (hid H S) u y) (hb : binD op x y = some d) (p : Pk K cl W S as σ H Q (.ok d δ)) : rBin K op v u H Q := by
  unfold binD at hb
  split at hb
  · next i j =>
    cases hx; cases hy
    cases op <;> simp only at hb
    case Add => cases hb; exact Or.inl ⟨i, j, rfl, rfl, p.here eo (.int _)⟩
    case Sub => cases hb; exact ⟨i, j, rfl, rfl, p.here eo (.int _)⟩
    case Mult =>
      split at hb
      · next c => cases hb; exact Or.inl ⟨i, j, rfl, rfl, c, p.here eo (.int _)⟩
      · cases hb
    case Mod =>
      split at hb
      · next c => cases hb; exact ⟨i, j, rfl, rfl, c, p.here eo (.int _)⟩
      · cases hb
    case FloorDiv =>
      split at hb
      · next c => cases hb; exact ⟨i, j, rfl, rfl, c, p.here eo (.int _)⟩
      · cases hb
    case Pow =>
      split at hb
      · next c => cases hb; exact ⟨i, j, rfl, rfl, c, p.here eo (.int _)⟩
      · cases hb
    all_goals cases hb
  · next s t =>
    cases hx; cases hy
    cases op <;> simp only at hb
    case Add =>
      split at hb
      · next c => cases hb; exact Or.inr (Or.inl ⟨s, t, rfl, rfl, lim_size c, p.here eo (.str _)⟩)
      · cases hb
    all_goals cases hb
  · next xs ys =>
    cases hx with
    | lst h1 h2 =>
      cases hy with
      | lst h3 h4 =>
        cases op <;> simp only at hb
        case Add =>
          split at hb
          · next c =>
            cases hb
            exact Or.inr (Or.inr (Or.inl ⟨_, _, _, _, rfl, rfl, hid_le _ _ h1, hid_le _ _ h3, by rw [h2.length, h4.length]; exact lim_size c, fun a hn => p.newL eo (h2.append h4) hn⟩))
          · cases hb
        all_goals cases hb
  · next xs ys =>
    cases hx with
    | tup h1 h2 =>
      cases hy with
      | tup h3 h4 =>
        cases op <;> simp only at hb
        case Add =>
          split at hb
          · next c =>
            cases hb
            refine Or.inr (Or.inr (Or.inr ⟨_, _, _, _, rfl, rfl, hid_le.sqt h1, hid_le.sqt h3, by rw [h2.length, h4.length]; exact lim_size c, fun e => ?_, fun e1 e2 => ?_, fun _ _ a hn => p.newT eo (h2.append h4) hn⟩))
            · have e' := (h2.nil_iff).mp e
              subst e'
              exact p.here eo (.tup h3 h4)
            · have e' := (h4.nil_iff).mp e2
              subst e'
              rw [List.append_nil] at p
              exact p.here eo (.tup h1 h2)
          · cases hb
        all_goals cases hb
  · next xs k =>
    cases hx with
    | lst h1 h2 =>
      cases hy
      cases op <;> simp only at hb
      case Mult =>
        split at hb
        · next c =>
          cases hb
          refine Or.inr (Or.inl ⟨_, k, _, rfl, rfl, hid_le _ _ h1, by omega, by omega, ?_, fun a hn => p.newL eo (h2.rep _) hn⟩)
          rw [h2.length, sizeLine_eq]
          have a1 : xs.length * k.toNat ≤ 50 * 1000 := Nat.mul_le_mul c.2.2 (by omega)
          omega
        · cases hb
      all_goals cases hb
  · next xs k =>
    cases hx with
    | tup h1 h2 =>
      cases hy
      cases op <;> simp only at hb
      case Mult =>
        split at hb
        · next c =>
          cases hb
          refine Or.inr (Or.inr (Or.inl ⟨_, k, _, rfl, rfl, hid_le.sqt h1, c.1, by omega, by rw [h2.length]; omega, fun e => ?_, fun _ _ a hn => p.newT eo (h2.rep _) hn⟩))
          rcases e with e | e
          · have e' := (h2.nil_iff).mp e
            subst e'
            have z : (List.replicate k.toNat ([] : List Dt)).flatten = [] := by simp
            rw [z] at p
            exact p.here eo (.tup h1 h2)
          · subst e
            have z : (List.replicate (1 : Int).toNat xs).flatten = xs := by simp
            rw [z] at p
            exact p.here eo (.tup h1 h2)
        · cases hb
      all_goals cases hb
  · next s k =>
    cases hx; cases hy
    cases op <;> simp only at hb
    case Mult =>
      split at hb
      · next c =>
        cases hb
        exact Or.inr (Or.inr (Or.inr ⟨s, k, rfl, rfl, c.1, c.2.1, c.2.2.1, c.2.2.2, p.here eo (.str _)⟩))
      · cases hb
    all_goals cases hb
  · cases hb
theorem strs_ok {K : PySem.W.Frag} {H : Hp} : ∀ {ds : List Dt} {vs : List V} {ys : List Str}, RpAll K H vs ds → strsD ds = some ys → vs = ys.map V.str
  | [], _, _, h, e => by cases h; simp [strsD] at e; subst e; rfl
  | d :: ds, _, ys, h, e => by
    cases h with
    | cons h1 h2 =>
      cases d
      case str s =>
        simp only [strsD, Option.map_eq_some_iff] at e
        obtain ⟨zs, e1, rfl⟩ := e
        cases h1
        rw [strs_ok h2 e1]; rfl
      all_goals simp [strsD] at e
theorem fl_ok {d : Dt} {v w : V} (h : Rp K H v d) (e : flD d = some w) : v = w ∧ flatV w = true := by
  cases h <;> simp only [flD] at e <;> cases e <;> exact ⟨rfl, rfl⟩
theorem fls_ok : ∀ {ds : List Dt} {vs ws : List V}, RpAll K H vs ds → flDs ds = some ws → vs = ws ∧ ws.all flatV = true
  | [], _, _, h, e => by cases h; simp only [flDs] at e; cases e; exact ⟨rfl, rfl⟩
  | d :: ds, _, _, h, e => by
    cases h with
    | cons h1 h2 =>
      simp only [flDs, Option.bind_eq_some_iff, Option.map_eq_some_iff] at e
      obtain ⟨w, e1, ws, e2, rfl⟩ := e
      obtain ⟨a1, a2⟩ := fl_ok h1 e1
      obtain ⟨b1, b2⟩ := fls_ok h2 e2
      subst a1; subst b1
      exact ⟨rfl, by rw [List.all_cons, a2, b2]; rfl⟩
theorem non_iff {d : Dt} {v : V} (h : Rp K H v d) : decide (v = .non) = isNon d := by
  cases h <;> rfl
theorem cmp_ok {op : CmpOp} {x y : Dt} {b : Bool} {v u : V} (eo : EO K S as H σ δ) (hx : Rp K (hid H S) v x) (hy : Rp K (hid H S) u y) (hb : cmpD op x y = some b) (q : Q (.bl b) H) : rCmp K op v u H Q := by
  unfold cmpD at hb
  cases op <;> simp only at hb
  case Eq =>
    simp only [eqD, Option.bind_eq_some_iff] at hb
    obtain ⟨a, e1, c, e2, hb⟩ := hb
    split at hb
    · next z => cases hb; exact ⟨a, c, Rp.dp _ hx.lift e1, Rp.dp _ hy.lift e2, z.1, z.2.1, z.2.2, q⟩
    · cases hb
  case NotEq =>
    simp only [eqD, Option.map_eq_some_iff, Option.bind_eq_some_iff] at hb
    obtain ⟨b', ⟨a, e1, c, e2, hb⟩, rfl⟩ := hb
    split at hb
    · next z => cases hb; exact ⟨a, c, Rp.dp _ hx.lift e1, Rp.dp _ hy.lift e2, z.1, z.2.1, z.2.2, q⟩
    · cases hb
  case Lt =>
    split at hb
    · next i j => cases hx; cases hy; cases hb; exact ⟨i, j, rfl, rfl, q⟩
    · cases hb
  case LtE =>
    split at hb
    · next i j => cases hx; cases hy; cases hb; exact ⟨i, j, rfl, rfl, q⟩
    · cases hb
  case Gt =>
    split at hb
    · next i j => cases hx; cases hy; cases hb; exact ⟨i, j, rfl, rfl, q⟩
    · cases hb
  case GtE =>
    split at hb
    · next i j => cases hx; cases hy; cases hb; exact ⟨i, j, rfl, rfl, q⟩
    · cases hb
  case Is =>
    split at hb
    · cases hy
      cases hb
      refine ⟨rfl, ?_⟩
      rw [non_iff hx]
      exact q
    · cases hb
  case IsNot =>
    split at hb
    · cases hy
      cases hb
      refine ⟨rfl, ?_⟩
      rw [non_iff hx]
      exact q
    · cases hb
  case In =>
    unfold inD at hb
    split at hb
    · next c z =>
      cases hx; cases hy
      split at hb
      · next h1 =>
        cases hb
        obtain ⟨⟨l⟩⟩ := c
        match l, h1 with
        | [k], _ => exact Or.inl ⟨k, z, rfl, rfl, q⟩
      · cases hb
    · next xs _ =>
      simp only [Option.bind_eq_some_iff, Option.map_eq_some_iff] at hb
      obtain ⟨w, e1, ws, e2, rfl⟩ := hb
      cases hy with
      | lst h1 h2 =>
        obtain ⟨rfl, a2⟩ := fl_ok hx e1
        obtain ⟨rfl, b2⟩ := fls_ok h2 e2
        exact Or.inr ⟨_, _, rfl, Or.inl (Or.inl (Or.inl (hid_le _ _ h1))), a2, b2, q⟩
    · next xs _ =>
      simp only [Option.bind_eq_some_iff, Option.map_eq_some_iff] at hb
      obtain ⟨w, e1, ws, e2, rfl⟩ := hb
      cases hy with
      | tup h1 h2 =>
        obtain ⟨rfl, a2⟩ := fl_ok hx e1
        obtain ⟨rfl, b2⟩ := fls_ok h2 e2
        exact Or.inr ⟨_, _, rfl, Or.inr (hid_le.sqt h1), a2, b2, q⟩
    · cases hb
  case NotIn =>
    simp only [Option.map_eq_some_iff] at hb
    obtain ⟨b', hb, rfl⟩ := hb
    unfold inD at hb
    split at hb
    · next c z =>
      cases hx; cases hy
      split at hb
      · next h1 =>
        cases hb
        obtain ⟨⟨l⟩⟩ := c
        match l, h1 with
        | [k], _ => exact Or.inl ⟨k, z, rfl, rfl, q⟩
      · cases hb
    · next xs _ =>
      simp only [Option.bind_eq_some_iff, Option.map_eq_some_iff] at hb
      obtain ⟨w, e1, ws, e2, rfl⟩ := hb
      cases hy with
      | lst h1 h2 =>
        obtain ⟨rfl, a2⟩ := fl_ok hx e1
        obtain ⟨rfl, b2⟩ := fls_ok h2 e2
        exact Or.inr ⟨_, _, rfl, Or.inl (Or.inl (Or.inl (hid_le _ _ h1))), a2, b2, q⟩
    · next xs _ =>
      simp only [Option.bind_eq_some_iff, Option.map_eq_some_iff] at hb
      obtain ⟨w, e1, ws, e2, rfl⟩ := hb
      cases hy with
      | tup h1 h2 =>
        obtain ⟨rfl, a2⟩ := fl_ok hx e1
        obtain ⟨rfl, b2⟩ := fls_ok h2 e2
        exact Or.inr ⟨_, _, rfl, Or.inr (hid_le.sqt h1), a2, b2, q⟩
    · cases hb
theorem atI_rp {ds : List Dt} {us : List V} {i : Int} {d : Dt} (h : RpAll K H us ds) (e : atI ds i = some d) : ∃ v, atI us i = some v ∧ Rp K H v d := by
  unfold atI at e ⊢
  rw [h.length]
  cases hi : ixN ds.length i with
  | none => rw [hi] at e; cases e
  | some j =>
    rw [hi] at e
    exact h.get' e
theorem ix_ok {x y d : Dt} {v u : V} (eo : EO K S as H σ δ) (hx : Rp K (hid H S) v x) (hy : Rp K (hid H S) u y) (hb : ixD x y = some d) (p : Pk K cl W S as σ H Q (.ok d δ)) : rIx K v u H Q := by
  unfold ixD at hb
  split at hb
  · next xs i =>
    cases hx with
    | lst h1 h2 =>
      cases hy
      obtain ⟨w, e1, e2⟩ := atI_rp h2 hb
      exact Or.inl ⟨_, _, i, w, rfl, rfl, Or.inl (Or.inl (hid_le _ _ h1)), e1, p.here eo e2⟩
  · next xs i =>
    cases hx with
    | tup h1 h2 =>
      cases hy
      obtain ⟨w, e1, e2⟩ := atI_rp h2 hb
      exact Or.inr (Or.inl ⟨_, _, i, w, rfl, rfl, hid_le.sqt h1, e1, p.here eo e2⟩)
  · next s i =>
    cases hx; cases hy
    split at hb
    · next hl =>
      simp only [Option.map_eq_some_iff] at hb
      obtain ⟨c, e, rfl⟩ := hb
      exact Or.inr (Or.inr ⟨s, i, c, rfl, rfl, lim_size hl, e, p.here eo (.str _)⟩)
    · cases hb
  · next ns i =>
    cases hx with
    | scr h1 =>
      cases hy
      simp only [Option.map_eq_some_iff] at hb
      obtain ⟨c, e, rfl⟩ := hb
      refine Or.inl ⟨_, _, i, .int c, rfl, rfl, hid_le.sql h1, ?_, p.here eo (.int _)⟩
      unfold atI at e ⊢
      rw [List.length_map]
      cases hi : ixN ns.length i with
      | none => rw [hi] at e; cases e
      | some j =>
        rw [hi] at e
        show (ns.map V.int)[j]? = some (V.int c)
        rw [List.getElem?_map]
        have e' : ns[j]? = some c := e
        rw [e']; rfl
  · cases hb
theorem cut_rp {ds : List Dt} {us : List V} {lo hi : Option Int} (h : RpAll K H us ds) : RpAll K H (cutV us lo hi) (cutD ds lo hi) := by
  unfold cutV cutD
  rw [h.length]
  exact (h.drop _).take _
theorem sl_ok {x d : Dt} {lo hi : Option Int} {v : V} (eo : EO K S as H σ δ) (hx : Rp K (hid H S) v x) (hb : slD x lo hi = some d) (p : Pk K cl W S as σ H Q (.ok d δ)) : rSlc K v lo hi H Q := by
  unfold slD at hb
  split at hb
  · next xs =>
    cases hx with
    | lst h1 h2 =>
      cases hb
      exact Or.inl ⟨_, _, rfl, Or.inl (Or.inl (hid_le _ _ h1)), fun a hn => p.newL eo (cut_rp h2) hn⟩
  · next xs =>
    cases hx with
    | tup h1 h2 =>
      cases hb
      refine Or.inr (Or.inl ⟨_, _, rfl, hid_le.sqt h1, fun e => ?_, fun _ a hn => p.newT eo (cut_rp h2) hn⟩)
      have z : cutD xs lo hi = xs := by
        unfold cutD
        rw [h2.length] at e
        rw [e.1, e.2]
        simp
      rw [z] at p
      exact p.here eo (.tup h1 h2)
  · next s =>
    cases hx
    split at hb
    · next hl => cases hb; exact Or.inr (Or.inr ⟨s, rfl, lim_size hl, p.here eo (.str _)⟩)
    · cases hb
  · cases hb
theorem tru_ok' {x : Dt} {v : V} {b : Bool} (hx : Rp K (hid H S) v x) (hb : truD x = some b) : TruV K v H b := by
  unfold truD at hb
  split at hb
  · cases hx; cases hb; rfl
  · cases hx; cases hb; rfl
  · cases hx; cases hb; rfl
  · cases hx
    split at hb
    · next hl => cases hb; exact ⟨lim_size hl, rfl⟩
    · cases hb
  · next xs =>
    cases hx with
    | lst h1 h2 =>
      cases hb
      refine Or.inl ⟨_, Or.inl (Or.inl (hid_le _ _ h1)), ?_⟩
      have := h2.length
      cases xs <;> cases h2 <;> rfl
  · next xs =>
    cases hx with
    | tup h1 h2 =>
      cases hb
      refine Or.inr (Or.inl ⟨_, hid_le.sqt h1, ?_⟩)
      cases xs <;> cases h2 <;> rfl
  · cases hb
theorem ty_ok {x : Dt} {v : V} {t : String} (hx : Rp K (hid H S) v x) (ht : tyD x = some t) : TyX K H v (.type t) := by
  unfold tyD at ht
  split at ht <;> cases ht <;> try (cases hx)
  · exact .base .non
  · exact .base (.bl _)
  · exact .base (.int _)
  · exact .base (.str _)
  · next h1 h2 => exact .base (.lst (hid_le _ _ h1))
  · next h1 h2 =>
    rcases h1 with (h | ⟨o, h⟩) | ⟨o, its, n, h3, h4, _⟩
    · exact .base (.tup (hid_le _ _ h))
    · exact .fTuple (hid_le _ _ h)
    · exact .kTuple h3 h4
theorem ints_ok : ∀ {ds : List Dt} {vs : List V} {ns : List Int}, RpAll K H vs ds → intsD ds = some ns → vs = ns.map V.int
  | [], _, _, h, e => by cases h; simp only [intsD] at e; cases e; rfl
  | d :: ds, _, _, h, e => by
    cases h with
    | cons h1 h2 =>
      cases h1 <;> simp only [intsD] at e <;> try (cases e; done)
      simp only [Option.map_eq_some_iff] at e
      obtain ⟨ms, e1, rfl⟩ := e
      rw [ints_ok h2 e1]; rfl
theorem bls_ok : ∀ {ds : List Dt} {vs : List V} {bs : List Bool}, RpAll K H vs ds → blsD ds = some bs → vs = bs.map V.bl
  | [], _, _, h, e => by cases h; simp only [blsD] at e; cases e; rfl
  | d :: ds, _, _, h, e => by
    cases h with
    | cons h1 h2 =>
      cases h1 <;> simp only [blsD] at e <;> try (cases e; done)
      simp only [Option.map_eq_some_iff] at e
      obtain ⟨ms, e1, rfl⟩ := e
      rw [bls_ok h2 e1]; rfl
theorem len_ok {x : Dt} {v : V} {n : Nat} (hx : Rp K (hid H S) v x) (hb : lenD x = some n) : LenV K v H n := by
  unfold lenD at hb
  split at hb
  · cases hx
    split at hb
    · next hl => cases hb; exact ⟨lim_size hl, rfl⟩
    · cases hb
  · cases hx with
    | lst h1 h2 => cases hb; exact Or.inl ⟨_, Or.inl (Or.inl (hid_le _ _ h1)), h2.length.symm⟩
  · cases hx with
    | tup h1 h2 => cases hb; exact Or.inr ⟨_, hid_le.sqt h1, h2.length.symm⟩
  · cases hx with
    | scr h1 => cases hb; exact Or.inl ⟨_, hid_le.sql h1, (List.length_map _).symm⟩
  · cases hb
theorem maxI_is : ∀ {ns : List Int} {m : Int}, m ∈ ns → (∀ x ∈ ns, x ≤ m) → maxI ns = m
  | [], _, h, _ => by simp at h
  | [x], m, h, _ => by simp at h; subst h; rfl
  | x :: y :: r, m, h, k => by
    show max x (maxI (y :: r)) = m
    rcases List.mem_cons.mp h with e | e
    · subst e
      have z : maxI (y :: r) ≤ m := by
        have : ∀ (l : List Int) (a : Int), (∀ x ∈ a :: l, x ≤ m) → maxI (a :: l) ≤ m := by
          intro l
          induction l with
          | nil => intro a h; exact h a (by simp)
          | cons b l ih => intro a h; show max a (maxI (b :: l)) ≤ m; exact Int.max_le.mpr ⟨h a (by simp), ih b fun x hx => h x (List.mem_cons_of_mem _ hx)⟩
        exact this r y fun x hx => k x (List.mem_cons_of_mem _ hx)
      omega
    · rw [maxI_is e fun x hx => k x (List.mem_cons_of_mem _ hx)]
      have := k x (by simp)
      omega
theorem minI_is : ∀ {ns : List Int} {m : Int}, m ∈ ns → (∀ x ∈ ns, m ≤ x) → minI ns = m
  | [], _, h, _ => by simp at h
  | [x], m, h, _ => by simp at h; subst h; rfl
  | x :: y :: r, m, h, k => by
    show min x (minI (y :: r)) = m
    rcases List.mem_cons.mp h with e | e
    · subst e
      have z : m ≤ minI (y :: r) := by
        have : ∀ (l : List Int) (a : Int), (∀ x ∈ a :: l, m ≤ x) → m ≤ minI (a :: l) := by
          intro l
          induction l with
          | nil => intro a h; exact h a (by simp)
          | cons b l ih => intro a h; show m ≤ min a (minI (b :: l)); exact Int.le_min.mpr ⟨h a (by simp), ih b fun x hx => h x (List.mem_cons_of_mem _ hx)⟩
        exact this r y fun x hx => k x (List.mem_cons_of_mem _ hx)
      omega
    · rw [minI_is e fun x hx => k x (List.mem_cons_of_mem _ hx)]
      have := k x (by simp)
      omega
theorem blt_ok {f : Str} {ds : List Dt} {d : Dt} {vs : List V} (eo : EO K S as H σ δ) (hx : RpAll K (hid H S) vs ds) (hb : bltD f ds = some d) (p : Pk K cl W S as σ H Q (.ok d δ)) : rBlt K f vs H Q := by
  unfold bltD at hb
  unfold rBlt
  split at hb
  · next e =>
    rw [if_pos e]
    split at hb
    · cases hx with
      | cons h1 h2 =>
        cases h2
        simp only [Option.map_eq_some_iff] at hb
        obtain ⟨n, e1, rfl⟩ := hb
        exact ⟨_, n, rfl, len_ok h1 e1, p.here eo (.int _)⟩
    · cases hb
  next e0 =>
  rw [if_neg e0]
  split at hb
  · next e =>
    rw [if_pos e]
    split at hb
    · cases hx with
      | cons h1 h2 =>
        cases h2
        cases h1 with
        | lst h3 h4 =>
          simp only [Option.map_eq_some_iff] at hb
          obtain ⟨ns, e1, rfl⟩ := hb
          have e2 := ints_ok h4 e1
          subst e2
          exact ⟨_, ns, rfl, Or.inl (Or.inl (hid_le _ _ h3)), p.here eo (.int _)⟩
    · cases hb
  next e0 =>
  rw [if_neg e0]
  split at hb
  · next e =>
    rw [if_pos e]
    split at hb
    · cases hx with
      | cons h1 h2 =>
        cases h2
        cases h1 with
        | lst h3 h4 =>
          simp only [Option.bind_eq_some_iff] at hb
          obtain ⟨ns, e1, hb⟩ := hb
          split at hb
          · cases hb
          · next hne =>
            cases hb
            have e2 := ints_ok h4 e1
            subst e2
            refine Or.inl ⟨_, ns, rfl, Or.inl (Or.inl (hid_le _ _ h3)), List.length_pos_iff.mpr hne, fun m h5 h6 => ?_⟩
            rw [maxI_is h5 h6] at p
            exact p.here eo (.int _)
    · cases hx with
      | cons h1 h2 =>
        cases h2 with
        | cons h3 h4 =>
          cases h4; cases h1; cases h3
          cases hb
          exact Or.inr ⟨_, _, rfl, p.here eo (.int _)⟩
    · cases hb
  next e0 =>
  rw [if_neg e0]
  split at hb
  · next e =>
    rw [if_pos e]
    split at hb
    · cases hx with
      | cons h1 h2 =>
        cases h2
        cases h1 with
        | lst h3 h4 =>
          simp only [Option.bind_eq_some_iff] at hb
          obtain ⟨ns, e1, hb⟩ := hb
          split at hb
          · cases hb
          · next hne =>
            cases hb
            have e2 := ints_ok h4 e1
            subst e2
            refine Or.inl ⟨_, ns, rfl, Or.inl (Or.inl (hid_le _ _ h3)), List.length_pos_iff.mpr hne, fun m h5 h6 => ?_⟩
            rw [minI_is h5 h6] at p
            exact p.here eo (.int _)
    · cases hx with
      | cons h1 h2 =>
        cases h2 with
        | cons h3 h4 =>
          cases h4; cases h1; cases h3
          cases hb
          exact Or.inr ⟨_, _, rfl, p.here eo (.int _)⟩
    · cases hb
  next e0 =>
  rw [if_neg e0]
  split at hb
  · next e =>
    rw [if_pos e]
    split at hb
    · cases hx with
      | cons h1 h2 =>
        cases h2; cases h1
        cases hb
        exact ⟨_, rfl, p.here eo (.int _)⟩
    · cases hb
  next e0 =>
  rw [if_neg e0]
  split at hb
  · next e =>
    rw [if_pos e]
    split at hb
    · cases hx with
      | cons h1 h2 =>
        cases h2; cases h1
        cases hb
        exact Or.inl ⟨_, rfl, p.here eo (.int _)⟩
    · cases hx with
      | cons h1 h2 =>
        cases h2; cases h1
        cases hb
        exact Or.inr ⟨_, rfl, p.here eo (.int _)⟩
    · cases hb
  next e0 =>
  rw [if_neg e0]
  split at hb
  · next e =>
    rw [if_pos e]
    split at hb
    · cases hx with
      | cons h1 h2 =>
        cases h2
        cases h1 with
        | lst h3 h4 =>
          cases hb
          exact ⟨_, _, rfl, Or.inl (Or.inl (Or.inl (hid_le _ _ h3))), fun a hn => p.newL eo h4 hn⟩
    · cases hx with
      | cons h1 h2 =>
        cases h2
        cases h1 with
        | tup h3 h4 =>
          cases hb
          exact ⟨_, _, rfl, Or.inr (hid_le.sqt h3), fun a hn => p.newL eo h4 hn⟩
    · cases hb
  next e0 =>
  rw [if_neg e0]
  split at hb
  · next e =>
    rw [if_pos e]
    split at hb
    · cases hx with
      | cons h1 h2 =>
        cases h2
        cases h1 with
        | lst h3 h4 =>
          cases hb
          exact ⟨_, _, rfl, Or.inl ⟨Or.inl (Or.inl (hid_le _ _ h3)), fun a hn => p.newT eo h4 hn⟩⟩
    · cases hx with
      | cons h1 h2 =>
        cases h2
        cases h1 with
        | tup h3 h4 =>
          cases hb
          exact ⟨_, _, rfl, Or.inr ⟨hid_le.sqt h3, p.here eo (.tup h3 h4)⟩⟩
    · cases hb
  next e0 =>
  rw [if_neg e0]
  split at hb
  · next e =>
    rw [if_pos e]
    split at hb
    · cases hx with
      | cons h1 h2 =>
        cases h2
        cases h1 with
        | lst h3 h4 =>
          simp only [Option.map_eq_some_iff] at hb
          obtain ⟨bs, e1, rfl⟩ := hb
          have e2 := bls_ok h4 e1
          subst e2
          exact ⟨_, bs, rfl, Or.inl (Or.inl (hid_le _ _ h3)), p.here eo (.bl _)⟩
    · cases hb
  next e0 =>
  rw [if_neg e0]
  split at hb
  · next e =>
    rw [if_pos e]
    split at hb
    · cases hx with
      | cons h1 h2 =>
        cases h2
        cases h1 with
        | lst h3 h4 =>
          simp only [Option.map_eq_some_iff] at hb
          obtain ⟨bs, e1, rfl⟩ := hb
          have e2 := bls_ok h4 e1
          subst e2
          exact ⟨_, bs, rfl, Or.inl (Or.inl (hid_le _ _ h3)), p.here eo (.bl _)⟩
    · cases hb
  · cases hb
theorem isi_ok {x : Dt} {v : V} {t : String} {b : Bool} (hx : Rp K (hid H S) v x) (hb : isiD x t = some b) (q : Q (.bl b) H) : rIsi K [v, .ty t] H Q := by
  unfold isiD at hb
  simp only [Option.bind_eq_some_iff] at hb
  obtain ⟨a, e1, e2⟩ := hb
  exact ⟨v, .ty t, .type a, .type t, b, rfl, .ty t, ty_ok hx e1, kit_ty e2, q⟩
end
end PD

/-! PD6: calls of defs, targets, comprehensions on data. -/
namespace PD
open PySem L2
section
variable {K : PySem.W.Frag} {cl : Cls} {W : WX} {S : Addr → Prop} {as : As} {σ : L2.St} {H : Hp} {δ : Sl} {Q : VK}
/-! ### a call -/
def asA (as : As) : List Ar → As
  | [] => []
  | .val _ :: r => none :: asA as r
  | .slot i :: r => (as[i]?).join :: asA as r
theorem asA_len : ∀ (rs : List Ar), (asA as rs).length = rs.length
  | [] => rfl
  | .val _ :: r => by simp [asA, asA_len r]
  | .slot _ :: r => by simp [asA, asA_len r]
theorem asA_get : ∀ {rs : List Ar} {k : Nat} {a : Addr}, (asA as rs)[k]? = some (some a) → ∃ i, rs[k]? = some (.slot i) ∧ as[i]? = some (some a)
  | [], k, a, h => by simp [asA] at h
  | .val _ :: r, 0, a, h => by simp [asA] at h
  | .val _ :: r, k + 1, a, h => by simpa using asA_get (rs := r) (k := k) (by simpa [asA] using h)
  | .slot i :: r, 0, a, h => by
    simp only [asA, List.getElem?_cons_zero, Option.some.injEq] at h
    refine ⟨i, rfl, ?_⟩
    cases e : as[i]? with
    | none => rw [e] at h; cases h
    | some o => rw [e] at h; simp at h; rw [h]
  | .slot i :: r, k + 1, a, h => by simpa using asA_get (rs := r) (k := k) (by simpa [asA] using h)
theorem asA_of : ∀ {rs : List Ar} {k i : Nat} {a : Addr}, rs[k]? = some (.slot i) → as[i]? = some (some a) → (asA as rs)[k]? = some (some a)
  | [], k, i, a, h, _ => by simp at h
  | .val _ :: r, 0, i, a, h, _ => by simp at h
  | .val _ :: r, k + 1, i, a, h, e => by simpa [asA] using asA_of (rs := r) (k := k) (by simpa using h) e
  | .slot j :: r, 0, i, a, h, e => by
    simp only [List.getElem?_cons_zero, Option.some.injEq, Ar.slot.injEq] at h
    subst h
    simp [asA, e]
  | .slot j :: r, k + 1, i, a, h, e => by simpa [asA] using asA_of (rs := r) (k := k) (by simpa using h) e
theorem ArAll.len : ∀ {vs : List V} {rs : List Ar}, ArAll K H σ vs rs → vs.length = rs.length
  | _, _, .nil => rfl
  | _, _, .val _ r => by simp [r.len]
  | _, _, .slot _ r => by simp [r.len]
theorem ArAll.val_at : ∀ {vs : List V} {rs : List Ar} {k : Nat} {d : Dt}, ArAll K H σ vs rs → rs[k]? = some (.val d) → ∃ v, vs[k]? = some v ∧ Rp K H v d
  | _, _, _, _, .nil, e => by simp at e
  | _, _, 0, _, .val h _, e => by simp at e; subst e; exact ⟨_, rfl, h⟩
  | _, _, k + 1, _, .val _ r, e => by simpa using r.val_at (k := k) (by simpa using e)
  | _, _, 0, _, .slot _ _, e => by simp at e
  | _, _, k + 1, _, .slot _ r, e => by simpa using r.val_at (k := k) (by simpa using e)
theorem ArAll.slot_at : ∀ {vs : List V} {rs : List Ar} {k i : Nat}, ArAll K H σ vs rs → rs[k]? = some (.slot i) → ∃ v, vs[k]? = some v ∧ σ[i]? = some (some v)
  | _, _, _, _, .nil, e => by simp at e
  | _, _, 0, _, .val h _, e => by simp at e
  | _, _, k + 1, _, .val _ r, e => by simpa using r.slot_at (k := k) (by simpa using e)
  | _, _, 0, _, .slot h _, e => by simp at e; subst e; exact ⟨_, rfl, h⟩
  | _, _, k + 1, _, .slot _ r, e => by simpa using r.slot_at (k := k) (by simpa using e)
theorem ArAll.vals : ∀ {vs : List V} {rs : List Ar} {ds : List Dt}, ArAll K H σ vs rs → valsOf rs = some ds → RpAll K H vs ds
  | _, _, _, .nil, e => by simp only [valsOf] at e; cases e; exact .nil
  | _, _, _, .val h r, e => by
    simp only [valsOf, Option.map_eq_some_iff] at e
    obtain ⟨es, e1, rfl⟩ := e
    exact .cons h (r.vals e1)
  | _, _, _, .slot _ _, e => by simp only [valsOf] at e; cases e
theorem argS_len : ∀ {rs : List Ar} {xs : Sl}, argS δ rs = some xs → xs.length = rs.length
  | [], xs, h => by simp only [argS] at h; cases h; rfl
  | .val d :: r, xs, h => by
    simp only [argS, Option.map_eq_some_iff] at h
    obtain ⟨ys, h1, rfl⟩ := h
    simp [argS_len h1]
  | .slot i :: r, xs, h => by
    simp only [argS] at h
    split at h
    · simp only [Option.map_eq_some_iff] at h
      obtain ⟨ys, h1, rfl⟩ := h
      simp [argS_len h1]
    · cases h
theorem argS_dat : ∀ {rs : List Ar} {xs : Sl} {k : Nat} {d : Dt}, argS δ rs = some xs → xs[k]? = some (some (.dat d)) → rs[k]? = some (.val d)
  | [], xs, k, d, h, e => by simp only [argS] at h; cases h; simp at e
  | .val d' :: r, xs, k, d, h, e => by
    simp only [argS, Option.map_eq_some_iff] at h
    obtain ⟨ys, h1, rfl⟩ := h
    cases k with
    | zero => simp at e; subst e; rfl
    | succ k => simpa using argS_dat h1 (by simpa using e)
  | .slot i :: r, xs, k, d, h, e => by
    simp only [argS] at h
    split at h
    · simp only [Option.map_eq_some_iff] at h
      obtain ⟨ys, h1, rfl⟩ := h
      cases k with
      | zero => simp at e
      | succ k => simpa using argS_dat h1 (by simpa using e)
    · cases h
theorem argS_own : ∀ {rs : List Ar} {xs : Sl} {k : Nat} {c : List Dt}, argS δ rs = some xs → xs[k]? = some (some (.own c)) → ∃ i, rs[k]? = some (.slot i) ∧ getS δ i = some (.own c)
  | [], xs, k, d, h, e => by simp only [argS] at h; cases h; simp at e
  | .val d' :: r, xs, k, d, h, e => by
    simp only [argS, Option.map_eq_some_iff] at h
    obtain ⟨ys, h1, rfl⟩ := h
    cases k with
    | zero => simp at e
    | succ k => simpa using argS_own h1 (by simpa using e)
  | .slot i :: r, xs, k, c, h, e => by
    simp only [argS] at h
    split at h
    · next c' hc =>
      simp only [Option.map_eq_some_iff] at h
      obtain ⟨ys, h1, rfl⟩ := h
      cases k with
      | zero => simp at e; subst e; exact ⟨i, rfl, hc⟩
      | succ k => simpa using argS_own h1 (by simpa using e)
    · cases h
theorem argS_slot : ∀ {rs : List Ar} {xs : Sl} {k i : Nat}, argS δ rs = some xs → rs[k]? = some (.slot i) → ∃ c, xs[k]? = some (some (.own c)) ∧ getS δ i = some (.own c)
  | [], xs, k, i, h, e => by simp at e
  | .val d' :: r, xs, k, i, h, e => by
    simp only [argS, Option.map_eq_some_iff] at h
    obtain ⟨ys, h1, rfl⟩ := h
    cases k with
    | zero => simp at e
    | succ k => simpa using argS_slot h1 (by simpa using e)
  | .slot j :: r, xs, k, i, h, e => by
    simp only [argS] at h
    split at h
    · next c' hc =>
      simp only [Option.map_eq_some_iff] at h
      obtain ⟨ys, h1, rfl⟩ := h
      cases k with
      | zero => simp at e; subst e; exact ⟨c', rfl, hc⟩
      | succ k => simpa using argS_slot h1 (by simpa using e)
    · cases h
theorem mem_slots : ∀ {rs : List Ar} {k i : Nat}, rs[k]? = some (.slot i) → i ∈ slotsOf rs
  | [], k, i, e => by simp at e
  | .val _ :: r, 0, i, e => by simp at e
  | .val _ :: r, k + 1, i, e => mem_slots (rs := r) (k := k) (by simpa using e)
  | .slot j :: r, 0, i, e => by simp at e; subst e; simp [slotsOf]
  | .slot j :: r, k + 1, i, e => List.mem_cons_of_mem _ (mem_slots (rs := r) (k := k) (by simpa using e))
theorem slots_inj : ∀ {rs : List Ar} {k l i : Nat}, (slotsOf rs).Nodup → rs[k]? = some (.slot i) → rs[l]? = some (.slot i) → k = l
  | [], k, l, i, _, e, _ => by simp at e
  | .val _ :: r, 0, l, i, _, e, _ => by simp at e
  | .val _ :: r, k + 1, 0, i, _, _, e => by simp at e
  | .val _ :: r, k + 1, l + 1, i, n, e, e' => by rw [slots_inj (rs := r) (k := k) (l := l) n (by simpa using e) (by simpa using e')]
  | .slot j :: r, 0, 0, i, _, _, _ => rfl
  | .slot j :: r, 0, l + 1, i, n, e, e' => by
    simp at e; subst e
    exact absurd (mem_slots (rs := r) (k := l) (by simpa using e')) (List.nodup_cons.mp n).1
  | .slot j :: r, k + 1, 0, i, n, e, e' => by
    simp at e'; subst e'
    exact absurd (mem_slots (rs := r) (k := k) (by simpa using e)) (List.nodup_cons.mp n).1
  | .slot j :: r, k + 1, l + 1, i, n, e, e' => by rw [slots_inj (rs := r) (k := k) (l := l) (List.nodup_cons.mp n).2 (by simpa using e) (by simpa using e')]
theorem backS_len : ∀ (rs : List Ar) (xs : Sl), (backS rs xs δ).length = δ.length
  | [], xs => by simp [backS]
  | .val _ :: r, [] => by simp [backS]
  | .val _ :: r, _ :: xs => by simp [backS, backS_len r xs]
  | .slot _ :: r, [] => by simp [backS]
  | .slot i :: r, x :: xs => by simp [backS, backS_len r xs]
theorem backS_no : ∀ {rs : List Ar} {xs : Sl} {j : Nat}, (∀ k : Nat, rs[k]? ≠ some (.slot j)) → (backS rs xs δ)[j]? = δ[j]?
  | [], xs, j, _ => by simp [backS]
  | .val _ :: r, [], j, _ => by simp [backS]
  | .val _ :: r, _ :: xs, j, h => by
    simp only [backS]
    exact backS_no (rs := r) fun k e => h (k + 1) (by simpa using e)
  | .slot _ :: r, [], j, _ => by simp [backS]
  | .slot i :: r, x :: xs, j, h => by
    have ne : i ≠ j := fun e => h 0 (by simp [e])
    simp only [backS]
    rw [List.getElem?_set_ne ne]
    exact backS_no (rs := r) fun k e => h (k + 1) (by simpa using e)
theorem backS_at : ∀ {rs : List Ar} {xs : Sl} {j k : Nat}, (slotsOf rs).Nodup → xs.length = rs.length → j < δ.length → rs[k]? = some (.slot j) → (backS rs xs δ)[j]? = xs[k]?
  | [], xs, j, k, _, _, _, e => by simp at e
  | .val _ :: r, [], j, k, _, hl, _, e => by simp at hl
  | .val _ :: r, _ :: xs, j, 0, _, _, _, e => by simp at e
  | .val _ :: r, _ :: xs, j, k + 1, n, hl, hj, e => by simpa [backS] using backS_at (rs := r) (xs := xs) (k := k) n (by simpa using hl) hj (by simpa using e)
  | .slot _ :: r, [], j, k, _, hl, _, e => by simp at hl
  | .slot i :: r, x :: xs, j, 0, n, hl, hj, e => by
    simp at e; subst e
    simp [backS, backS_len, hj]
  | .slot i :: r, x :: xs, j, k + 1, n, hl, hj, e => by
    have m := mem_slots (rs := r) (k := k) (i := j) (by simpa using e)
    have ne : i ≠ j := fun z => (List.nodup_cons.mp n).1 (z ▸ m)
    simp only [backS]
    rw [List.getElem?_set_ne ne]
    simpa using backS_at (rs := r) (xs := xs) (k := k) (List.nodup_cons.mp n).2 (by simpa using hl) hj (by simpa using e)
theorem getS_some {i : Nat} {x : Dv} (h : getS δ i = some x) : δ[i]? = some (some x) := by
  unfold getS at h
  cases e : δ[i]? with
  | none => rw [e] at h; cases h
  | some o => rw [e] at h; simp at h; rw [h]
theorem call_eo {rs : List Ar} {xs : Sl} {vs : List V} (eo : EO K S as H σ δ) (ha : ArAll K (hid H S) σ vs rs) (nd : (slotsOf rs).Nodup) (hx : argS δ rs = some xs) : EO K S (asA as rs) H (vs.map some) xs where
  l1 := by rw [List.length_map, ha.len, argS_len hx]
  l2 := by rw [asA_len, argS_len hx]
  dat := fun k d e => by
    obtain ⟨v, h1, h2⟩ := ha.val_at (argS_dat hx e)
    exact ⟨v, by rw [List.getElem?_map, h1]; rfl, h2⟩
  own := fun k c e => by
    obtain ⟨i, h1, h2⟩ := argS_own hx e
    obtain ⟨a, us, h3, h4, h5, h6⟩ := eo.own i c (getS_some h2)
    obtain ⟨v, h7, h8⟩ := ha.slot_at h1
    rw [h4] at h8; cases h8
    exact ⟨a, us, asA_of h1 h3, by rw [List.getElem?_map, h7]; rfl, h5, h6⟩
  isown := fun k a e => by
    obtain ⟨i, h1, h2⟩ := asA_get e
    obtain ⟨c, h3, _⟩ := argS_slot hx h1
    exact ⟨(eo.isown i a h2).1, c, h3⟩
  inj := fun k l a e e' => by
    obtain ⟨i, h1, h2⟩ := asA_get e
    obtain ⟨j, h3, h4⟩ := asA_get e'
    have := eo.inj i j a h2 h4
    subst this
    exact slots_inj nd h1 h3
  trk := eo.trk
theorem call_fr {rs : List Ar} {H' : Hp} (f : Fr S (asA as rs) H H') : Fr S as H H' := ⟨f.keep, fun a hs hi => f.hidd a hs fun k e => by
  obtain ⟨i, _, h2⟩ := asA_get e
  exact hi i h2⟩
theorem call_back {rs : List Ar} {xs xs' : Sl} {vs : List V} {H' : Hp} (eo : EO K S as H σ δ) (ha : ArAll K (hid H S) σ vs rs) (nd : (slotsOf rs).Nodup) (hx : argS δ rs = some xs)
    (f : Fr S (asA as rs) H H') (eo' : EO K S (asA as rs) H' (vs.map some) xs') : EO K S as H' σ (backS rs xs' δ) := by
  have hl : xs'.length = rs.length := by rw [← eo'.l1, List.length_map, ha.len]
  have pick : ∀ i : Nat, (∀ k : Nat, rs[k]? ≠ some (.slot i)) ∨ ∃ k : Nat, rs[k]? = some (.slot i) := fun i => by
    by_cases h : ∃ k : Nat, rs[k]? = some (.slot i)
    · exact .inr h
    · exact .inl fun k e => h ⟨k, e⟩
  have slot : ∀ i k : Nat, rs[k]? = some (.slot i) → i < δ.length ∧ ∃ a, as[i]? = some (some a) ∧ (asA as rs)[k]? = some (some a) ∧ σ[i]? = some (some (.ref a)) := fun i k e => by
    obtain ⟨c, h1, h2⟩ := argS_slot hx e
    have h3 := getS_some h2
    obtain ⟨a, us, h4, h5, _⟩ := eo.own i c h3
    exact ⟨(List.getElem?_eq_some_iff.mp h3).1, a, h4, asA_of e h4, h5⟩
  refine ⟨by rw [backS_len]; exact eo.l1, by rw [backS_len]; exact eo.l2, fun i d e => ?_, fun i c e => ?_, fun i a e => ?_, eo.inj, eo'.trk⟩
  · rcases pick i with h | ⟨k, h⟩
    · rw [backS_no h] at e
      obtain ⟨v, h1, h2⟩ := eo.dat i d e
      exact ⟨v, h1, Rp.mono f.le _ h2⟩
    · obtain ⟨hi, a, h1, h2, h3⟩ := slot i k h
      rw [backS_at nd hl hi h] at e
      obtain ⟨_, c, hc⟩ := eo'.isown k a h2
      rw [e] at hc; cases hc
  · rcases pick i with h | ⟨k, h⟩
    · rw [backS_no h] at e
      obtain ⟨a, us, h1, h2, h3, h4⟩ := eo.own i c e
      refine ⟨a, us, h1, h2, (f.hidd a (eo.isown i a h1).1 fun k z => ?_).trans h3, RpAll.mono f.le _ h4⟩
      obtain ⟨j, q1, q2⟩ := asA_get z
      have := eo.inj i j a h1 q2
      subst this
      exact h k q1
    · obtain ⟨hi, a, h1, h2, h3⟩ := slot i k h
      rw [backS_at nd hl hi h] at e
      obtain ⟨b, us, q1, q2, q3, q4⟩ := eo'.own k c e
      rw [h2] at q1; cases q1
      exact ⟨a, us, h1, h3, q3, q4⟩
  · refine ⟨(eo.isown i a e).1, ?_⟩
    rcases pick i with h | ⟨k, h⟩
    · rw [backS_no h]; exact (eo.isown i a e).2
    · obtain ⟨hi, b, h1, h2, h3⟩ := slot i k h
      rw [h1] at e; cases e
      rw [backS_at nd hl hi h]
      exact (eo'.isown k a h2).2
theorem call_okF {sem : Sl → Re (List Dt)} {rs : List Ar} {vs : List V} (eo : EO K S as H σ δ) (ha : ArAll K (hid H S) σ vs rs) (p : PkF K cl W S as σ H Q (callD sem rs δ)) : spF K cl sem vs H Q (WE W σ) := by
  unfold callD at p
  split at p
  · next nd =>
    split at p
    · exact p.elim
    · next xs hx =>
      refine ⟨S, asA as rs, xs, call_eo eo ha nd hx, ?_⟩
      split at p
      · next d xs' he =>
        rw [he]
        exact fun a us H' f eo' hn r => p a us H' (call_fr f) (call_back eo ha nd hx f eo') hn r
      · next x xs' he =>
        rw [he]
        exact fun c d H' f eo' r => p c d H' (call_fr f) (call_back eo ha nd hx f eo') r
      · exact p.elim
  · exact p.elim
theorem call_ok {sem : Sl → Re Dt} {rs : List Ar} {vs : List V} (eo : EO K S as H σ δ) (ha : ArAll K (hid H S) σ vs rs) (p : Pk K cl W S as σ H Q (callD sem rs δ)) : spD K cl sem vs H Q (WE W σ) := by
  unfold callD at p
  split at p
  · next nd =>
    split at p
    · exact p.elim
    · next xs hx =>
      refine ⟨S, asA as rs, xs, call_eo eo ha nd hx, ?_⟩
      split at p
      · next d xs' he =>
        rw [he]
        exact fun v H' f eo' r => p v H' (call_fr f) (call_back eo ha nd hx f eo') r
      · next x xs' he =>
        rw [he]
        exact fun c d H' f eo' r => p c d H' (call_fr f) (call_back eo ha nd hx f eo') r
      · exact p.elim
  · exact p.elim
end
end PD

/-! PD7: targets, walks, comprehensions on data. -/
namespace PD
open PySem L2
section
variable {K : PySem.W.Frag} {cl : Cls} {W : WX} {S : Addr → Prop} {as : As} {σ : L2.St} {H : Hp} {δ : Sl} {Q : VK}
/-! ### slots forgotten -/
theorem wipe_get : ∀ (vs : List Nat) (σ : L2.St) (i : Nat), (wipe σ vs)[i]? = if i ∈ vs then (if i < σ.length then some none else none) else σ[i]?
  | [], σ, i => by simp [wipe]
  | v :: vs, σ, i => by
    unfold wipe
    rw [List.getElem?_set, wipe_length, wipe_get vs σ i]
    by_cases h : v = i
    · subst h; simp
    · have h' : ¬ i = v := fun e => h e.symm
      simp [h, h']
theorem wipeS_len' : ∀ (vs : List Nat) (δ : Sl), (wipeS δ vs).length = δ.length
  | [], _ => rfl
  | v :: vs, δ => by unfold wipeS; rw [List.length_set, wipeS_len' vs]
theorem wipeS_get : ∀ (vs : List Nat) (δ : Sl) (i : Nat), (wipeS δ vs)[i]? = if i ∈ vs then (if i < δ.length then some none else none) else δ[i]?
  | [], δ, i => by simp [wipeS]
  | v :: vs, δ, i => by
    unfold wipeS
    rw [List.getElem?_set, wipeS_len', wipeS_get vs δ i]
    by_cases h : v = i
    · subst h; simp
    · have h' : ¬ i = v := fun e => h e.symm
      simp [h, h']
theorem wipeS_len : ∀ (vs : List Nat), (wipeS δ vs).length = δ.length
  | [] => rfl
  | v :: vs => by unfold wipeS; rw [List.length_set, wipeS_len vs]
/-- off the slots vs the two are the same -/
def Off (vs : List Nat) (σ σ' : L2.St) : Prop := σ.length = σ'.length ∧ ∀ i, i ∉ vs → σ[i]? = σ'[i]?
theorem Off.refl {vs : List Nat} : Off vs σ σ := ⟨rfl, fun _ _ => rfl⟩
theorem Off.trans {vs : List Nat} {σ1 σ2 : L2.St} (a : Off vs σ σ1) (b : Off vs σ1 σ2) : Off vs σ σ2 := ⟨a.1.trans b.1, fun i h => (a.2 i h).trans (b.2 i h)⟩
theorem Off.symm {vs : List Nat} {σ1 : L2.St} (a : Off vs σ σ1) : Off vs σ1 σ := ⟨a.1.symm, fun i h => (a.2 i h).symm⟩
theorem Off.mono {vs ws : List Nat} {σ1 : L2.St} (a : Off vs σ σ1) (h : ∀ i ∈ vs, i ∈ ws) : Off ws σ σ1 := ⟨a.1, fun i hi => a.2 i fun q => hi (h i q)⟩
theorem Off.wipe (vs : List Nat) : Off vs σ (wipe σ vs) := ⟨(wipe_length σ vs).symm, fun i h => by rw [wipe_get, if_neg h]⟩
theorem Off.wipes {vs : List Nat} {σ1 : L2.St} (a : Off vs σ σ1) : L2.wipe σ vs = L2.wipe σ1 vs := by
  refine List.ext_getElem? fun i => ?_
  rw [wipe_get, wipe_get, a.1]
  by_cases h : i ∈ vs
  · rw [if_pos h, if_pos h]
  · rw [if_neg h, if_neg h, a.2 i h]
theorem Off.set {vs : List Nat} {i : Nat} {x : Option V} (h : i ∈ vs) : Off vs σ (σ.set i x) := ⟨by rw [List.length_set], fun j hj => by rw [List.getElem?_set_ne (fun e : i = j => hj (e ▸ h))]⟩
theorem EO.wipe (eo : EO K S as H σ δ) {vs : List Nat} (hv : ∀ i ∈ vs, ∀ a, as[i]? ≠ some (some a)) : EO K S as H (L2.wipe σ vs) (wipeS δ vs) where
  l1 := by rw [wipe_length, wipeS_len]; exact eo.l1
  l2 := by rw [wipeS_len]; exact eo.l2
  dat := fun i d e => by
    rw [wipeS_get] at e
    by_cases h : i ∈ vs
    · rw [if_pos h] at e; split at e <;> simp at e
    · rw [if_neg h] at e
      obtain ⟨v, h1, h2⟩ := eo.dat i d e
      exact ⟨v, by rw [wipe_get, if_neg h]; exact h1, h2⟩
  own := fun i c e => by
    rw [wipeS_get] at e
    by_cases h : i ∈ vs
    · rw [if_pos h] at e; split at e <;> simp at e
    · rw [if_neg h] at e
      obtain ⟨a, us, h1, h2, h3⟩ := eo.own i c e
      exact ⟨a, us, h1, by rw [wipe_get, if_neg h]; exact h2, h3⟩
  isown := fun i a e => by
    obtain ⟨h1, c, h2⟩ := eo.isown i a e
    have h : i ∉ vs := fun q => hv i q a e
    exact ⟨h1, c, by rw [wipeS_get, if_neg h]; exact h2⟩
  inj := eo.inj
  trk := eo.trk
theorem keepS_get {vs : List Nat} {δ δ' : Sl} {i : Nat} (hl : δ.length = δ'.length) : (keepS vs δ δ')[i]? = if i ∈ vs then δ[i]? else δ'[i]? := by
  unfold keepS
  rw [List.getElem?_mapIdx]
  by_cases h : i ∈ vs
  · rw [if_pos h]
    by_cases hi : i < δ'.length
    · have hi' : i < δ.length := by omega
      rw [List.getElem?_eq_getElem hi, List.getElem?_eq_getElem hi']
      simp [h]
    · rw [List.getElem?_eq_none (by omega), List.getElem?_eq_none (by omega)]; rfl
  · rw [if_neg h]
    cases δ'[i]? <;> simp [h]
theorem keepS_len {vs : List Nat} {δ δ' : Sl} : (keepS vs δ δ').length = δ'.length := by unfold keepS; simp
/-- behind a block: the outer slots, what the block has done to the own lists -/
theorem EO.keep {H' : Hp} {σ' : L2.St} {δ' : Sl} {vs : List Nat} (eo : EO K S as H σ δ) (eo' : EO K S as H' σ' δ') (off : Off vs σ σ') (le : Le (hid H S) (hid H' S)) (hv : ∀ i ∈ vs, ∀ a, as[i]? ≠ some (some a)) : EO K S as H' σ (keepS vs δ δ') := by
  have hl : δ.length = δ'.length := by rw [← eo.l2, ← eo'.l2]
  refine ⟨by rw [keepS_len, ← hl]; exact eo.l1, by rw [keepS_len, ← hl]; exact eo.l2, fun i d e => ?_, fun i c e => ?_, fun i a e => ?_, eo.inj, eo'.trk⟩
  · rw [keepS_get hl] at e
    by_cases h : i ∈ vs
    · rw [if_pos h] at e
      obtain ⟨v, h1, h2⟩ := eo.dat i d e
      exact ⟨v, h1, Rp.mono le _ h2⟩
    · rw [if_neg h] at e
      obtain ⟨v, h1, h2⟩ := eo'.dat i d e
      exact ⟨v, (off.2 i h).trans h1, h2⟩
  · rw [keepS_get hl] at e
    by_cases h : i ∈ vs
    · rw [if_pos h] at e
      obtain ⟨a, us, h1, _⟩ := eo.own i c e
      exact absurd h1 (hv i h a)
    · rw [if_neg h] at e
      obtain ⟨a, us, h1, h2, h3⟩ := eo'.own i c e
      exact ⟨a, us, h1, (off.2 i h).trans h2, h3⟩
  · have h : i ∉ vs := fun q => hv i q a e
    rw [keepS_get hl, if_neg h]
    exact eo'.isown i a e
/-- a datum into a slot -/
theorem EO.setD (eo : EO K S as H σ δ) {i : Nat} {v : V} {d : Dt} (hn : isownS δ i = false) (r : Rp K (hid H S) v d) : EO K S as H (σ.set i (some v)) (δ.set i (some (.dat d))) := by
  have hno : ∀ a, as[i]? ≠ some (some a) := fun a e => by
    obtain ⟨_, c, hc⟩ := eo.isown i a e
    unfold isownS getS at hn
    rw [hc] at hn
    cases hn
  refine ⟨by rw [List.length_set, List.length_set]; exact eo.l1, by rw [List.length_set]; exact eo.l2, fun j d' e => ?_, fun j c e => ?_, fun j a e => ?_, eo.inj, eo.trk⟩
  · by_cases h : i = j
    · subst h
      by_cases hi : i < δ.length
      · rw [List.getElem?_set_self hi] at e
        cases e
        exact ⟨v, by rw [List.getElem?_set_self (by rw [eo.l1]; exact hi)], r⟩
      · rw [List.getElem?_eq_none (by rw [List.length_set]; omega)] at e; cases e
    · rw [List.getElem?_set_ne h] at e
      obtain ⟨w, h1, h2⟩ := eo.dat j d' e
      exact ⟨w, by rw [List.getElem?_set_ne h]; exact h1, h2⟩
  · by_cases h : i = j
    · subst h
      by_cases hi : i < δ.length
      · rw [List.getElem?_set_self hi] at e; cases e
      · rw [List.getElem?_eq_none (by rw [List.length_set]; omega)] at e; cases e
    · rw [List.getElem?_set_ne h] at e
      obtain ⟨a, us, h1, h2, h3⟩ := eo.own j c e
      exact ⟨a, us, h1, by rw [List.getElem?_set_ne h]; exact h2, h3⟩
  · have h : i ≠ j := fun z => hno a (z ▸ e)
    obtain ⟨h1, c, h2⟩ := eo.isown j a e
    exact ⟨h1, c, by rw [List.getElem?_set_ne h]; exact h2⟩
/-! ### targets -/
theorem setAll_ok {Qg : L2.St → Hp → Prop} : ∀ {is : List Nat} {ds : List Dt} {xs : List V} {σ : L2.St} {δ δ0 : Sl}, setAll is ds δ = some δ0 → EO K S as H σ δ → RpAll K (hid H S) xs ds →
    (∀ σ0, EO K S as H σ0 δ0 → Off is σ σ0 → Qg σ0 H) → gs is xs σ H Qg
  | [], [], _, σ, δ, δ0, h, eo, r, k => by
    cases r
    simp only [setAll] at h
    cases h
    exact ⟨rfl, k σ eo Off.refl⟩
  | [], _ :: _, _, _, _, _, h, _, _, _ => by simp [setAll] at h
  | _ :: _, [], _, _, _, _, h, _, _, _ => by simp [setAll] at h
  | i :: is, d :: ds, _, σ, δ, δ0, h, eo, r, k => by
    cases r with
    | cons r1 r2 =>
      simp only [setAll] at h
      split at h
      · cases h
      · next hn =>
        refine ⟨_, _, rfl, ?_⟩
        exact setAll_ok h (eo.setD (by simpa using hn) r1) r2 fun σ0 e0 off => k σ0 e0 ((Off.set (by simp)).trans (off.mono fun j hj => List.mem_cons_of_mem _ hj))
theorem setAll_len : ∀ {is : List Nat} {ds : List Dt} {δ δ0 : Sl}, setAll is ds δ = some δ0 → ds.length = is.length
  | [], [], _, _, _ => rfl
  | [], _ :: _, _, _, h => by simp [setAll] at h
  | _ :: _, [], _, _, h => by simp [setAll] at h
  | i :: is, d :: ds, δ, δ0, h => by
    simp only [setAll] at h
    split at h
    · cases h
    · simp [setAll_len h]
theorem put_ok {t : Tg} {d : Dt} {x : V} {δ0 : Sl} {Qg : L2.St → Hp → Prop} (h : putT t d δ = some δ0) (eo : EO K S as H σ δ) (r : Rp K (hid H S) x d) (k : ∀ σ0, EO K S as H σ0 δ0 → Off (tgSlots t) σ σ0 → Qg σ0 H) : gT K t x σ H Qg := by
  cases t with
  | name i =>
    simp only [putT] at h
    split at h
    · cases h
    · next hn =>
      cases h
      exact k _ (eo.setD (by simpa using hn) r) (Off.set (by simp [tgSlots]))
  | tup is =>
    simp only [putT] at h
    split at h
    · next ds =>
      cases r with
      | tup h1 h2 =>
        exact ⟨_, _, rfl, hid_le.sqt h1, by rw [h2.length, setAll_len h], setAll_ok h eo h2 k⟩
    · cases h
/-! ### what is walked -/
def JOk (K : PySem.W.Frag) (Hb : Hp) (J : It) (ds : List Dt) : Prop := ∀ H2, Le Hb H2 → (∀ i, i < ds.length → J.go i H2) ∧ (∀ i, ds.length ≤ i → J.stop i H2) ∧
  ∀ i x H3, i < ds.length → J.yld i H2 x H3 → H3 = H2 ∧ ∃ d, ds[i]? = some d ∧ Rp K Hb x d
theorem jok_list {Hb : Hp} {a : Addr} {us : List V} {ds : List Dt} (h : SqL K Hb a us) (r : RpAll K Hb us ds) : JOk K Hb (Itl K a) ds := by
  intro H2 le
  have h2 := le.sql h
  refine ⟨fun i hi => ⟨us, us[i]'(by rw [r.length]; exact hi), h2, by simp⟩, fun i hi => ⟨us, h2, by rw [r.length]; exact hi⟩, fun i x H3 hi y => ⟨y.1, ?_⟩⟩
  exact r.get (y.2 us h2)
theorem jok_tup {Hb : Hp} {a : Addr} {us : List V} {ds : List Dt} (h : SqT K Hb a us) (r : RpAll K Hb us ds) : JOk K Hb (Itt K a) ds := by
  intro H2 le
  have h2 := le.sqt h
  refine ⟨fun i hi => ⟨us, us[i]'(by rw [r.length]; exact hi), h2, by simp⟩, fun i hi => ⟨us, h2, by rw [r.length]; exact hi⟩, fun i x H3 hi y => ⟨y.1, ?_⟩⟩
  exact r.get (y.2 us h2)
theorem jok_str {Hb : Hp} {s : Str} : JOk K Hb (Its s) (s.cps.toList.map fun c => Dt.str ⟨#[c]⟩) := by
  intro H2 le
  have hz : (s.cps.toList.map fun c => Dt.str ⟨#[c]⟩).length = s.cps.size := by simp
  refine ⟨fun i hi => by rw [hz] at hi; exact hi, fun i hi => by rw [hz] at hi; exact hi, fun i x H3 hi y => ?_⟩
  obtain ⟨e, c, hc, rfl⟩ := y
  refine ⟨e, _, ?_, .str _⟩
  rw [List.getElem?_map]
  have : s.cps.toList[i]? = some c := by simpa using hc
  rw [this]; rfl
theorem jok_range {Hb : Hp} {lo : Int} {n : Nat} : JOk K Hb (Itr lo n) (rangeD lo n) := by
  intro H2 le
  have hz : (rangeD lo n).length = n := by simp [rangeD]
  refine ⟨fun i hi => by rw [hz] at hi; exact hi, fun i hi => by rw [hz] at hi; exact hi, fun i x H3 hi y => ?_⟩
  obtain ⟨e, rfl⟩ := y
  rw [hz] at hi
  exact ⟨e, .int (lo + i), by simp [rangeD, hi], .int _⟩
variable (K cl W) in
def PkI (S : Addr → Prop) (as : As) (σ : L2.St) (H : Hp) (R : It → Hp → Prop) : Re (List Dt) → Prop
  | .ok ds δ => ∀ J H', Fr S as H H' → EO K S as H' σ δ → JOk K (hid H' S) J ds → R J H'
  | .exc x δ => ∀ cls dd H', Fr S as H H' → EO K S as H' σ δ → Xr K cl (hid H' S) x cls dd → W cls dd σ H'
  | .bad => False
variable (K cl W) in
def EI (wi : TI) (δ : Sl) (r : Re (List Dt)) : Prop := ∀ S as σ H R, EO K S as H σ δ → PkI K cl W S as σ H R r → wi σ H R
/-! ### the turns of a comprehension -/
/-- one's own new list at D grows: all else that is hidden stays -/
structure FrD (S : Addr → Prop) (as : As) (D : Addr) (H H' : Hp) : Prop where
  keep : ∀ a o, ¬ S a → H a = some o → H' a = some o
  hidd : ∀ a, S a → a ≠ D → (∀ i : Nat, as[i]? ≠ some (some a)) → H' a = H a
theorem FrD.refl {D : Addr} : FrD S as D H H := ⟨fun _ _ _ h => h, fun _ _ _ _ => rfl⟩
theorem FrD.trans {D : Addr} {H1 H2 : Hp} (f : FrD S as D H H1) (g : FrD S as D H1 H2) : FrD S as D H H2 := ⟨fun a o hs h => g.keep a o hs (f.keep a o hs h), fun a hs hd hi => (g.hidd a hs hd hi).trans (f.hidd a hs hd hi)⟩
theorem Fr.frd {D : Addr} {H' : Hp} (f : Fr S as H H') : FrD S as D H H' := ⟨f.keep, fun a hs _ hi => f.hidd a hs hi⟩
theorem FrD.le {D : Addr} {H' : Hp} (f : FrD S as D H H') : Le (hid H S) (hid H' S) := fun a o h => hid_some (f.keep a o (hid_of h).2 (hid_of h).1) (hid_of h).2
theorem hid_upd {D : Addr} {o : HO} (h : S D) : hid (upd H D o) S = hid H S := by
  funext a
  unfold hid
  by_cases hs : S a
  · rw [if_pos hs, if_pos hs]
  · rw [if_neg hs, if_neg hs, upd_ne (fun e : a = D => hs (e ▸ h))]
theorem EO.grow (eo : EO K S as H σ δ) {D : Addr} {o : HO} (h : S D) (hd : ∀ i : Nat, as[i]? ≠ some (some D)) : EO K S as (upd H D o) σ δ := by
  refine ⟨eo.l1, eo.l2, fun i d e => by rw [hid_upd h]; exact eo.dat i d e, fun i c e => ?_, eo.isown, eo.inj, fun a ha => ?_⟩
  · obtain ⟨a, us, h1, h2, h3, h4⟩ := eo.own i c e
    exact ⟨a, us, h1, h2, by rw [upd_ne (fun z : a = D => hd i (z ▸ h1))]; exact h3, by rw [hid_upd h]; exact h4⟩
  · by_cases z : a = D
    · subst z; exact ⟨o, upd_same⟩
    · rw [upd_ne z]; exact eo.trk a ha
theorem FrD.grow {D : Addr} {o : HO} (h : S D) : FrD S as D H (upd H D o) := ⟨fun a u hs e => by rw [upd_ne (fun z : a = D => hs (z ▸ h))]; exact e, fun a _ hd _ => upd_ne hd⟩
theorem lc_loop {t : Tg} {vs : List Nat} {tt : TT} {te : TE} {ifs : Sl → Re Bool} {elt : Sl → Re Dt} {D : Addr} {J : It} {Hb : Hp} {Qd : Hp → Prop} {ds ys acc0 : List Dt} {us0 : List V} {δ2 : Sl} {cl' : Cls}
    (ht : ∀ δ, EB K cl' (fun _ _ _ _ => False) tt δ (ifs δ)) (he : ∀ δ, ED K cl' (fun _ _ _ _ => False) te δ (elt δ)) (htv : ∀ i ∈ tgSlots t, i ∈ vs) (hv : ∀ i ∈ vs, ∀ a, as[i]? ≠ some (some a))
    (ev : evLc ifs elt t vs ds δ = .ok ys δ2) (hl : acc0.length + ys.length ≤ LIM) (eo : EO K S as H σ δ) (hD : S D) (hDa : ∀ i : Nat, as[i]? ≠ some (some D)) (h0 : H D = some (.lst us0)) (r0 : RpAll K (hid H S) us0 acc0)
    (hJ : JOk K Hb J ds) (leb : Le Hb (hid H S)) (fin : ∀ H' us, FrD S as D H H' → EO K S as H' σ δ2 → H' D = some (.lst us) → RpAll K (hid H' S) us (acc0 ++ ys) → Qd H') :
    ∃ Wv : Nat → Nat → Hp → Prop, (∃ m, Wv 0 m H) ∧ ∀ i m H, Wv i m H → (J.stop i H ∧ Qd H) ∨ (J.go i H ∧ ∃ Nx : Hp → Prop, (∀ H', Nx H' → ∃ m', m' < m ∧ Wv (i + 1) m' H') ∧ ∀ x H', J.yld i H x H' → gT K t x (wipe σ vs) H' fun σ2 H2 => wipe σ2 vs = wipe σ vs ∧ tt σ2 H2 fun b H3 =>
      if b = true then te σ2 H3 fun y H4 => ∃ acc, H4 D = some (.lst acc) ∧ acc.length < sizeLine ∧ Nx (upd H4 D (.lst (acc ++ [y]))) else Nx H3) := by
  refine ⟨fun i m Hc => m = ds.length - i ∧ i ≤ ds.length ∧ ∃ δi done rest us, FrD S as D H Hc ∧ EO K S as Hc σ δi ∧ Hc D = some (.lst us) ∧ RpAll K (hid Hc S) us (acc0 ++ done) ∧ ys = done ++ rest ∧ evLc ifs elt t vs (ds.drop i) δi = .ok rest δ2,
    ⟨ds.length, by simp, Nat.zero_le _, δ, [], ys, us0, FrD.refl, eo, h0, by rw [List.append_nil]; exact r0, rfl, ev⟩, ?_⟩
  rintro i m Hc ⟨rfl, hi, δi, done, rest, us, f, eoi, hDc, rc, hys, evi⟩
  have lec : Le Hb (hid Hc S) := leb.trans f.le
  obtain ⟨j1, j2, j3⟩ := hJ Hc (lec.trans hid_le)
  by_cases hlt : i < ds.length
  · refine .inr ⟨j1 i hlt, fun Hn => ∃ δn dn rn un, FrD S as D H Hn ∧ EO K S as Hn σ δn ∧ Hn D = some (.lst un) ∧ RpAll K (hid Hn S) un (acc0 ++ dn) ∧ ys = dn ++ rn ∧ evLc ifs elt t vs (ds.drop (i + 1)) δn = .ok rn δ2,
      fun H' h => ⟨ds.length - (i + 1), by omega, rfl, hlt, h⟩, fun x H' hy => ?_⟩
    obtain ⟨rfl, d, hd, rx⟩ := j3 i x H' hlt hy
    have hdd : d = ds[i] := by rw [List.getElem?_eq_getElem hlt] at hd; exact (Option.some.inj hd).symm
    rw [List.drop_eq_getElem_cons hlt, ← hdd] at evi
    simp only [evLc] at evi
    split at evi
    · cases evi
    · next δ0 hp =>
      refine put_ok hp (eoi.wipe hv) (Rp.mono lec _ rx) fun σ2 eo2 off => ?_
      have off' : Off vs σ σ2 := (Off.wipe vs).trans (off.mono htv)
      refine ⟨off'.wipes.symm, ?_⟩
      refine ht δ0 S as σ2 H' _ eo2 ?_
      split at evi
      · next δ1 hi1 =>
        rw [hi1]
        intro H3 f3 eo3
        show te σ2 H3 _
        refine he δ1 S as σ2 H3 _ eo3 ?_
        split at evi
        · next y δ2' hy1 =>
          rw [hy1]
          intro v H4 f4 eo4 r4
          have f34 : Fr S as H' H4 := f3.trans f4
          have hD4 : H4 D = some (.lst us) := (f34.hidd D hD hDa).trans hDc
          have rc4 : RpAll K (hid H4 S) us (acc0 ++ done) := RpAll.mono f34.le _ rc
          cases hr : evLc ifs elt t vs (ds.drop (i + 1)) (keepS vs δi δ2') with
          | ok zs δ3 =>
            rw [hr] at evi
            simp only [Re.bind, Re.ok.injEq] at evi
            obtain ⟨rfl, rfl⟩ := evi
            have hlen : us.length < LIM := by
              rw [rc.length, List.length_append]
              rw [hys, List.length_append, List.length_cons] at hl
              omega
            refine ⟨us, hD4, lim_lt hlen, keepS vs δi δ2', done ++ [y], zs, us ++ [v], (f.trans f34.frd).trans (FrD.grow hD), ?_, upd_same, ?_, by rw [hys]; simp, hr⟩
            · exact (eoi.keep eo4 off' f34.le hv).grow hD hDa
            · rw [hid_upd hD, ← List.append_assoc]
              exact rc4.append (.cons r4 .nil)
          | exc x δ3 => rw [hr] at evi; cases evi
          | bad => rw [hr] at evi; cases evi
        · cases evi
      · next δ1 hi1 =>
        rw [hi1]
        intro H3 f3 eo3
        show ∃ δn dn rn un, _
        exact ⟨keepS vs δi δ1, done, rest, us, f.trans f3.frd, eoi.keep eo3 off' f3.le hv, (f3.hidd D hD hDa).trans hDc, RpAll.mono f3.le _ rc, hys, evi⟩
      · cases evi
  · have e : i = ds.length := by omega
    subst e
    rw [List.drop_length] at evi
    simp only [evLc, Re.ok.injEq] at evi
    obtain ⟨rfl, rfl⟩ := evi
    rw [List.append_nil] at hys
    subst hys
    exact .inl ⟨j2 _ (Nat.le_refl _), fin Hc us f eoi hDc rc⟩
end
end PD

/-! PD8: what an expression is worth is what its reading asks. -/
namespace PD
open PySem L2
def GlOk (Γ : Gm) : Prop := ∀ x v d, Γ.gl x = some (v, d) → ∀ H, Rp Γ.K H v d
structure EAll (n : Nat) (Γ : Gm) (W : WX) : Prop where
  e : ∀ e δ, ED Γ.K Γ.cl W (trE n Γ W e) δ (evE n Γ e δ)
  t : ∀ e δ, EB Γ.K Γ.cl W (trT n Γ W e) δ (evT n Γ e δ)
  a : ∀ es δ, EA Γ.K Γ.cl W (trA n Γ W es) δ (evA n Γ es δ)
  b : ∀ op es δ, ED Γ.K Γ.cl W (trBool n Γ W op es) δ (evBool n Γ op es δ)
  w : ∀ op es δ, EB Γ.K Γ.cl W (trBoolT n Γ W op es) δ (evBoolT n Γ op es δ)
  i : ∀ e δ, EI Γ.K Γ.cl W (trI n Γ W e) δ (evI n Γ e δ)
  f : ∀ es δ, EB Γ.K Γ.cl W (trIfs n Γ W es) δ (evIfs n Γ es δ)
section
variable {K : PySem.W.Frag} {cl : Cls} {W : WX}
theorem ed_bad {te : TE} {δ : Sl} : ED K cl W te δ .bad := fun _ _ _ _ _ _ p => p.elim
theorem eb_bad {te : TT} {δ : Sl} : EB K cl W te δ .bad := fun _ _ _ _ _ _ p => p.elim
theorem ea_bad {te : TA} {δ : Sl} : EA K cl W te δ .bad := fun _ _ _ _ _ _ p => p.elim
theorem ei_bad {te : TI} {δ : Sl} : EI K cl W te δ .bad := fun _ _ _ _ _ _ p => p.elim
theorem eall0 {Γ : Gm} {W : WX} : EAll 0 Γ W := ⟨fun _ _ => ed_bad, fun _ _ => eb_bad, fun _ _ => ea_bad, fun _ _ _ => ed_bad, fun _ _ _ => eb_bad, fun _ _ => ei_bad, fun _ _ => eb_bad⟩
theorem ed_c {v : V} {d : Dt} {δ : Sl} (h : ∀ H, Rp K H v d) : ED K cl W (tC v) δ (.ok d δ) := fun S as σ H Q eo p => p.here eo (h _)
theorem ed_var {i : Nat} {d : Dt} {δ : Sl} (h : getS δ i = some (.dat d)) : ED K cl W (tVar i) δ (.ok d δ) := fun S as σ H Q eo p => by
  obtain ⟨v, h1, h2⟩ := eo.dat i d (getS_some h)
  exact ⟨v, h1, p.here eo h2⟩
theorem opt_some {α : Type} {o : Option α} {a : α} {δ : Sl} (h : o = some a) : opt o δ = .ok a δ := by rw [h]; rfl
theorem opt_none {α : Type} {o : Option α} {δ : Sl} (h : o = none) : opt o δ = .bad := by rw [h]; rfl
theorem EI.bindI {wi : TI} {δ : Sl} {ra : Re (List Dt)} {f : List Dt → Sl → Re Dt} {S : Addr → Prop} {as : As} {σ : L2.St} {H : Hp} {Q : VK} {R : It → Hp → Prop} (h : EI K cl W wi δ ra) (eo : EO K S as H σ δ) (p : Pk K cl W S as σ H Q (ra.bind f))
    (k : ∀ ds δ1 J H1, Fr S as H H1 → EO K S as H1 σ δ1 → JOk K (hid H1 S) J ds → Pk K cl W S as σ H1 Q (f ds δ1) → R J H1) : wi σ H R := by
  refine h S as σ H R eo ?_
  cases ra with
  | ok d δ1 => exact fun v H1 f1 e1 r1 => k d δ1 v H1 f1 e1 r1 (Pk.after f1 p)
  | exc x δ1 => exact p
  | bad => exact p
theorem ED.bindI {ta : TE} {δ : Sl} {ra : Re Dt} {f : Dt → Sl → Re (List Dt)} {S : Addr → Prop} {as : As} {σ : L2.St} {H : Hp} {R : It → Hp → Prop} {Q1 : VK} (h : ED K cl W ta δ ra) (eo : EO K S as H σ δ) (p : PkI K cl W S as σ H R (ra.bind f))
    (k : ∀ d δ1 v H1, Fr S as H H1 → EO K S as H1 σ δ1 → Rp K (hid H1 S) v d → PkI K cl W S as σ H1 R (f d δ1) → Q1 v H1) : ta σ H Q1 := by
  refine h S as σ H Q1 eo ?_
  cases ra with
  | ok d δ1 =>
    refine fun v H1 f1 e1 r1 => k d δ1 v H1 f1 e1 r1 ?_
    simp only [Re.bind] at p
    cases hf : f d δ1 with
    | ok ds δ2 => rw [hf] at p; exact fun J H' g => p J H' (f1.trans g)
    | exc x δ2 => rw [hf] at p; exact fun c d H' g => p c d H' (f1.trans g)
    | bad => rw [hf] at p; exact p
  | exc x δ1 => exact p
  | bad => exact p
theorem EA.bindI {ta : TA} {δ : Sl} {ra : Re (List Ar)} {f : List Ar → Sl → Re (List Dt)} {S : Addr → Prop} {as : As} {σ : L2.St} {H : Hp} {R : It → Hp → Prop} {Q1 : List V → Hp → Prop} (h : EA K cl W ta δ ra) (eo : EO K S as H σ δ) (p : PkI K cl W S as σ H R (ra.bind f))
    (k : ∀ rs δ1 vs H1, Fr S as H H1 → EO K S as H1 σ δ1 → ArAll K (hid H1 S) σ vs rs → PkI K cl W S as σ H1 R (f rs δ1) → Q1 vs H1) : ta σ H Q1 := by
  refine h S as σ H Q1 eo ?_
  cases ra with
  | ok d δ1 =>
    refine fun v H1 f1 e1 r1 => k d δ1 v H1 f1 e1 r1 ?_
    simp only [Re.bind] at p
    cases hf : f d δ1 with
    | ok ds δ2 => rw [hf] at p; exact fun J H' g => p J H' (f1.trans g)
    | exc x δ2 => rw [hf] at p; exact fun c d H' g => p c d H' (f1.trans g)
    | bad => rw [hf] at p; exact p
  | exc x δ1 => exact p
  | bad => exact p
/-- an argument as a reading -/
theorem slotOwn_is {Γ : Gm} {e : Expr} {δ : Sl} {i : Nat} (h : slotOwn Γ e δ = some i) : ∃ x p, e = .Name x p ∧ Γ.slot x = some i ∧ isownS δ i = true := by
  unfold slotOwn at h
  split at h
  · next x p =>
    split at h
    · next j hj =>
      split at h
      · next ho => cases h; exact ⟨x, p, rfl, hj, ho⟩
      · cases h
    · cases h
  · cases h
theorem own_get {δ : Sl} {i : Nat} (h : isownS δ i = true) : ∃ c, getS δ i = some (.own c) := by
  unfold isownS at h
  split at h
  · next c hc => exact ⟨c, hc⟩
  · cases h
end
section
variable {n : Nat} {Γ : Gm} {W : WX}
/-- the value of an argument, own lists too -/
theorem ar_ok (A : EAll n Γ W) {e : Expr} {δ : Sl} {S : Addr → Prop} {as : As} {σ : L2.St} {H : Hp} {Q1 : VK} {β : Type} {f : Ar → Sl → Re β} {P : Hp → Re β → Prop} (eo : EO Γ.K S as H σ δ)
    (hP : ∀ H1 r, Fr S as H H1 → P H r → P H1 r) (hX : ∀ H x δ1, P H (.exc x δ1) → ∀ cls dd H', Fr S as H H' → EO Γ.K S as H' σ δ1 → Xr Γ.K Γ.cl (hid H' S) x cls dd → W cls dd σ H') (hB : ∀ H, P H .bad → False)
    (p : P H ((arX n Γ e δ (evE n Γ e δ)).bind f)) (k : ∀ r δ1 v H1, Fr S as H H1 → EO Γ.K S as H1 σ δ1 → ArAll Γ.K (hid H1 S) σ [v] [r] → P H1 (f r δ1) → Q1 v H1) : trE n Γ W e σ H Q1 := by
  unfold arX at p
  split at p
  · exact (hB H p).elim
  · next hn =>
    split at p
    · next i hs =>
      obtain ⟨x, q, rfl, h1, h2⟩ := slotOwn_is hs
      obtain ⟨m, rfl⟩ : ∃ m, n = m + 1 := ⟨n - 1, by omega⟩
      unfold trE
      dsimp only
      rw [h1]
      obtain ⟨c, hc⟩ := own_get h2
      obtain ⟨a, us, _, h4, _⟩ := eo.own i c (getS_some hc)
      exact ⟨.ref a, h4, k (.slot i) δ _ H Fr.refl eo (.slot h4 .nil) p⟩
    · refine A.e e δ S as σ H Q1 eo ?_
      cases hr : evE n Γ e δ with
      | ok d δ1 =>
        rw [hr] at p
        exact fun v H1 f1 e1 r1 => k (.val d) δ1 v H1 f1 e1 (.val r1 .nil) (hP H1 _ f1 p)
      | exc x δ1 => rw [hr] at p; exact hX H x δ1 p
      | bad => rw [hr] at p; exact (hB H p).elim
theorem ea_tr (A : EAll n Γ W) (es : List Expr) (δ : Sl) : EA Γ.K Γ.cl W (trA (n + 1) Γ W es) δ (evA (n + 1) Γ es δ) := by
  unfold trA evA
  cases es with
  | nil => exact fun S as σ H Q eo p => p [] H Fr.refl eo .nil
  | cons e r =>
    dsimp only
    split
    · next hs =>
      intro S as σ H Q eo p
      refine ar_ok A (P := fun H r => PkA Γ.K Γ.cl W S as σ H Q r) eo (fun H1 r f q => PkA.after f q) (fun H x δ1 q => q) (fun H q => q) p fun x δ1 v H1 f1 eo1 r1 p1 => ?_
      refine (A.a r δ1).bindA eo1 p1 fun xs δ2 vs H2 f2 eo2 r2 p2 => ?_
      refine p2 (v :: vs) H2 Fr.refl eo2 ?_
      cases r1 with
      | val q _ => exact .val (Rp.mono f2.le _ q) r2
      | slot q _ => exact .slot q r2
    · exact ea_bad
theorem ei_tr (A : EAll n Γ W) (e : Expr) (δ : Sl) : EI Γ.K Γ.cl W (trI (n + 1) Γ W e) δ (evI (n + 1) Γ e δ) := by
  have plain : ∀ e, EI Γ.K Γ.cl W (iSeq Γ.K (trE n Γ W e)) δ ((evE n Γ e δ).bind fun d δ1 => opt (itemsD d) δ1) := fun e S as σ H R eo p => by
    refine (A.e e δ).bindI eo p fun d δ1 v H1 f1 eo1 r1 p1 => ?_
    cases hd : itemsD d with
    | none => rw [opt_none hd] at p1; exact p1.elim
    | some ds =>
      rw [opt_some hd] at p1
      unfold itemsD at hd
      split at hd
      · cases r1 with
        | lst h1 h2 => cases hd; exact Or.inl ⟨_, rfl, ⟨_, Or.inl (Or.inl (hid_le _ _ h1))⟩, p1 _ H1 Fr.refl eo1 (jok_list (Or.inl (Or.inl h1)) h2)⟩
      · cases r1 with
        | tup h1 h2 => cases hd; exact Or.inr (Or.inl ⟨_, rfl, ⟨_, hid_le.sqt h1⟩, p1 _ H1 Fr.refl eo1 (jok_tup h1 h2)⟩)
      · cases r1; cases hd; exact Or.inr (Or.inr ⟨_, rfl, p1 _ H1 Fr.refl eo1 jok_str⟩)
      · cases hd
  unfold trI evI
  split
  · next x p args q =>
    split
    · split
      · split
        · next a =>
          split
          · intro S as σ H R eo pk
            refine (A.a [a] δ).bindI eo pk fun rs δ1 vs H1 f1 eo1 r1 p1 => ?_
            split at p1
            · next j =>
              split at p1
              · next hj =>
                cases r1 with
                | val h1 h2 =>
                  cases h2; cases h1
                  exact ⟨j, rfl, by omega, by omega, p1 _ H1 Fr.refl eo1 jok_range⟩
              · exact p1.elim
            · exact p1.elim
          · exact ei_bad
        · next a b =>
          split
          · intro S as σ H R eo pk
            refine (A.a [a, b] δ).bindI eo pk fun rs δ1 vs H1 f1 eo1 r1 p1 => ?_
            split at p1
            · next i j =>
              split at p1
              · next hj =>
                cases r1 with
                | val h1 h2 =>
                  cases h2 with
                  | val h3 h4 =>
                    cases h4; cases h3; cases h1
                    exact ⟨i, j, rfl, ⟨by omega, by omega, by omega, by omega⟩, p1 _ H1 Fr.refl eo1 jok_range⟩
              · exact p1.elim
            · exact p1.elim
          · exact ei_bad
        · exact ei_bad
      · exact ei_bad
    · exact plain _
  · exact plain _
theorem eb_tr (A : EAll n Γ W) (e : Expr) (δ : Sl) : EB Γ.K Γ.cl W (trT (n + 1) Γ W e) δ (evT (n + 1) Γ e δ) := by
  have plain : ∀ e, EB Γ.K Γ.cl W (tTr Γ.K (trE n Γ W e)) δ ((evE n Γ e δ).bind fun x δ1 => opt (truD x) δ1) := fun e S as σ H Q eo p => by
    refine (A.e e δ).bindB eo p fun d δ1 v H1 f1 eo1 r1 p1 => ?_
    cases hd : truD d with
    | none => rw [opt_none hd] at p1; exact p1.elim
    | some b => rw [opt_some hd] at p1; exact ⟨b, tru_ok' r1 hd, p1 H1 Fr.refl eo1⟩
  cases e
  case UnaryOp op a pos =>
    cases op
    case Not =>
      intro S as σ H Q eo p
      exact (A.t a δ).bindB eo p fun b δ1 H1 f1 eo1 p1 => p1 H1 Fr.refl eo1
    all_goals exact plain _
  case BoolOp op es pos => exact A.w op es δ
  case IfExp a b c p => exact eb_bad
  case Compare a ops cs pos =>
    unfold trT evT
    dsimp only
    split
    · next op b =>
      split
      · exact eb_bad
      · intro S as σ H Q eo p
        refine (A.e a δ).bindB eo p fun x δ1 v H1 f1 eo1 r1 p1 => ?_
        refine (A.e b δ1).bindB eo1 p1 fun y δ2 u H2 f2 eo2 r2 p2 => ?_
        cases hd : cmpD op x y with
        | none => rw [opt_none hd] at p2; exact p2.elim
        | some t => rw [opt_some hd] at p2; exact cmp_ok eo2 (Rp.mono f2.le _ r1) r2 hd ⟨t, rfl, p2 H2 Fr.refl eo2⟩
    · next op op' b c =>
      split
      · exact eb_bad
      · intro S as σ H Q eo p
        refine (A.e a δ).bindB eo p fun x δ1 v H1 f1 eo1 r1 p1 => ?_
        refine (A.e b δ1).bindB eo1 p1 fun y δ2 u H2 f2 eo2 r2 p2 => ?_
        split at p2
        · next hd =>
          refine cmp_ok eo2 (Rp.mono f2.le _ r1) r2 hd ⟨true, rfl, ?_⟩
          rw [if_pos rfl]
          refine (A.e c δ2).bindB eo2 p2 fun z δ3 w H3 f3 eo3 r3 p3 => ?_
          cases hd3 : cmpD op' y z with
          | none => rw [opt_none hd3] at p3; exact p3.elim
          | some t => rw [opt_some hd3] at p3; exact cmp_ok eo3 (Rp.mono f3.le _ r2) r3 hd3 ⟨t, rfl, p3 H3 Fr.refl eo3⟩
        · next hd =>
          refine cmp_ok eo2 (Rp.mono f2.le _ r1) r2 hd ⟨false, rfl, ?_⟩
          rw [if_neg Bool.false_ne_true]
          exact ⟨false, rfl, p2 H2 Fr.refl eo2⟩
        · exact p2.elim
    · exact eb_bad
  all_goals exact plain _
end
end PD

/-! PD9: what an expression is worth is what its reading asks, all of them. -/
namespace PD
open PySem L2
section
variable {n : Nat} {Γ : Gm} {W : WX}
theorem isown_as {K : PySem.W.Frag} {S : Addr → Prop} {as : As} {H : Hp} {σ : L2.St} {δ : Sl} (eo : EO K S as H σ δ) {vs : List Nat} (h : vs.any (isownS δ) = false) : ∀ i ∈ vs, ∀ a, as[i]? ≠ some (some a) := fun i hi a e => by
  obtain ⟨_, c, hc⟩ := eo.isown i a e
  have : isownS δ i = true := by unfold isownS getS; rw [hc]; rfl
  rw [List.any_eq_false] at h
  exact h i hi this
/-- a new list is hidden, then shown -/
theorem EO.show_ {K : PySem.W.Frag} {S : Addr → Prop} {as : As} {H : Hp} {σ : L2.St} {δ : Sl} {D : Addr} (eo : EO K (fun a => S a ∨ a = D) as H σ δ) (has : ∀ (i : Nat) a, as[i]? = some (some a) → S a) : EO K S as H σ δ := by
  have le : Le (hid H (fun a => S a ∨ a = D)) (hid H S) := hid_sub fun a h => Or.inl h
  refine ⟨eo.l1, eo.l2, fun i d e => ?_, fun i c e => ?_, fun i a e => ⟨has i a e, (eo.isown i a e).2⟩, eo.inj, fun a h => eo.trk a (Or.inl h)⟩
  · obtain ⟨v, h1, h2⟩ := eo.dat i d e
    exact ⟨v, h1, Rp.mono le _ h2⟩
  · obtain ⟨a, us, h1, h2, h3, h4⟩ := eo.own i c e
    exact ⟨a, us, h1, h2, h3, RpAll.mono le _ h4⟩
theorem ed_call (A : EAll n Γ W) (f : Expr) (args : List Expr) (kws : List Keyword) (pos : Pos) (δ : Sl) : ED Γ.K Γ.cl W (trE (n + 1) Γ W (.Call f args kws pos)) δ (evE (n + 1) Γ (.Call f args kws pos) δ) := by
  unfold trE evE
  dsimp only
  split
  · next x p =>
    split
    · split
      · next sem hf =>
        split
        · exact ed_bad
        · next e es =>
          split
          · intro S as σ H Q eo p
            refine (A.a (e :: es) δ).bind eo p fun rs δ1 vs H1 f1 eo1 r1 p1 => ?_
            exact call_ok eo1 r1 p1
          · exact ed_bad
      · split
        · split
          · next e T q =>
            split
            · split
              · next t ht =>
                intro S as σ H Q eo p
                refine (A.e e δ).bind eo p fun d δ1 v H1 f1 eo1 r1 p1 => ?_
                cases hd : isiD d t with
                | none => rw [hd] at p1; exact p1.elim
                | some b => rw [hd] at p1; exact isi_ok r1 hd (p1.here eo1 (.bl b))
              · exact ed_bad
            · exact ed_bad
          · exact ed_bad
        · split
          · split
            · exact ed_bad
            · next e es =>
              split
              · intro S as σ H Q eo p
                refine (A.a (e :: es) δ).bind eo p fun rs δ1 vs H1 f1 eo1 r1 p1 => ?_
                split at p1
                · next ds hds =>
                  cases hd : bltD x ds with
                  | none => rw [opt_none hd] at p1; exact p1.elim
                  | some d => rw [opt_some hd] at p1; exact blt_ok eo1 (r1.vals hds) hd p1
                · exact p1.elim
              · exact ed_bad
          · exact ed_bad
    · exact ed_bad
  · next a ck cp m ap =>
    split
    · next e =>
      split
      · intro S as σ H Q eo p
        refine ⟨⟨a, rfl⟩, (A.e e δ).bind eo p fun y δ2 u H2 f2 eo2 r2 p2 => ?_⟩
        cases hd : joinD a y with
        | none => rw [opt_none hd] at p2; exact p2.elim
        | some d =>
          rw [opt_some hd] at p2
          cases y
          case lst ds =>
            simp only [joinD, Option.bind_eq_some_iff] at hd
            obtain ⟨ys, e1, e2⟩ := hd
            split at e2
            · next hl =>
              cases e2
              cases r2 with
              | lst h1 h2 =>
                have e3 := strs_ok h2 e1
                subst e3
                exact ⟨a, _, ys, rfl, rfl, Or.inl (Or.inl (Or.inl (hid_le _ _ h1))), Nat.le_trans hl (by decide), p2.here eo2 (.str _)⟩
            · cases e2
          all_goals simp [joinD] at hd
      · exact ed_bad
    · exact ed_bad
  · exact ed_bad
theorem po_ok (A : EAll n Γ W) {lo : Option Expr} {δ : Sl} {f : Option Int → Sl → Re Dt} {S : Addr → Prop} {as : As} {σ : L2.St} {H : Hp} {Q : VK} {Q1 : Option Int → Hp → Prop} (eo : EO Γ.K S as H σ δ)
    (p : Pk Γ.K Γ.cl W S as σ H Q ((match lo with
            | none => (.ok none δ : Re (Option Int))
            | some l => (evE n Γ l δ).bind fun y δ2 => match y with | .int i => .ok (some i) δ2 | _ => .bad).bind f))
    (k : ∀ l δ2 H2, Fr S as H H2 → EO Γ.K S as H2 σ δ2 → Pk Γ.K Γ.cl W S as σ H2 Q (f l δ2) → Q1 l H2) : (match lo with | none => tNoPart | some l => tPart (trE n Γ W l)) σ H Q1 := by
  cases lo with
  | none => exact k none δ H Fr.refl eo p
  | some l =>
    show trE n Γ W l σ H _
    refine A.e l δ S as σ H _ eo ?_
    dsimp only at p
    cases hr : evE n Γ l δ with
    | ok y δ2 =>
      rw [hr] at p
      intro v H2 f2 eo2 r2
      simp only [Re.bind] at p
      cases y <;> try (exact p.elim)
      cases r2
      exact ⟨_, rfl, k _ δ2 H2 f2 eo2 (Pk.after f2 p)⟩
    | exc x δ2 => rw [hr] at p; exact p
    | bad => rw [hr] at p; exact p.elim
theorem evLc_noexc {ifs : Sl → Re Bool} {elt : Sl → Re Dt} {t : Tg} {vs : List Nat} : ∀ (ds : List Dt) (δ1 : Sl) x δ2, evLc ifs elt t vs ds δ1 ≠ .exc x δ2 := by
  intro ds
  induction ds with
  | nil => intro δ1 x δ2 h; cases h
  | cons d r ih =>
    intro δ1 x δ2 h
    simp only [evLc] at h
    split at h
    · cases h
    · split at h
      · split at h
        · next y δy hy =>
          cases hr : evLc ifs elt t vs r (keepS vs δ1 δy) with
          | ok a b => rw [hr] at h; cases h
          | exc a b => exact ih _ _ _ hr
          | bad => rw [hr] at h; cases h
        · cases h
      · exact ih _ _ _ h
      · cases h
theorem evLc2_noexc {ifs ifs1 : Sl → Re Bool} {it1 : Sl → Re (List Dt)} {elt : Sl → Re Dt} {t t1 : Tg} {vs : List Nat} : ∀ (ds : List Dt) (δ1 : Sl) x δ2, evLc2 ifs it1 ifs1 elt t t1 vs ds δ1 ≠ .exc x δ2 := by
  intro ds
  induction ds with
  | nil => intro δ1 x δ2 h; cases h
  | cons d r ih =>
    intro δ1 x δ2 h
    simp only [evLc2] at h
    split at h
    · cases h
    · split at h
      · split at h
        · split at h
          · next y δy hy =>
            cases hr : evLc2 ifs it1 ifs1 elt t t1 vs r (keepS vs δ1 δy) with
            | ok a b => rw [hr] at h; cases h
            | exc a b => exact ih _ _ _ hr
            | bad => rw [hr] at h; cases h
          · cases h
        · cases h
      · exact ih _ _ _ h
      · cases h
theorem lc2_loop {K : PySem.W.Frag} {cl' : Cls} {S : Addr → Prop} {as : As} {σ : L2.St} {H : Hp} {δ : Sl} {t t1 : Tg} {vs : List Nat} {tt tt1 : TT} {te : TE} {wi1 : TI} {ifs ifs1 : Sl → Re Bool} {it1 : Sl → Re (List Dt)} {elt : Sl → Re Dt} {D : Addr} {J : It} {Hb : Hp} {Qd : Hp → Prop} {ds ys acc0 : List Dt} {us0 : List V} {δ2 : Sl}
    (ht : ∀ δ, EB K cl' (fun _ _ _ _ => False) tt δ (ifs δ)) (hi1 : ∀ δ, EI K cl' (fun _ _ _ _ => False) wi1 δ (it1 δ)) (ht1 : ∀ δ, EB K cl' (fun _ _ _ _ => False) tt1 δ (ifs1 δ)) (he : ∀ δ, ED K cl' (fun _ _ _ _ => False) te δ (elt δ))
    (htv : ∀ i ∈ tgSlots t, i ∈ vs) (htv1 : ∀ i ∈ tgSlots t1, i ∈ vs) (hv : ∀ i ∈ vs, ∀ a, as[i]? ≠ some (some a))
    (ev : evLc2 ifs it1 ifs1 elt t t1 vs ds δ = .ok ys δ2) (hl : acc0.length + ys.length ≤ LIM) (eo : EO K S as H σ δ) (hD : S D) (hDa : ∀ i : Nat, as[i]? ≠ some (some D)) (h0 : H D = some (.lst us0)) (r0 : RpAll K (hid H S) us0 acc0)
    (hJ : JOk K Hb J ds) (leb : Le Hb (hid H S)) (fin : ∀ H' us, FrD S as D H H' → EO K S as H' σ δ2 → H' D = some (.lst us) → RpAll K (hid H' S) us (acc0 ++ ys) → Qd H') :
    ∃ Wv : Nat → Nat → Hp → Prop, (∃ m, Wv 0 m H) ∧ ∀ i m H, Wv i m H → (J.stop i H ∧ Qd H) ∨ (J.go i H ∧ ∃ Nx : Hp → Prop, (∀ H', Nx H' → ∃ m', m' < m ∧ Wv (i + 1) m' H') ∧ ∀ x H', J.yld i H x H' → gT K t x (wipe σ vs) H' fun σ2 H2 => wipe σ2 vs = wipe σ vs ∧ tt σ2 H2 fun b H3 =>
      if b = true then wi1 σ2 H3 fun J1 H4 => ∃ W1 : Nat → Nat → Hp → Prop, (∃ m, W1 0 m H4) ∧ ∀ j k H, W1 j k H →
        (J1.stop j H ∧ Nx H) ∨ (J1.go j H ∧ ∃ Nx1 : Hp → Prop, (∀ H', Nx1 H' → ∃ k', k' < k ∧ W1 (j + 1) k' H') ∧ ∀ x H', J1.yld j H x H' → gT K t1 x (wipe σ2 (tgSlots t1)) H' fun σ3 H5 => wipe σ3 (tgSlots t1) = wipe σ2 (tgSlots t1) ∧ tt1 σ3 H5 fun b H6 =>
          if b = true then te σ3 H6 fun y H7 => ∃ acc, H7 D = some (.lst acc) ∧ acc.length < sizeLine ∧ Nx1 (upd H7 D (.lst (acc ++ [y]))) else Nx1 H6)
      else Nx H3) := by
  refine ⟨fun i m Hc => m = ds.length - i ∧ i ≤ ds.length ∧ ∃ δi done rest us, FrD S as D H Hc ∧ EO K S as Hc σ δi ∧ Hc D = some (.lst us) ∧ RpAll K (hid Hc S) us (acc0 ++ done) ∧ ys = done ++ rest ∧ evLc2 ifs it1 ifs1 elt t t1 vs (ds.drop i) δi = .ok rest δ2,
    ⟨ds.length, by simp, Nat.zero_le _, δ, [], ys, us0, FrD.refl, eo, h0, by rw [List.append_nil]; exact r0, rfl, ev⟩, ?_⟩
  rintro i m Hc ⟨rfl, hi, δi, done, rest, us, f, eoi, hDc, rc, hys, evi⟩
  have lec : Le Hb (hid Hc S) := leb.trans f.le
  obtain ⟨j1, j2, j3⟩ := hJ Hc (lec.trans hid_le)
  by_cases hlt : i < ds.length
  · refine .inr ⟨j1 i hlt, fun Hn => ∃ δn dn rn un, FrD S as D H Hn ∧ EO K S as Hn σ δn ∧ Hn D = some (.lst un) ∧ RpAll K (hid Hn S) un (acc0 ++ dn) ∧ ys = dn ++ rn ∧ evLc2 ifs it1 ifs1 elt t t1 vs (ds.drop (i + 1)) δn = .ok rn δ2,
      fun H' h => ⟨ds.length - (i + 1), by omega, rfl, hlt, h⟩, fun x H' hy => ?_⟩
    obtain ⟨rfl, d, hd, rx⟩ := j3 i x H' hlt hy
    have hdd : d = ds[i] := by rw [List.getElem?_eq_getElem hlt] at hd; exact (Option.some.inj hd).symm
    rw [List.drop_eq_getElem_cons hlt, ← hdd] at evi
    simp only [evLc2] at evi
    split at evi
    · cases evi
    · next δ0 hp =>
      refine put_ok hp (eoi.wipe hv) (Rp.mono lec _ rx) fun σ2 eo2 off => ?_
      have off' : Off vs σ σ2 := (Off.wipe vs).trans (off.mono htv)
      refine ⟨off'.wipes.symm, ?_⟩
      refine ht δ0 S as σ2 H' _ eo2 ?_
      split at evi
      · next δ1 hi1' =>
        rw [hi1']
        intro H3 f3 eo3
        show wi1 σ2 H3 _
        refine hi1 δ1 S as σ2 H3 _ eo3 ?_
        split at evi
        · next ds1 δ2' hy1 =>
          rw [hy1]
          intro J1 H4 f4 eo4 hJ1
          have f34 : Fr S as H' H4 := f3.trans f4
          have hD4 : H4 D = some (.lst us) := (f34.hidd D hD hDa).trans hDc
          have rc4 : RpAll K (hid H4 S) us (acc0 ++ done) := RpAll.mono f34.le _ rc
          split at evi
          · next zs δ3 hz =>
            cases hr : evLc2 ifs it1 ifs1 elt t t1 vs (ds.drop (i + 1)) (keepS vs δi δ3) with
            | ok ws δ4 =>
              rw [hr] at evi
              simp only [Re.bind, Re.ok.injEq] at evi
              obtain ⟨rfl, rfl⟩ := evi
              refine lc_loop (acc0 := acc0 ++ done) (us0 := us) (Hb := hid H4 S) ht1 he (fun i h => h) (fun i hi a => hv i (htv1 i hi) a) hz ?_ eo4 hD hDa hD4 rc4 hJ1 (Le.refl _) ?_
              · rw [hys, List.length_append, List.length_append] at hl
                rw [List.length_append]
                omega
              · intro H5 us5 f5 eo5 h5 r5
                refine ⟨keepS vs δi δ3, done ++ zs, ws, us5, (f.trans f34.frd).trans f5, eoi.keep eo5 off' (f34.le.trans f5.le) hv, h5, by rw [← List.append_assoc]; exact r5, by rw [hys, List.append_assoc], hr⟩
            | exc x δ4 => rw [hr] at evi; cases evi
            | bad => rw [hr] at evi; cases evi
          · cases evi
        · cases evi
      · next δ1 hi1' =>
        rw [hi1']
        intro H3 f3 eo3
        show ∃ δn dn rn un, _
        exact ⟨keepS vs δi δ1, done, rest, us, f.trans f3.frd, eoi.keep eo3 off' f3.le hv, (f3.hidd D hD hDa).trans hDc, RpAll.mono f3.le _ rc, hys, evi⟩
      · cases evi
  · have e : i = ds.length := by omega
    subst e
    rw [List.drop_length] at evi
    simp only [evLc2, Re.ok.injEq] at evi
    obtain ⟨rfl, rfl⟩ := evi
    rw [List.append_nil] at hys
    subst hys
    exact .inl ⟨j2 _ (Nat.le_refl _), fin Hc us f eoi hDc rc⟩
theorem ed_comp (A : EAll n Γ W) (B : ∀ Γ W, GlOk Γ → EAll n Γ W) (G : GlOk Γ) (elt : Expr) (gens : List Comprehension) (scope : Scope) (pos : Pos) (δ : Sl) :
    ED Γ.K Γ.cl W (trE (n + 1) Γ W (.ListComp elt gens scope pos)) δ (evE (n + 1) Γ (.ListComp elt gens scope pos) δ) := by
  have B' : EAll n { Γ with sc := scope } (fun _ _ _ _ => False) := B _ _ G
  unfold trE evE
  dsimp only
  split
  · next tg iter ifs =>
    split
    · exact ed_bad
    · split
      · split
        · next t ht =>
          split
          · exact ed_bad
          · next hown =>
            have hown' : ((ownOf Γ scope).map (·.2)).any (isownS δ) = false := by simpa using hown
            split
            · next hsub =>
              simp only [List.all_eq_true, decide_eq_true_eq] at hsub
              intro S as σ H Q eo p
              have hv := isown_as eo hown'
              have has : ∀ (i : Nat) a, as[i]? = some (some a) → S a := fun i a e => (eo.isown i a e).1
              refine (A.i iter δ).bindI eo p fun ds δ1 J H1 f1 eo1 hJ p1 D hD => ?_
              have nS : ¬ S D := eo1.nS hD
              cases hev : evLc (evIfs n { Γ with sc := scope } ifs) (evE n { Γ with sc := scope } elt) t ((ownOf Γ scope).map (·.2)) ds δ1 with
              | ok ys δ2 =>
                rw [hev] at p1
                simp only [Re.bind] at p1
                split at p1
                · next hlen =>
                  refine lc_loop (S := fun a => S a ∨ a = D) (acc0 := []) (us0 := []) (Hb := hid H1 S) (fun δ => B'.f ifs δ) (fun δ => B'.e elt δ) hsub hv hev (by simpa using hlen) (eo1.hide hD) (Or.inr rfl) (fun i e => nS (has i D e)) upd_same .nil hJ ?_ ?_
                  · intro a o h
                    obtain ⟨h1, h2⟩ := hid_of h
                    have ne := ne_of_none h1 hD
                    exact hid_some (by rw [upd_ne ne]; exact h1) fun q => q.elim h2 ne
                  · intro H' us f' eo' h' r'
                    refine p1 (.ref D) H' ⟨fun a o hs e => ?_, fun a hs hi => ?_⟩ (eo'.show_ has) (.lst (hid_some h' nS) (RpAll.mono (hid_sub fun a h => Or.inl h) _ r'))
                    · have ne := ne_of_none e hD
                      exact f'.keep a o (fun q => q.elim hs ne) (by rw [upd_ne ne]; exact e)
                    · have ne : a ≠ D := fun z => nS (z ▸ hs)
                      rw [f'.hidd a (Or.inl hs) ne hi, upd_ne ne]
                · exact p1.elim
              | exc x δ2 => exact absurd hev (evLc_noexc _ _ _ _)
              | bad => rw [hev] at p1; exact p1.elim
            · exact ed_bad
        · exact ed_bad
      · exact ed_bad
  · next tg iter ifs tg1 iter1 ifs1 =>
    split
    · exact ed_bad
    · split
      · split
        · next t t1 ht ht1 =>
          split
          · next hv1 =>
            simp only [List.all_eq_true, decide_eq_true_eq] at hv1
            split
            · exact ed_bad
            · next hown =>
              have hown' : ((ownOf Γ scope).map (·.2)).any (isownS δ) = false := by simpa using hown
              split
              · next hsub =>
                simp only [List.all_eq_true, decide_eq_true_eq] at hsub
                intro S as σ H Q eo p
                have hv := isown_as eo hown'
                have has : ∀ (i : Nat) a, as[i]? = some (some a) → S a := fun i a e => (eo.isown i a e).1
                refine (A.i iter δ).bindI eo p fun ds δ1 J H1 f1 eo1 hJ p1 D hD => ?_
                have nS : ¬ S D := eo1.nS hD
                cases hev : evLc2 (evIfs n { Γ with sc := scope } ifs) (evI n { Γ with sc := scope } iter1) (evIfs n { Γ with sc := scope } ifs1) (evE n { Γ with sc := scope } elt) t t1 ((ownOf Γ scope).map (·.2)) ds δ1 with
                | ok ys δ2 =>
                  rw [hev] at p1
                  simp only [Re.bind] at p1
                  split at p1
                  · next hlen =>
                    refine lc2_loop (S := fun a => S a ∨ a = D) (acc0 := []) (us0 := []) (Hb := hid H1 S) (fun δ => B'.f ifs δ) (fun δ => B'.i iter1 δ) (fun δ => B'.f ifs1 δ) (fun δ => B'.e elt δ) hsub hv1 hv hev (by simpa using hlen) (eo1.hide hD) (Or.inr rfl) (fun i e => nS (has i D e)) upd_same .nil hJ ?_ ?_
                    · intro a o h
                      obtain ⟨h1, h2⟩ := hid_of h
                      have ne := ne_of_none h1 hD
                      exact hid_some (by rw [upd_ne ne]; exact h1) fun q => q.elim h2 ne
                    · intro H' us f' eo' h' r'
                      refine p1 (.ref D) H' ⟨fun a o hs e => ?_, fun a hs hi => ?_⟩ (eo'.show_ has) (.lst (hid_some h' nS) (RpAll.mono (hid_sub fun a h => Or.inl h) _ r'))
                      · have ne := ne_of_none e hD
                        exact f'.keep a o (fun q => q.elim hs ne) (by rw [upd_ne ne]; exact e)
                      · have ne : a ≠ D := fun z => nS (z ▸ hs)
                        rw [f'.hidd a (Or.inl hs) ne hi, upd_ne ne]
                  · exact p1.elim
                | exc x δ2 => exact absurd hev (evLc2_noexc _ _ _ _)
                | bad => rw [hev] at p1; exact p1.elim
              · exact ed_bad
          · next hv1 =>
            split
            · exact ed_bad
            · exact ed_bad
        · exact ed_bad
      · exact ed_bad
  · exact ed_bad
theorem ed_tr (A : EAll n Γ W) (B : ∀ Γ W, GlOk Γ → EAll n Γ W) (G : GlOk Γ) (e : Expr) (δ : Sl) : ED Γ.K Γ.cl W (trE (n + 1) Γ W e) δ (evE (n + 1) Γ e δ) := by
  cases e
  case Call f args kws pos => exact ed_call A f args kws pos δ
  case ListComp elt gens scope pos => exact ed_comp A B G elt gens scope pos δ
  case Name x pos =>
    unfold trE evE
    dsimp only
    split
    · next i hi =>
      split
      · next d hd => exact ed_var hd
      · exact ed_bad
    · split
      · split
        · next v d hd => exact ed_c (G x v d hd)
        · exact ed_bad
      · exact ed_bad
  case Constant c k pos =>
    unfold trE evE
    dsimp only
    split
    · exact ed_c fun H => .non
    · exact ed_c fun H => .bl _
    · exact ed_c fun H => .int _
    · exact ed_c fun H => .str _
    · exact ed_bad
  case BinOp a op b pos =>
    intro S as σ H Q eo p
    refine (A.e a δ).bind eo p fun x δ1 v H1 f1 eo1 r1 p1 => ?_
    refine (A.e b δ1).bind eo1 p1 fun y δ2 u H2 f2 eo2 r2 p2 => ?_
    cases hd : binD op x y with
    | none => rw [opt_none hd] at p2; exact p2.elim
    | some d => rw [opt_some hd] at p2; exact bin_ok eo2 (Rp.mono f2.le _ r1) r2 hd p2
  case UnaryOp op a pos =>
    unfold trE evE
    cases op
    case Not =>
      intro S as σ H Q eo p
      refine (A.e a δ).bind eo p fun x δ1 v H1 f1 eo1 r1 p1 => ?_
      split at p1
      · next b => cases r1; exact ⟨b, rfl, p1.here eo1 (.bl _)⟩
      · exact p1.elim
    case USub =>
      intro S as σ H Q eo p
      refine (A.e a δ).bind eo p fun x δ1 v H1 f1 eo1 r1 p1 => ?_
      split at p1
      · next i => cases r1; exact ⟨i, rfl, p1.here eo1 (.int _)⟩
      · exact p1.elim
    all_goals exact ed_bad
  case BoolOp op es pos => exact A.b op es δ
  case Compare a ops cs pos =>
    unfold trE evE
    dsimp only
    split
    · next op b =>
      split
      · exact ed_bad
      · intro S as σ H Q eo p
        refine (A.e a δ).bind eo p fun x δ1 v H1 f1 eo1 r1 p1 => ?_
        refine (A.e b δ1).bind eo1 p1 fun y δ2 u H2 f2 eo2 r2 p2 => ?_
        cases hd : cmpD op x y with
        | none => rw [hd] at p2; exact p2.elim
        | some t => rw [hd] at p2; exact cmp_ok eo2 (Rp.mono f2.le _ r1) r2 hd (p2.here eo2 (.bl t))
    · next op op' b c =>
      split
      · exact ed_bad
      · intro S as σ H Q eo p
        refine (A.e a δ).bind eo p fun x δ1 v H1 f1 eo1 r1 p1 => ?_
        refine (A.e b δ1).bind eo1 p1 fun y δ2 u H2 f2 eo2 r2 p2 => ?_
        split at p2
        · next hd =>
          refine cmp_ok eo2 (Rp.mono f2.le _ r1) r2 hd ⟨true, rfl, ?_⟩
          rw [if_pos rfl]
          refine (A.e c δ2).bind eo2 p2 fun z δ3 w H3 f3 eo3 r3 p3 => ?_
          cases hd3 : cmpD op' y z with
          | none => rw [hd3] at p3; exact p3.elim
          | some t => rw [hd3] at p3; exact cmp_ok eo3 (Rp.mono f3.le _ r2) r3 hd3 (p3.here eo3 (.bl t))
        · next hd =>
          refine cmp_ok eo2 (Rp.mono f2.le _ r1) r2 hd ⟨false, rfl, ?_⟩
          rw [if_neg Bool.false_ne_true]
          exact p2.here eo2 (.bl _)
        · exact p2.elim
    · exact ed_bad
  case IfExp c a b pos =>
    intro S as σ H Q eo p
    refine (A.t c δ).bind eo p fun t δ1 H1 f1 eo1 p1 => ?_
    cases t with
    | true => exact A.e a δ1 S as σ H1 Q eo1 p1
    | false => exact A.e b δ1 S as σ H1 Q eo1 p1
  case Tuple es k pos =>
    intro S as σ H Q eo p
    refine (A.a es δ).bind eo p fun rs δ1 vs H1 f1 eo1 r1 p1 => ?_
    split at p1
    · next ds hds =>
      split at p1
      · next hl =>
        have r2 := r1.vals hds
        exact ⟨by rw [r2.length]; exact lim_size hl, fun a hn => p1.newT eo1 r2 hn⟩
      · exact p1.elim
    · exact p1.elim
  case List es pos =>
    intro S as σ H Q eo p
    refine (A.a es δ).bind eo p fun rs δ1 vs H1 f1 eo1 r1 p1 => ?_
    split at p1
    · next ds hds =>
      split at p1
      · next hl =>
        have r2 := r1.vals hds
        exact ⟨by rw [r2.length]; exact lim_size hl, fun a hn => p1.newL eo1 r2 hn⟩
      · exact p1.elim
    · exact p1.elim
  case Subscript a s pos =>
    unfold trE evE
    dsimp only
    split
    · next lo hi st p =>
      split
      · intro S as σ H Q eo p
        refine (A.e a δ).bind eo p fun x δ1 v H1 f1 eo1 r1 p1 => ?_
        refine po_ok A eo1 p1 fun l δ2 H2 f2 eo2 p2 => ?_
        refine po_ok A eo2 p2 fun h δ3 H3 f3 eo3 p3 => ?_
        cases hd : slD x l h with
        | none => rw [opt_none hd] at p3; exact p3.elim
        | some d => rw [opt_some hd] at p3; exact sl_ok eo3 (Rp.mono (f2.trans f3).le _ r1) hd p3
      · exact ed_bad
    · next hs =>
      intro S as σ H Q eo p
      refine ar_ok A (P := fun H r => Pk Γ.K Γ.cl W S as σ H Q r) eo (fun H1 r f q => Pk.after f q) (fun H x δ1 q => q) (fun H q => q) p fun x δ1 v H1 f1 eo1 r1 p1 => ?_
      refine (A.e s δ1).bind eo1 p1 fun y δ2 u H2 f2 eo2 r2 p2 => ?_
      split at p2
      · next d =>
        cases r1 with
        | val q _ =>
          cases hd : ixD d y with
          | none => rw [opt_none hd] at p2; exact p2.elim
          | some z => rw [opt_some hd] at p2; exact ix_ok eo2 (Rp.mono f2.le _ q) r2 hd p2
      · next k =>
        cases r1 with
        | slot q _ =>
          split at p2
          · next c j hc =>
            cases r2
            obtain ⟨b, us, h1, h2, h3, h4⟩ := eo2.own k c (getS_some hc)
            rw [q] at h2; cases h2
            cases hd : atI c j with
            | none => rw [opt_none hd] at p2; exact p2.elim
            | some z =>
              rw [opt_some hd] at p2
              obtain ⟨w, e1, e2⟩ := atI_rp h4 hd
              exact Or.inl ⟨b, us, j, w, rfl, rfl, Or.inl (Or.inl h3), e1, p2.here eo2 e2⟩
          · exact p2.elim
  all_goals exact ed_bad
theorem eall (n : Nat) : ∀ (Γ : Gm) (W : WX), GlOk Γ → EAll n Γ W := by
  induction n with
  | zero => exact fun _ _ _ => eall0
  | succ n ih =>
    intro Γ W G
    have A := ih Γ W G
    refine ⟨ed_tr A ih G, eb_tr A, ea_tr A, fun op es δ => ?_, fun op es δ => ?_, ei_tr A, fun es δ => ?_⟩
    · unfold trBool evBool
      match es with
      | [] => exact ed_bad
      | [a] => exact A.e a δ
      | a :: b :: r =>
        cases op
        · intro S as σ H Q eo p
          refine (A.e a δ).bind eo p fun x δ1 v H1 f1 eo1 r1 p1 => ?_
          split at p1
          · cases r1
            refine ⟨true, rfl, ?_⟩
            rw [if_pos rfl]
            exact A.b _ _ δ1 S as σ H1 Q eo1 p1
          · cases r1
            refine ⟨false, rfl, ?_⟩
            rw [if_neg Bool.false_ne_true]
            exact p1.here eo1 (.bl _)
          · exact p1.elim
        · intro S as σ H Q eo p
          refine (A.e a δ).bind eo p fun x δ1 v H1 f1 eo1 r1 p1 => ?_
          split at p1
          · cases r1
            refine ⟨true, rfl, ?_⟩
            rw [if_pos rfl]
            exact p1.here eo1 (.bl _)
          · cases r1
            refine ⟨false, rfl, ?_⟩
            rw [if_neg Bool.false_ne_true]
            exact A.b _ _ δ1 S as σ H1 Q eo1 p1
          · exact p1.elim
    · unfold trBoolT evBoolT
      match es with
      | [] => exact eb_bad
      | [a] => exact A.t a δ
      | a :: b :: r =>
        cases op
        · intro S as σ H Q eo p
          refine (A.t a δ).bindB eo p fun x δ1 H1 f1 eo1 p1 => ?_
          cases x with
          | true => exact A.w _ _ δ1 S as σ H1 Q eo1 p1
          | false => exact p1 H1 Fr.refl eo1
        · intro S as σ H Q eo p
          refine (A.t a δ).bindB eo p fun x δ1 H1 f1 eo1 p1 => ?_
          cases x with
          | true => exact p1 H1 Fr.refl eo1
          | false => exact A.w _ _ δ1 S as σ H1 Q eo1 p1
    · unfold trIfs evIfs
      match es with
      | [] => exact fun S as σ H Q eo p => p H Fr.refl eo
      | [c] => exact A.t c δ
      | _ :: _ :: _ => exact eb_bad
end
end PD

/-! PDa: statements: their readings (trS), what they do to the slots (evS). -/
namespace PD
open PySem L2
inductive Fl where
  | nx (δ : Sl)
  | rt (d : Dt) (δ : Sl)
  | rf (c : List Dt) (δ : Sl)
  | bk (δ : Sl)
  | ct (δ : Sl)
  | exc (x : Exn) (δ : Sl)
  | bad
/-- an evaluation, then a statement's rest -/
def Re.fl {α : Type} : Re α → (α → Sl → Fl) → Fl
  | .ok a δ, f => f a δ
  | .exc x δ, _ => .exc x δ
  | .bad, _ => .bad
def Fl.seq : Fl → (Sl → Fl) → Fl
  | .nx δ, f => f δ
  | r, _ => r
/-- the own lists made here are lists like others from now on -/
def frz (ow : List Nat) (δ : Sl) : Sl := δ.mapIdx fun i x => if i ∈ ow then (match x with | some (.own c) => some (.dat (.lst c)) | x => x) else x
def noS : TS := fun _ _ _ => False
/-- what is raised -/
def tMkX (C : Addr) (ns : List Str) (ta : TA) : L2.St → Hp → XK → Prop := fun σ H Q => ta σ H fun vs H1 => vs.length = ns.length ∧ ∀ d, H1 d = none → Q (.ref C) (some d) (upd H1 d (.xd (ns.zip vs)))
def tMk0 (C : Addr) : L2.St → Hp → XK → Prop := fun _ H Q => Q (.ref C) none H
/-- x = [..] on one line -/
def swapB (sc : Scope) (x : Str) (py pos : Pos) (scope : Scope) : Bool := locB sc x && (py.line == pos.line) && !(scope.names.any fun (n, k) => n == x && (k == .local || k == .cell))
def isComp : Expr → Bool
  | .ListComp _ _ _ _ => true
  | .SetComp _ _ _ _ => true
  | .DictComp _ _ _ _ _ => true
  | _ => false
def isNilE : Expr → Bool
  | .List [] _ => true
  | _ => false
def isSlice : Expr → Bool
  | .Slice _ _ _ _ => true
  | _ => false

/-- a call by name of a def that gives a new list -/
def frX (Γ : Gm) (f : Expr) (args : List Expr) (kws : List Keyword) : Option Str := match f, args, kws with
  | .Name x _, e :: es, [] => if Γ.glob x && (e :: es).all nostar && Γ.fq x then some x else none
  | _, _, _ => none
/-! ### in an except suite: e.f, comparisons, isinstance(e, C) -/
def cvOf : V → Option Value
  | .ref a => some (.ref a)
  | .ty t => some (.type t)
  | _ => none
def tXs (Γ : Gm) (a : Addr) (cls : Value) (d : Option Addr) (f : Str) (te : TE) : TE := fun σ H Q => ∃ (y : Str) (C : Addr) (ns : List Str), Γ.cl y = some (C, ns) ∧ f ∈ ns ∧ tXf a cls d C f te σ H Q
def rIsX (Γ : Gm) (a : Addr) (cls : Value) (d : Option Addr) : List V → Hp → VK → Prop := fun xs H Q => ∃ (y : Str) (C : Addr) (ns : List Str) (c : V) (cv : Value) (b : Bool), Γ.cl y = some (C, ns) ∧ cls = .ref C ∧ (d = none ∨ ∃ dd fs, d = some dd ∧ H dd = some (.xd fs)) ∧ xs = [.ref a, c] ∧ cvOf c = some cv ∧ PySem.W.kitOne Γ.K (.ref C) cv = some b ∧ Q (.bl b) H
mutual
def trH (n : Nat) (Γ : Gm) (ev : Str) (a : Addr) (cls : Value) (d : Option Addr) (e : Expr) : TE := match n with
  | 0 => noE
  | n + 1 => match e with
    | .Name x _ => match Γ.slot x with
      | some i => tVar i
      | none => noE
    | .Constant c _ _ => match c with
      | .none => tC .non
      | .bool b => tC (.bl b)
      | .int i => tC (.int i)
      | .str s => tC (.str s)
      | _ => noE
    | .Attribute (.Name y _) f _ => if y = ev then (match Γ.slot y with | some i => tXs Γ a cls d f (tVar i) | none => noE) else noE
    | .Compare l ops cs _ => match ops, cs with
      | [op], [r] => if isSet r then noE else tOp (rCmp Γ.K op) (trH n Γ ev a cls d l) (trH n Γ ev a cls d r)
      | _, _ => noE
    | .List es _ => tLst (trHA n Γ ev a cls d es)
    | .Call f args kws _ => match f, args, kws with
      | .Name x _, [.Name y _, .Name T _], [] => if x = "isinstance" ∧ y = ev ∧ Γ.glob x = true ∧ Γ.glob T = true then (match Γ.slot y, Γ.xc T with
        | some i, some c => tCB (rIsX Γ a cls d) (tCons (tVar i) (tCons (tC c) tNil))
        | _, _ => noE) else noE
      | _, _, _ => noE
    | _ => noE
def trHA (n : Nat) (Γ : Gm) (ev : Str) (a : Addr) (cls : Value) (d : Option Addr) (es : List Expr) : TA := match n with
  | 0 => noA
  | n + 1 => match es with
    | [] => tNil
    | e :: r => if nostar e then tCons (trH n Γ ev a cls d e) (trHA n Γ ev a cls d r) else noA
end
mutual
def evH (n : Nat) (Γ : Gm) (ev : Str) (y : Exn) (δ : Sl) (e : Expr) : Option Dt := match n with
  | 0 => none
  | n + 1 => match e with
    | .Name x _ => match Γ.slot x with
      | some i => match getS δ i with
        | some (.dat d) => some d
        | _ => none
      | none => none
    | .Constant c _ _ => match c with
      | .none => some .non
      | .bool b => some (.bl b)
      | .int i => some (.int i)
      | .str s => some (.str s)
      | _ => none
    | .Attribute (.Name z _) f _ => if z = ev then (match Γ.slot z with
      | some _ => match Γ.cl y.cls with
        | some (_, ns) => (ns.zip y.fs).lookup f
        | none => none
      | none => none) else none
    | .Compare l ops cs _ => match ops, cs with
      | [op], [r] => if isSet r then none else match evH n Γ ev y δ l, evH n Γ ev y δ r with
        | some u, some v => (cmpD op u v).map .bl
        | _, _ => none
      | _, _ => none
    | .List es _ => match evHA n Γ ev y δ es with
      | some ds => if ds.length ≤ LIM then some (.lst ds) else none
      | none => none
    | .Call f args kws _ => match f, args, kws with
      | .Name x _, [.Name z _, .Name T _], [] => if x = "isinstance" ∧ z = ev ∧ Γ.glob x = true ∧ Γ.glob T = true then (match Γ.slot z, Γ.xc T with
        | some _, some v => if (cvOf v).isSome then (Γ.xs y.cls T).map .bl else none
        | _, _ => none) else none
      | _, _, _ => none
    | _ => none
def evHA (n : Nat) (Γ : Gm) (ev : Str) (y : Exn) (δ : Sl) (es : List Expr) : Option (List Dt) := match n with
  | 0 => none
  | n + 1 => match es with
    | [] => some []
    | e :: r => if nostar e then (match evH n Γ ev y δ e, evHA n Γ ev y δ r with
      | some d, some ds => some (d :: ds)
      | _, _ => none) else none
end

mutual
def trS (n : Nat) (Γ : Gm) (W : WX) (s : Stmt) : TS := match n with
  | 0 => noS
  | n + 1 => match s with
    | .Return none _ => tRetN
    | .Return (some e) _ => tRet (trE n Γ W e)
    | .Pass _ => tNext
    | .Break _ => tBreak
    | .Continue _ => tCont
    | .Expr e _ => match e with
      | .Constant (.str _) _ _ => tNext
      | .Call (.Attribute (.Name x p) m ap) [e] [] cp => if nostar e && (ap.endLine == cp.line) then
          (if m = "append" then tDrop (tBM Γ.K "list" rAppend (trE n Γ W (.Name x p)) (trA n Γ W [e]))
          else if m = "extend" then tDrop (tBM Γ.K "list" rExtend (trE n Γ W (.Name x p)) (trA n Γ W [e])) else noS) else noS
      | .Call (.Name x p) args [] q => tDrop (trE n Γ W (.Call (.Name x p) args [] q))
      | _ => noS
    | .Assign [tg] e pos => match tg with
      | .Name x py => if locB Γ.sc x && okName x && decide (Γ.N.idxOf x < Γ.N.length) then
          (match e with
          | .ListComp elt gens scope p => if swapB Γ.sc x py p scope then tAsg (trE n Γ W (.ListComp elt gens scope p)) (gName (Γ.N.idxOf x)) else noS
          | .Call f args kws q => (match frX Γ f args kws with
            | some y => (match Γ.fr y with
              | some sem => tAsg (tCallS (spF Γ.K Γ.cl sem) (WE W) (trA n Γ W args)) (gName (Γ.N.idxOf x))
              | none => noS)
            | none => tAsg (trE n Γ W (.Call f args kws q)) (gName (Γ.N.idxOf x)))
          | e => if isComp e then noS else tAsg (trE n Γ W e) (gName (Γ.N.idxOf x))) else noS
      | .Tuple ts k pt => match slotsT Γ ts with
        | some is => match e with
          | .Tuple vs k2 p2 => if vs.all nostar then (if vs.all (foldedForSure 8) then tAsg (trE n Γ W (.Tuple vs k2 p2)) (gT Γ.K (.tup is))
            else if vs.all (constantsAlone 8) then noS
            else if decide (is.Nodup) && decide (ts.length = vs.length) then (match ts, vs, is with
              | [.Name _ p1, .Name _ p2], [_, _], [i, j] => if p2.line == p1.line then tPar i j (trA n Γ W vs) else noS
              | [.Name _ p1, .Name _ p2, .Name _ p3], [_, _, _], [i, j, l] => if (p2.line == p1.line) && (p3.line == p1.line) then tPar3 i j l (trA n Γ W vs) else noS
              | _, _, _ => noS) else noS) else noS
          | e => if isComp e then noS else tAsg (trE n Γ W e) (gT Γ.K (.tup is))
        | none => noS
      | .Subscript o i _ => match o with
        | .Name x p => if isSlice i then noS else tAsg (trE n Γ W e) (gSub (trE n Γ W (.Name x p)) (trE n Γ W i) rSetL)
        | _ => noS
      | _ => noS
    | .AugAssign tg op e _ => match tg with
      | .Name x _ => if locB Γ.sc x && okName x && decide (Γ.N.idxOf x < Γ.N.length) then (match op with
          | .Add => tAug (Γ.N.idxOf x) (trE n Γ W e) (ipI fun i j => i + j)
          | .Sub => tAug (Γ.N.idxOf x) (trE n Γ W e) (ipI fun i j => i - j)
          | _ => noS) else noS
      | _ => noS
    | .If c a b _ => tIfS (trT n Γ W c) (trSs n Γ W a) (trSs n Γ W b)
    | .For tg iter body [] _ => if isSet iter then noS else (match tgt Γ tg with
      | some t => tFor (trI n Γ W iter) (gT Γ.K t) (trSs n Γ W body)
      | none => noS)
    | .While c body [] _ => tWhile (trT n Γ W c) (trSs n Γ W body)
    | .Raise ex cause _ => match ex, cause with
      | some (.Call (.Name x _) args [] _), none => if Γ.glob x && Γ.rz x then (match Γ.cl x with
        | some (C, ns) => match args with
          | [] => if ns = [] then (fun _ σ H => tMk0 C σ H fun cls d H' => W cls d σ H') else noS
          | e :: es => if (e :: es).all nostar && decide (ns ≠ []) then (fun _ σ H => tMkX C ns (trA n Γ W (e :: es)) σ H fun cls d H' => W cls d σ H') else noS
        | none => noS) else noS
      | _, _ => noS
    | .Try body hs orelse fin _ => match hs, orelse, fin with
      | [.ExceptHandler (some (.Name x _)) (some ev) [.Return (some h) _] _], [], [] => if Γ.glob x && locB Γ.sc ev && okName ev && decide (Γ.N.idxOf ev < Γ.N.length) then
          (match (Γ.xc x).bind cvOf with
          | some c => fun D σ H => trSs n Γ (wAs Γ.K c (Γ.N.idxOf ev) (fun a cls d => tRet (trH n Γ ev a cls d h)) W D) body D σ H
          | none => noS) else noS
      | _, _, _ => noS
    | _ => noS
def trSs (n : Nat) (Γ : Gm) (W : WX) (ss : List Stmt) : TS := match n with
  | 0 => noS
  | n + 1 => match ss with
    | [] => tNext
    | s :: r => tSeq (trS n Γ W s) (trSs n Γ W r)
end
/-! ### what they do -/
def evFor (put : Dt → Sl → Option Sl) (body : Sl → Fl) : List Dt → Sl → Fl
  | [], δ => .nx δ
  | d :: r, δ => match put d δ with
    | none => .bad
    | some δ0 => match body δ0 with
      | .nx δ1 => evFor put body r δ1
      | .ct δ1 => evFor put body r δ1
      | .bk δ1 => .nx δ1
      | .rt v δ1 => .rt v δ1
      | .rf c δ1 => .rf c δ1
      | .exc x δ1 => .exc x δ1
      | .bad => .bad
def evWh (c : Sl → Re Bool) (body : Sl → Fl) : Nat → Sl → Fl
  | 0, _ => .bad
  | m + 1, δ => (c δ).fl fun b δ0 => if b then (match body δ0 with
      | .nx δ1 => evWh c body m δ1
      | .ct δ1 => evWh c body m δ1
      | .bk δ1 => .nx δ1
      | .rt v δ1 => .rt v δ1
      | .rf c δ1 => .rf c δ1
      | .exc x δ1 => .exc x δ1
      | .bad => .bad) else .nx δ0
def FUEL : Nat := 5000
/-- a new list is handed over -/
def retF (n : Nat) (Γ : Gm) (e : Expr) (δ : Sl) : Fl := match n with
  | 0 => .bad
  | n + 1 => match e with
    | .BinOp a .Add b _ => (evE n Γ a δ).fl fun x δ1 => (evE n Γ b δ1).fl fun y δ2 => match x, y with
      | .lst xs, .lst ys => if xs.length + ys.length ≤ LIM then .rf (xs ++ ys) δ2 else .bad
      | _, _ => .bad
    | _ => .bad
/-- behind a try's body: the one clause -/
def catchF (xs : Option Bool) (hx : Sl → Option Dt) (ow : List Nat) (i : Nat) (y : Exn) (δ : Sl) : Fl := match xs with
  | some true => if isownS δ i || decide (δ.length ≤ i) then .bad else match hx (frz ow (δ.set i none)) with
    | some d => .rt d (frz ow (δ.set i none))
    | none => .bad
  | some false => .exc y δ
  | none => .bad
def Fl.try (r : Fl) (h : Exn → Sl → Fl) : Fl := match r with
  | .exc y δ => h y δ
  | r => r
def optF {α : Type} (o : Option α) (f : α → Fl) : Fl := match o with | some a => f a | none => .bad
mutual
def evS (n : Nat) (Γ : Gm) (s : Stmt) (δ : Sl) : Fl := match n with
  | 0 => .bad
  | n + 1 => match s with
    | .Return none _ => .rt .non δ
    | .Return (some e) _ => if Γ.fz then retF n Γ e (frz Γ.ow δ) else (evE n Γ e (frz Γ.ow δ)).fl fun d δ1 => .rt d δ1
    | .Pass _ => .nx δ
    | .Break _ => .bk δ
    | .Continue _ => .ct δ
    | .Expr e _ => match e with
      | .Constant (.str _) _ _ => .nx δ
      | .Call (.Attribute (.Name x p) m ap) [e] [] cp => if nostar e && (ap.endLine == cp.line) then
          (if m = "append" then (match slotOwn Γ (.Name x p) δ with
            | some i => if n = 0 then .bad else (evA n Γ [e] δ).fl fun rs δ1 => match rs, getS δ1 i with
              | [.val d], some (.own c) => if c.length < LIM then .nx (δ1.set i (some (.own (c ++ [d])))) else .bad
              | _, _ => .bad
            | none => .bad)
          else if m = "extend" then (match slotOwn Γ (.Name x p) δ with
            | some i => if n = 0 then .bad else (evA n Γ [e] δ).fl fun rs δ1 => match rs, getS δ1 i with
              | [.val (.lst ds)], some (.own c) => if c.length + ds.length ≤ LIM then .nx (δ1.set i (some (.own (c ++ ds)))) else .bad
              | _, _ => .bad
            | none => .bad) else .bad) else .bad
      | .Call (.Name x p) args [] q => (evE n Γ (.Call (.Name x p) args [] q) δ).fl fun _ δ1 => .nx δ1
      | _ => .bad
    | .Assign [tg] e pos => match tg with
      | .Name x py => if locB Γ.sc x && okName x && decide (Γ.N.idxOf x < Γ.N.length) then
          (match e with
          | .ListComp elt gens scope p => if swapB Γ.sc x py p scope then (evE n Γ (.ListComp elt gens scope p) δ).fl fun d δ1 => optF (putT (.name (Γ.N.idxOf x)) d δ1) .nx else .bad
          | .Call f args kws q => (match frX Γ f args kws with
            | some y => (match Γ.fr y with
              | some sem => (evA n Γ args δ).fl fun rs δ1 => (callD sem rs δ1).fl fun c δ2 => if Γ.N.idxOf x ∈ Γ.ow ∧ Γ.N.idxOf x < δ2.length then .nx (δ2.set (Γ.N.idxOf x) (some (.own c))) else .bad
              | none => .bad)
            | none => (evE n Γ (.Call f args kws q) δ).fl fun d δ1 => optF (putT (.name (Γ.N.idxOf x)) d δ1) .nx)
          | e => if isComp e then .bad else if Γ.N.idxOf x ∈ Γ.ow ∧ isNilE e = true ∧ Γ.N.idxOf x < δ.length then (evE n Γ e δ).fl fun _ δ1 => .nx (δ1.set (Γ.N.idxOf x) (some (.own [])))
            else (evE n Γ e δ).fl fun d δ1 => optF (putT (.name (Γ.N.idxOf x)) d δ1) .nx) else .bad
      | .Tuple ts k pt => match slotsT Γ ts with
        | some is => match e with
          | .Tuple vs k2 p2 => if vs.all nostar then (if vs.all (foldedForSure 8) then (evE n Γ (.Tuple vs k2 p2) δ).fl fun d δ1 => optF (putT (.tup is) d δ1) .nx
            else if vs.all (constantsAlone 8) then .bad
            else if decide (is.Nodup) && decide (ts.length = vs.length) then (match ts, vs, is with
              | [.Name _ p1, .Name _ p2], [_, _], [i, j] => if p2.line == p1.line then (evA n Γ vs δ).fl fun rs δ1 => optF (valsOf rs) fun ds => optF (setAll [i, j] ds δ1) .nx else .bad
              | [.Name _ p1, .Name _ p2, .Name _ p3], [_, _, _], [i, j, l] => if (p2.line == p1.line) && (p3.line == p1.line) then (evA n Γ vs δ).fl fun rs δ1 => optF (valsOf rs) fun ds => optF (setAll [i, j, l] ds δ1) .nx else .bad
              | _, _, _ => .bad) else .bad) else .bad
          | e => if isComp e then .bad else (evE n Γ e δ).fl fun d δ1 => optF (putT (.tup is) d δ1) .nx
        | none => .bad
      | .Subscript o i _ => match o with
        | .Name x p => if isSlice i then .bad else if (Γ.slot x).isNone then .bad else (evE n Γ e δ).fl fun d δ1 => if n = 0 then .bad else match slotOwn Γ (.Name x p) δ1 with
          | some k => (evE n Γ i δ1).fl fun y δ2 => match y, getS δ2 k with
            | .int j, some (.own c) => match ixN c.length j with
              | some q => .nx (δ2.set k (some (.own (c.set q d))))
              | none => .bad
            | _, _ => .bad
          | none => .bad
        | _ => .bad
      | _ => .bad
    | .AugAssign tg op e _ => match tg with
      | .Name x _ => if locB Γ.sc x && okName x && decide (Γ.N.idxOf x < Γ.N.length) then (match getS δ (Γ.N.idxOf x) with
          | some (.dat (.int a)) => match op with
            | .Add => (evE n Γ e δ).fl fun y δ1 => match y with | .int b => .nx (δ1.set (Γ.N.idxOf x) (some (.dat (.int (a + b))))) | _ => .bad
            | .Sub => (evE n Γ e δ).fl fun y δ1 => match y with | .int b => .nx (δ1.set (Γ.N.idxOf x) (some (.dat (.int (a - b))))) | _ => .bad
            | _ => .bad
          | _ => .bad) else .bad
      | _ => .bad
    | .If c a b _ => (evT n Γ c δ).fl fun t δ1 => if t then evSs n Γ a δ1 else evSs n Γ b δ1
    | .For tg iter body [] _ => if isSet iter then .bad else (match tgt Γ tg with
      | some t => (evI n Γ iter δ).fl fun ds δ1 => evFor (putT t) (evSs n Γ body) ds δ1
      | none => .bad)
    | .While c body [] _ => evWh (evT n Γ c) (evSs n Γ body) FUEL δ
    | .Raise ex cause _ => match ex, cause with
      | some (.Call (.Name x _) args [] _), none => if Γ.glob x && Γ.rz x then (match Γ.cl x with
        | some (C, ns) => match args with
          | [] => if ns = [] then .exc ⟨x, []⟩ δ else .bad
          | e :: es => if (e :: es).all nostar && decide (ns ≠ []) then (evA n Γ (e :: es) δ).fl fun rs δ1 => optF (valsOf rs) fun ds => if ds.length = ns.length then .exc ⟨x, ds⟩ δ1 else .bad else .bad
        | none => .bad) else .bad
      | _, _ => .bad
    | .Try body hs orelse fin _ => match hs, orelse, fin with
      | [.ExceptHandler (some (.Name x _)) (some ev) [.Return (some h) _] _], [], [] => if Γ.glob x && locB Γ.sc ev && okName ev && decide (Γ.N.idxOf ev < Γ.N.length) then
          (match (Γ.xc x).bind cvOf with
          | some _ => (evSs n Γ body δ).try fun y δ1 => catchF (Γ.xs y.cls x) (fun δ => evH n Γ ev y δ h) Γ.ow (Γ.N.idxOf ev) y δ1
          | none => .bad) else .bad
      | _, _, _ => .bad
    | _ => .bad
def evSs (n : Nat) (Γ : Gm) (ss : List Stmt) (δ : Sl) : Fl := match n with
  | 0 => .bad
  | n + 1 => match ss with
    | [] => .nx δ
    | s :: r => (evS n Γ s δ).seq (evSs n Γ r)
end
/-- what a def does to data -/
def mergeP (δ0 δ : Sl) : Sl := δ0.mapIdx fun i x => match x with | some (.own _) => (δ[i]?).join | x => x
def runDef (n : Nat) (Γ : Gm) (np : Nat) (body : List Stmt) (δ0 : Sl) : Re Dt := if δ0.length = np ∧ (Γ.ow.all fun i => decide (np ≤ i)) = true then (match evSs n Γ body (δ0 ++ List.replicate (Γ.N.length - np) none) with
  | .rt d δ => .ok d (mergeP δ0 δ)
  | .rf c δ => .ok (.lst c) (mergeP δ0 δ)
  | .nx δ => .ok .non (mergeP δ0 δ)
  | .exc x δ => .exc x (mergeP δ0 δ)
  | _ => .bad) else .bad
def runDefF (n : Nat) (Γ : Gm) (np : Nat) (body : List Stmt) (δ0 : Sl) : Re (List Dt) := if δ0.length = np ∧ (Γ.ow.all fun i => decide (np ≤ i)) = true then (match evSs n Γ body (δ0 ++ List.replicate (Γ.N.length - np) none) with
  | .rf c δ => .ok c (mergeP δ0 δ)
  | .exc x δ => .exc x (mergeP δ0 δ)
  | _ => .bad) else .bad
end PD

/-! PDb: the readings of statements are right. -/
namespace PD
open PySem L2
/-- what a class of exceptions promises: it can be raised -/
def ExOk (P : Program) (w : World) (K : PySem.W.Frag) (mg : Str → Option Value) (base : Heap) (k : Nat) (x : Str) (C : Addr) (ns : List Str) : Prop :=
  ∀ X : Cx, X.prog = P → X.w = w → X.K = K → X.mg = mg → X.base = base → Room k X.A → Gl X x → ∀ p pos, (ns = [] → PMk X (.Call (.Name x p) [] [] pos) (tMk0 C)) ∧
    (∀ e es ta, (e :: es).all nostar = true → ns ≠ [] → PA X (e :: es) ta → PMk X (.Call (.Name x p) (e :: es) [] pos) (tMkX C ns ta))
/-- a class by its name -/
def NmV (mg : Str → Option Value) (T : Str) (v : V) : Prop := ∃ c, cvOf v = some c ∧ (mg T = some c ∨ (mg T = none ∧ bootBuiltins T = some c ∧ T ≠ "__name__"))
structure XcOk (K : PySem.W.Frag) (C : Addr) (ns : List Str) : Prop where
  ec : ExcC K C
  xf : ns ≠ [] → XfC K C ∧ ∀ f ∈ ns, PySem.W.findIn K (.ref C) f = some none
structure MtS (Γ : Gm) (X : Cx) (W : WX) : Prop where
  m : Mt Γ X W
  sc : X.env.scope = Γ.sc
  kd : Γ.sc.kind = .function
  po : PassesOwn (model X.prog X.w) X.A X.env X.xe
  ex : ∀ x C ns, Γ.cl x = some (C, ns) → Γ.rz x = true → ∃ k, Room k X.A ∧ ExOk X.prog X.w X.K X.mg X.base k x C ns
  xc : ∀ T v, Γ.xc T = some v → NmV X.mg T v
  xo : ∀ y C ns, Γ.cl y = some (C, ns) → XcOk X.K C ns
  st : X.stack = X.env :: X.outer
  fr : X.env.frame = some X.env.locals
theorem MtS.tr {Γ : Gm} {X : Cx} {W W' : WX} (M : MtS Γ X W) {pn : List (Addr × Obj)} {xe : Value → Shared → Prop} (tk : Takes (X.tr pn xe) W') (po : PassesOwn (model X.prog X.w) X.A X.env xe) : MtS Γ (X.tr pn xe) W' :=
  ⟨⟨M.m.K, M.m.N, M.m.nd, M.m.vis, M.m.loc, M.m.glb, M.m.cel, M.m.calm, tk, M.m.gl, M.m.fn, M.m.fr, M.m.bl, M.m.un⟩, M.sc, M.kd, po, M.ex, M.xc, M.xo, M.st, M.fr⟩
theorem cv_rel {v : V} {c : Value} (h : cvOf v = some c) : RelV v c := by
  cases v <;> simp only [cvOf] at h <;> cases h <;> rfl
theorem cv_is {v : V} {c u : Value} (h : cvOf v = some c) (r : RelV v u) : u = c := by
  cases v <;> simp only [cvOf] at h <;> cases h <;> exact r
section
variable {X : Cx} {Γ : Gm} {a : Addr} {oe : Obj} {cls : Value} {d : Option Addr} {pn : List (Addr × Obj)}
theorem call_isX (hK : X.K = Γ.K) (hx : ∀ y C ns, Γ.cl y = some (C, ns) → XcOk X.K C ns) (hz : Zc cls d oe) (hf : ∃ vs, oe.data = .fields vs) : CallR (X.suite a ((a, oe) :: pn)) (.builtin "isinstance") (rIsX Γ a cls d) := by
  intro pins s σ H xs us Q I r h
  obtain ⟨y, C, ns, c, cv, b, hcl, rfl, hd, rfl, hcv, e, q⟩ := h
  have T := (hx y C ns hcl).ec
  cases r with
  | cons rx rr =>
    cases rr with
    | cons rt rr =>
      cases rr
      cases rx
      have ec := cv_is hcv rt
      subst ec
      obtain ⟨hget, _⟩ := I.pin (a, oe) (List.mem_append.mpr (.inl List.mem_cons_self))
      obtain ⟨vs, hv⟩ := hf
      have hcls : (PySem.W.clsIn X.K C).isSome = true := by
        obtain ⟨cd, hc, _⟩ := PySem.W.any_some T.hd
        rw [hc]; rfl
      rw [← hK] at e
      have J : ∃ od, PySem.W.InstAt s.heap a oe C od := by
        rcases hd with hd | ⟨dd, fs, hd, ha⟩
        · subst hd
          exact ⟨none, hget, hz.1, by unfold PySem.W.notCls; rw [hv] <;> rfl, by rw [hz.2]; trivial⟩
        · subst hd
          have hx : ObjOk X.prog X.w H s.heap dd (.xd fs) := I.hok dd _ ha
          obtain ⟨mA, hns, hr⟩ := hx
          obtain ⟨od, ho, hl⟩ := lookIn_ns hns
          exact ⟨some od, hget, hz.1, by unfold PySem.W.notCls; rw [hv] <;> rfl, by rw [hz.2]; exact ho⟩
      obtain ⟨od, J⟩ := J
      exact PySem.W.kia_one (PySem.W.kitx_exc (od := od) hcls T.hg T.hk T.hs T.ha T.hn T.ht T.hm) I.kIn J e (fun z => nomatch z) fun tk => ⟨.bl b, H, I.kept (t' := tk) fun _ _ z => z, rfl, q⟩
theorem pe_xs (hK : X.K = Γ.K) (hx : ∀ y C ns, Γ.cl y = some (C, ns) → XcOk X.K C ns) (hz : Zc cls d oe) (hf : ∃ vs, oe.data = .fields vs) {e : Expr} {te : TE} {f : Str} {pos : Pos} (he : PE (X.suite a ((a, oe) :: pn)) e te)
    (hb : attributeBase e f X.env (eval e X.env) = eval e X.env) : PE (X.suite a ((a, oe) :: pn)) (.Attribute e f pos) (tXs Γ a cls d f te) := by
  refine ⟨fun pins s σ H Q I h => ?_⟩
  obtain ⟨y, C, ns, hcl, hm, h⟩ := h
  obtain ⟨T, hn⟩ := (hx y C ns hcl).xf (fun e => by rw [e] at hm; cases hm)
  exact (pe_xf (pos := pos) T (hn f hm) hz hf he hb).run pins s σ H Q I h
theorem ph_all {W : WX} {ev : Str} (M : MtS Γ X W) (hz : Zc cls d oe) (hf : ∃ vs, oe.data = .fields vs) : ∀ n, (∀ e, PE (X.suite a ((a, oe) :: pn)) e (trH n Γ ev a cls d e)) ∧ ∀ es, PA (X.suite a ((a, oe) :: pn)) es (trHA n Γ ev a cls d es) := by
  intro n
  induction n with
  | zero => exact ⟨fun _ => pe_no, fun _ => pa_no⟩
  | succ n ih =>
    refine ⟨fun e => ?_, fun es => ?_⟩
    · have var : ∀ {x : Str} {i : Nat} {pos : Pos}, Γ.slot x = some i → PE (X.suite a ((a, oe) :: pn)) (.Name x pos) (tVar i) := fun {x i pos} h => by
        obtain ⟨h1, h2, h3, h4⟩ := M.m.slot h
        exact pe_var h1 h2 h3 h4
      cases e
      case Name x pos =>
        unfold trH
        dsimp only
        split
        · next i hi => exact var hi
        · exact pe_no
      case Constant c k pos =>
        unfold trH
        dsimp only
        cases c
        case none => exact pe_non
        case bool b => exact pe_bl
        case int i => exact pe_int
        case str z => exact pe_str
        all_goals exact pe_no
      case Attribute o f pos =>
        cases o
        case Name y q =>
          unfold trH
          dsimp only
          split
          · split
            · next i hi => exact pe_xs M.m.K M.xo hz hf (var hi) rfl
            · exact pe_no
          · exact pe_no
        all_goals exact pe_no
      case Compare l ops cs pos =>
        unfold trH
        dsimp only
        split
        · next op r =>
          split
          · exact pe_no
          · next hs =>
            have q := pe_cmpR (X := X.suite a ((a, oe) :: pn)) (pos := pos) (op_cmp (X := X.suite a ((a, oe) :: pn)) M.m.un (op := op)) (ih.1 l) (ih.1 r) (mark_no (by simpa using hs))
            have hk : (X.suite a ((a, oe) :: pn)).K = Γ.K := M.m.K
            rw [hk] at q
            exact q
        · exact pe_no
      case List es pos => exact pe_lst (ih.2 es)
      case Call f args kws pos =>
        unfold trH
        dsimp only
        split
        · next x p y p1 T p2 =>
          split
          · next hc =>
            obtain ⟨rfl, rfl, g1, g2⟩ := hc
            split
            · next i c hi hT =>
              obtain ⟨gg, _, _⟩ := M.m.glob g1
              obtain ⟨gT, dT, _⟩ := M.m.glob g2
              obtain ⟨cv, h1, h2⟩ := M.xc T c hT
              have pT : PE (X.suite a ((a, oe) :: pn)) (.Name T p2) (tC c) := by
                rcases h2 with h2 | ⟨h2, h3, h4⟩
                · exact pe_glob gT h2 (cv_rel h1) dT
                · exact pe_bltn gT h2 h3 (cv_rel h1) h4 dT
              exact pe_callB (X := X.suite a ((a, oe) :: pn)) (id := "isinstance") (call_isX M.m.K M.xo hz hf) gg (M.m.bl _ (.inr (.inl rfl))) (by decide +kernel) (pa_cons (var hi) (pa_cons pT pa_nil) rfl) (by decide) (by decide) rfl rfl
            · exact pe_no
          · exact pe_no
        · exact pe_no
      all_goals exact pe_no
    · unfold trHA
      cases es with
      | nil => exact pa_nil
      | cons e r =>
        dsimp only
        split
        · next h => exact pa_cons (ih.1 e) (ih.2 r) (star_cons h)
        · exact pa_no
end
section
variable {X : Cx} {W : WX} {Γ : Gm} {n : Nat}
theorem ps_no {s : Stmt} : PS X s noS := ⟨fun _ _ _ _ _ _ h => h.elim⟩
theorem pss_no {s : List Stmt} : PSs X s noS := ⟨fun _ _ _ _ _ _ h => h.elim⟩
theorem sw_no {e : Expr} {tg : Option Expr} {l : Nat} {env : Env} (h : isComp e = false) : swapsWith e tg l env = pure false := by
  cases e <;> first | rfl | (exact Bool.noConfusion h)
theorem sw_tup {e : Expr} {ts : List Expr} {k : Nat} {p : Pos} {l : Nat} {env : Env} : swapsWithSole [.Tuple ts k p] e l env = pure false := by
  cases e <;> rfl
theorem sw_sub {e o i : Expr} {p : Pos} {l : Nat} {env : Env} : swapsWithSole [.Subscript o i p] e l env = pure false := by
  cases e <;> rfl
theorem ss_tup {e : Expr} {ts : List Expr} {k : Nat} {p : Pos} {env : Env} (h : ∀ vs k p, e ≠ .Tuple vs k p) : swappedStores [.Tuple ts k p] e env = pure none := by
  cases e
  case Tuple vs k p => exact absurd rfl (h vs k p)
  all_goals rfl
theorem ss_sub {e o i : Expr} {p : Pos} {env : Env} : swappedStores [.Subscript o i p] e env = pure none := by
  cases e <;> rfl
theorem ss_fold {ts vs : List Expr} {k k2 : Nat} {p p2 : Pos} {env : Env} (h : vs.all (foldedForSure 8) = true) : swappedStores [.Tuple ts k p] (.Tuple vs k2 p2) env = pure none := by
  unfold swappedStores
  dsimp only
  split
  · rfl
  · split
    · rfl
    · split
      · rfl
      · rfl
theorem nostar_any : ∀ {vs : List Expr}, vs.all nostar = true → (vs.any fun | .Starred .. => true | _ => false) = false
  | [], _ => rfl
  | v :: r, h => by
    rw [List.all_cons, Bool.and_eq_true] at h
    rw [List.any_cons, nostar_any h.2, Bool.or_false]
    cases v <;> first | rfl | (exact Bool.noConfusion h.1)
theorem ss_two {x y : Str} {p1 p2 p q : Pos} {k k2 : Nat} {a b : Expr} {env : Env} (hk : env.scope.kind = .function) (hx : env.scope.names.lookup x = some .local) (hy : env.scope.names.lookup y = some .local) (hl : (p2.line == p1.line) = true) (hne : x ≠ y)
    (hs : [a, b].all nostar = true) (hf : ([a, b].all (foldedForSure 8)) = false) (hc : ([a, b].all (constantsAlone 8)) = false) : swappedStores [.Tuple [.Name x p1, .Name y p2] k p] (.Tuple [a, b] k2 q) env = pure (some [x, y]) := by
  have kx : env.kindOf x = some .local := hx
  have ky : env.kindOf y = some .local := hy
  have hb : env.blockKind = .function := by unfold Env.blockKind; rw [hk]; rfl
  have hl' : p2.line = p1.line := by simpa using hl
  simp only [List.all_cons, List.all_nil, Bool.and_true, Bool.and_eq_true] at hs
  unfold swappedStores
  simp only [hb, hf, hc]
  simp [kx, ky, hl', Expr.pos, List.eraseDups_cons, List.filterMap_cons, hne, Ne.symm hne]
  rintro (h | h)
  · split at h
    · exact absurd hs.1 (by simp [nostar])
    · cases h
  · split at h
    · exact absurd hs.2 (by simp [nostar])
    · cases h
theorem ss_three {x y z : Str} {p1 p2 p3 p q : Pos} {k k2 : Nat} {a b c : Expr} {env : Env} (hk : env.scope.kind = .function) (hx : env.scope.names.lookup x = some .local) (hy : env.scope.names.lookup y = some .local) (hz : env.scope.names.lookup z = some .local)
    (hl : (p2.line == p1.line) = true) (hl3 : (p3.line == p1.line) = true) (hne : x ≠ y) (hne2 : x ≠ z) (hne3 : y ≠ z)
    (hs : [a, b, c].all nostar = true) (hf : ([a, b, c].all (foldedForSure 8)) = false) (hc : ([a, b, c].all (constantsAlone 8)) = false) : swappedStores [.Tuple [.Name x p1, .Name y p2, .Name z p3] k p] (.Tuple [a, b, c] k2 q) env = pure (some [x, y, z]) := by
  have kx : env.kindOf x = some .local := hx
  have ky : env.kindOf y = some .local := hy
  have kz : env.kindOf z = some .local := hz
  have hb : env.blockKind = .function := by unfold Env.blockKind; rw [hk]; rfl
  have hl' : p2.line = p1.line := by simpa using hl
  have hl3' : p3.line = p1.line := by simpa using hl3
  simp only [List.all_cons, List.all_nil, Bool.and_true, Bool.and_eq_true] at hs
  unfold swappedStores
  simp only [hb, hf, hc]
  simp [kx, ky, kz, hl', hl3', Expr.pos, List.eraseDups_cons, List.filterMap_cons, hne, hne2, hne3, Ne.symm hne, Ne.symm hne2, Ne.symm hne3]
  rintro (h | h | h)
  · split at h
    · exact absurd hs.1 (by simp [nostar])
    · cases h
  · split at h
    · exact absurd hs.2.1 (by simp [nostar])
    · cases h
  · split at h
    · exact absurd hs.2.2 (by simp [nostar])
    · cases h
theorem as_sub {o i : Expr} {pos : Pos} {env : Env} (h : isSlice i = false) (v : Value) : assign (.Subscript o i pos) env v = (do
      let ov ← holding [v] (eval o env)
      let iv ← holding [v, ov] (eval i env)
      standAt pos
      holding [v, ov, iv] (setItem ov iv v)
      release [v, ov, iv] []) := by
  cases i <;> first | rfl | (exact Bool.noConfusion h)
theorem ps_setcomp (M : MtS Γ X W) {x : Str} {py pos : Pos} {elt : Expr} {gens : List Comprehension} {scope : Scope} {p : Pos} (hx : (locB Γ.sc x && okName x && decide (Γ.N.idxOf x < Γ.N.length)) = true) (hs : swapB Γ.sc x py p scope = true) :
    PS X (.Assign [.Name x py] (.ListComp elt gens scope p) pos) (tAsg (trE n Γ W (.ListComp elt gens scope p)) (gName (Γ.N.idxOf x))) := by
  cases n with
  | zero => exact ⟨fun _ _ _ _ _ _ h => h.elim⟩
  | succ n =>
    have A := pall n Γ X W M.m
    have no : PS X (.Assign [.Name x py] (.ListComp elt gens scope p) pos) (tAsg noE (gName (Γ.N.idxOf x))) := ⟨fun _ _ _ _ _ _ h => h.elim⟩
    have hN : X.N.Nodup := by rw [M.m.N]; exact M.m.nd
    simp only [Bool.and_eq_true, decide_eq_true_eq] at hx
    have hi : X.N[Γ.N.idxOf x]? = some x := by rw [M.m.N]; exact idx_get hx.2
    have hl : X.env.scope.names.lookup x = some .local := M.m.loc x hx.1.1
    unfold swapB at hs
    simp only [Bool.and_eq_true, Bool.not_eq_true'] at hs
    have hsw : ∀ (l : Nat), swapsWith (.ListComp elt gens scope p) (some (.Name x py)) l X.env = pure true := fun l => sw_true (by rw [M.sc]; exact M.kd) hl hs.1.2 hs.2
    unfold trE
    dsimp only
    split
    · next tg iter ifs =>
      split
      · exact no
      · next hi' =>
        have hi2 : isSet iter = false := by simpa using hi'
        split
        · next hb =>
          split
          · next t ht =>
            exact ps_setLc (own := ownOf Γ scope) M.m.calm hN hi hl (hsw _) (A.i tg iter) (blk_ok M.m hb) (fun s H C cl fp => (M.m.blk s H scope C cl fp).tgt ht) (fun s H C cl fp => (pall n _ _ _ (M.m.blk s H scope C cl fp)).f ifs)
              (fun s H C cl fp => (pall n _ _ _ (M.m.blk s H scope C cl fp)).e elt) (fold_no hi2 _)
          · exact no
        · exact no
    · next tg iter ifs tg1 iter1 ifs1 =>
      split
      · exact no
      · next hi' =>
        have hi2 : isSet iter = false ∧ isSet iter1 = false := by simpa [Bool.or_eq_true, not_or] using hi'
        split
        · next hb =>
          split
          · next t t1 ht ht1 =>
            split
            · next hv =>
              simp only [List.all_eq_true, decide_eq_true_eq] at hv
              exact ps_setLc2 (own := ownOf Γ scope) M.m.calm hN hi hl (hsw _) (A.i tg iter) (blk_ok M.m hb) hv (fun s H C cl fp => (M.m.blk s H scope C cl fp).tgt ht) (fun s H C cl fp => (pall n _ _ _ (M.m.blk s H scope C cl fp)).f ifs)
                (fun s H C cl fp => (pall n _ _ _ (M.m.blk s H scope C cl fp)).i tg1 iter1) (fun s H C cl fp => (M.m.blk s H scope C cl fp).tgt ht1) (fun s H C cl fp => (pall n _ _ _ (M.m.blk s H scope C cl fp)).f ifs1)
                (fun s H C cl fp => (pall n _ _ _ (M.m.blk s H scope C cl fp)).e elt) (fold_no hi2.1 _) (fun env => fold_no hi2.2 env)
            · exact no
          · exact no
        · exact no
    · exact no
end
end PD

/-! PDc: the readings of statements are right, all of them. -/
namespace PD
open PySem L2
section
variable {X : Cx} {W : WX} {Γ : Gm} {n : Nat}
theorem slotsT_get : ∀ {ts : List Expr} {is : List Nat}, slotsT Γ ts = some is → ∀ {k : Nat} {x : Str} {p : Pos}, ts[k]? = some (.Name x p) → ∃ i, is[k]? = some i ∧ i = Γ.N.idxOf x ∧ i < Γ.N.length ∧ locB Γ.sc x = true
  | [], is, h, k, x, p, e => by simp at e
  | t :: ts, is, h, k, x, p, e => by
    cases t
    case Name y q =>
      unfold slotsT at h
      split at h
      · next hc =>
        simp only [Option.map_eq_some_iff] at h
        obtain ⟨js, hj, rfl⟩ := h
        cases k with
        | zero =>
          simp at e
          obtain ⟨rfl, rfl⟩ := e
          simp only [Bool.and_eq_true, decide_eq_true_eq] at hc
          exact ⟨_, rfl, rfl, hc.2, hc.1.1⟩
        | succ k => simpa using slotsT_get hj (k := k) (by simpa using e)
      · cases h
    all_goals (unfold slotsT at h; cases h)
theorem slotsT_len : ∀ {ts : List Expr} {is : List Nat}, slotsT Γ ts = some is → is.length = ts.length
  | [], is, h => by unfold slotsT at h; cases h; rfl
  | t :: ts, is, h => by
    cases t
    case Name y q =>
      unfold slotsT at h
      split at h
      · simp only [Option.map_eq_some_iff] at h
        obtain ⟨js, hj, rfl⟩ := h
        simp [slotsT_len hj]
      · cases h
    all_goals (unfold slotsT at h; cases h)
theorem ps_name (M : MtS Γ X W) {x : Str} {py pos : Pos} {e : Expr} (hx : (locB Γ.sc x && okName x && decide (Γ.N.idxOf x < Γ.N.length)) = true) (hc : isComp e = false) :
    PS X (.Assign [.Name x py] e pos) (tAsg (trE n Γ W e) (gName (Γ.N.idxOf x))) := by
  simp only [Bool.and_eq_true, decide_eq_true_eq] at hx
  exact ps_set (by rw [M.m.N]; exact M.m.nd) (by rw [M.m.N]; exact idx_get hx.2) (.inl (M.m.loc x hx.1.1)) ((pall n Γ X W M.m).e e) (sw_no hc) (.inr (M.m.loc x hx.1.1))
theorem ps_tuple (M : MtS Γ X W) {ts : List Expr} {k : Nat} {pt pos : Pos} {is : List Nat} {e : Expr} (hi : slotsT Γ ts = some is) (hw : swappedStores [.Tuple ts k pt] e X.env = pure none) :
    PS X (.Assign [.Tuple ts k pt] e pos) (tAsg (trE n Γ W e) (gT Γ.K (.tup is))) := by
  have ht : tgt Γ (.Tuple ts k pt) = some (.tup is) := by show (slotsT Γ ts).map Tg.tup = _; rw [hi]; rfl
  exact ps_asg ((pall n Γ X W M.m).e e) (M.m.tgt ht) sw_tup hw rfl
theorem ps_pair (M : MtS Γ X W) {x y : Str} {p1 p2 pt pos q : Pos} {k k2 : Nat} {a b : Expr} {i j : Nat} (hi : slotsT Γ [.Name x p1, .Name y p2] = some [i, j]) (nd : [i, j].Nodup) (hl : (p2.line == p1.line) = true)
    (hs : [a, b].all nostar = true) (hf : ([a, b].all (foldedForSure 8)) = false) (hc : ([a, b].all (constantsAlone 8)) = false) : PS X (.Assign [.Tuple [.Name x p1, .Name y p2] k pt] (.Tuple [a, b] k2 q) pos) (tPar i j (trA n Γ W [a, b])) := by
  obtain ⟨i', e1, rfl, l1, c1⟩ := slotsT_get hi (k := 0) rfl
  obtain ⟨j', e2, rfl, l2, c2⟩ := slotsT_get hi (k := 1) rfl
  simp at e1 e2
  subst e1; subst e2
  have hij : Γ.N.idxOf x ≠ Γ.N.idxOf y := by simpa using nd
  have hne : x ≠ y := fun z => hij (by rw [z])
  exact ps_par M.m.calm (by rw [M.m.N]; exact M.m.nd) (by rw [M.m.N]; exact idx_get l1) (by rw [M.m.N]; exact idx_get l2) hij (M.m.loc x c1) (M.m.loc y c2) ((pall n Γ X W M.m).a _)
    (ss_two (by rw [M.sc]; exact M.kd) (M.m.loc x c1) (M.m.loc y c2) hl hne hs hf hc) sw_tup
theorem ps_triple (M : MtS Γ X W) {x y z : Str} {p1 p2 p3 pt pos q : Pos} {k k2 : Nat} {a b c : Expr} {i j l : Nat} (hi : slotsT Γ [.Name x p1, .Name y p2, .Name z p3] = some [i, j, l]) (nd : [i, j, l].Nodup) (hl : (p2.line == p1.line) = true) (hl3 : (p3.line == p1.line) = true)
    (hs : [a, b, c].all nostar = true) (hf : ([a, b, c].all (foldedForSure 8)) = false) (hc : ([a, b, c].all (constantsAlone 8)) = false) : PS X (.Assign [.Tuple [.Name x p1, .Name y p2, .Name z p3] k pt] (.Tuple [a, b, c] k2 q) pos) (tPar3 i j l (trA n Γ W [a, b, c])) := by
  obtain ⟨i', e1, rfl, l1, c1⟩ := slotsT_get hi (k := 0) rfl
  obtain ⟨j', e2, rfl, l2, c2⟩ := slotsT_get hi (k := 1) rfl
  obtain ⟨l', e3, rfl, l3, c3⟩ := slotsT_get hi (k := 2) rfl
  simp at e1 e2 e3
  subst e1; subst e2; subst e3
  simp only [List.nodup_cons, List.mem_cons, List.not_mem_nil, or_false, not_or] at nd
  have hij : Γ.N.idxOf x ≠ Γ.N.idxOf y := nd.1.1
  have hil : Γ.N.idxOf x ≠ Γ.N.idxOf z := nd.1.2
  have hjl : Γ.N.idxOf y ≠ Γ.N.idxOf z := nd.2.1
  exact ps_par3 M.m.calm (by rw [M.m.N]; exact M.m.nd) (by rw [M.m.N]; exact idx_get l1) (by rw [M.m.N]; exact idx_get l2) (by rw [M.m.N]; exact idx_get l3) hij hil hjl (M.m.loc x c1) (M.m.loc y c2) (M.m.loc z c3) ((pall n Γ X W M.m).a _)
    (ss_three (by rw [M.sc]; exact M.kd) (M.m.loc x c1) (M.m.loc y c2) (M.m.loc z c3) hl hl3 (fun e => hij (by rw [e])) (fun e => hil (by rw [e])) (fun e => hjl (by rw [e])) hs hf hc) sw_tup
theorem pe_meth1 (M : Mt Γ X W) {x m : Str} {p ap cp : Pos} {e : Expr} {id : String} {r : V → List V → Hp → VK → Prop} (slot : Slot "list" m id) (hty : typeOf (.builtin id) = pure (.type "method_descriptor")) (hm : MtR X id r)
    (hs : nostar e = true) (hl : (ap.endLine == cp.line) = true) : PE X (.Call (.Attribute (.Name x p) m ap) [e] [] cp) (tBM Γ.K "list" r (trE n Γ W (.Name x p)) (trA n Γ W [e])) := by
  have q := pe_bm (X := X) (apos := ap) (cpos := cp) PySem.F.plainAttrs_list slot hty hm ((pall n Γ X W M).e (.Name x p)) ((pall n Γ X W M).a [e]) rfl
    (by rw [star_cons hs]; rfl) hl (star_cons hs) rfl
  rw [M.K] at q
  exact q
theorem ps_fresh (M : MtS Γ X W) {x : Str} {py pos q : Pos} {f : Expr} {args : List Expr} {kws : List Keyword} {sem : Sl → Re (List Dt)} {z : Str} (hx : (locB Γ.sc x && okName x && decide (Γ.N.idxOf x < Γ.N.length)) = true) (hf : frX Γ f args kws = some z) (hz : Γ.fr z = some sem) :
    PS X (.Assign [.Name x py] (.Call f args kws q) pos) (tAsg (tCallS (spF Γ.K Γ.cl sem) (WE W) (trA n Γ W args)) (gName (Γ.N.idxOf x))) := by
  simp only [Bool.and_eq_true, decide_eq_true_eq] at hx
  unfold frX at hf
  split at hf
  · next y p e es =>
    split at hf
    · next hc =>
      cases hf
      simp only [Bool.and_eq_true] at hc
      obtain ⟨g1, g2, g3⟩ := M.m.glob hc.1.1
      obtain ⟨fa, fd, ps, j, hr, F, hm, hk, hb⟩ := M.m.fr _ sem hz
      have hs' := hc.1.2
      rw [List.all_cons, Bool.and_eq_true] at hs'
      have he := pe_callS (p := p) (pos := q) F hr g1 hm hk hb (fun σ => passAt M.m.tk σ) ((pall n Γ X W M.m).a (e :: es)) g2 (star_cons hs'.1) (back_plain hs'.2)
      exact ps_set (by rw [M.m.N]; exact M.m.nd) (by rw [M.m.N]; exact idx_get hx.2) (.inl (M.m.loc x hx.1.1)) he rfl (.inr (M.m.loc x hx.1.1))
    · cases hf
  · cases hf
theorem ps_assign (M : MtS Γ X W) (tg e : Expr) (pos : Pos) : PS X (.Assign [tg] e pos) (trS (n + 1) Γ W (.Assign [tg] e pos)) := by
  unfold trS
  dsimp only
  split
  · next x py =>
    split
    · next hx =>
      split
      · next elt gens scope p =>
        split
        · next hs => exact ps_setcomp M hx hs
        · exact ps_no
      · next f args kws q =>
        split
        · next y hf =>
          split
          · next sem hz => exact ps_fresh M hx hf hz
          · exact ps_no
        · exact ps_name M hx rfl
      · split
        · exact ps_no
        · next hc => exact ps_name M hx (by simpa using hc)
    · exact ps_no
  · next ts k pt =>
    split
    · next is hi =>
      split
      · next vs k2 p2 =>
        split
        · next hs =>
          split
          · next hf => exact ps_tuple M hi (ss_fold hf)
          · next hf =>
            have hf' : vs.all (foldedForSure 8) = false := by simpa using hf
            split
            · exact ps_no
            · next hc =>
              have hc' : vs.all (constantsAlone 8) = false := by simpa using hc
              split
              · next hd =>
                simp only [Bool.and_eq_true, decide_eq_true_eq] at hd
                split
                · next x p1 y p2 a b i j =>
                  split
                  · next hl => exact ps_pair M hi hd.1 hl hs hf' hc'
                  · exact ps_no
                · next x p1 y p2 z p3 a b c i j l =>
                  split
                  · next hl =>
                    simp only [Bool.and_eq_true] at hl
                    exact ps_triple M hi hd.1 hl.1 hl.2 hs hf' hc'
                  · exact ps_no
                · exact ps_no
              · exact ps_no
        · exact ps_no
      · next hnt =>
        split
        · exact ps_no
        · exact ps_tuple M hi (ss_tup fun vs k p e => hnt vs k p e)
    · exact ps_no
  · next o i p =>
    split
    · next x q =>
      split
      · exact ps_no
      · next hs =>
        exact ps_asg ((pall n Γ X W M.m).e e) (pg_sub ((pall n Γ X W M.m).e _) ((pall n Γ X W M.m).e i) set_list (as_sub (by simpa using hs))) sw_sub ss_sub rfl
    · exact ps_no
  · exact ps_no
theorem psall (n : Nat) : ∀ {X : Cx} {W : WX}, MtS Γ X W → (∀ s, PS X s (trS n Γ W s)) ∧ ∀ ss, PSs X ss (trSs n Γ W ss) := by
  induction n with
  | zero => exact fun _ => ⟨fun _ => ps_no, fun _ => pss_no⟩
  | succ n ih0 =>
    intro X W M
    have ih := ih0 M
    have A := pall n Γ X W M.m
    refine ⟨fun s => ?_, fun ss => ?_⟩
    · cases s
      case Return v pos =>
        cases v with
        | none => exact ps_retN
        | some e => exact ps_ret (A.e e)
      case Pass pos => exact ps_pass
      case Break pos => exact ps_break
      case Continue pos => exact ps_continue
      case Expr e pos =>
        unfold trS
        dsimp only
        split
        · exact ps_doc
        · next x p m ap e cp =>
          split
          · next hc =>
            simp only [Bool.and_eq_true] at hc
            split
            · next hm =>
              subst hm
              exact ps_expr (pe_meth1 M.m PySem.F.slot_list_append PySem.F.type_list_append mt_append hc.1 hc.2) rfl
            · split
              · next hm =>
                subst hm
                exact ps_expr (pe_meth1 M.m PySem.F.slot_list_extend PySem.F.type_list_extend mt_extend hc.1 hc.2) rfl
              · exact ps_no
          · exact ps_no
        · exact ps_expr (A.e _) rfl
        · exact ps_no
      case Assign ts e pos =>
        match ts with
        | [] => exact ps_no
        | [tg] => exact ps_assign M tg e pos
        | _ :: _ :: _ => exact ps_no
      case AugAssign tg op e pos =>
        unfold trS
        dsimp only
        split
        · next x p =>
          split
          · next hx =>
            simp only [Bool.and_eq_true, decide_eq_true_eq] at hx
            split
            · exact ps_aug (by rw [M.m.N]; exact M.m.nd) (by rw [M.m.N]; exact idx_get hx.2) (.inl (M.m.loc x hx.1.1)) (A.e e) ip_add (.inr (M.m.loc x hx.1.1))
            · exact ps_aug (by rw [M.m.N]; exact M.m.nd) (by rw [M.m.N]; exact idx_get hx.2) (.inl (M.m.loc x hx.1.1)) (A.e e) ip_sub (.inr (M.m.loc x hx.1.1))
            · exact ps_no
          · exact ps_no
        · exact ps_no
      case If c a b pos => exact ps_if (A.t c) (ih.2 a) (ih.2 b)
      case For tg iter body orelse pos =>
        match orelse with
        | [] =>
          unfold trS
          dsimp only
          split
          · exact ps_no
          · next hs =>
            split
            · next t ht => exact ps_for M.po M.m.calm (A.i tg iter) (M.m.tgt ht) (ih.2 body) (fold_no (by simpa using hs) _)
            · exact ps_no
        | _ :: _ => exact ps_no
      case While c body orelse pos =>
        match orelse with
        | [] => exact ps_while M.po (A.t c) (ih.2 body)
        | _ :: _ => exact ps_no
      case Raise ex cause pos =>
        unfold trS
        dsimp only
        split
        · next x p args q =>
          split
          · next hg =>
            split
            · next C ns hc =>
              simp only [Bool.and_eq_true] at hg
              obtain ⟨kx, hkx, hxx⟩ := M.ex x C ns hc hg.2
              obtain ⟨e1, e2⟩ := hxx X rfl rfl rfl rfl rfl hkx (M.m.glob hg.1).1 p q
              split
              · split
                · next hn => exact ps_raise M.m.calm M.m.tk (e1 hn)
                · exact ps_no
              · next e es =>
                split
                · next hn =>
                  simp only [Bool.and_eq_true, decide_eq_true_eq] at hn
                  exact ps_raise M.m.calm M.m.tk (e2 e es _ hn.1 hn.2 (A.a _))
                · exact ps_no
            · exact ps_no
          · exact ps_no
        · exact ps_no
      case Try body hs orelse fin pos =>
        unfold trS
        dsimp only
        split
        · next x np ev h hp hp2 =>
          split
          · next hc =>
            simp only [Bool.and_eq_true, decide_eq_true_eq] at hc
            obtain ⟨⟨⟨g, l⟩, _⟩, hlt⟩ := hc
            obtain ⟨g1, g2, g3⟩ := M.m.glob g
            split
            · next c hcv =>
              have hcv' := hcv
              rw [Option.bind_eq_some_iff] at hcv'
              obtain ⟨v, hv, hcv'⟩ := hcv'
              obtain ⟨c', hc1, hc2⟩ := M.xc x v hv
              rw [hcv'] at hc1
              cases hc1
              have q := ps_try_as (X := X) (x := x) (n := ev) (c := c) (i := Γ.N.idxOf ev) (body := body) (b₀ := .Return (some h) hp) (suite := []) (np := np) (pos := pos) (pos' := hp2) (tb := fun W' => trSs n Γ W' body) (ts := fun a cls d => tRet (trH n Γ ev a cls d h)) (Wout := W)
                M.st M.fr (by rw [M.m.N]; exact M.m.nd) (by rw [M.m.N]; exact idx_get hlt) (M.m.loc ev l) ⟨g1, g2, hc2⟩ M.m.tk (fun W' pn xe tk po => (ih0 (M.tr tk po)).2 body)
                (fun a oe cls d pn hz hf => pss_one (ps_ret ((ph_all (ev := ev) M hz hf n).1 h)))
              rw [M.m.K] at q
              exact q
            · exact ps_no
          · exact ps_no
        · exact ps_no
      all_goals exact ps_no
    · unfold trSs
      cases ss with
      | nil => exact pss_nil
      | cons s r => exact pss_cons (ih.1 s) (ih.2 r)
end
end PD

/-! PDd: what statements do is what their readings ask. -/
namespace PD
open PySem L2
section
variable (K : PySem.W.Frag) (cl : Cls) (W : WX) (ow : List Nat)
def PkS (S : Addr → Prop) (as : As) (H : Hp) (D : Ends) : Fl → Prop
  | .nx δ => ∀ S' as' σ' H', Stp ow S as H S' as' H' → EO K S' as' H' σ' δ → D.nx σ' H'
  | .bk δ => ∀ S' as' σ' H', Stp ow S as H S' as' H' → EO K S' as' H' σ' δ → D.bk σ' H'
  | .ct δ => ∀ S' as' σ' H', Stp ow S as H S' as' H' → EO K S' as' H' σ' δ → D.ct σ' H'
  | .rt d δ => ∀ v S' as' σ' H', Stp ow S as H S' as' H' → EO K S' as' H' σ' δ → Rp K (hid H' (But ow S as)) v d → D.rt v H'
  | .rf c δ => ∀ a us S' as' σ' H0, Stp ow S as H S' as' H0 → EO K S' as' H0 σ' δ → H0 a = none → RpAll K (hid H0 (But ow S as)) us c → D.rt (.ref a) (upd H0 a (.lst us))
  | .exc x δ => ∀ cls dd S' as' σ' H', Stp ow S as H S' as' H' → EO K S' as' H' σ' δ → Xr K cl (hid H' (But ow S' as')) x cls dd → W cls dd σ' H'
  | .bad => False
def SD (ts : TS) (δ : Sl) (r : Fl) : Prop := ∀ S as σ H D, EO K S as H σ δ → PkS K cl W ow S as H D r → ts D σ H
end
section
variable {K : PySem.W.Frag} {cl : Cls} {W : WX} {ow : List Nat} {S S1 : Addr → Prop} {as as1 : As} {σ : L2.St} {H H1 : Hp} {δ : Sl} {D : Ends}
theorem sd_bad {ts : TS} : SD K cl W ow ts δ .bad := fun _ _ _ _ _ _ p => p.elim
theorem PkS.after {r : Fl} (f : Stp ow S as H S1 as1 H1) (p : PkS K cl W ow S as H D r) : PkS K cl W ow S1 as1 H1 D r := by
  cases r with
  | nx δ => exact fun S' as' σ' H' g => p S' as' σ' H' (f.trans g)
  | bk δ => exact fun S' as' σ' H' g => p S' as' σ' H' (f.trans g)
  | ct δ => exact fun S' as' σ' H' g => p S' as' σ' H' (f.trans g)
  | rt d δ => exact fun v S' as' σ' H' g e r => p v S' as' σ' H' (f.trans g) e (Rp.mono f.le _ r)
  | rf c δ => exact fun a us S' as' σ' H' g e hn r => p a us S' as' σ' H' (f.trans g) e hn (RpAll.mono f.le _ r)
  | exc x δ => exact fun c d S' as' σ' H' g e r => p c d S' as' σ' H' (f.trans g) e r
  | bad => exact p
theorem Xr.but {x : Exn} {cls : Value} {dd : Option Addr} (h : Xr K cl (hid H S) x cls dd) : Xr K cl (hid H (But ow S as)) x cls dd := h.mono but_le
/-- an expression, then the statement's rest -/
theorem ED.fl {ta : TE} {ra : Re Dt} {f : Dt → Sl → Fl} {Q1 : VK} (h : ED K cl W ta δ ra) (eo : EO K S as H σ δ) (p : PkS K cl W ow S as H D (ra.fl f))
    (k : ∀ d δ1 v H1, Fr S as H H1 → EO K S as H1 σ δ1 → Rp K (hid H1 S) v d → PkS K cl W ow S as H1 D (f d δ1) → Q1 v H1) : ta σ H Q1 := by
  refine h S as σ H Q1 eo ?_
  cases ra with
  | ok d δ1 => exact fun v H1 f1 e1 r1 => k d δ1 v H1 f1 e1 r1 (PkS.after f1.stp p)
  | exc x δ1 => exact fun c d H' f1 e1 r1 => p c d S as σ H' f1.stp e1 r1.but
  | bad => exact p
theorem EB.fl {tt : TT} {ra : Re Bool} {f : Bool → Sl → Fl} {Q1 : Bool → Hp → Prop} (h : EB K cl W tt δ ra) (eo : EO K S as H σ δ) (p : PkS K cl W ow S as H D (ra.fl f))
    (k : ∀ b δ1 H1, Fr S as H H1 → EO K S as H1 σ δ1 → PkS K cl W ow S as H1 D (f b δ1) → Q1 b H1) : tt σ H Q1 := by
  refine h S as σ H Q1 eo ?_
  cases ra with
  | ok d δ1 => exact fun H1 f1 e1 => k d δ1 H1 f1 e1 (PkS.after f1.stp p)
  | exc x δ1 => exact fun c d H' f1 e1 r1 => p c d S as σ H' f1.stp e1 r1.but
  | bad => exact p
theorem EA.fl {ta : TA} {ra : Re (List Ar)} {f : List Ar → Sl → Fl} {Q1 : List V → Hp → Prop} (h : EA K cl W ta δ ra) (eo : EO K S as H σ δ) (p : PkS K cl W ow S as H D (ra.fl f))
    (k : ∀ rs δ1 vs H1, Fr S as H H1 → EO K S as H1 σ δ1 → ArAll K (hid H1 S) σ vs rs → PkS K cl W ow S as H1 D (f rs δ1) → Q1 vs H1) : ta σ H Q1 := by
  refine h S as σ H Q1 eo ?_
  cases ra with
  | ok d δ1 => exact fun v H1 f1 e1 r1 => k d δ1 v H1 f1 e1 r1 (PkS.after f1.stp p)
  | exc x δ1 => exact fun c d H' f1 e1 r1 => p c d S as σ H' f1.stp e1 r1.but
  | bad => exact p
theorem EI.fl {wi : TI} {ra : Re (List Dt)} {f : List Dt → Sl → Fl} {R : It → Hp → Prop} (h : EI K cl W wi δ ra) (eo : EO K S as H σ δ) (p : PkS K cl W ow S as H D (ra.fl f))
    (k : ∀ ds δ1 J H1, Fr S as H H1 → EO K S as H1 σ δ1 → JOk K (hid H1 S) J ds → PkS K cl W ow S as H1 D (f ds δ1) → R J H1) : wi σ H R := by
  refine h S as σ H R eo ?_
  cases ra with
  | ok d δ1 => exact fun v H1 f1 e1 r1 => k d δ1 v H1 f1 e1 r1 (PkS.after f1.stp p)
  | exc x δ1 => exact fun c d H' f1 e1 r1 => p c d S as σ H' f1.stp e1 r1.but
  | bad => exact p
theorem PkS.next (p : PkS K cl W ow S as H D (.nx δ)) (eo : EO K S as H σ δ) : D.nx σ H := p S as σ H Stp.refl eo
/-- a datum given to a target, then on -/
theorem put_fl {t : Tg} {d : Dt} {x : V} (p : PkS K cl W ow S as H D (optF (putT t d δ) .nx)) (eo : EO K S as H σ δ) (r : Rp K (hid H S) x d) : gT K t x σ H D.nx := by
  cases h : putT t d δ with
  | none => rw [h] at p; exact p.elim
  | some δ0 => rw [h] at p; exact put_ok h eo r fun σ0 e0 _ => p.next e0
/-! ### the own lists are shown again -/
def clr (ow : List Nat) (as : As) : As := as.mapIdx fun i x => if i ∈ ow then none else x
theorem clr_get {i : Nat} : (clr ow as)[i]? = if i ∈ ow then (if i < as.length then some none else none) else as[i]? := by
  unfold clr
  rw [List.getElem?_mapIdx]
  by_cases h : i ∈ ow
  · rw [if_pos h]
    by_cases hl : i < as.length
    · rw [List.getElem?_eq_getElem hl]; simp [h, hl]
    · rw [List.getElem?_eq_none (by omega)]; simp [hl]
  · rw [if_neg h]
    cases as[i]? <;> simp [h]
theorem clr_some {i : Nat} {a : Addr} (h : (clr ow as)[i]? = some (some a)) : i ∉ ow ∧ as[i]? = some (some a) := by
  rw [clr_get] at h
  by_cases q : i ∈ ow
  · rw [if_pos q] at h; split at h <;> simp at h
  · rw [if_neg q] at h; exact ⟨q, h⟩
theorem frz_get {i : Nat} : (frz ow δ)[i]? = (δ[i]?).map fun x => if i ∈ ow then (match x with | some (.own c) => some (.dat (.lst c)) | x => x) else x := by
  unfold frz
  rw [List.getElem?_mapIdx]
  try rfl
theorem frz_len : (frz ow δ).length = δ.length := by unfold frz; simp
theorem frz_eo (eo : EO K S as H σ δ) : EO K (But ow S as) (clr ow as) H σ (frz ow δ) where
  l1 := by rw [frz_len]; exact eo.l1
  l2 := by rw [frz_len]; unfold clr; simp; exact eo.l2
  dat := fun i d e => by
    rw [frz_get, Option.map_eq_some_iff] at e
    obtain ⟨x, h1, h2⟩ := e
    by_cases q : i ∈ ow
    · rw [if_pos q] at h2
      split at h2
      · next c =>
        cases h2
        obtain ⟨a, us, q1, q2, q3, q4⟩ := eo.own i c h1
        exact ⟨.ref a, q2, .lst (hid_some q3 fun z => z.2 i q q1) (RpAll.mono but_le _ q4)⟩
      · subst h2
        obtain ⟨v, h3, h4⟩ := eo.dat i d h1
        exact ⟨v, h3, Rp.mono but_le _ h4⟩
    · rw [if_neg q] at h2
      subst h2
      obtain ⟨v, h3, h4⟩ := eo.dat i d h1
      exact ⟨v, h3, Rp.mono but_le _ h4⟩
  own := fun i c e => by
    rw [frz_get, Option.map_eq_some_iff] at e
    obtain ⟨x, h1, h2⟩ := e
    by_cases q : i ∈ ow
    · rw [if_pos q] at h2
      split at h2
      · cases h2
      · next hx => subst h2; exact absurd rfl (hx c)
    · rw [if_neg q] at h2
      subst h2
      obtain ⟨a, us, q1, q2, q3, q4⟩ := eo.own i c h1
      exact ⟨a, us, by rw [clr_get, if_neg q]; exact q1, q2, q3, RpAll.mono but_le _ q4⟩
  isown := fun i a e => by
    obtain ⟨q, e⟩ := clr_some e
    obtain ⟨h1, c, h2⟩ := eo.isown i a e
    refine ⟨⟨h1, fun j hj z => q (eo.inj i j a e z ▸ hj)⟩, c, ?_⟩
    rw [frz_get, h2, Option.map_some, if_neg q]
  inj := fun i j a e e' => eo.inj i j a (clr_some e).2 (clr_some e').2
  trk := fun a h => eo.trk a h.1
theorem frz_stp : Stp ow S as H (But ow S as) (clr ow as) H where
  but := fun a h => ⟨h, fun i hi e => (clr_some e).1 hi⟩
  new := fun a h n => (n h.1).elim
  keep := fun _ _ _ h => h
  hidd := fun _ _ _ => rfl
  same := fun i hi => by rw [clr_get, if_neg hi]
theorem but_idem : ∀ a, But ow S as a → But ow (But ow S as) (clr ow as) a := frz_stp (H := fun _ => none).but
/-! ### an own list is made, or changed -/
theorem own_new (eo : EO K S as H σ δ) {i : Nat} {p : Addr} {c : List Dt} {us : List V} (hi : i < δ.length) (hw : i ∈ ow) (hp : H p = none) (hr : RpAll K (hid H S) us c) :
    EO K (fun a => S a ∨ a = p) (as.set i (some p)) (upd H p (.lst us)) (σ.set i (some (.ref p))) (δ.set i (some (.own c))) ∧ Stp ow S as H (fun a => S a ∨ a = p) (as.set i (some p)) (upd H p (.lst us)) := by
  have nS := eo.nS hp
  have lez : Le (hid H S) (hid (upd H p (.lst us)) (fun a => S a ∨ a = p)) := fun a u h => by
    obtain ⟨h1, h2⟩ := hid_of h
    have ne := ne_of_none h1 hp
    exact hid_some (by rw [upd_ne ne]; exact h1) (fun q => q.elim h2 ne)
  have e1 := eo.hide (o := .lst us) hp
  have hl : i < as.length := by rw [eo.l2]; exact hi
  have hs : i < σ.length := by rw [eo.l1]; exact hi
  refine ⟨⟨by simp [eo.l1], by simp [eo.l2], fun j d e => ?_, fun j k e => ?_, fun j a e => ?_, fun j k a e e' => ?_, e1.trk⟩, ⟨fun a h => ⟨Or.inl h.1, fun j hj e => ?_⟩, fun a h n => ?_, fun a o n e => ?_, fun a h hi' => ?_, fun j hj => ?_⟩⟩
  · by_cases h : i = j
    · subst h; rw [List.getElem?_set_self hi] at e; cases e
    · rw [List.getElem?_set_ne h] at e
      obtain ⟨v, h1, h2⟩ := e1.dat j d e
      exact ⟨v, by rw [List.getElem?_set_ne h]; exact h1, h2⟩
  · by_cases h : i = j
    · subst h
      rw [List.getElem?_set_self hi] at e
      cases e
      exact ⟨p, us, by rw [List.getElem?_set_self hl], by rw [List.getElem?_set_self hs], upd_same, RpAll.mono lez _ hr⟩
    · rw [List.getElem?_set_ne h] at e
      obtain ⟨a, us, h1, h2, h3⟩ := e1.own j k e
      exact ⟨a, us, by rw [List.getElem?_set_ne h]; exact h1, by rw [List.getElem?_set_ne h]; exact h2, h3⟩
  · by_cases h : i = j
    · subst h
      rw [List.getElem?_set_self hl] at e
      cases e
      exact ⟨Or.inr rfl, c, by rw [List.getElem?_set_self hi]⟩
    · rw [List.getElem?_set_ne h] at e
      obtain ⟨h1, c, h2⟩ := e1.isown j a e
      exact ⟨h1, c, by rw [List.getElem?_set_ne h]; exact h2⟩
  · by_cases h : i = j
    · subst h
      rw [List.getElem?_set_self hl] at e
      cases e
      by_cases h' : i = k
      · exact h'
      · rw [List.getElem?_set_ne h'] at e'
        exact absurd (eo.isown k _ e').1 nS
    · rw [List.getElem?_set_ne h] at e
      by_cases h' : i = k
      · subst h'
        rw [List.getElem?_set_self hl] at e'
        cases e'
        exact absurd (eo.isown j _ e).1 nS
      · rw [List.getElem?_set_ne h'] at e'
        exact eo.inj j k a e e'
  · by_cases z : i = j
    · subst z
      rw [List.getElem?_set_self hl] at e
      cases e
      exact nS h.1
    · rw [List.getElem?_set_ne z] at e
      exact h.2 j hj e
  · rcases h with h | h
    · exact absurd h n
    · rw [h]; exact hp
  · rw [upd_ne (ne_of_none e hp)]; exact e
  · exact upd_ne fun e => nS (e ▸ h.1)
  · rw [List.getElem?_set_ne (fun e : i = j => hj (e ▸ hw))]
theorem own_set (eo : EO K S as H σ δ) {i : Nat} {c c' : List Dt} {a : Addr} {us' : List V} (hc : δ[i]? = some (some (.own c))) (ha : as[i]? = some (some a)) (hr : RpAll K (hid H S) us' c') :
    EO K S as (upd H a (.lst us')) σ (δ.set i (some (.own c'))) ∧ Fr S as H (upd H a (.lst us')) := by
  have hS := (eo.isown i a ha).1
  have hi : i < δ.length := (List.getElem?_eq_some_iff.mp hc).1
  obtain ⟨a', us, q1, q2, q3, q4⟩ := eo.own i c hc
  rw [ha] at q1; cases q1
  have hh : hid (upd H a (.lst us')) S = hid H S := hid_upd hS
  refine ⟨⟨by simp [eo.l1], by simp [eo.l2], fun j d e => ?_, fun j k e => ?_, fun j b e => ?_, eo.inj, fun b h => ?_⟩, ⟨fun b o n e => ?_, fun b h hi' => upd_ne fun e => hi' i (e ▸ ha)⟩⟩
  · rw [hh]
    by_cases h : i = j
    · subst h; rw [List.getElem?_set_self hi] at e; cases e
    · rw [List.getElem?_set_ne h] at e
      exact eo.dat j d e
  · rw [hh]
    by_cases h : i = j
    · subst h
      rw [List.getElem?_set_self hi] at e
      cases e
      exact ⟨a, us', ha, q2, upd_same, hr⟩
    · rw [List.getElem?_set_ne h] at e
      obtain ⟨b, ws, h1, h2, h3, h4⟩ := eo.own j k e
      exact ⟨b, ws, h1, h2, by rw [upd_ne (fun z : b = a => h (eo.inj i j a ha (z ▸ h1)))]; exact h3, h4⟩
  · obtain ⟨h1, k, h2⟩ := eo.isown j b e
    refine ⟨h1, ?_⟩
    by_cases h : i = j
    · subst h; exact ⟨c', by rw [List.getElem?_set_self hi]⟩
    · exact ⟨k, by rw [List.getElem?_set_ne h]; exact h2⟩
  · by_cases z : b = a
    · subst z; exact ⟨_, upd_same⟩
    · rw [upd_ne z]; exact eo.trk b h
  · rw [upd_ne fun z : b = a => n (z ▸ hS)]; exact e
/-! ### loops -/
theorem for_ok {wi : TI} {t : Tg} {tb : TS} {r : Re (List Dt)} {body : Sl → Fl} (hi : EI K cl W wi δ r) (hb : ∀ δ, SD K cl W ow tb δ (body δ)) : SD K cl W ow (tFor wi (gT K t) tb) δ (r.fl fun ds δ1 => evFor (putT t) body ds δ1) := by
  intro S as σ H D eo p
  refine hi.fl eo p fun ds δ1 J H1 f1 eo1 hJ p1 => ?_
  refine ⟨fun i m σ' Hc => m = ds.length - i ∧ i ≤ ds.length ∧ ∃ δi S' as', Stp ow S as H1 S' as' Hc ∧ EO K S' as' Hc σ' δi ∧ PkS K cl W ow S as H1 D (evFor (putT t) body (ds.drop i) δi),
    ⟨ds.length, by simp, Nat.zero_le _, δ1, S, as, Stp.refl, eo1, p1⟩, ?_⟩
  rintro i m σ' Hc ⟨rfl, hle, δi, S', as', st, eoi, pi⟩
  have lec : Le (hid H1 S) Hc := fun a o h => st.keep a o (hid_of h).2 (hid_of h).1
  have lec' : Le (hid H1 S) (hid Hc S') := fun a o h => hid_some (lec a o h) (st.nin (hid_of h).2 (hid_of h).1)
  obtain ⟨j1, j2, j3⟩ := hJ Hc lec
  by_cases hlt : i < ds.length
  · refine .inr ⟨j1 i hlt, fun σn Hn => ∃ δn Sn asn, Stp ow S as H1 Sn asn Hn ∧ EO K Sn asn Hn σn δn ∧ PkS K cl W ow S as H1 D (evFor (putT t) body (ds.drop (i + 1)) δn),
      fun σn Hn h => ⟨ds.length - (i + 1), by omega, rfl, hlt, h⟩, fun x H' hy => ?_⟩
    obtain ⟨rfl, d, hd, rx⟩ := j3 i x H' hlt hy
    have hdd : d = ds[i] := by rw [List.getElem?_eq_getElem hlt] at hd; exact (Option.some.inj hd).symm
    rw [List.drop_eq_getElem_cons hlt, ← hdd] at pi
    simp only [evFor] at pi
    split at pi
    · exact pi.elim
    · next δ0 hp =>
      refine put_ok hp eoi (Rp.mono lec' _ rx) fun σ0 eo0 _ => ?_
      refine hb δ0 S' as' σ0 H' _ eo0 ?_
      cases hbd : body δ0 with
      | nx δ2 => rw [hbd] at pi; exact fun S2 as2 σ2 H2 g e2 => ⟨δ2, S2, as2, st.trans g, e2, pi⟩
      | ct δ2 => rw [hbd] at pi; exact fun S2 as2 σ2 H2 g e2 => ⟨δ2, S2, as2, st.trans g, e2, pi⟩
      | bk δ2 => rw [hbd] at pi; exact fun S2 as2 σ2 H2 g e2 => pi S2 as2 σ2 H2 (st.trans g) e2
      | rt v δ2 => rw [hbd] at pi; exact fun v S2 as2 σ2 H2 g e2 r2 => pi v S2 as2 σ2 H2 (st.trans g) e2 (Rp.mono st.le _ r2)
      | rf c δ2 => rw [hbd] at pi; exact fun a us S2 as2 σ2 H2 g e2 hn r2 => pi a us S2 as2 σ2 H2 (st.trans g) e2 hn (RpAll.mono st.le _ r2)
      | exc x δ2 => rw [hbd] at pi; exact fun c d S2 as2 σ2 H2 g e2 r2 => pi c d S2 as2 σ2 H2 (st.trans g) e2 r2
      | bad => rw [hbd] at pi; exact pi.elim
  · have e : i = ds.length := by omega
    subst e
    rw [List.drop_length] at pi
    exact .inl ⟨j2 _ (Nat.le_refl _), pi S' as' σ' Hc st eoi⟩
theorem while_ok {tc : TT} {tb : TS} {c : Sl → Re Bool} {body : Sl → Fl} (hc : ∀ δ, EB K cl W tc δ (c δ)) (hb : ∀ δ, SD K cl W ow tb δ (body δ)) (m : Nat) : SD K cl W ow (tWhile tc tb) δ (evWh c body m δ) := by
  intro S as σ H D eo p
  refine ⟨fun m σ' Hc => ∃ δi S' as', Stp ow S as H S' as' Hc ∧ EO K S' as' Hc σ' δi ∧ PkS K cl W ow S as H D (evWh c body m δi), ⟨m, δ, S, as, Stp.refl, eo, p⟩, ?_⟩
  rintro m σ' Hc ⟨δi, S', as', st, eoi, pi⟩
  cases m with
  | zero => exact pi.elim
  | succ m =>
    simp only [evWh] at pi
    refine hc δi S' as' σ' Hc _ eoi ?_
    cases hr : c δi with
    | bad => rw [hr] at pi; exact pi.elim
    | exc x δx => rw [hr] at pi; exact fun c d H' f1 e1 r1 => pi c d S' as' σ' H' (st.trans f1.stp) e1 r1.but
    | ok b δ0 =>
      rw [hr] at pi
      intro H1 f1 eo1
      have st1 : Stp ow S as H S' as' H1 := st.trans f1.stp
      cases b with
      | true =>
        refine ⟨fun σn Hn => ∃ δn Sn asn, Stp ow S as H Sn asn Hn ∧ EO K Sn asn Hn σn δn ∧ PkS K cl W ow S as H D (evWh c body m δn), fun σn Hn h => ⟨m, Nat.lt_succ_self m, h⟩, ?_⟩
        refine hb δ0 S' as' σ' H1 _ eo1 ?_
        simp only [Re.fl, if_true] at pi
        cases hbd : body δ0 with
        | nx δ2 => rw [hbd] at pi; exact fun S2 as2 σ2 H2 g e2 => ⟨δ2, S2, as2, st1.trans g, e2, pi⟩
        | ct δ2 => rw [hbd] at pi; exact fun S2 as2 σ2 H2 g e2 => ⟨δ2, S2, as2, st1.trans g, e2, pi⟩
        | bk δ2 => rw [hbd] at pi; exact fun S2 as2 σ2 H2 g e2 => pi S2 as2 σ2 H2 (st1.trans g) e2
        | rt v δ2 => rw [hbd] at pi; exact fun v S2 as2 σ2 H2 g e2 r2 => pi v S2 as2 σ2 H2 (st1.trans g) e2 (Rp.mono st1.le _ r2)
        | rf c δ2 => rw [hbd] at pi; exact fun a us S2 as2 σ2 H2 g e2 hn r2 => pi a us S2 as2 σ2 H2 (st1.trans g) e2 hn (RpAll.mono st1.le _ r2)
        | exc x δ2 => rw [hbd] at pi; exact fun c d S2 as2 σ2 H2 g e2 r2 => pi c d S2 as2 σ2 H2 (st1.trans g) e2 r2
        | bad => rw [hbd] at pi; exact pi.elim
      | false => exact pi S' as' σ' H1 st1 eo1
end
end PD

/-! PDe: what statements do is what their readings ask, all of them. -/
namespace PD
open PySem L2
section
variable {W : WX} {Γ : Gm} {n : Nat}
theorem sd_own (A : EAll n Γ W) {x m : Str} {p : Pos} {e : Expr} {δ : Sl} {i : Nat} {r : V → List V → Hp → VK → Prop} {f : List Ar → Sl → Fl} (hs : slotOwn Γ (.Name x p) δ = some i) (hn : n ≠ 0)
    (k : ∀ (S : Addr → Prop) (as : As) (σ : L2.St) (H : Hp) (D : Ends) (rs : List Ar) (δ1 : Sl) (vs : List V) (a : Addr), EO Γ.K S as H σ δ1 → ArAll Γ.K (hid H S) σ vs rs → as[i]? = some (some a) → σ[i]? = some (some (.ref a)) → PkS Γ.K Γ.cl W Γ.ow S as H D (f rs δ1) → r (.ref a) vs H fun _ H1 => D.nx σ H1) :
    SD Γ.K Γ.cl W Γ.ow (tDrop (tBM Γ.K "list" r (trE n Γ W (.Name x p)) (trA n Γ W [e]))) δ ((evA n Γ [e] δ).fl f) := by
  intro S as σ H D eo pk
  obtain ⟨x', q, e1, h1, h2⟩ := slotOwn_is hs
  cases e1
  obtain ⟨m', rfl⟩ : ∃ m, n = m + 1 := ⟨n - 1, by omega⟩
  obtain ⟨c, hc⟩ := own_get h2
  obtain ⟨a, us, q1, q2, q3, q4⟩ := eo.own i c (getS_some hc)
  show trE (m' + 1) Γ W (.Name x p) σ H _
  unfold trE
  dsimp only
  rw [h1]
  refine ⟨.ref a, q2, Or.inl ⟨rfl, us, Or.inl (Or.inl q3)⟩, ?_⟩
  exact (A.a [e] δ).fl eo pk fun rs δ1 vs H1 f1 eo1 r1 p1 => k S as σ H1 D rs δ1 vs a eo1 r1 q1 q2 p1
theorem sd_par {δ : Sl} {i j : Nat} {ta : TA} {ra : Re (List Ar)} (h : EA Γ.K Γ.cl W ta δ ra) : SD Γ.K Γ.cl W Γ.ow (tPar i j ta) δ (ra.fl fun rs δ1 => optF (valsOf rs) fun ds => optF (setAll [i, j] ds δ1) .nx) := by
  intro S as σ H D eo p
  refine h.fl eo p fun rs δ1 vs H1 f1 eo1 r1 p1 => ?_
  cases hv : valsOf rs with
  | none => rw [hv] at p1; exact p1.elim
  | some ds =>
    rw [hv] at p1
    dsimp only [optF] at p1
    have rr := r1.vals hv
    cases hs : setAll [i, j] ds δ1 with
    | none => rw [hs] at p1; exact p1.elim
    | some δ2 =>
      rw [hs] at p1
      have q := setAll_ok (K := Γ.K) (Qg := D.nx) hs eo1 rr fun σ0 e0 _ => p1.next e0
      obtain ⟨v, r, rfl, w, r', rfl, rfl, hq⟩ := q
      exact ⟨v, w, rfl, hq⟩
theorem sd_par3 {δ : Sl} {i j l : Nat} {ta : TA} {ra : Re (List Ar)} (h : EA Γ.K Γ.cl W ta δ ra) : SD Γ.K Γ.cl W Γ.ow (tPar3 i j l ta) δ (ra.fl fun rs δ1 => optF (valsOf rs) fun ds => optF (setAll [i, j, l] ds δ1) .nx) := by
  intro S as σ H D eo p
  refine h.fl eo p fun rs δ1 vs H1 f1 eo1 r1 p1 => ?_
  cases hv : valsOf rs with
  | none => rw [hv] at p1; exact p1.elim
  | some ds =>
    rw [hv] at p1
    dsimp only [optF] at p1
    have rr := r1.vals hv
    cases hs : setAll [i, j, l] ds δ1 with
    | none => rw [hs] at p1; exact p1.elim
    | some δ2 =>
      rw [hs] at p1
      have q := setAll_ok (K := Γ.K) (Qg := D.nx) hs eo1 rr fun σ0 e0 _ => p1.next e0
      obtain ⟨v, r, rfl, w, r', rfl, u, r'', rfl, rfl, hq⟩ := q
      exact ⟨v, w, u, rfl, hq⟩
theorem sd_asg {δ : Sl} {te : TE} {ra : Re Dt} {t : Tg} (h : ED Γ.K Γ.cl W te δ ra) : SD Γ.K Γ.cl W Γ.ow (tAsg te (gT Γ.K t)) δ (ra.fl fun d δ1 => optF (putT t d δ1) .nx) := by
  intro S as σ H D eo p
  exact h.fl eo p fun d δ1 v H1 f1 eo1 r1 p1 => put_fl p1 eo1 r1
/-- the classes are as Γ says -/
def XsOk (Γ : Gm) : Prop := ∀ y T C ns b v c, Γ.cl y = some (C, ns) → Γ.xs y T = some b → Γ.xc T = some v → cvOf v = some c → PySem.W.exmOne Γ.K (.ref C) c = some b ∧ PySem.W.kitOne Γ.K (.ref C) c = some b
theorem slot_idx {Γ : Gm} {x : Str} {i : Nat} (h : Γ.slot x = some i) : i = Γ.N.idxOf x := by
  unfold Gm.slot at h
  split at h
  · simp only at h
    split at h
    · cases h; rfl
    · cases h
  · cases h
theorem zip_lookup {K : PySem.W.Frag} {H : Hp} {f : Str} {d : Dt} : ∀ {ns : List Str} {us : List V} {ds : List Dt}, RpAll K H us ds → (ns.zip ds).lookup f = some d → f ∈ ns ∧ ∃ v, (ns.zip us).lookup f = some v ∧ Rp K H v d
  | [], us, ds, r, h => by simp at h
  | n :: ns, _, _, .nil, h => by simp at h
  | n :: ns, _, _, .cons (v := v) (d := e) r1 r, h => by
    rw [List.zip_cons_cons, List.lookup_cons] at h
    rw [List.zip_cons_cons, List.lookup_cons]
    cases hb : f == n with
    | true =>
      rw [hb] at h
      cases h
      exact ⟨by rw [beq_iff_eq.mp hb]; exact List.mem_cons_self, v, rfl, r1⟩
    | false =>
      rw [hb] at h
      obtain ⟨h1, w, h2, h3⟩ := zip_lookup r h
      exact ⟨List.mem_cons_of_mem _ h1, w, h2, h3⟩
theorem hd_all {Γ : Gm} (Xs : XsOk Γ) {ev : Str} {a : Addr} {cls : Value} {dd : Option Addr} {y : Exn} {S : Addr → Prop} {as : As} {σ : L2.St} {δ : Sl} (hev : σ[Γ.N.idxOf ev]? = some (some (.ref a))) : ∀ n,
    (∀ e H Q d, EO Γ.K S as H σ δ → Xr Γ.K Γ.cl (hid H S) y cls dd → evH n Γ ev y δ e = some d → (∀ v H', Fr S as H H' → EO Γ.K S as H' σ δ → Rp Γ.K (hid H' S) v d → Q v H') → trH n Γ ev a cls dd e σ H Q) ∧
    (∀ es H Q ds, EO Γ.K S as H σ δ → Xr Γ.K Γ.cl (hid H S) y cls dd → evHA n Γ ev y δ es = some ds → (∀ vs H', Fr S as H H' → EO Γ.K S as H' σ δ → RpAll Γ.K (hid H' S) vs ds → Q vs H') → trHA n Γ ev a cls dd es σ H Q) := by
  intro n
  induction n with
  | zero => exact ⟨fun e H Q d _ _ h _ => (by unfold evH at h; cases h), fun e H Q d _ _ h _ => (by unfold evHA at h; cases h)⟩
  | succ n ih =>
    refine ⟨fun e H Q d eo xr h k => ?_, fun es H Q ds eo xr h k => ?_⟩
    · cases e
      case Name x pos =>
        unfold evH at h
        unfold trH
        dsimp only at h ⊢
        split at h
        · next i hi =>
          rw [hi]
          split at h
          · next d' hd =>
            cases h
            obtain ⟨v, h1, h2⟩ := eo.dat i _ (getS_some hd)
            exact ⟨v, h1, k v H Fr.refl eo h2⟩
          · cases h
        · cases h
      case Constant c kk pos =>
        unfold evH at h
        unfold trH
        cases c <;> simp only at h ⊢ <;> cases h
        · exact k _ H Fr.refl eo .non
        · exact k _ H Fr.refl eo (.bl _)
        · exact k _ H Fr.refl eo (.int _)
        · exact k _ H Fr.refl eo (.str _)
      case Attribute o f pos =>
        cases o
        case Name z q =>
          unfold evH at h
          unfold trH
          dsimp only at h ⊢
          split at h
          · next hz =>
            subst hz
            rw [if_pos rfl]
            split at h
            · next i hi =>
              rw [hi]
              have ei := slot_idx hi
              subst ei
              obtain ⟨C, ns, hcl, hc, hr⟩ := xr
              rw [hcl] at h
              simp only at h
              rcases hr with ⟨e1, e2, e3⟩ | ⟨da, us, e1, e2, e3, e4⟩
              · rw [e1] at h; simp at h
              · obtain ⟨m1, v, m2, m3⟩ := zip_lookup e4 h
                exact ⟨y.cls, C, ns, hcl, m1, .ref a, hev, rfl, hc, da, _, v, e1, (hid_of e2).1, m2, k v H Fr.refl eo m3⟩
            · cases h
          · cases h
        all_goals (unfold evH at h; cases h)
      case Compare l ops cs pos =>
        unfold evH at h
        unfold trH
        dsimp only at h ⊢
        split at h
        · next op r =>
          split at h
          · cases h
          · next hs =>
            rw [if_neg hs]
            split at h
            · next u v hu hv =>
              rw [Option.map_eq_some_iff] at h
              obtain ⟨b, hb, rfl⟩ := h
              refine ih.1 l H _ u eo xr hu fun w H1 f1 eo1 r1 => ?_
              refine ih.1 r H1 _ v eo1 (xr.mono f1.le) hv fun w2 H2 f2 eo2 r2 => ?_
              exact cmp_ok eo2 (Rp.mono f2.le _ r1) r2 hb (k _ H2 (f1.trans f2) eo2 (.bl b))
            · cases h
        · cases h
      case List es pos =>
        unfold evH at h
        unfold trH
        dsimp only at h ⊢
        split at h
        · next ds hds =>
          split at h
          · next hl =>
            cases h
            refine ih.2 es H _ ds eo xr hds fun vs H1 f1 eo1 r1 => ⟨by rw [r1.length]; exact lim_size hl, fun p hp => ?_⟩
            exact k _ _ (f1.trans (eo1.frnew hp)) (eo1.new hp) (.lst (eo1.at_new hp) (RpAll.mono (eo1.frnew hp).le _ r1))
          · cases h
        · cases h
      case Call f args kws pos =>
        unfold evH at h
        unfold trH
        dsimp only at h ⊢
        split at h
        · next x p z p1 T p2 =>
          split at h
          · next hc =>
            rw [if_pos hc]
            split at h
            · next i v hi hT =>
              rw [hi, hT]
              have ei := slot_idx hi
              obtain ⟨_, hz, _⟩ := hc
              subst hz
              subst ei
              split at h
              case isFalse => cases h
              rename_i hsome
              rw [Option.map_eq_some_iff] at h
              obtain ⟨b, hb, rfl⟩ := h
              refine ⟨.ref a, hev, ?_⟩
              obtain ⟨C, ns, hcl, hc, hr⟩ := xr
              have hd : dd = none ∨ ∃ da fs, dd = some da ∧ H da = some (.xd fs) := by
                rcases hr with ⟨_, _, e3⟩ | ⟨da, us, e1, e2, _⟩
                · exact .inl e3
                · exact .inr ⟨da, _, e1, (hid_of e2).1⟩
              cases hcv : cvOf v with
              | none => rw [hcv] at hsome; cases hsome
              | some c => exact ⟨y.cls, C, ns, v, c, b, hcl, hc, hd, rfl, hcv, (Xs _ _ _ _ _ _ _ hcl hb hT hcv).2, k _ H Fr.refl eo (.bl b)⟩
            · cases h
          · cases h
        · cases h
      all_goals (unfold evH at h; cases h)
    · unfold evHA at h
      unfold trHA
      cases es with
      | nil => cases h; exact k [] H Fr.refl eo .nil
      | cons e r =>
        dsimp only at h ⊢
        split at h
        · next hs =>
          rw [if_pos hs]
          split at h
          · next d ds hd hds =>
            cases h
            refine ih.1 e H _ d eo xr hd fun v H1 f1 eo1 r1 => ?_
            refine ih.2 r H1 _ ds eo1 (xr.mono f1.le) hds fun vs H2 f2 eo2 r2 => ?_
            exact k _ H2 (f1.trans f2) eo2 (.cons (Rp.mono f2.le _ r1) r2)
          · cases h
        · cases h
theorem sd_fresh (A : EAll n Γ W) {args : List Expr} {δ : Sl} {i : Nat} {sem : Sl → Re (List Dt)} : SD Γ.K Γ.cl W Γ.ow (tAsg (tCallS (spF Γ.K Γ.cl sem) (WE W) (trA n Γ W args)) (gName i)) δ
    ((evA n Γ args δ).fl fun rs δ1 => (callD sem rs δ1).fl fun c δ2 => if i ∈ Γ.ow ∧ i < δ2.length then .nx (δ2.set i (some (.own c))) else .bad) := by
  intro S as σ H D eo p
  refine (A.a args δ).fl eo p fun rs δ1 vs H1 f1 eo1 r1 p1 => ?_
  refine call_okF eo1 r1 ?_
  cases hr : callD sem rs δ1 with
  | ok c δ2 =>
    rw [hr] at p1
    intro a us H0 f eo0 hn hu
    have p2 : PkS Γ.K Γ.cl W Γ.ow S as H1 D (if i ∈ Γ.ow ∧ i < δ2.length then .nx (δ2.set i (some (.own c))) else .bad) := p1
    split at p2
    · next hc =>
      obtain ⟨e1, s1⟩ := own_new (ow := Γ.ow) eo0 hc.2 hc.1 hn hu
      exact p2 _ _ _ _ (f.stp.trans s1) e1
    · exact p2.elim
  | exc x δ2 => rw [hr] at p1; exact fun cls dd H' f e' xr => p1 cls dd S as σ H' f.stp e' xr.but
  | bad => rw [hr] at p1; exact p1.elim
theorem sd_retF (B : ∀ n, EAll n Γ W) {e : Expr} {δ : Sl} : SD Γ.K Γ.cl W Γ.ow (tRet (trE n Γ W e)) δ (retF n Γ e (frz Γ.ow δ)) := by
  cases n with
  | zero => exact sd_bad
  | succ m =>
    unfold retF
    dsimp only
    split
    · next a b pos =>
      intro S as σ H D eo p
      have A := B m
      have eo' := frz_eo (ow := Γ.ow) eo
      have p' := PkS.after (frz_stp (ow := Γ.ow)) p
      show trE (m + 1) Γ W (.BinOp a .Add b pos) σ H D.rt
      unfold trE
      refine (A.e a _).fl eo' p' fun x δ1 v H1 f1 eo1 r1 p1 => ?_
      refine (A.e b δ1).fl eo1 p1 fun y δ2 u H2 f2 eo2 r2 p2 => ?_
      split at p2
      · next xs ys =>
        split at p2
        · next hl =>
          cases r1 with
          | lst h1 h2 =>
            cases r2 with
            | lst h3 h4 =>
              have h2' := RpAll.mono f2.le _ h2
              exact Or.inr (Or.inr (Or.inl ⟨_, _, _, _, rfl, rfl, hid_le _ _ (f2.le _ _ h1), hid_le _ _ h3, by rw [h2.length, h4.length]; exact lim_size hl, fun q hn => p2 q _ _ _ σ H2 Stp.refl eo2 hn (RpAll.mono but_le _ (h2'.append h4))⟩))
        · exact p2.elim
      · exact p2.elim
    · exact sd_bad
theorem EO.setN {K : PySem.W.Frag} {S : Addr → Prop} {as : As} {H : Hp} {σ : L2.St} {δ : Sl} (eo : EO K S as H σ δ) {i : Nat} {x : Option V} (hn : isownS δ i = false) : EO K S as H (σ.set i x) (δ.set i none) := by
  have hno : ∀ a, as[i]? ≠ some (some a) := fun a e => by
    obtain ⟨_, c, hc⟩ := eo.isown i a e
    unfold isownS getS at hn
    rw [hc] at hn
    cases hn
  have off : ∀ {j : Nat} {z : Dv}, (δ.set i none)[j]? = some (some z) → i ≠ j ∧ δ[j]? = some (some z) := fun {j z} e => by
    by_cases h : i = j
    · subst h
      by_cases hi : i < δ.length
      · rw [List.getElem?_set_self hi] at e; cases e
      · rw [List.getElem?_eq_none (by rw [List.length_set]; omega)] at e; cases e
    · rw [List.getElem?_set_ne h] at e; exact ⟨h, e⟩
  refine ⟨by rw [List.length_set, List.length_set]; exact eo.l1, by rw [List.length_set]; exact eo.l2, fun j d' e => ?_, fun j c e => ?_, fun j a e => ?_, eo.inj, eo.trk⟩
  · obtain ⟨h, e⟩ := off e
    obtain ⟨w, h1, h2⟩ := eo.dat j d' e
    exact ⟨w, by rw [List.getElem?_set_ne h]; exact h1, h2⟩
  · obtain ⟨h, e⟩ := off e
    obtain ⟨a, us, h1, h2, h3⟩ := eo.own j c e
    exact ⟨a, us, h1, by rw [List.getElem?_set_ne h]; exact h2, h3⟩
  · have h : i ≠ j := fun z => hno a (z ▸ e)
    obtain ⟨h1, c, h2⟩ := eo.isown j a e
    exact ⟨h1, c, by rw [List.getElem?_set_ne h]; exact h2⟩
theorem sd_assign (A : EAll n Γ W) (tg e : Expr) (pos : Pos) (δ : Sl) : SD Γ.K Γ.cl W Γ.ow (trS (n + 1) Γ W (.Assign [tg] e pos)) δ (evS (n + 1) Γ (.Assign [tg] e pos) δ) := by
  unfold trS evS
  dsimp only
  split
  · next x py =>
    split
    · next hx =>
      split
      · next elt gens scope p =>
        split
        · exact sd_asg (t := .name _) (A.e _ δ)
        · exact sd_bad
      · next f args kws q =>
        split
        · split
          · exact sd_fresh A
          · exact sd_bad
        · exact sd_asg (t := .name _) (A.e _ δ)
      · split
        · exact sd_bad
        · split
          · next hw =>
            simp only [Bool.and_eq_true, decide_eq_true_eq] at hx
            obtain ⟨hw1, hw2, hw3⟩ := hw
            unfold isNilE at hw2
            split at hw2
            · intro S as σ H D eo p
              match n, A with
              | 0, _ => exact p.elim
              | 1, _ => exact p.elim
              | m + 2, _ =>
                refine ⟨Nat.zero_le _, fun a hn => ?_⟩
                obtain ⟨e1, s1⟩ := own_new (ow := Γ.ow) eo hw3 hw1 hn .nil
                exact p _ _ _ _ s1 e1
            · cases hw2
          · exact sd_asg (t := .name _) (A.e _ δ)
    · exact sd_bad
  · next ts k pt =>
    split
    · next is hi =>
      split
      · next vs k2 p2 =>
        split
        · split
          · exact sd_asg (A.e _ δ)
          · split
            · exact sd_bad
            · split
              · split
                · split
                  · exact sd_par (A.a _ δ)
                  · exact sd_bad
                · split
                  · exact sd_par3 (A.a _ δ)
                  · exact sd_bad
                · exact sd_bad
              · exact sd_bad
        · exact sd_bad
      · split
        · exact sd_bad
        · exact sd_asg (A.e _ δ)
    · exact sd_bad
  · next o i p =>
    split
    · next x q =>
      split
      · exact sd_bad
      split
      · exact sd_bad
      · intro S as σ H D eo pk
        refine (A.e e δ).fl eo pk fun d δ1 v H1 f1 eo1 r1 p1 => ?_
        split at p1
        · exact p1.elim
        · next hn =>
          split at p1
          · next k hs =>
            obtain ⟨x', q', e1, h1, h2⟩ := slotOwn_is hs
            cases e1
            obtain ⟨m', rfl⟩ : ∃ m, n = m + 1 := ⟨n - 1, by omega⟩
            obtain ⟨c, hc⟩ := own_get h2
            obtain ⟨a, us, q1, q2, q3, q4⟩ := eo1.own k c (getS_some hc)
            show trE (m' + 1) Γ W (.Name x q) σ H1 _
            unfold trE
            dsimp only
            rw [h1]
            refine ⟨.ref a, q2, ?_⟩
            refine (A.e i δ1).fl eo1 p1 fun y δ2 u H2 f2 eo2 r2 p2 => ?_
            split at p2
            · next j c' hc' =>
              split at p2
              · next z hz =>
                cases r2
                obtain ⟨b, ws, w1, w2, w3, w4⟩ := eo2.own k c' (getS_some hc')
                rw [q1] at w1; cases w1
                obtain ⟨e3, f3⟩ := own_set eo2 (getS_some hc') q1 (w4.set z (Rp.mono f2.le _ r1))
                exact ⟨a, ws, j, z, rfl, rfl, w3, by rw [w4.length]; exact hz, p2 S as σ _ f3.stp e3⟩
              · exact p2.elim
            · exact p2.elim
          · exact p1.elim
    · exact sd_bad
  · exact sd_bad
theorem sd_aug (A : EAll n Γ W) {e : Expr} {δ : Sl} {i : Nat} {a : Int} {f : Int → Int → Int} (ha : getS δ i = some (.dat (.int a))) :
    SD Γ.K Γ.cl W Γ.ow (tAug i (trE n Γ W e) (ipI f)) δ ((evE n Γ e δ).fl fun y δ1 => match y with | .int b => .nx (δ1.set i (some (.dat (.int (f a b))))) | _ => .bad) := by
  intro S as σ H D eo pk
  obtain ⟨v, h1, h2⟩ := eo.dat _ _ (getS_some ha)
  cases h2
  refine ⟨.int a, h1, ?_⟩
  refine (A.e e δ).fl eo pk fun d δ1 v H1 f1 eo1 r1 p1 => ?_
  split at p1
  · next b =>
    cases r1
    refine ⟨a, b, rfl, rfl, ?_⟩
    by_cases ho : isownS δ1 i = true
    · exfalso
      obtain ⟨c, hc⟩ := own_get ho
      obtain ⟨ad, us, w1, w2, _⟩ := eo1.own _ c (getS_some hc)
      rw [h1] at w2; cases w2
    · exact p1.next (eo1.setD (by simpa using ho) (.int _))
  · exact p1.elim
theorem sd_try {body : List Stmt} {c : Value} {v : V} {x ev : Str} {h : Expr} {δ : Sl} {r : Fl} (Xs : XsOk Γ) (hb : ∀ W, SD Γ.K Γ.cl W Γ.ow (trSs n Γ W body) δ r) (hv : Γ.xc x = some v) (hc : cvOf v = some c) (hlt : Γ.N.idxOf ev < Γ.N.length → True) :
    SD Γ.K Γ.cl W Γ.ow (fun D σ H => trSs n Γ (wAs Γ.K c (Γ.N.idxOf ev) (fun a cls d => tRet (trH n Γ ev a cls d h)) W D) body D σ H) δ
      (r.try fun y δ1 => catchF (Γ.xs y.cls x) (fun δ => evH n Γ ev y δ h) Γ.ow (Γ.N.idxOf ev) y δ1) := by
  intro S as σ H D eo p
  refine hb _ S as σ H D eo ?_
  cases r with
  | nx δ1 => exact p
  | rt d δ1 => exact p
  | rf c δ1 => exact p
  | bk δ1 => exact p
  | ct δ1 => exact p
  | bad => exact p
  | exc y δ1 =>
    have p1 : PkS Γ.K Γ.cl W Γ.ow S as H D (catchF (Γ.xs y.cls x) (fun δ => evH n Γ ev y δ h) Γ.ow (Γ.N.idxOf ev) y δ1) := p
    intro cls dd S' as' σ' H' st eo' xr
    obtain ⟨C, ns, hcl, hcls, hrest⟩ := id xr
    subst hcls
    cases hx : Γ.xs y.cls x with
    | none => rw [hx] at p1; exact p1.elim
    | some b =>
      rw [hx] at p1
      obtain ⟨x1, _⟩ := Xs _ _ _ _ _ _ _ hcl hx hv hc
      cases b with
      | false => exact ⟨false, x1, (fun z => Bool.noConfusion z), fun _ => p1 _ dd S' as' σ' H' st eo' xr⟩
      | true =>
        refine ⟨true, x1, fun _ a ha => ?_, fun z => Bool.noConfusion z⟩
        unfold catchF at p1
        dsimp only at p1
        split at p1
        · exact p1.elim
        · next hno =>
          split at p1
          · next d hd =>
            simp only [Bool.or_eq_true, not_or, Bool.not_eq_true, decide_eq_true_eq, Nat.not_le] at hno
            have e1 := eo'.setN (i := Γ.N.idxOf ev) (x := some (.ref a)) hno.1
            have e2 := frz_eo (ow := Γ.ow) e1
            refine (hd_all Xs (by rw [List.getElem?_set_self (by rw [eo'.l1]; exact hno.2)]) n).1 h H' _ d e2 xr hd fun v2 H2 f2 eo2 r2 => ?_
            exact p1 v2 _ _ _ H2 (st.trans (frz_stp.trans f2.stp)) eo2 (Rp.mono (hid_sub st.but) _ r2)
          · exact p1.elim
theorem sdall (G : GlOk Γ) (Xs : XsOk Γ) (n : Nat) : ∀ {W : WX}, (∀ s δ, SD Γ.K Γ.cl W Γ.ow (trS n Γ W s) δ (evS n Γ s δ)) ∧ ∀ ss δ, SD Γ.K Γ.cl W Γ.ow (trSs n Γ W ss) δ (evSs n Γ ss δ) := by
  induction n with
  | zero => exact ⟨fun _ _ => sd_bad, fun _ _ => sd_bad⟩
  | succ n ih0 =>
    intro W
    have ih := @ih0 W
    have A := eall n Γ W G
    refine ⟨fun s δ => ?_, fun ss δ => ?_⟩
    · cases s
      case Return v pos =>
        cases v with
        | none => exact fun S as σ H D eo p => p .non S as σ H Stp.refl eo .non
        | some e =>
          unfold trS evS
          dsimp only
          split
          · exact sd_retF (fun n => eall n Γ W G)
          intro S as σ H D eo p
          refine A.e e (frz Γ.ow δ) (But Γ.ow S as) (clr Γ.ow as) σ H _ (frz_eo eo) ?_
          have p' : PkS Γ.K Γ.cl W Γ.ow S as H D ((evE n Γ e (frz Γ.ow δ)).fl fun d δ1 => .rt d δ1) := p
          cases hr : evE n Γ e (frz Γ.ow δ) with
          | ok d δ1 => rw [hr] at p'; exact fun v H' f e1 r1 => p' v _ _ σ H' (frz_stp.trans f.stp) e1 r1
          | exc x δ1 => rw [hr] at p'; exact fun c d H' f e1 r1 => p' c d _ _ σ H' (frz_stp.trans f.stp) e1 r1.but
          | bad => rw [hr] at p'; exact p'
      case Pass pos => exact fun S as σ H D eo p => p S as σ H Stp.refl eo
      case Break pos => exact fun S as σ H D eo p => p S as σ H Stp.refl eo
      case Continue pos => exact fun S as σ H D eo p => p S as σ H Stp.refl eo
      case Expr e pos =>
        unfold trS evS
        dsimp only
        split
        · exact fun S as σ H D eo p => p S as σ H Stp.refl eo
        · next x p m ap e cp =>
          split
          · split
            · split
              · next i hs =>
                split
                · exact sd_bad
                · next hn =>
                  refine sd_own (m := m) A hs hn fun S as σ H D rs δ1 vs a eo r q1 q2 p1 => ?_
                  split at p1
                  · next d c hc =>
                    split at p1
                    · next hl =>
                      cases r with
                      | val r1 r2 =>
                        cases r2
                        obtain ⟨b, us, w1, w2, w3, w4⟩ := eo.own i c (getS_some hc)
                        rw [q1] at w1; cases w1
                        obtain ⟨e3, f3⟩ := own_set eo (getS_some hc) q1 (w4.append (.cons r1 .nil))
                        exact ⟨a, us, _, rfl, rfl, w3, by rw [w4.length]; exact lim_lt hl, p1 S as σ _ f3.stp e3⟩
                    · exact p1.elim
                  · exact p1.elim
              · exact sd_bad
            · split
              · split
                · next i hs =>
                  split
                  · exact sd_bad
                  · next hn =>
                    refine sd_own (m := m) A hs hn fun S as σ H D rs δ1 vs a eo r q1 q2 p1 => ?_
                    split at p1
                    · next ds c hc =>
                      split at p1
                      · next hl =>
                        cases r with
                        | val r1 r2 =>
                          cases r2
                          cases r1 with
                          | lst r3 r4 =>
                            obtain ⟨b, us, w1, w2, w3, w4⟩ := eo.own i c (getS_some hc)
                            rw [q1] at w1; cases w1
                            obtain ⟨e3, f3⟩ := own_set eo (getS_some hc) q1 (w4.append r4)
                            exact ⟨a, _, us, _, rfl, rfl, w3, hid_le _ _ r3, by rw [w4.length, r4.length]; exact lim_size hl, p1 S as σ _ f3.stp e3⟩
                      · exact p1.elim
                    · exact p1.elim
                · exact sd_bad
              · exact sd_bad
          · exact sd_bad
        · intro S as σ H D eo p
          exact (A.e _ δ).fl eo p fun d δ1 v H1 f1 eo1 r1 p1 => p1.next eo1
        · exact sd_bad
      case Assign ts e pos =>
        match ts with
        | [] => exact sd_bad
        | [tg] => exact sd_assign A tg e pos δ
        | _ :: _ :: _ => exact sd_bad
      case AugAssign tg op e pos =>
        unfold trS evS
        dsimp only
        split
        · next x p =>
          split
          · split
            · split
              · next a ha => exact sd_aug A ha
              · exact sd_bad
            · split
              · next a ha => exact sd_aug A ha
              · exact sd_bad
            · split
              · exact sd_bad
              · exact sd_bad
          · exact sd_bad
        · exact sd_bad
      case If c a b pos =>
        intro S as σ H D eo p
        refine (A.t c δ).fl eo p fun t δ1 H1 f1 eo1 p1 => ?_
        cases t with
        | true => exact ih.2 a δ1 S as σ H1 D eo1 p1
        | false => exact ih.2 b δ1 S as σ H1 D eo1 p1
      case For tg iter body orelse pos =>
        match orelse with
        | [] =>
          unfold trS evS
          dsimp only
          split
          · exact sd_bad
          · split
            · next t ht => exact for_ok (A.i iter δ) (ih.2 body)
            · exact sd_bad
        | _ :: _ => exact sd_bad
      case While c body orelse pos =>
        match orelse with
        | [] => exact while_ok (A.t c) (ih.2 body) FUEL
        | _ :: _ => exact sd_bad
      case Raise ex cause pos =>
        unfold trS evS
        dsimp only
        split
        · next x p args q =>
          split
          · split
            · next C ns hc =>
              split
              · split
                · next hn => exact fun S as σ H D eo p => p _ _ S as σ H Stp.refl eo ⟨C, ns, hc, rfl, Or.inl ⟨hn, rfl, rfl⟩⟩
                · exact sd_bad
              · next e es =>
                split
                · intro S as σ H D eo p
                  refine (A.a (e :: es) δ).fl eo p fun rs δ1 vs H1 f1 eo1 r1 p1 => ?_
                  cases hv : valsOf rs with
                  | none => rw [hv] at p1; exact p1.elim
                  | some ds =>
                    rw [hv] at p1
                    dsimp only [optF] at p1
                    split at p1
                    · next hl =>
                      have rr := r1.vals hv
                      have hvl : vs.length = ns.length := by rw [rr.length, hl]
                      refine ⟨hvl, fun d hd => ?_⟩
                      refine p1 _ _ S as σ _ (eo1.frnew hd).stp (eo1.new hd) (Xr.but ⟨C, ns, hc, rfl, Or.inr ⟨d, vs, rfl, eo1.at_new hd, hvl.symm, RpAll.mono (eo1.frnew hd).le _ rr⟩⟩)
                    · exact p1.elim
                · exact sd_bad
            · exact sd_bad
          · exact sd_bad
        · exact sd_bad
      case Try body hs orelse fin pos =>
        unfold trS evS
        dsimp only
        split
        · next x np ev h hp hp2 =>
          split
          · split
            · next c hcv =>
              rw [Option.bind_eq_some_iff] at hcv
              obtain ⟨v, hv, hcv⟩ := hcv
              exact sd_try Xs (fun W' => (@ih0 W').2 body δ) hv hcv (fun _ => trivial)
            · exact sd_bad
          · exact sd_bad
        · exact sd_bad
      all_goals exact sd_bad
    · unfold trSs evSs
      cases ss with
      | nil => exact fun S as σ H D eo p => p S as σ H Stp.refl eo
      | cons s r =>
        intro S as σ H D eo p
        refine ih.1 s δ S as σ H _ eo ?_
        dsimp only at p
        cases hr : evS n Γ s δ with
        | nx δ1 => rw [hr] at p; exact fun S' as' σ' H' g e1 => ih.2 r δ1 S' as' σ' H' D e1 (PkS.after g p)
        | bk δ1 => rw [hr] at p; exact p
        | ct δ1 => rw [hr] at p; exact p
        | rt d δ1 => rw [hr] at p; exact p
        | rf d δ1 => rw [hr] at p; exact p
        | exc x δ1 => rw [hr] at p; exact p
        | bad => rw [hr] at p; exact p
end
end PD

/-! PDf: a def does what runDef says; a program's table of defs. -/
namespace PD
open PySem L2
structure Rt (P : Program) (w : World) (K : PySem.W.Frag) (mg : Str → Option Value) (base : Heap) (Γ : Gm) (k : Nat) : Prop where
  hK : K = Γ.K
  gl : ∀ x v d, Γ.gl x = some (v, d) → ∃ u, mg x = some u ∧ RelV v u
  gok : GlOk Γ
  fn : ∀ x s, Γ.fn x = some s → ∃ f fd ps j, j ≤ k ∧ FnOk P w K mg base (L2.CX P w) j f fd ps (spD Γ.K Γ.cl s) ∧ mg x = some (.ref f) ∧ PySem.W.keepIn K (.ref f) = true ∧ Binds K fd ps []
  fr : ∀ x s, Γ.fr x = some s → ∃ f fd ps j, j ≤ k ∧ FnOk P w K mg base (L2.CX P w) j f fd ps (spF Γ.K Γ.cl s) ∧ mg x = some (.ref f) ∧ PySem.W.keepIn K (.ref f) = true ∧ Binds K fd ps []
  bl : ∀ x : Str, (isB x = true ∨ x = "isinstance" ∨ x = "range" ∨ (tyOf? x).isSome = true) → mg x = none
  ex : ∀ x C ns, Γ.cl x = some (C, ns) → Γ.rz x = true → ExOk P w K mg base k x C ns
  xc : ∀ T v, Γ.xc T = some v → NmV mg T v
  xo : ∀ y C ns, Γ.cl y = some (C, ns) → XcOk K C ns
  xs : XsOk Γ
section
variable {P : Program} {w : World} {K : PySem.W.Frag} {mg : Str → Option Value} {base : Heap} {Γ : Gm} {k : Nat}
theorem merge_get {δ0 δ : Sl} {i : Nat} : (mergeP δ0 δ)[i]? = (δ0[i]?).map fun x => match x with | some (.own _) => (δ[i]?).join | x => x := by
  unfold mergeP
  rw [List.getElem?_mapIdx]
  try rfl
theorem merge_len {δ0 δ : Sl} : (mergeP δ0 δ).length = δ0.length := by unfold mergeP; simp
theorem enter_eo {S : Addr → Prop} {as : As} {H : Hp} {vs : List V} {δ0 : Sl} {N : List Str} (eo : EO K S as H (vs.map some) δ0) : EO K S (as ++ List.replicate (N.length - vs.length) none) H (start N vs) (δ0 ++ List.replicate (N.length - vs.length) none) := by
  have h1 : vs.length = δ0.length := by have := eo.l1; rw [List.length_map] at this; exact this
  have h2 : as.length = δ0.length := eo.l2
  have ga : ∀ {α : Type} {l : List (Option α)} {i : Nat} {x : α} {m : Nat}, (l ++ List.replicate m none)[i]? = some (some x) → l[i]? = some (some x) := fun {α l i x m} h => by
    by_cases hi : i < l.length
    · rw [List.getElem?_append_left hi] at h; exact h
    · rw [List.getElem?_append_right (by omega), List.getElem?_replicate] at h
      split at h <;> simp at h
  have gb : ∀ {α : Type} {l : List (Option α)} {i : Nat} {x : α} {m : Nat}, l[i]? = some (some x) → (l ++ List.replicate m none)[i]? = some (some x) := fun {α l i x m} h => by
    rw [List.getElem?_append_left (List.getElem?_eq_some_iff.mp h).1]; exact h
  refine ⟨by unfold L2.start; simp [h1], by simp [h2], fun i d e => ?_, fun i c e => ?_, fun i a e => ?_, fun i j a e e' => eo.inj i j a (ga e) (ga e'), eo.trk⟩
  · obtain ⟨v, q1, q2⟩ := eo.dat i d (ga e)
    exact ⟨v, gb q1, q2⟩
  · obtain ⟨a, us, q1, q2, q3⟩ := eo.own i c (ga e)
    exact ⟨a, us, gb q1, gb q2, q3⟩
  · obtain ⟨q1, c, q2⟩ := eo.isown i a (ga e)
    exact ⟨q1, c, gb q2⟩
theorem leave_eo {S S' : Addr → Prop} {as as' : As} {H H' : Hp} {vs : List V} {δ0 δ : Sl} {σ' : L2.St} {m : Nat} {ow : List Nat} (eo : EO K S as H (vs.map some) δ0) (how : ∀ i ∈ ow, δ0.length ≤ i) (st : Stp ow S (as ++ List.replicate m none) H S' as' H') (eo' : EO K S' as' H' σ' δ) :
    Fr S as H H' ∧ EO K S as H' (vs.map some) (mergeP δ0 δ) ∧ (∀ a, S a → But ow S (as ++ List.replicate m none) a) := by
  have ga : ∀ {i : Nat} {x : Addr}, (as ++ List.replicate m none)[i]? = some (some x) → as[i]? = some (some x) := fun {i x} h => by
    by_cases hi : i < as.length
    · rw [List.getElem?_append_left hi] at h; exact h
    · rw [List.getElem?_append_right (by omega), List.getElem?_replicate] at h
      split at h <;> simp at h
  have gb : ∀ {i : Nat} {x : Addr}, as[i]? = some (some x) → (as ++ List.replicate m none)[i]? = some (some x) := fun {i x} h => by
    rw [List.getElem?_append_left (List.getElem?_eq_some_iff.mp h).1]; exact h
  have hb : ∀ a, S a → But ow S (as ++ List.replicate m none) a := fun a ha => ⟨ha, fun i hi e => by
    have := (List.getElem?_eq_some_iff.mp (ga e)).1
    rw [eo.l2] at this
    exact absurd (how i hi) (by omega)⟩
  have nw : ∀ {i : Nat} {x : Addr}, as[i]? = some (some x) → i ∉ ow := fun {i x} h q => by
    have := (List.getElem?_eq_some_iff.mp h).1
    rw [eo.l2] at this
    exact absurd (how i q) (by omega)
  have asame : ∀ {i : Nat} {x : Addr}, as[i]? = some (some x) → as'[i]? = some (some x) := fun {i x} h => by
    rw [st.same i (nw h)]; exact gb h
  have fr : Fr S as H H' := ⟨st.keep, fun a hs hi => st.hidd a (hb a hs) fun i e => hi i (ga e)⟩
  have leS : Le (hid H' S') (hid H' S) := hid_sub fun a h => (st.but a (hb a h)).1
  refine ⟨fr, ⟨by rw [merge_len]; exact eo.l1, by rw [merge_len]; exact eo.l2, fun i d e => ?_, fun i c e => ?_, fun i a e => ?_, eo.inj, fun a h => eo'.trk a (st.but a (hb a h)).1⟩, hb⟩
  · rw [merge_get, Option.map_eq_some_iff] at e
    obtain ⟨x, q1, q2⟩ := e
    split at q2
    · next c =>
      obtain ⟨a, us, w1, _⟩ := eo.own i c q1
      obtain ⟨_, c', w2⟩ := eo'.isown i a (asame w1)
      rw [w2] at q2; cases q2
    · subst q2
      obtain ⟨v, w1, w2⟩ := eo.dat i d q1
      exact ⟨v, w1, Rp.mono fr.le _ w2⟩
  · rw [merge_get, Option.map_eq_some_iff] at e
    obtain ⟨x, q1, q2⟩ := e
    split at q2
    · next c0 =>
      obtain ⟨a, us, w1, w2, _⟩ := eo.own i c0 q1
      have e' : δ[i]? = some (some (.own c)) := by
        cases hd : δ[i]? with
        | none => rw [hd] at q2; cases q2
        | some o => rw [hd] at q2; simp at q2; rw [q2]
      obtain ⟨b, us', z1, z2, z3, z4⟩ := eo'.own i c e'
      rw [asame w1] at z1; cases z1
      exact ⟨a, us', w1, w2, z3, RpAll.mono leS _ z4⟩
    · next hx => subst q2; exact absurd rfl (hx c)
  · obtain ⟨q1, c, q2⟩ := eo.isown i a e
    obtain ⟨_, c', w2⟩ := eo'.isown i a (asame e)
    refine ⟨q1, c', ?_⟩
    rw [merge_get, q2, Option.map_some]
    show some (δ[i]?).join = _
    rw [w2]; rfl
theorem mts_of {qual : Str} {st : Stmt} {f : Addr} {ps : List Str} (S : FnScope Γ.N ps (defScope st)) (hsc : Γ.sc = defScope st) (R : Rt P w Γ.K mg base Γ k) {cdv : Value} {A : Around} {outer : List Env} {s : Shared} {H : Hp} {E : XK} (hr : Room k (cxOf (L2.CX P w) P w Γ.K mg base Γ.N qual (defScope st) f cdv A outer s H E).A) :
    MtS Γ (cxOf (L2.CX P w) P w Γ.K mg base Γ.N qual (defScope st) f cdv A outer s H E) (fun c d _ H => E c d H) := by
  refine ⟨⟨rfl, rfl, S.nd, fun y h => ?_, fun y h => ?_, fun y h => ?_, fun y h => ?_, rfl, takes_of rfl rfl rfl rfl, R.gl, fun y s' hf => ?_, fun y s' hf => ?_, R.bl, ?_⟩, hsc.symm, by rw [hsc]; exact S.kind, passes_of rfl, fun y C ns hcl hrz => ⟨k, hr, R.ex y C ns hcl hrz⟩, R.xc, R.xo, rfl, rfl⟩
  · rw [hsc] at h; exact vis_of h
  · rw [hsc] at h
    unfold locB at h
    split at h
    · next e => exact e
    · cases h
  · rw [hsc] at h
    unfold glbB at h
    split at h
    · next e => exact e
    · cases h
  · rw [hsc] at h; exact h
  · obtain ⟨g, gd, qs, j, hj, G, m1, m2, m3⟩ := R.fn y s' hf
    exact ⟨g, gd, qs, j, hr.mono hj, G, m1, m2, m3⟩
  · obtain ⟨g, gd, qs, j, hj, G, m1, m2, m3⟩ := R.fr y s' hf
    exact ⟨g, gd, qs, j, hr.mono hj, G, m1, m2, m3⟩
  · have := hr.un; omega
theorem fn_ok {x qual : Str} {st : Stmt} {f : Addr} {fd : FuncData} {ps : List Str} (F : Fun K x qual st f fd) (S : FnScope Γ.N ps (defScope st)) (hsc : Γ.sc = defScope st) (R : Rt P w K mg base Γ k) (n : Nat) :
    FnOk P w K mg base (L2.CX P w) (k + 1) f fd ps (spD Γ.K Γ.cl (runDef n Γ ps.length (defBody st))) := by
  have RK := R.hK
  subst RK
  refine F.okX S (fun vs H Q E h => ?_) (fun cdv A outer s H vs Q E hr h => ?_)
  · obtain ⟨S', as, δ, eo, p⟩ := h
    unfold runDef at p
    split at p
    · next hc => have := eo.l1; rw [List.length_map] at this; rw [this]; exact hc.1
    · exact p.elim
  · obtain ⟨S', as, δ0, eo, p⟩ := h
    have hl : vs.length = δ0.length := by have := eo.l1; rw [List.length_map] at this; exact this
    unfold runDef at p
    split at p
    · next hc =>
      have hlen : vs.length = ps.length := by rw [hl]; exact hc.1
      have how : ∀ i ∈ Γ.ow, δ0.length ≤ i := fun i hi => by
        have := List.all_eq_true.mp hc.2 i hi
        simp only [decide_eq_true_eq] at this
        rw [hc.1]; exact this
      have M := mts_of (qual := qual) (f := f) (cdv := cdv) (outer := outer) (s := s) (H := H) (E := E) S hsc R hr
      refine ⟨trSs n Γ (fun c d _ H => E c d H) (defBody st), (psall n M).2 _, ?_⟩
      have eo1 := enter_eo (N := Γ.N) eo
      have heq : Γ.N.length - vs.length = Γ.N.length - ps.length := by rw [hlen]
      rw [heq] at eo1
      refine (sdall R.gok R.xs n).2 (defBody st) _ _ _ _ _ _ eo1 ?_
      cases hr' : evSs n Γ (defBody st) (δ0 ++ List.replicate (Γ.N.length - ps.length) none) with
      | nx δ =>
        rw [hr'] at p
        intro S2 as2 σ2 H2 st2 e2
        obtain ⟨f1, e3, hb⟩ := leave_eo eo how st2 e2
        exact p .non H2 f1 e3 .non
      | rt d δ =>
        rw [hr'] at p
        intro v S2 as2 σ2 H2 st2 e2 r2
        obtain ⟨f1, e3, hb⟩ := leave_eo eo how st2 e2
        exact p v H2 f1 e3 (Rp.mono (hid_sub hb) _ r2)
      | rf c δ =>
        rw [hr'] at p
        intro a us S2 as2 σ2 H2 st2 e2 hn r2
        obtain ⟨f1, e3, hb⟩ := leave_eo eo how st2 e2
        refine p (.ref a) _ (f1.trans (e3.frnew hn)) (e3.new hn) (.lst (e3.at_new hn) (RpAll.mono (e3.frnew hn).le _ (RpAll.mono (hid_sub hb) _ r2)))
      | exc x δ =>
        rw [hr'] at p
        intro c d S2 as2 σ2 H2 st2 e2 r2
        obtain ⟨f1, e3, hb⟩ := leave_eo eo how st2 e2
        exact p c d H2 f1 e3 (Xr.mono (hid_sub hb) (r2.mono st2.le))
      | bk δ => rw [hr'] at p; exact p.elim
      | ct δ => rw [hr'] at p; exact p.elim
      | bad => rw [hr'] at p; exact p.elim
    · exact p.elim
theorem fn_okF {x qual : Str} {st : Stmt} {f : Addr} {fd : FuncData} {ps : List Str} (F : Fun K x qual st f fd) (S : FnScope Γ.N ps (defScope st)) (hsc : Γ.sc = defScope st) (R : Rt P w K mg base Γ k) (n : Nat) :
    FnOk P w K mg base (L2.CX P w) (k + 1) f fd ps (spF Γ.K Γ.cl (runDefF n Γ ps.length (defBody st))) := by
  have RK := R.hK
  subst RK
  refine F.okX S (fun vs H Q E h => ?_) (fun cdv A outer s H vs Q E hr h => ?_)
  · obtain ⟨S', as, δ, eo, p⟩ := h
    unfold runDefF at p
    split at p
    · next hc => have := eo.l1; rw [List.length_map] at this; rw [this]; exact hc.1
    · exact p.elim
  · obtain ⟨S', as, δ0, eo, p⟩ := h
    have hl : vs.length = δ0.length := by have := eo.l1; rw [List.length_map] at this; exact this
    unfold runDefF at p
    split at p
    · next hc =>
      have hlen : vs.length = ps.length := by rw [hl]; exact hc.1
      have how : ∀ i ∈ Γ.ow, δ0.length ≤ i := fun i hi => by
        have := List.all_eq_true.mp hc.2 i hi
        simp only [decide_eq_true_eq] at this
        rw [hc.1]; exact this
      have M := mts_of (qual := qual) (f := f) (cdv := cdv) (outer := outer) (s := s) (H := H) (E := E) S hsc R hr
      refine ⟨trSs n Γ (fun c d _ H => E c d H) (defBody st), (psall n M).2 _, ?_⟩
      have eo1 := enter_eo (N := Γ.N) eo
      have heq : Γ.N.length - vs.length = Γ.N.length - ps.length := by rw [hlen]
      rw [heq] at eo1
      refine (sdall R.gok R.xs n).2 (defBody st) _ _ _ _ _ _ eo1 ?_
      cases hr' : evSs n Γ (defBody st) (δ0 ++ List.replicate (Γ.N.length - ps.length) none) with
      | nx δ => rw [hr'] at p; exact p.elim
      | rt d δ => rw [hr'] at p; exact p.elim
      | rf c δ =>
        rw [hr'] at p
        intro a us S2 as2 σ2 H2 st2 e2 hn r2
        obtain ⟨f1, e3, hb⟩ := leave_eo eo how st2 e2
        exact p a us H2 f1 e3 hn (RpAll.mono (hid_sub hb) _ r2)
      | exc x δ =>
        rw [hr'] at p
        intro c d S2 as2 σ2 H2 st2 e2 r2
        obtain ⟨f1, e3, hb⟩ := leave_eo eo how st2 e2
        exact p c d H2 f1 e3 (Xr.mono (hid_sub hb) (r2.mono st2.le))
      | bk δ => rw [hr'] at p; exact p.elim
      | ct δ => rw [hr'] at p; exact p.elim
      | bad => rw [hr'] at p; exact p.elim
    · exact p.elim
end
end PD

/-! PDh: a def's body without names and places (Ie, Is), and what it does. -/
namespace PD
open PySem L2
mutual
inductive Ie where
  | bad
  | var (i : Nat)
  | con (d : Dt)
  | bin (op : Operator) (a b : Ie)
  | not (a : Ie)
  | neg (a : Ie)
  | and (a b : Ie)
  | or (a b : Ie)
  | cmp (op : CmpOp) (a b : Ie)
  | chain (op op' : CmpOp) (a b c : Ie)
  | ite (c : It) (a b : Ie)
  | tup (as : Ia)
  | lst (as : Ia)
  | slc (a : Ie) (lo hi : Io)
  | ix (o : Option Nat) (a i : Ie)
  | call (f : Str) (as : Ia)
  | blt (f : Str) (as : Ia)
  | isi (a : Ie) (t : String)
  | join (s : Str) (a : Ie)
  | comp (t : Tg) (vs : List Nat) (it : Ii) (c : It) (e : Ie)
  | comp2 (t t1 : Tg) (vs : List Nat) (it : Ii) (c : It) (it1 : Ii) (c1 : It) (e : Ie)
inductive It where
  | bad
  | yes
  | not (a : It)
  | and (a b : It)
  | or (a b : It)
  | cmp (op : CmpOp) (a b : Ie)
  | chain (op op' : CmpOp) (a b c : Ie)
  | tru (a : Ie)
inductive Ii where
  | bad
  | rng1 (as : Ia)
  | rng2 (as : Ia)
  | seq (a : Ie)
inductive Ia where
  | bad
  | nil
  | cons (o : Option Nat) (a : Ie) (r : Ia)
inductive Io where
  | none
  | some (a : Ie)
end
abbrev Fn := Str → Option (Sl → Re Dt)
/-- an argument: an own list's slot, or a datum -/
def arI (o : Option Nat) (δ : Sl) (r : Re Dt) : Re Ar := match o with
  | some i => match isownS δ i with
    | true => .ok (.slot i) δ
    | false => r.bind fun d δ1 => .ok (.val d) δ1
  | none => r.bind fun d δ1 => .ok (.val d) δ1
mutual
def evIe (fn : Fn) : Ie → Sl → Re Dt
  | .bad, _ => .bad
  | .var i, δ => match getS δ i with
    | some (.dat d) => .ok d δ
    | _ => .bad
  | .con d, δ => .ok d δ
  | .bin op a b, δ => (evIe fn a δ).bind fun x δ1 => (evIe fn b δ1).bind fun y δ2 => opt (binD op x y) δ2
  | .not a, δ => (evIe fn a δ).bind fun x δ1 => match x with | .bl b => .ok (.bl (!b)) δ1 | _ => .bad
  | .neg a, δ => (evIe fn a δ).bind fun x δ1 => match x with | .int i => .ok (.int (-i)) δ1 | _ => .bad
  | .and a b, δ => (evIe fn a δ).bind fun x δ1 => match x with | .bl true => evIe fn b δ1 | .bl false => .ok (.bl false) δ1 | _ => .bad
  | .or a b, δ => (evIe fn a δ).bind fun x δ1 => match x with | .bl true => .ok (.bl true) δ1 | .bl false => evIe fn b δ1 | _ => .bad
  | .cmp op a b, δ => (evIe fn a δ).bind fun x δ1 => (evIe fn b δ1).bind fun y δ2 => opt ((cmpD op x y).map .bl) δ2
  | .chain op op' a b c, δ => (evIe fn a δ).bind fun x δ1 => (evIe fn b δ1).bind fun y δ2 => match cmpD op x y with
    | some true => (evIe fn c δ2).bind fun z δ3 => opt ((cmpD op' y z).map .bl) δ3
    | some false => .ok (.bl false) δ2
    | none => .bad
  | .ite c a b, δ => (evIt fn c δ).bind fun t δ1 => if t then evIe fn a δ1 else evIe fn b δ1
  | .tup as, δ => (evIa fn as δ).bind fun rs δ1 => match valsOf rs with | some ds => if ds.length ≤ LIM then .ok (.tup ds) δ1 else .bad | none => .bad
  | .lst as, δ => (evIa fn as δ).bind fun rs δ1 => match valsOf rs with | some ds => if ds.length ≤ LIM then .ok (.lst ds) δ1 else .bad | none => .bad
  | .slc a lo hi, δ => (evIe fn a δ).bind fun x δ1 => (evIo fn lo δ1).bind fun l δ2 => (evIo fn hi δ2).bind fun h δ3 => opt (slD x l h) δ3
  | .ix o a i, δ => (arI o δ (evIe fn a δ)).bind fun x δ1 => (evIe fn i δ1).bind fun y δ2 => match x with
    | .val d => opt (ixD d y) δ2
    | .slot k => match getS δ2 k, y with
      | some (.own c), .int j => opt (atI c j) δ2
      | _, _ => .bad
  | .call f as, δ => match fn f with
    | some sem => (evIa fn as δ).bind fun rs δ1 => callD sem rs δ1
    | none => .bad
  | .blt f as, δ => (evIa fn as δ).bind fun rs δ1 => match valsOf rs with | some ds => opt (bltD f ds) δ1 | none => .bad
  | .isi a t, δ => (evIe fn a δ).bind fun d δ1 => opt ((isiD d t).map .bl) δ1
  | .join s a, δ => (evIe fn a δ).bind fun y δ2 => opt (joinD s y) δ2
  | .comp t vs it c e, δ => if vs.any (isownS δ) then .bad else (evIi fn it δ).bind fun ds δ1 => (evLc (evIt fn c) (evIe fn e) t vs ds δ1).bind fun ys δ2 => if ys.length ≤ LIM then .ok (.lst ys) δ2 else .bad
  | .comp2 t t1 vs it c it1 c1 e, δ => if vs.any (isownS δ) then .bad else (evIi fn it δ).bind fun ds δ1 => (evLc2 (evIt fn c) (evIi fn it1) (evIt fn c1) (evIe fn e) t t1 vs ds δ1).bind fun ys δ2 => if ys.length ≤ LIM then .ok (.lst ys) δ2 else .bad
def evIt (fn : Fn) : It → Sl → Re Bool
  | .bad, _ => .bad
  | .yes, δ => .ok true δ
  | .not a, δ => (evIt fn a δ).bind fun t δ1 => .ok (!t) δ1
  | .and a b, δ => (evIt fn a δ).bind fun x δ1 => if x then evIt fn b δ1 else .ok false δ1
  | .or a b, δ => (evIt fn a δ).bind fun x δ1 => if x then .ok true δ1 else evIt fn b δ1
  | .cmp op a b, δ => (evIe fn a δ).bind fun x δ1 => (evIe fn b δ1).bind fun y δ2 => opt (cmpD op x y) δ2
  | .chain op op' a b c, δ => (evIe fn a δ).bind fun x δ1 => (evIe fn b δ1).bind fun y δ2 => match cmpD op x y with
    | some true => (evIe fn c δ2).bind fun z δ3 => opt (cmpD op' y z) δ3
    | some false => .ok false δ2
    | none => .bad
  | .tru a, δ => (evIe fn a δ).bind fun x δ1 => opt (truD x) δ1
def evIi (fn : Fn) : Ii → Sl → Re (List Dt)
  | .bad, _ => .bad
  | .rng1 as, δ => (evIa fn as δ).bind fun rs δ1 => match rs with | [.val (.int j)] => if -100000 ≤ j ∧ j ≤ 100000 then .ok (rangeD 0 j.toNat) δ1 else .bad | _ => .bad
  | .rng2 as, δ => (evIa fn as δ).bind fun rs δ1 => match rs with
    | [.val (.int i), .val (.int j)] => if -100000 ≤ i ∧ i ≤ 100000 ∧ -100000 ≤ j ∧ j ≤ 100000 then .ok (rangeD i (j - i).toNat) δ1 else .bad
    | _ => .bad
  | .seq a, δ => (evIe fn a δ).bind fun d δ1 => opt (itemsD d) δ1
def evIa (fn : Fn) : Ia → Sl → Re (List Ar)
  | .bad, _ => .bad
  | .nil, δ => .ok [] δ
  | .cons o a r, δ => (arI o δ (evIe fn a δ)).bind fun x δ1 => (evIa fn r δ1).bind fun xs δ2 => .ok (x :: xs) δ2
def evIo (fn : Fn) : Io → Sl → Re (Option Int)
  | .none, δ => .ok none δ
  | .some a, δ => (evIe fn a δ).bind fun y δ2 => match y with | .int i => .ok (some i) δ2 | _ => .bad
end
/-! ### from the text -/
def nslot (Γ : Gm) (e : Expr) : Option Nat := match e with
  | .Name x _ => Γ.slot x
  | _ => none
mutual
def cE (n : Nat) (Γ : Gm) (e : Expr) : Ie := match n with
  | 0 => .bad
  | n + 1 => match e with
    | .Name x _ => match Γ.slot x with
      | some i => .var i
      | none => if Γ.glob x then (match Γ.gl x with | some (_, d) => .con d | none => .bad) else .bad
    | .Constant c _ _ => match c with
      | .none => .con .non
      | .bool b => .con (.bl b)
      | .int i => .con (.int i)
      | .str s => .con (.str s)
      | _ => .bad
    | .BinOp a op b _ => .bin op (cE n Γ a) (cE n Γ b)
    | .UnaryOp op a _ => match op with
      | .Not => .not (cE n Γ a)
      | .USub => .neg (cE n Γ a)
      | _ => .bad
    | .BoolOp op es _ => cBool n Γ op es
    | .Compare a ops cs _ => match ops, cs with
      | [op], [b] => if isSet b then .bad else .cmp op (cE n Γ a) (cE n Γ b)
      | [op, op'], [b, c] => if isSet b || isSet c then .bad else .chain op op' (cE n Γ a) (cE n Γ b) (cE n Γ c)
      | _, _ => .bad
    | .IfExp c a b _ => .ite (cT n Γ c) (cE n Γ a) (cE n Γ b)
    | .Tuple es _ _ => .tup (cA n Γ es)
    | .List es _ => .lst (cA n Γ es)
    | .Subscript a s _ => match s with
      | .Slice lo hi st _ => match st with
        | none => .slc (cE n Γ a) (match lo with | none => .none | some l => .some (cE n Γ l)) (match hi with | none => .none | some h => .some (cE n Γ h))
        | some _ => .bad
      | i => if n = 0 then .bad else .ix (nslot Γ a) (cE n Γ a) (cE n Γ i)
    | .Call f args kws pos => match f, kws with
      | .Name x _, [] => if Γ.glob x then (if x = "isinstance" then (match args with
              | [e, .Name T _] => if Γ.glob T && nostar e then (match tyOf? T with | some t => .isi (cE n Γ e) t | none => .bad) else .bad
              | _ => .bad)
            else if isB x then (match args with
              | [] => .bad
              | e :: es => if (e :: es).all nostar then .blt x (cA n Γ (e :: es)) else .bad)
            else (match args with
            | [] => .bad
            | e :: es => if (e :: es).all nostar then .call x (cA n Γ (e :: es)) else .bad)) else .bad
      | .Attribute (.Constant (.str a) _ _) m ap, [] => match args with
        | [e] => if (m = "join") ∧ nostar e = true ∧ (ap.endLine == pos.line) = true then .join a (cE n Γ e) else .bad
        | _ => .bad
      | _, _ => .bad
    | .ListComp elt gens scope _ => match gens with
      | [⟨tg, iter, ifs, 0⟩] => if isSet iter then .bad else if blkC Γ.N Γ.sc scope (ownOf Γ scope) then (match tgt { Γ with sc := scope } tg with
          | some t => if (tgSlots t).all fun i => decide (i ∈ (ownOf Γ scope).map (·.2)) then .comp t ((ownOf Γ scope).map (·.2)) (cI n Γ iter) (cF n { Γ with sc := scope } ifs) (cE n { Γ with sc := scope } elt) else .bad
          | none => .bad) else .bad
      | [⟨tg, iter, ifs, 0⟩, ⟨tg1, iter1, ifs1, 0⟩] => if isSet iter || isSet iter1 then .bad else if blkC Γ.N Γ.sc scope (ownOf Γ scope) then (match tgt { Γ with sc := scope } tg, tgt { Γ with sc := scope } tg1 with
          | some t, some t1 => if (tgSlots t1).all fun i => decide (i ∈ (ownOf Γ scope).map (·.2)) then if (tgSlots t).all fun i => decide (i ∈ (ownOf Γ scope).map (·.2)) then
              .comp2 t t1 ((ownOf Γ scope).map (·.2)) (cI n Γ iter) (cF n { Γ with sc := scope } ifs) (cI n { Γ with sc := scope } iter1) (cF n { Γ with sc := scope } ifs1) (cE n { Γ with sc := scope } elt) else .bad else .bad
          | _, _ => .bad) else .bad
      | _ => .bad
    | _ => .bad
def cT (n : Nat) (Γ : Gm) (e : Expr) : It := match n with
  | 0 => .bad
  | n + 1 => match e with
    | .UnaryOp .Not a _ => .not (cT n Γ a)
    | .BoolOp op es _ => cBoolT n Γ op es
    | .IfExp _ _ _ _ => .bad
    | .Compare a ops cs _ => match ops, cs with
      | [op], [b] => if isSet b then .bad else .cmp op (cE n Γ a) (cE n Γ b)
      | [op, op'], [b, c] => if isSet b || isSet c then .bad else .chain op op' (cE n Γ a) (cE n Γ b) (cE n Γ c)
      | _, _ => .bad
    | e => .tru (cE n Γ e)
def cA (n : Nat) (Γ : Gm) (es : List Expr) : Ia := match n with
  | 0 => .bad
  | n + 1 => match es with
    | [] => .nil
    | e :: r => if nostar e then (if n = 0 then .bad else .cons (nslot Γ e) (cE n Γ e) (cA n Γ r)) else .bad
def cBool (n : Nat) (Γ : Gm) (op : BoolOp) (es : List Expr) : Ie := match n with
  | 0 => .bad
  | n + 1 => match es with
    | [] => .bad
    | [a] => cE n Γ a
    | a :: b :: r => match op with
      | .And => .and (cE n Γ a) (cBool n Γ op (b :: r))
      | .Or => .or (cE n Γ a) (cBool n Γ op (b :: r))
def cBoolT (n : Nat) (Γ : Gm) (op : BoolOp) (es : List Expr) : It := match n with
  | 0 => .bad
  | n + 1 => match es with
    | [] => .bad
    | [a] => cT n Γ a
    | a :: b :: r => match op with
      | .And => .and (cT n Γ a) (cBoolT n Γ op (b :: r))
      | .Or => .or (cT n Γ a) (cBoolT n Γ op (b :: r))
def cI (n : Nat) (Γ : Gm) (e : Expr) : Ii := match n with
  | 0 => .bad
  | n + 1 => match e with
    | .Call (.Name x p) args [] q => if x = "range" then (if Γ.glob x then (match args with
        | [a] => if nostar a then .rng1 (cA n Γ [a]) else .bad
        | [a, b] => if nostar a && nostar b then .rng2 (cA n Γ [a, b]) else .bad
        | _ => .bad) else .bad) else .seq (cE n Γ (.Call (.Name x p) args [] q))
    | e => .seq (cE n Γ e)
def cF (n : Nat) (Γ : Gm) (es : List Expr) : It := match n with
  | 0 => .bad
  | n + 1 => match es with
    | [] => .yes
    | [c] => cT n Γ c
    | _ => .bad
end
/-! ### both are worth the same -/
structure CAll (n : Nat) (Γ : Gm) : Prop where
  e : ∀ e δ, evE n Γ e δ = evIe Γ.fn (cE n Γ e) δ
  t : ∀ e δ, evT n Γ e δ = evIt Γ.fn (cT n Γ e) δ
  a : ∀ es δ, evA n Γ es δ = evIa Γ.fn (cA n Γ es) δ
  b : ∀ op es δ, evBool n Γ op es δ = evIe Γ.fn (cBool n Γ op es) δ
  w : ∀ op es δ, evBoolT n Γ op es δ = evIt Γ.fn (cBoolT n Γ op es) δ
  i : ∀ e δ, evI n Γ e δ = evIi Γ.fn (cI n Γ e) δ
  f : ∀ es δ, evIfs n Γ es δ = evIt Γ.fn (cF n Γ es) δ
def NoB (fn : Fn) : Prop := ∀ x : Str, (isB x = true ∨ x = "isinstance") → fn x = none
theorem arX_is {n : Nat} {Γ : Gm} {e : Expr} {δ : Sl} {r : Re Dt} (h : n ≠ 0) : arX n Γ e δ r = arI (nslot Γ e) δ r := by
  unfold arX arI slotOwn nslot
  rw [if_neg h]
  cases e
  case Name x p =>
    try dsimp only
    cases Γ.slot x with
    | none => rfl
    | some i =>
      try dsimp only
      cases isownS δ i <;> rfl
  all_goals rfl
theorem re_if {α : Type} {b : Bool} {p : Prop} [Decidable p] {x y : Re α} (h : (b = true) ↔ p) : (if b then x else y) = if p then x else y := by
  by_cases hb : b = true
  · rw [if_pos hb, if_pos (h.mp hb)]
  · rw [if_neg hb, if_neg fun q => hb (h.mpr q)]
theorem push_if {fn : Fn} {c : Prop} [Decidable c] {a b : Ie} {δ : Sl} : evIe fn (if c then a else b) δ = if c then evIe fn a δ else evIe fn b δ := by
  split <;> rfl
theorem ev_bad {fn : Fn} {δ : Sl} : evIe fn .bad δ = .bad := by rw [evIe]
theorem ce_tr {n : Nat} {Γ : Gm} (A : CAll n Γ) (B : ∀ Γ, NoB Γ.fn → CAll n Γ) (hb : NoB Γ.fn) (e : Expr) (δ : Sl) : evE (n + 1) Γ e δ = evIe Γ.fn (cE (n + 1) Γ e) δ := by
  cases e
  case Name x pos =>
    unfold evE cE
    try dsimp only
    cases hs : Γ.slot x with
    | some i => (try dsimp only); rw [evIe]; try rfl
    | none =>
      try dsimp only
      rw [push_if, ev_bad]
      by_cases hg : Γ.glob x = true
      · rw [if_pos hg, if_pos hg]
        cases hl : Γ.gl x with
        | none => (try dsimp only); rw [evIe]
        | some p => (try dsimp only); rw [evIe]
      · rw [if_neg hg, if_neg hg]
  case Constant c k pos =>
    unfold evE cE
    cases c <;> try dsimp only <;> rw [evIe]
  case BinOp a op b pos =>
    unfold evE cE
    try dsimp only
    rw [evIe]
    simp only [A.e]
  case UnaryOp op a pos =>
    unfold evE cE
    cases op <;> try dsimp only <;> rw [evIe] <;> simp only [A.e] <;> rfl
  case BoolOp op es pos => exact A.b op es δ
  case Compare a ops cs pos =>
    unfold evE cE
    rcases ops with _ | ⟨op, _ | ⟨op', _ | ⟨_, _⟩⟩⟩ <;> rcases cs with _ | ⟨b, _ | ⟨c, _ | ⟨_, _⟩⟩⟩ <;> try dsimp only <;> first
      | (rw [evIe]; done)
      | (rw [push_if, ev_bad]; split <;> first | rfl | (rw [evIe]; simp only [A.e]; done) | (rw [evIe]; simp only [A.e]; try rfl))
  case IfExp c a b pos =>
    unfold evE cE
    try dsimp only
    rw [evIe]
    simp only [A.e, A.t]
  case Tuple es k pos =>
    unfold evE cE
    try dsimp only
    rw [evIe]
    simp only [A.a]
    try rfl
  case List es pos =>
    unfold evE cE
    try dsimp only
    rw [evIe]
    simp only [A.a]
    try rfl
  case Subscript a s pos =>
    have plain : (∀ lo hi st p, s ≠ .Slice lo hi st p) → evE (n + 1) Γ (.Subscript a s pos) δ = evIe Γ.fn (if n = 0 then .bad else .ix (nslot Γ a) (cE n Γ a) (cE n Γ s)) δ := fun hs => by
      have e1 : evE (n + 1) Γ (.Subscript a s pos) δ = (arX n Γ a δ (evE n Γ a δ)).bind fun x δ1 => (evE n Γ s δ1).bind fun y δ2 => match x with
        | .val d => opt (ixD d y) δ2
        | .slot k => match getS δ2 k, y with
          | some (.own c), .int j => opt (atI c j) δ2
          | _, _ => .bad := by
        cases s
        case Slice lo hi st p => exact absurd rfl (hs lo hi st p)
        all_goals rfl
      rw [e1, push_if, ev_bad]
      by_cases hn : n = 0
      · rw [if_pos hn]
        unfold arX
        rw [if_pos hn]
        try rfl
      · rw [if_neg hn, arX_is hn, evIe]
        simp only [A.e]
    cases s
    case Slice lo hi st p =>
      unfold evE cE
      cases st with
      | none =>
        try dsimp only
        rw [evIe]
        simp only [A.e]
        cases lo <;> cases hi <;> simp only [evIo, A.e] <;> rfl
      | some q => (try dsimp only); rw [evIe]
    all_goals exact plain (fun _ _ _ _ h => by cases h)
  case Call f args kws pos =>
    cases f
    case Name x p =>
      cases kws with
      | cons k ks => unfold evE cE; (try dsimp only); rw [evIe]
      | nil =>
        unfold evE cE
        try dsimp only
        rw [push_if, ev_bad]
        by_cases hg : Γ.glob x = true
        · rw [if_pos hg, if_pos hg, push_if, push_if]
          by_cases hx : x = "isinstance"
          · rw [hb x (.inr hx)]
            try dsimp only
            rw [if_pos hx, if_pos hx]
            have no : ∀ args : List Expr, (∀ e T q, args ≠ [e, .Name T q]) → (match args with
              | [e, .Name T _] => if Γ.glob T && nostar e then (match tyOf? T with | some t => (evE n Γ e δ).bind fun d δ1 => opt ((isiD d t).map Dt.bl) δ1 | none => .bad) else .bad
              | _ => (.bad : Re Dt)) = .bad ∧ (match args with
              | [e, .Name T _] => if Γ.glob T && nostar e then (match tyOf? T with | some t => Ie.isi (cE n Γ e) t | none => .bad) else .bad
              | _ => (.bad : Ie)) = .bad := fun args h => by
              constructor
              · split
                · exact absurd rfl (h _ _ _)
                · rfl
              · split
                · exact absurd rfl (h _ _ _)
                · rfl
            by_cases ha : ∃ e T q, args = [e, .Name T q]
            · obtain ⟨e, T, q, rfl⟩ := ha
              try dsimp only
              rw [push_if, ev_bad]
              split
              · cases tyOf? T with
                | none => (try dsimp only); rw [evIe]
                | some t => (try dsimp only); rw [evIe]; simp only [A.e]
              · rfl
            · obtain ⟨n1, n2⟩ := no args fun e T q h => ha ⟨e, T, q, h⟩
              refine Eq.trans n1 (Eq.trans ?_ (congrArg (fun z => evIe Γ.fn z δ) n2).symm)
              rw [evIe]
          · by_cases hB : isB x = true
            · rw [hb x (.inl hB)]
              try dsimp only
              rw [if_neg hx, if_neg hx, if_pos hB, if_pos hB]
              cases args with
              | nil => (try dsimp only); rw [evIe]
              | cons e es =>
                try dsimp only
                rw [push_if, ev_bad]
                split
                · rw [evIe]; simp only [A.a]; try rfl
                · rfl
            · cases hf : Γ.fn x with
              | none =>
                try dsimp only
                rw [if_neg hx, if_neg hB, if_neg hx, if_neg hB]
                cases args with
                | nil => (try dsimp only); rw [evIe]
                | cons e es =>
                  try dsimp only
                  rw [push_if, ev_bad, evIe, hf]
                  split <;> rfl
              | some sem =>
                try dsimp only
                rw [if_neg hx, if_neg hB]
                cases args with
                | nil => (try dsimp only); rw [evIe]
                | cons e es =>
                  try dsimp only
                  rw [push_if, ev_bad, evIe, hf]
                  split
                  · simp only [A.a]
                  · rfl
        · rw [if_neg hg, if_neg hg]
    case Attribute o m ap =>
      cases kws with
      | cons k ks => unfold evE cE; cases o <;> (try (rename_i c _ _; cases c)) <;> (try dsimp only) <;> rw [evIe]
      | nil =>
        unfold evE cE
        cases o
        case Constant c ck cp =>
          cases c
          case str a =>
            try dsimp only
            rcases args with _ | ⟨e, _ | ⟨_, _⟩⟩
            · (try dsimp only); rw [evIe]
            · (try dsimp only)
              rw [push_if, ev_bad]
              split
              · rw [evIe]; simp only [A.e]
              · rfl
            · (try dsimp only); rw [evIe]
          all_goals ((try dsimp only); rw [evIe])
        all_goals ((try dsimp only); rw [evIe])
    all_goals (unfold evE cE; (try dsimp only); rw [evIe])
  case ListComp elt gens scope pos =>
    have C := B { Γ with sc := scope } hb
    have e1 : ∀ es, evIfs n { Γ with sc := scope } es = evIt Γ.fn (cF n { Γ with sc := scope } es) := fun es => funext fun δ => C.f es δ
    have e2 : ∀ e, evI n { Γ with sc := scope } e = evIi Γ.fn (cI n { Γ with sc := scope } e) := fun e => funext fun δ => C.i e δ
    have e3 : ∀ e, evE n { Γ with sc := scope } e = evIe Γ.fn (cE n { Γ with sc := scope } e) := fun e => funext fun δ => C.e e δ
    unfold evE cE
    try dsimp only
    split
    · rename_i tg iter ifs
      show _ = evIe Γ.fn (if isSet iter then .bad else if blkC Γ.N Γ.sc scope (ownOf Γ scope) then (match tgt { Γ with sc := scope } tg with
          | some t => if (tgSlots t).all fun i => decide (i ∈ (ownOf Γ scope).map (·.2)) then .comp t ((ownOf Γ scope).map (·.2)) (cI n Γ iter) (cF n { Γ with sc := scope } ifs) (cE n { Γ with sc := scope } elt) else .bad
          | none => .bad) else .bad) δ
      rw [push_if, push_if, ev_bad]
      by_cases h1 : isSet iter = true
      · rw [if_pos h1, if_pos h1]
      · rw [if_neg h1, if_neg h1]
        by_cases h2 : blkC Γ.N Γ.sc scope (ownOf Γ scope) = true
        · rw [if_pos h2, if_pos h2]
          cases tgt { Γ with sc := scope } tg with
          | none => (try dsimp only); rw [evIe]
          | some t =>
            try dsimp only
            rw [push_if, ev_bad]
            by_cases h3 : ((tgSlots t).all fun i => decide (i ∈ (ownOf Γ scope).map (·.2))) = true
            · rw [if_pos h3, if_pos h3, evIe, e1, e3]
              simp only [A.i]
            · rw [if_neg h3, if_neg h3]
              split <;> rfl
        · rw [if_neg h2, if_neg h2]
    · rename_i tg iter ifs tg1 iter1 ifs1
      show _ = evIe Γ.fn (if isSet iter || isSet iter1 then .bad else if blkC Γ.N Γ.sc scope (ownOf Γ scope) then (match tgt { Γ with sc := scope } tg, tgt { Γ with sc := scope } tg1 with
          | some t, some t1 => if (tgSlots t1).all fun i => decide (i ∈ (ownOf Γ scope).map (·.2)) then if (tgSlots t).all fun i => decide (i ∈ (ownOf Γ scope).map (·.2)) then
              .comp2 t t1 ((ownOf Γ scope).map (·.2)) (cI n Γ iter) (cF n { Γ with sc := scope } ifs) (cI n { Γ with sc := scope } iter1) (cF n { Γ with sc := scope } ifs1) (cE n { Γ with sc := scope } elt) else .bad else .bad
          | _, _ => .bad) else .bad) δ
      rw [push_if, push_if, ev_bad]
      by_cases h1 : (isSet iter || isSet iter1) = true
      · rw [if_pos h1, if_pos h1]
      · rw [if_neg h1, if_neg h1]
        by_cases h2 : blkC Γ.N Γ.sc scope (ownOf Γ scope) = true
        · rw [if_pos h2, if_pos h2]
          cases tgt { Γ with sc := scope } tg with
          | none => (try dsimp only); rw [evIe]
          | some t =>
            cases tgt { Γ with sc := scope } tg1 with
            | none => (try dsimp only); rw [evIe]
            | some t1 =>
              try dsimp only
              rw [push_if, push_if, ev_bad]
              by_cases h3 : ((tgSlots t1).all fun i => decide (i ∈ (ownOf Γ scope).map (·.2))) = true
              · rw [if_pos h3, if_pos h3]
                by_cases h4 : ((tgSlots t).all fun i => decide (i ∈ (ownOf Γ scope).map (·.2))) = true
                · rw [if_pos h4, if_pos h4, evIe, e1, e1, e2, e3]
                  simp only [A.i]
                · rw [if_neg h4, if_neg h4]
                  split <;> rfl
              · rw [if_neg h3, if_neg h3]
                split <;> rfl
        · rw [if_neg h2, if_neg h2]
    · rename_i n1 n2
      first
      | (split
         · exact absurd rfl (n1 _ _ _)
         · exact absurd rfl (n2 _ _ _ _ _ _)
         · rw [evIe])
      | rw [evIe]
  all_goals (unfold evE cE; (try dsimp only); rw [evIe])
theorem pusht {fn : Fn} {c : Prop} [Decidable c] {a b : It} {δ : Sl} : evIt fn (if c then a else b) δ = if c then evIt fn a δ else evIt fn b δ := by
  split <;> rfl
theorem pusha {fn : Fn} {c : Prop} [Decidable c] {a b : Ia} {δ : Sl} : evIa fn (if c then a else b) δ = if c then evIa fn a δ else evIa fn b δ := by
  split <;> rfl
theorem pushi {fn : Fn} {c : Prop} [Decidable c] {a b : Ii} {δ : Sl} : evIi fn (if c then a else b) δ = if c then evIi fn a δ else evIi fn b δ := by
  split <;> rfl
theorem ct_tr {n : Nat} {Γ : Gm} (A : CAll n Γ) (e : Expr) (δ : Sl) : evT (n + 1) Γ e δ = evIt Γ.fn (cT (n + 1) Γ e) δ := by
  cases e
  case UnaryOp op a pos => cases op <;> (unfold evT cT; (try dsimp only); rw [evIt]; simp only [A.t, A.e])
  case BoolOp op es pos => exact A.w op es δ
  case IfExp c a b pos => unfold evT cT; (try dsimp only); rw [evIt]
  case Compare a ops cs pos =>
    unfold evT cT
    rcases ops with _ | ⟨op, _ | ⟨op', _ | ⟨_, _⟩⟩⟩ <;> rcases cs with _ | ⟨b, _ | ⟨c, _ | ⟨_, _⟩⟩⟩ <;> try dsimp only <;> first
      | (rw [evIt]; done)
      | (rw [pusht]; split <;> first | (rw [evIt]; done) | (rw [evIt]; simp only [A.e]; done) | (rw [evIt]; simp only [A.e]; try rfl))
  all_goals (unfold evT cT; (try dsimp only); rw [evIt]; simp only [A.e])
theorem ca_tr {n : Nat} {Γ : Gm} (A : CAll n Γ) (es : List Expr) (δ : Sl) : evA (n + 1) Γ es δ = evIa Γ.fn (cA (n + 1) Γ es) δ := by
  unfold evA cA
  cases es with
  | nil => (try dsimp only); rw [evIa]
  | cons e r =>
    try dsimp only
    rw [pusha, pusha]
    by_cases hn : n = 0
    · subst hn
      unfold arX
      rw [if_pos rfl]
      split <;> rw [evIa] <;> rfl
    · split
      · rw [arX_is hn, evIa]
        simp only [A.e, A.a]
      · rw [evIa]
theorem cb_tr {n : Nat} {Γ : Gm} (A : CAll n Γ) (op : BoolOp) (es : List Expr) (δ : Sl) : evBool (n + 1) Γ op es δ = evIe Γ.fn (cBool (n + 1) Γ op es) δ := by
  rcases es with _ | ⟨a, _ | ⟨b, r⟩⟩
  · unfold evBool cBool; (try dsimp only); rw [evIe]
  · exact A.e a δ
  · unfold evBool cBool
    cases op <;> ((try dsimp only); rw [evIe]; simp only [A.e, A.b]; try rfl)
theorem cw_tr {n : Nat} {Γ : Gm} (A : CAll n Γ) (op : BoolOp) (es : List Expr) (δ : Sl) : evBoolT (n + 1) Γ op es δ = evIt Γ.fn (cBoolT (n + 1) Γ op es) δ := by
  rcases es with _ | ⟨a, _ | ⟨b, r⟩⟩
  · unfold evBoolT cBoolT; (try dsimp only); rw [evIt]
  · exact A.t a δ
  · unfold evBoolT cBoolT
    cases op <;> ((try dsimp only); rw [evIt]; simp only [A.t, A.w])
theorem cf_tr {n : Nat} {Γ : Gm} (A : CAll n Γ) (es : List Expr) (δ : Sl) : evIfs (n + 1) Γ es δ = evIt Γ.fn (cF (n + 1) Γ es) δ := by
  rcases es with _ | ⟨a, _ | ⟨b, r⟩⟩
  · unfold evIfs cF; (try dsimp only); rw [evIt]
  · exact A.t a δ
  · unfold evIfs cF; (try dsimp only); rw [evIt]
theorem ci_tr {n : Nat} {Γ : Gm} (A : CAll n Γ) (e : Expr) (δ : Sl) : evI (n + 1) Γ e δ = evIi Γ.fn (cI (n + 1) Γ e) δ := by
  by_cases hc : ∃ x p args q, e = .Call (.Name x p) args [] q
  · obtain ⟨x, p, args, q, rfl⟩ := hc
    unfold evI cI
    try dsimp only
    rw [pushi, pushi]
    split
    · split
      · rcases args with _ | ⟨a, _ | ⟨b, _ | ⟨c, r⟩⟩⟩
        · (try dsimp only); rw [evIi]
        · try dsimp only
          rw [pushi]
          split
          · rw [evIi]; simp only [A.a]; try rfl
          · rw [evIi]
        · try dsimp only
          rw [pushi]
          split
          · rw [evIi]; simp only [A.a]; try rfl
          · rw [evIi]
        · (try dsimp only); rw [evIi]
      · rw [evIi]
    · rw [evIi]; simp only [A.e]
  · have e1 : evI (n + 1) Γ e δ = (evE n Γ e δ).bind fun d δ1 => opt (itemsD d) δ1 := by
      unfold evI
      split
      · exact absurd ⟨_, _, _, _, rfl⟩ hc
      · rfl
    have e2 : cI (n + 1) Γ e = .seq (cE n Γ e) := by
      unfold cI
      split
      · exact absurd ⟨_, _, _, _, rfl⟩ hc
      · rfl
    rw [e1, e2, evIi]
    simp only [A.e]
theorem call : ∀ n Γ, NoB Γ.fn → CAll n Γ
  | 0, Γ, _ => ⟨fun _ _ => by unfold evE cE; rw [evIe], fun _ _ => by unfold evT cT; rw [evIt], fun _ _ => by unfold evA cA; rw [evIa],
      fun _ _ _ => by unfold evBool cBool; rw [evIe], fun _ _ _ => by unfold evBoolT cBoolT; rw [evIt], fun _ _ => by unfold evI cI; rw [evIi], fun _ _ => by unfold evIfs cF; rw [evIt]⟩
  | n + 1, Γ, hb => have A := call n Γ hb
    ⟨ce_tr A (call n) hb, ct_tr A, ca_tr A, cb_tr A, cw_tr A, ci_tr A, cf_tr A⟩
end PD

/-! PDi: statements without names and places. -/
namespace PD
open PySem L2
mutual
inductive Ih where
  | bad
  | var (i : Nat)
  | con (d : Dt)
  | fld (f : Str)
  | cmp (op : CmpOp) (a b : Ih)
  | lst (as : Iha)
  | isi (T : Str)
inductive Iha where
  | bad
  | nil
  | cons (a : Ih) (r : Iha)
end
mutual
inductive Is where
  | bad
  | retN
  | ret (e : Ie)
  | retF (a b : Ie)
  | nop
  | brk
  | cnt
  | app (i : Nat) (as : Ia)
  | ext (i : Nat) (as : Ia)
  | call (e : Ie)
  | set (t : Tg) (e : Ie)
  | own (i : Nat) (e : Ie)
  | fresh (i : Nat) (f : Str) (as : Ia)
  | par (is : List Nat) (as : Ia)
  | sub (i : Nat) (j e : Ie)
  | aug (i : Nat) (add : Bool) (e : Ie)
  | ite (c : It) (a b : Iss)
  | for (t : Tg) (it : Ii) (b : Iss)
  | wh (c : It) (b : Iss)
  | raise0 (x : Str)
  | raise (x : Str) (k : Nat) (as : Ia)
  | tri (x : Str) (i : Nat) (b : Iss) (h : Ih)
inductive Iss where
  | bad
  | nil
  | cons (s : Is) (r : Iss)
end
/-- what the letters of a program mean -/
structure Ev where
  fn : Fn
  fr : Str → Option (Sl → Re (List Dt))
  cl : Cls
  xs : Str → Str → Option Bool
mutual
def evIh (ε : Ev) (y : Exn) (δ : Sl) : Ih → Option Dt
  | .bad => none
  | .var i => match getS δ i with
    | some (.dat d) => some d
    | _ => none
  | .con d => some d
  | .fld f => match ε.cl y.cls with
    | some (_, ns) => (ns.zip y.fs).lookup f
    | none => none
  | .cmp op a b => match evIh ε y δ a, evIh ε y δ b with
    | some u, some v => (cmpD op u v).map .bl
    | _, _ => none
  | .lst as => match evIha ε y δ as with
    | some ds => if ds.length ≤ LIM then some (.lst ds) else none
    | none => none
  | .isi T => (ε.xs y.cls T).map .bl
def evIha (ε : Ev) (y : Exn) (δ : Sl) : Iha → Option (List Dt)
  | .bad => none
  | .nil => some []
  | .cons a r => match evIh ε y δ a, evIha ε y δ r with
    | some d, some ds => some (d :: ds)
    | _, _ => none
end
mutual
def evIs (ε : Ev) (ow : List Nat) : Is → Sl → Fl
  | .bad, _ => .bad
  | .retN, δ => .rt .non δ
  | .ret e, δ => (evIe ε.fn e (frz ow δ)).fl fun d δ1 => .rt d δ1
  | .retF a b, δ => (evIe ε.fn a (frz ow δ)).fl fun x δ1 => (evIe ε.fn b δ1).fl fun y δ2 => match x, y with
      | .lst xs, .lst ys => if xs.length + ys.length ≤ LIM then .rf (xs ++ ys) δ2 else .bad
      | _, _ => .bad
  | .nop, δ => .nx δ
  | .brk, δ => .bk δ
  | .cnt, δ => .ct δ
  | .app i as, δ => if isownS δ i then (evIa ε.fn as δ).fl fun rs δ1 => match rs, getS δ1 i with
      | [.val d], some (.own c) => if c.length < LIM then .nx (δ1.set i (some (.own (c ++ [d])))) else .bad
      | _, _ => .bad else .bad
  | .ext i as, δ => if isownS δ i then (evIa ε.fn as δ).fl fun rs δ1 => match rs, getS δ1 i with
      | [.val (.lst ds)], some (.own c) => if c.length + ds.length ≤ LIM then .nx (δ1.set i (some (.own (c ++ ds)))) else .bad
      | _, _ => .bad else .bad
  | .call e, δ => (evIe ε.fn e δ).fl fun _ δ1 => .nx δ1
  | .set t e, δ => (evIe ε.fn e δ).fl fun d δ1 => optF (putT t d δ1) .nx
  | .own i e, δ => if i < δ.length then (evIe ε.fn e δ).fl fun _ δ1 => .nx (δ1.set i (some (.own []))) else (evIe ε.fn e δ).fl fun d δ1 => optF (putT (.name i) d δ1) .nx
  | .fresh i f as, δ => match ε.fr f with
    | some sem => (evIa ε.fn as δ).fl fun rs δ1 => (callD sem rs δ1).fl fun c δ2 => if i ∈ ow ∧ i < δ2.length then .nx (δ2.set i (some (.own c))) else .bad
    | none => .bad
  | .par is as, δ => (evIa ε.fn as δ).fl fun rs δ1 => optF (valsOf rs) fun ds => optF (setAll is ds δ1) .nx
  | .sub i j e, δ => (evIe ε.fn e δ).fl fun d δ1 => if isownS δ1 i then (evIe ε.fn j δ1).fl fun y δ2 => match y, getS δ2 i with
      | .int j, some (.own c) => match ixN c.length j with
        | some q => .nx (δ2.set i (some (.own (c.set q d))))
        | none => .bad
      | _, _ => .bad else .bad
  | .aug i add e, δ => match getS δ i with
    | some (.dat (.int a)) => (evIe ε.fn e δ).fl fun y δ1 => match y with | .int b => .nx (δ1.set i (some (.dat (.int (if add then a + b else a - b))))) | _ => .bad
    | _ => .bad
  | .ite c a b, δ => (evIt ε.fn c δ).fl fun t δ1 => if t then evIss ε ow a δ1 else evIss ε ow b δ1
  | .for t it b, δ => (evIi ε.fn it δ).fl fun ds δ1 => evFor (putT t) (evIss ε ow b) ds δ1
  | .wh c b, δ => evWh (evIt ε.fn c) (evIss ε ow b) FUEL δ
  | .raise0 x, δ => .exc ⟨x, []⟩ δ
  | .raise x k as, δ => (evIa ε.fn as δ).fl fun rs δ1 => optF (valsOf rs) fun ds => if ds.length = k then .exc ⟨x, ds⟩ δ1 else .bad
  | .tri x i b h, δ => (evIss ε ow b δ).try fun y δ1 => catchF (ε.xs y.cls x) (fun δ => evIh ε y δ h) ow i y δ1
def evIss (ε : Ev) (ow : List Nat) : Iss → Sl → Fl
  | .bad, _ => .bad
  | .nil, δ => .nx δ
  | .cons s r, δ => (evIs ε ow s δ).seq (evIss ε ow r)
end
/-! ### from the text -/
mutual
def cH (n : Nat) (Γ : Gm) (ev : Str) (e : Expr) : Ih := match n with
  | 0 => .bad
  | n + 1 => match e with
    | .Name x _ => match Γ.slot x with
      | some i => .var i
      | none => .bad
    | .Constant c _ _ => match c with
      | .none => .con .non
      | .bool b => .con (.bl b)
      | .int i => .con (.int i)
      | .str s => .con (.str s)
      | _ => .bad
    | .Attribute (.Name z _) f _ => if z = ev then (match Γ.slot z with
      | some _ => .fld f
      | none => .bad) else .bad
    | .Compare l ops cs _ => match ops, cs with
      | [op], [r] => if isSet r then .bad else .cmp op (cH n Γ ev l) (cH n Γ ev r)
      | _, _ => .bad
    | .List es _ => .lst (cHA n Γ ev es)
    | .Call f args kws _ => match f, args, kws with
      | .Name x _, [.Name z _, .Name T _], [] => if x = "isinstance" ∧ z = ev ∧ Γ.glob x = true ∧ Γ.glob T = true then (match Γ.slot z, Γ.xc T with
        | some _, some v => if (cvOf v).isSome then .isi T else .bad
        | _, _ => .bad) else .bad
      | _, _, _ => .bad
    | _ => .bad
def cHA (n : Nat) (Γ : Gm) (ev : Str) (es : List Expr) : Iha := match n with
  | 0 => .bad
  | n + 1 => match es with
    | [] => .nil
    | e :: r => if nostar e then .cons (cH n Γ ev e) (cHA n Γ ev r) else .bad
end
def Gm.ev (Γ : Gm) : Ev := ⟨Γ.fn, Γ.fr, Γ.cl, Γ.xs⟩
theorem ch_all {Γ : Gm} {ev : Str} {y : Exn} {δ : Sl} : ∀ n, (∀ e, evH n Γ ev y δ e = evIh Γ.ev y δ (cH n Γ ev e)) ∧ ∀ es, evHA n Γ ev y δ es = evIha Γ.ev y δ (cHA n Γ ev es) := by
  intro n
  induction n with
  | zero => exact ⟨fun e => by unfold evH cH; rw [evIh], fun e => by unfold evHA cHA; rw [evIha]⟩
  | succ n ih =>
    refine ⟨fun e => ?_, fun es => ?_⟩
    · cases e
      case Name x pos =>
        unfold evH cH
        try dsimp only
        cases Γ.slot x <;> ((try dsimp only); rw [evIh]; try rfl)
      case Constant c k pos => unfold evH cH; cases c <;> try dsimp only <;> rw [evIh]
      case Attribute o f pos =>
        cases o
        case Name z q =>
          unfold evH cH
          try dsimp only
          split
          · cases Γ.slot z <;> ((try dsimp only); rw [evIh]; try rfl)
          · rw [evIh]
        all_goals (unfold evH cH; rw [evIh])
      case Compare l ops cs pos =>
        unfold evH cH
        rcases ops with _ | ⟨op, _ | ⟨op', _⟩⟩ <;> rcases cs with _ | ⟨b, _ | ⟨c, _⟩⟩ <;> try dsimp only <;> first
          | (rw [evIh]; done)
          | (split <;> first | (rw [evIh]; done) | (rw [evIh]; simp only [ih.1]; done) | (rw [evIh]; simp only [ih.1]; try rfl))
      case List es pos =>
        unfold evH cH
        try dsimp only
        rw [evIh]
        simp only [ih.2]
        try rfl
      case Call f args kws pos =>
        by_cases hs : ∃ x p z p1 T p2, f = .Name x p ∧ args = [.Name z p1, .Name T p2] ∧ kws = []
        · obtain ⟨x, p, z, p1, T, p2, rfl, rfl, rfl⟩ := hs
          unfold evH cH
          try dsimp only
          by_cases hc : x = "isinstance" ∧ z = ev ∧ Γ.glob x = true ∧ Γ.glob T = true
          · rw [if_pos hc, if_pos hc]
            cases hz : Γ.slot z with
            | none => (try dsimp only); rw [evIh]
            | some i =>
              cases hT : Γ.xc T with
              | none => (try dsimp only); rw [evIh]
              | some v =>
                try dsimp only
                by_cases hv : (cvOf v).isSome = true
                · rw [if_pos hv, if_pos hv, evIh]; try rfl
                · rw [if_neg hv, if_neg hv, evIh]
          · rw [if_neg hc, if_neg hc, evIh]
        · have e1 : evH (n + 1) Γ ev y δ (.Call f args kws pos) = none := by
            unfold evH
            try dsimp only
            split
            · exact absurd ⟨_, _, _, _, _, _, rfl, rfl, rfl⟩ hs
            · rfl
          have e2 : cH (n + 1) Γ ev (.Call f args kws pos) = .bad := by
            unfold cH
            try dsimp only
            split
            · exact absurd ⟨_, _, _, _, _, _, rfl, rfl, rfl⟩ hs
            · rfl
          rw [e1, e2, evIh]
      all_goals (unfold evH cH; rw [evIh])
    · unfold evHA cHA
      cases es with
      | nil => (try dsimp only); rw [evIha]
      | cons e r =>
        try dsimp only
        split
        · rw [evIha]
          simp only [ih.1, ih.2]
          try rfl
        · rw [evIha]
mutual
def cS (n : Nat) (Γ : Gm) (s : Stmt) : Is := match n with
  | 0 => .bad
  | n + 1 => match s with
    | .Return none _ => .retN
    | .Return (some e) _ => if Γ.fz then (match n with
        | 0 => .bad
        | m + 1 => match e with
          | .BinOp a .Add b _ => .retF (cE m Γ a) (cE m Γ b)
          | _ => .bad) else .ret (cE n Γ e)
    | .Pass _ => .nop
    | .Break _ => .brk
    | .Continue _ => .cnt
    | .Expr e _ => match e with
      | .Constant (.str _) _ _ => .nop
      | .Call (.Attribute (.Name x p) m ap) [e] [] cp => if nostar e && (ap.endLine == cp.line) then (if n = 0 then .bad else match Γ.slot x with
          | some i => if m = "append" then .app i (cA n Γ [e]) else if m = "extend" then .ext i (cA n Γ [e]) else .bad
          | none => .bad) else .bad
      | .Call (.Name x p) args [] q => .call (cE n Γ (.Call (.Name x p) args [] q))
      | _ => .bad
    | .Assign [tg] e pos => match tg with
      | .Name x py => if locB Γ.sc x && okName x && decide (Γ.N.idxOf x < Γ.N.length) then
          (match e with
          | .ListComp elt gens scope p => if swapB Γ.sc x py p scope then .set (.name (Γ.N.idxOf x)) (cE n Γ (.ListComp elt gens scope p)) else .bad
          | .Call f args kws q => (match frX Γ f args kws with
            | some y => .fresh (Γ.N.idxOf x) y (cA n Γ args)
            | none => .set (.name (Γ.N.idxOf x)) (cE n Γ (.Call f args kws q)))
          | e => if isComp e then .bad else if Γ.N.idxOf x ∈ Γ.ow ∧ isNilE e = true then .own (Γ.N.idxOf x) (cE n Γ e) else .set (.name (Γ.N.idxOf x)) (cE n Γ e)) else .bad
      | .Tuple ts k pt => match slotsT Γ ts with
        | some is => match e with
          | .Tuple vs k2 p2 => if vs.all nostar then (if vs.all (foldedForSure 8) then .set (.tup is) (cE n Γ (.Tuple vs k2 p2))
            else if vs.all (constantsAlone 8) then .bad
            else if decide (is.Nodup) && decide (ts.length = vs.length) then (match ts, vs, is with
              | [.Name _ p1, .Name _ p2], [_, _], [i, j] => if p2.line == p1.line then .par [i, j] (cA n Γ vs) else .bad
              | [.Name _ p1, .Name _ p2, .Name _ p3], [_, _, _], [i, j, l] => if (p2.line == p1.line) && (p3.line == p1.line) then .par [i, j, l] (cA n Γ vs) else .bad
              | _, _, _ => .bad) else .bad) else .bad
          | e => if isComp e then .bad else .set (.tup is) (cE n Γ e)
        | none => .bad
      | .Subscript o i _ => match o with
        | .Name x p => if isSlice i then .bad else if n = 0 then .bad else match Γ.slot x with
          | some k => .sub k (cE n Γ i) (cE n Γ e)
          | none => .bad
        | _ => .bad
      | _ => .bad
    | .AugAssign tg op e _ => match tg with
      | .Name x _ => if locB Γ.sc x && okName x && decide (Γ.N.idxOf x < Γ.N.length) then (match op with
          | .Add => .aug (Γ.N.idxOf x) true (cE n Γ e)
          | .Sub => .aug (Γ.N.idxOf x) false (cE n Γ e)
          | _ => .bad) else .bad
      | _ => .bad
    | .If c a b _ => .ite (cT n Γ c) (cSs n Γ a) (cSs n Γ b)
    | .For tg iter body [] _ => if isSet iter then .bad else (match tgt Γ tg with
      | some t => .for t (cI n Γ iter) (cSs n Γ body)
      | none => .bad)
    | .While c body [] _ => .wh (cT n Γ c) (cSs n Γ body)
    | .Raise ex cause _ => match ex, cause with
      | some (.Call (.Name x _) args [] _), none => if Γ.glob x && Γ.rz x then (match Γ.cl x with
        | some (C, ns) => match args with
          | [] => if ns = [] then .raise0 x else .bad
          | e :: es => if (e :: es).all nostar && decide (ns ≠ []) then .raise x ns.length (cA n Γ (e :: es)) else .bad
        | none => .bad) else .bad
      | _, _ => .bad
    | .Try body hs orelse fin _ => match hs, orelse, fin with
      | [.ExceptHandler (some (.Name x _)) (some ev) [.Return (some h) _] _], [], [] => if Γ.glob x && locB Γ.sc ev && okName ev && decide (Γ.N.idxOf ev < Γ.N.length) then
          (match (Γ.xc x).bind cvOf with
          | some _ => .tri x (Γ.N.idxOf ev) (cSs n Γ body) (cH n Γ ev h)
          | none => .bad) else .bad
      | _, _, _ => .bad
    | _ => .bad
def cSs (n : Nat) (Γ : Gm) (ss : List Stmt) : Iss := match n with
  | 0 => .bad
  | n + 1 => match ss with
    | [] => .nil
    | s :: r => .cons (cS n Γ s) (cSs n Γ r)
end
end PD

/-! PDj: statements by name and place, and without: worth the same. -/
namespace PD
open PySem L2
section
variable {Γ : Gm} {n : Nat}
theorem pushs {ε : Ev} {ow : List Nat} {c : Prop} [Decidable c] {a b : Is} {δ : Sl} : evIs ε ow (if c then a else b) δ = if c then evIs ε ow a δ else evIs ε ow b δ := by
  split <;> rfl
theorem slotOwn_name {x : Str} {p : Pos} {δ : Sl} : slotOwn Γ (.Name x p) δ = match Γ.slot x with
    | some i => if isownS δ i then some i else none
    | none => none := by
  unfold slotOwn
  try rfl
theorem is_bad {ε : Ev} {ow : List Nat} {δ : Sl} : evIs ε ow .bad δ = .bad := by rw [evIs]
theorem own_eq (A : CAll n Γ) {e : Expr} {δ : Sl} {i : Nat} : (if i ∈ Γ.ow ∧ isNilE e = true ∧ i < δ.length then (evE n Γ e δ).fl (fun _ δ1 => .nx (δ1.set i (some (.own [])))) else (evE n Γ e δ).fl fun d δ1 => optF (putT (.name i) d δ1) .nx) =
    evIs Γ.ev Γ.ow (if i ∈ Γ.ow ∧ isNilE e = true then .own i (cE n Γ e) else .set (.name i) (cE n Γ e)) δ := by
  rw [pushs]
  by_cases h1 : i ∈ Γ.ow ∧ isNilE e = true
  · rw [if_pos h1, evIs]
    by_cases h2 : i < δ.length
    · rw [if_pos ⟨h1.1, h1.2, h2⟩, if_pos h2, A.e]; try rfl
    · rw [if_neg (fun z => h2 z.2.2), if_neg h2, A.e]; try rfl
  · rw [if_neg h1, if_neg (fun z => h1 ⟨z.1, z.2.1⟩), evIs, A.e]; try rfl
theorem cs_assign (hb : NoB Γ.fn) (tg e : Expr) (pos : Pos) (δ : Sl) : evS (n + 1) Γ (.Assign [tg] e pos) δ = evIs Γ.ev Γ.ow (cS (n + 1) Γ (.Assign [tg] e pos)) δ := by
  have A := call n Γ hb
  unfold evS cS
  try dsimp only
  cases tg
  case Name x py =>
    try dsimp only
    rw [pushs, is_bad]
    split
    case isFalse => rfl
    by_cases hc : ∃ elt gens scope p, e = .ListComp elt gens scope p
    · obtain ⟨elt, gens, scope, p, rfl⟩ := hc
      try dsimp only
      rw [pushs, is_bad]
      split
      · rw [evIs]; simp only [A.e]; try rfl
      · rfl
    by_cases hk : ∃ f args kws q, e = .Call f args kws q
    · obtain ⟨f, args, kws, q, rfl⟩ := hk
      try dsimp only
      cases hf : frX Γ f args kws with
      | none => (try dsimp only); rw [evIs]; simp only [A.e]; try rfl
      | some y =>
        try dsimp only
        rw [evIs]
        show _ = match Γ.fr y with | some sem => _ | none => _
        cases Γ.fr y with
        | none => rfl
        | some sem => (try dsimp only); simp only [A.a]; try rfl
    cases e
    case ListComp elt gens scope p => exact absurd ⟨_, _, _, _, rfl⟩ hc
    case Call f args kws q => exact absurd ⟨_, _, _, _, rfl⟩ hk
    all_goals
      try dsimp only
      rw [pushs, is_bad]
      split
      · rfl
      · exact own_eq A
  case Tuple ts k pt =>
    try dsimp only
    cases hsl : slotsT Γ ts with
    | none => (try dsimp only); rw [evIs]
    | some is =>
      try dsimp only
      cases e
      case Tuple vs k2 p2 =>
        try dsimp only
        rw [pushs, is_bad]
        split
        case isFalse => rfl
        rw [pushs]
        split
        · rw [evIs]; simp only [A.e]; try rfl
        rw [pushs, is_bad]
        split
        · rfl
        rw [pushs, is_bad]
        split
        case isFalse => rfl
        split
        · try dsimp only
          rw [pushs, is_bad]
          split <;> first | rfl | (rw [evIs]; simp only [A.a]; try rfl)
        · try dsimp only
          rw [pushs, is_bad]
          split <;> first | rfl | (rw [evIs]; simp only [A.a]; try rfl)
        · next n1 n2 =>
          first
          | (split
             · exact (n1 _ _ _ _ _ _ _ _ rfl rfl rfl).elim
             · exact (n2 _ _ _ _ _ _ _ _ _ _ _ _ rfl rfl rfl).elim
             · rw [is_bad])
          | rw [is_bad]
      all_goals
        try dsimp only
        rw [pushs, is_bad]
        split
        · rfl
        · rw [evIs]; simp only [A.e]; try rfl
  case Subscript o i p =>
    cases o
    case Name x q =>
      try dsimp only
      rw [pushs, is_bad, pushs, is_bad]
      split
      · rfl
      · cases hs : Γ.slot x with
        | none =>
          try dsimp only
          rw [is_bad, ite_self]
          try rfl
        | some k =>
          try dsimp only
          show (evE n Γ e δ).fl _ = _
          by_cases hn : n = 0
          · subst hn
            rw [if_pos rfl]
            have : evE 0 Γ e δ = .bad := by unfold evE; try rfl
            rw [this]
            try rfl
          · rw [if_neg hn, evIs]
            show _ = (evIe Γ.fn (cE n Γ e) δ).fl _
            rw [A.e]
            refine congrArg _ (funext fun d => funext fun δ1 => ?_)
            rw [if_neg hn, slotOwn_name, hs]
            try dsimp only
            cases isownS δ1 k with
            | true => simp only [if_true, A.e]; try rfl
            | false => rfl
    all_goals ((try dsimp only); rw [evIs])
  all_goals ((try dsimp only); rw [evIs])
theorem cs_expr (hb : NoB Γ.fn) (e : Expr) (pos : Pos) (δ : Sl) : evS (n + 1) Γ (.Expr e pos) δ = evIs Γ.ev Γ.ow (cS (n + 1) Γ (.Expr e pos)) δ := by
  have A := call n Γ hb
  unfold evS cS
  try dsimp only
  split
  · rw [evIs]
  · next x p m ap e cp =>
    try dsimp only
    rw [pushs, is_bad, pushs, is_bad]
    split
    case isFalse => rfl
    by_cases hn : n = 0
    · rw [if_pos hn]
      subst hn
      split
      · split <;> first | rfl | (rw [if_pos rfl])
      · split
        · split <;> first | rfl | (rw [if_pos rfl])
        · rfl
    · rw [if_neg hn, slotOwn_name]
      cases hs : Γ.slot x with
      | none =>
        try dsimp only
        rw [is_bad]
        split
        · rfl
        · split <;> rfl
      | some i =>
        try dsimp only
        rw [pushs, pushs, is_bad]
        split
        · rw [evIs]
          cases isownS δ i with
          | true =>
            rw [if_pos rfl, if_pos rfl]
            try dsimp only
            simp only [A.a]
            try rfl
          | false => rfl
        · split
          · rw [evIs]
            cases isownS δ i with
            | true =>
              rw [if_pos rfl, if_pos rfl]
              try dsimp only
              simp only [A.a]
              try rfl
            | false => rfl
          · rfl
  · try dsimp only
    rw [evIs]
    simp only [A.e]
    try rfl
  · next n1 n2 n3 =>
    first
    | (split
       · exact (n1 _ _ _ rfl).elim
       · exact (n2 _ _ _ _ _ _ rfl).elim
       · exact (n3 _ _ _ _ rfl).elim
       · rw [is_bad])
    | rw [is_bad]
theorem cs_all (hb : NoB Γ.fn) : ∀ n, (∀ s δ, evS n Γ s δ = evIs Γ.ev Γ.ow (cS n Γ s) δ) ∧ ∀ ss δ, evSs n Γ ss δ = evIss Γ.ev Γ.ow (cSs n Γ ss) δ := by
  intro n
  induction n with
  | zero => exact ⟨fun s δ => (by unfold evS cS; rw [evIs]), fun s δ => (by unfold evSs cSs; rw [evIss])⟩
  | succ n ih =>
    have A := call n Γ hb
    refine ⟨fun s δ => ?_, fun ss δ => ?_⟩
    · cases s
      case Return v pos =>
        cases v with
        | none => unfold evS cS; (try dsimp only); rw [evIs]
        | some e =>
          unfold evS cS
          try dsimp only
          rw [pushs]
          split
          · cases n with
            | zero => (try dsimp only); rw [is_bad]; try rfl
            | succ m =>
              have A' := call m Γ hb
              unfold retF
              try dsimp only
              split
              · (try dsimp only); rw [evIs]; simp only [A'.e]; try rfl
              · next h =>
                first
                | (split
                   · exact (h _ _ _ rfl).elim
                   · rw [is_bad])
                | rw [is_bad]
          · rw [evIs, A.e]; try rfl
      case Pass pos => unfold evS cS; (try dsimp only); rw [evIs]
      case Break pos => unfold evS cS; (try dsimp only); rw [evIs]
      case Continue pos => unfold evS cS; (try dsimp only); rw [evIs]
      case Expr e pos => exact cs_expr hb e pos δ
      case Assign ts e pos =>
        match ts with
        | [] => unfold evS cS; (try dsimp only); rw [evIs]
        | [tg] => exact cs_assign hb tg e pos δ
        | _ :: _ :: _ => unfold evS cS; (try dsimp only); rw [evIs]
      case AugAssign tg op e pos =>
        cases tg
        case Name x p =>
          unfold evS cS
          try dsimp only
          rw [pushs, is_bad]
          split
          case isFalse => rfl
          cases op
          case Add => (try dsimp only); rw [evIs]; simp only [A.e]; try rfl
          case Sub => (try dsimp only); rw [evIs]; simp only [A.e]; try rfl
          all_goals
            try dsimp only
            rw [is_bad]
            split <;> rfl
        all_goals (unfold evS cS; (try dsimp only); rw [evIs])
      case If c a b pos =>
        unfold evS cS
        try dsimp only
        rw [evIs]
        simp only [A.t, ih.2]
        try rfl
      case For tg iter body orelse pos =>
        match orelse with
        | [] =>
          unfold evS cS
          try dsimp only
          rw [pushs, is_bad]
          split
          · rfl
          · cases tgt Γ tg with
            | none => (try dsimp only); rw [is_bad]
            | some t =>
              try dsimp only
              rw [evIs, A.i]
              have e1 : evSs n Γ body = evIss Γ.ev Γ.ow (cSs n Γ body) := funext fun δ => ih.2 body δ
              rw [e1]
              try rfl
        | _ :: _ => unfold evS cS; (try dsimp only); rw [evIs]
      case While c body orelse pos =>
        match orelse with
        | [] =>
          unfold evS cS
          try dsimp only
          rw [evIs]
          have e1 : evSs n Γ body = evIss Γ.ev Γ.ow (cSs n Γ body) := funext fun δ => ih.2 body δ
          have e2 : evT n Γ c = evIt Γ.ev.fn (cT n Γ c) := funext fun δ => A.t c δ
          rw [e1, e2]
        | _ :: _ => unfold evS cS; (try dsimp only); rw [evIs]
      case Raise ex cause pos =>
        unfold evS cS
        try dsimp only
        split
        · next x p args q =>
          try dsimp only
          rw [pushs, is_bad]
          split
          case isFalse => rfl
          cases Γ.cl x with
          | none => (try dsimp only); rw [is_bad]
          | some cn =>
            try dsimp only
            cases args with
            | nil =>
              try dsimp only
              rw [pushs, is_bad]
              split
              · rw [evIs]
              · rfl
            | cons e es =>
              try dsimp only
              rw [pushs, is_bad]
              split
              · rw [evIs]; simp only [A.a]; try rfl
              · rfl
        · next h =>
          first
          | (split
             · exact (h _ _ _ _ rfl rfl).elim
             · rw [is_bad])
          | rw [is_bad]
      case Try body hs orelse fin pos =>
        unfold evS cS
        try dsimp only
        split
        · next x np ev h hp hp2 =>
          try dsimp only
          rw [pushs, is_bad]
          split
          case isFalse => rfl
          cases (Γ.xc x).bind cvOf with
          | none => (try dsimp only); rw [is_bad]
          | some c =>
            try dsimp only
            rw [evIs, ih.2]
            refine congrArg _ (funext fun y => funext fun δ1 => ?_)
            have e1 : (fun δ => evH n Γ ev y δ h) = fun δ => evIh Γ.ev y δ (cH n Γ ev h) := funext fun δ => (ch_all n).1 h
            rw [e1]
            try rfl
        · next h =>
          first
          | (split
             · exact (h _ _ _ _ _ _ rfl rfl rfl).elim
             · rw [is_bad])
          | rw [is_bad]
      all_goals (unfold evS cS; (try dsimp only); rw [evIs])
    · unfold evSs cSs
      cases ss with
      | nil => (try dsimp only); rw [evIss]
      | cons s r =>
        try dsimp only
        rw [evIss, ih.1]
        have e1 : evSs n Γ r = evIss Γ.ev Γ.ow (cSs n Γ r) := funext fun δ => ih.2 r δ
        rw [e1]
end
end PD

/-! PDg: a program's table of defs, by the depth of calls. -/
namespace PD
open PySem L2
/-- a def of the text: its statement, its names by slot, its parameters, the slots of own lists, whether it gives a new list -/
structure Df where
  st : Stmt
  N : List Str
  ps : List Str
  ow : List Nat
  fz : Bool
/-- a def without names -/
structure Di where
  body : Iss
  nN : Nat
  np : Nat
  ow : List Nat
  fz : Bool
/-- what all defs have in common -/
structure Cm where
  K : PySem.W.Frag
  cl : Cls
  gl : Str → Option (V × Dt)
  rz : Str → Bool
  fq : Str → Bool
  xs : Str → Str → Option Bool
  xc : Str → Option V
def FU : Nat := 60
def Cm.gm (c : Cm) (d : Df) (fn : Fn) (fr : Str → Option (Sl → Re (List Dt))) : Gm := ⟨c.K, c.cl, d.N, defScope d.st, c.gl, fn, d.ow, c.rz, d.fz, fr, c.fq, c.xs, c.xc⟩
def runI (ε : Ev) (d : Di) (δ0 : Sl) : Re Dt := if δ0.length = d.np ∧ (d.ow.all fun i => decide (d.np ≤ i)) = true then (match evIss ε d.ow d.body (δ0 ++ List.replicate (d.nN - d.np) none) with
  | .rt v δ => .ok v (mergeP δ0 δ)
  | .rf c δ => .ok (.lst c) (mergeP δ0 δ)
  | .nx δ => .ok .non (mergeP δ0 δ)
  | .exc x δ => .exc x (mergeP δ0 δ)
  | _ => .bad) else .bad
def runIF (ε : Ev) (d : Di) (δ0 : Sl) : Re (List Dt) := if δ0.length = d.np ∧ (d.ow.all fun i => decide (d.np ≤ i)) = true then (match evIss ε d.ow d.body (δ0 ++ List.replicate (d.nN - d.np) none) with
  | .rf c δ => .ok c (mergeP δ0 δ)
  | .exc x δ => .exc x (mergeP δ0 δ)
  | _ => .bad) else .bad
/-- a program without names -/
structure Pg where
  defs : Str → Option Di
  cl : Cls
  xs : Str → Str → Option Bool
def Pg.T (g : Pg) : Nat → Ev
  | 0 => ⟨fun _ => none, fun _ => none, g.cl, g.xs⟩
  | m + 1 => ⟨fun x => match g.defs x with | some d => if d.fz then none else some (runI (g.T m) d) | none => none, fun x => match g.defs x with | some d => if d.fz then some (runIF (g.T m) d) else none | none => none, g.cl, g.xs⟩
/-- a def is there, called by its name -/
def There (K : PySem.W.Frag) (mg : Str → Option Value) (x : Str) (f : Addr) (fd : FuncData) (ps : List Str) : Prop := mg x = some (.ref f) ∧ PySem.W.keepIn K (.ref f) = true ∧ Binds K fd ps []
/-- the def without names is the def of the text -/
structure Dok (c : Cm) (d : Df) (i : Di) : Prop where
  body : ∀ fn fr, cSs FU (c.gm d fn fr) (defBody d.st) = i.body
  nN : d.N.length = i.nN
  np : d.ps.length = i.np
  ow : d.ow = i.ow
  fz : d.fz = i.fz
section
variable {c : Cm} {d : Df} {i : Di} {fn : Fn} {fr : Str → Option (Sl → Re (List Dt))}
theorem Dok.run (k : Dok c d i) (hb : NoB fn) : runDef FU (c.gm d fn fr) d.ps.length (defBody d.st) = runI ⟨fn, fr, c.cl, c.xs⟩ i := by
  funext δ0
  unfold runDef runI
  rw [(cs_all (Γ := c.gm d fn fr) hb FU).2, k.body]
  show (if δ0.length = d.ps.length ∧ (d.ow.all fun i => decide (d.ps.length ≤ i)) = true then (match evIss ⟨fn, fr, c.cl, c.xs⟩ d.ow i.body (δ0 ++ List.replicate (d.N.length - d.ps.length) none) with | .rt v δ => _ | .rf c δ => _ | .nx δ => _ | .exc x δ => _ | _ => _) else _) = _
  rw [k.nN, k.np, k.ow]
theorem Dok.runF (k : Dok c d i) (hb : NoB fn) : runDefF FU (c.gm d fn fr) d.ps.length (defBody d.st) = runIF ⟨fn, fr, c.cl, c.xs⟩ i := by
  funext δ0
  unfold runDefF runIF
  rw [(cs_all (Γ := c.gm d fn fr) hb FU).2, k.body]
  show (if δ0.length = d.ps.length ∧ (d.ow.all fun i => decide (d.ps.length ≤ i)) = true then (match evIss ⟨fn, fr, c.cl, c.xs⟩ d.ow i.body (δ0 ++ List.replicate (d.N.length - d.ps.length) none) with | .rf c δ => _ | .exc x δ => _ | _ => _) else _) = _
  rw [k.nN, k.np, k.ow]
end
section
variable {P : Program} {w : World} {mg : Str → Option Value} {base : Heap} {c : Cm} {g : Pg}
structure TabH (P : Program) (w : World) (mg : Str → Option Value) (base : Heap) (c : Cm) (g : Pg) : Prop where
  hcl : g.cl = c.cl
  hxs : g.xs = c.xs
  hgl : ∀ x v d, c.gl x = some (v, d) → ∃ u, mg x = some u ∧ RelV v u
  hgo : ∀ x v d, c.gl x = some (v, d) → ∀ H, Rp c.K H v d
  hbl : ∀ x : Str, (isB x = true ∨ x = "isinstance" ∨ x = "range" ∨ (tyOf? x).isSome = true) → mg x = none
  hex : ∀ x C ns, c.cl x = some (C, ns) → c.rz x = true → ∀ k, ExOk P w c.K mg base k x C ns
  hxc : ∀ T v, c.xc T = some v → NmV mg T v
  hxo : ∀ y C ns, c.cl y = some (C, ns) → XcOk c.K C ns
  hsub : ∀ y T C ns b v u, c.cl y = some (C, ns) → c.xs y T = some b → c.xc T = some v → cvOf v = some u → PySem.W.exmOne c.K (.ref C) u = some b ∧ PySem.W.kitOne c.K (.ref C) u = some b
  hd : ∀ x i, g.defs x = some i → ∃ d f fd qual, Dok c d i ∧ Fun c.K x qual d.st f fd ∧ FnScope d.N d.ps (defScope d.st) ∧ There c.K mg x f fd d.ps
theorem TabH.noB (T : TabH P w mg base c g) (m : Nat) : NoB (g.T m).fn := fun x hx => by
  cases m with
  | zero => rfl
  | succ m =>
    cases hdx : g.defs x with
    | none => simp only [Pg.T, hdx]
    | some i =>
      obtain ⟨d, f, fd, qual, k, F, S, t1, t2⟩ := T.hd x i hdx
      have := T.hbl x (by rcases hx with h | h; exact .inl h; exact .inr (.inl h))
      rw [this] at t1; cases t1
def TabAt (P : Program) (w : World) (mg : Str → Option Value) (base : Heap) (c : Cm) (g : Pg) (m : Nat) : Prop :=
  (∀ x s, (g.T m).fn x = some s → ∃ f fd ps, FnOk P w c.K mg base (L2.CX P w) m f fd ps (spD c.K c.cl s) ∧ There c.K mg x f fd ps) ∧
      (∀ x s, (g.T m).fr x = some s → ∃ f fd ps, FnOk P w c.K mg base (L2.CX P w) m f fd ps (spF c.K c.cl s) ∧ There c.K mg x f fd ps)
theorem TabH.rt (T : TabH P w mg base c g) {m : Nat} (ih : TabAt P w mg base c g m) (d : Df) : Rt P w c.K mg base (c.gm d (g.T m).fn (g.T m).fr) m := ⟨rfl, T.hgl, T.hgo, fun y s' hy => by
        obtain ⟨g, gd, qs, G, t1, t2, t3⟩ := ih.1 y s' hy
        exact ⟨g, gd, qs, m, Nat.le_refl _, G, t1, t2, t3⟩, fun y s' hy => by
        obtain ⟨g, gd, qs, G, t1, t2, t3⟩ := ih.2 y s' hy
        exact ⟨g, gd, qs, m, Nat.le_refl _, G, t1, t2, t3⟩, T.hbl, fun y C ns h1 h2 => T.hex y C ns h1 h2 m, T.hxc, T.hxo, T.hsub⟩
theorem TabH.ev (T : TabH P w mg base c g) (m : Nat) : (⟨(g.T m).fn, (g.T m).fr, c.cl, c.xs⟩ : Ev) = g.T m := by
  rw [← T.hcl, ← T.hxs]
  cases m <;> rfl
theorem TabH.one (T : TabH P w mg base c g) {m : Nat} (ih : TabAt P w mg base c g m) {x qual : Str} {d : Df} {i : Di} {f : Addr} {fd : FuncData} (k : Dok c d i) (F : Fun c.K x qual d.st f fd) (S : FnScope d.N d.ps (defScope d.st)) :
    FnOk P w c.K mg base (L2.CX P w) (m + 1) f fd d.ps (spD c.K c.cl (runI (g.T m) i)) := by
  have q := fn_ok (Γ := c.gm d (g.T m).fn (g.T m).fr) F S rfl (T.rt ih d) FU
  rw [k.run (T.noB m), T.ev] at q
  exact q
theorem TabH.oneF (T : TabH P w mg base c g) {m : Nat} (ih : TabAt P w mg base c g m) {x qual : Str} {d : Df} {i : Di} {f : Addr} {fd : FuncData} (k : Dok c d i) (F : Fun c.K x qual d.st f fd) (S : FnScope d.N d.ps (defScope d.st)) :
    FnOk P w c.K mg base (L2.CX P w) (m + 1) f fd d.ps (spF c.K c.cl (runIF (g.T m) i)) := by
  have q := fn_okF (Γ := c.gm d (g.T m).fn (g.T m).fr) F S rfl (T.rt ih d) FU
  rw [k.runF (T.noB m), T.ev] at q
  exact q
theorem TabH.all (T : TabH P w mg base c g) : ∀ m, TabAt P w mg base c g m := by
  intro m
  induction m with
  | zero => exact ⟨fun x s h => (by cases h), fun x s h => (by cases h)⟩
  | succ m ih =>
    refine ⟨fun x s h => ?_, fun x s h => ?_⟩
    · cases hdx : g.defs x with
      | none => simp only [Pg.T, hdx] at h; cases h
      | some i =>
        simp only [Pg.T, hdx] at h
        split at h
        · cases h
        · cases h
          obtain ⟨d, f, fd, qual, k, F, S, t⟩ := T.hd x i hdx
          exact ⟨f, fd, d.ps, T.one ih k F S, t⟩
    · cases hdx : g.defs x with
      | none => simp only [Pg.T, hdx] at h; cases h
      | some i =>
        simp only [Pg.T, hdx] at h
        split at h
        · cases h
          obtain ⟨d, f, fd, qual, k, F, S, t⟩ := T.hd x i hdx
          exact ⟨f, fd, d.ps, T.oneF ih k F S, t⟩
        · cases h
end
end PD

/-! PDx: an own error over ValueError whose __init__ says super().__init__() and stores its one argument. -/
namespace PySem
namespace SupX
open PySem.W PySem.Calls PyProof.Rows PySem.HandSPX
/-! ### the text of __init__ -/
def sB (f : Str) (p0 p1 p2 p3 p4 q1 q2 q3 q4 : Pos) : List Stmt := [.Expr (.Call (.Attribute (.Call (.Name "super" p0) [] [] p1) "__init__" p2) [] [] p3) p4, .Assign [.Attribute (.Name "self" q1) f q2] (.Name f q3) q4]
structure SupTxt (prog : Program) (K : Frag) (mg : Str → Option Value) (x f : Str) (C fI : Addr) : Prop where
  gC : mg x = some (.ref C)
  xd : (x == ("__debug__" : Str)) = false
  cls : ∃ nm q N bs bm sn sub ab col dd k0 k1 k2 k3 k5, K.lookup C = some (excClassObj nm q C N bs bm true sn sub ab col dd k0 k1 k2 k3 k5 "ValueError.__new__") ∧ refsVE bm = true
  sa : findIn K (.ref C) "__setattr__" = some (some (.builtin "object.__setattr__"))
  noN : findIn K (.ref C) f = some none
  iC : findIn K (.ref C) "__init__" = some (some (.ref fI))
  tC : typeIn K (.ref fI) = some (.type "function")
  kC : keepIn K (.ref C) = true
  exC : subIn K (.ref C) (.type "BaseException") = some true
  veC : subIn K (.ref C) (.type "ValueError") = some true
  tyC : typeIn K (.ref C) = some (.type "type")
  mr : mroIn K C (.ref C) = some true
  sup : mg "super" = none
  opq : nsIn K cStatics "thirdparty.any" = some none
  sIn : ks_superIn K C C "__init__" = some (some (.builtin "ValueError.__init__"))
  top : (prog.main.scope.names.lookup ("super" : Str)).isSome = false
  fn : ∃ (oc : Value) (od : Option Addr) (qual : Str) (params : Arguments) (scope : Scope) (dV kV doc pm : Value) (an : Option Addr) (cda cc : Addr) (ct : Value) (osl : Array (Option Value)) (p0 p1 p2 p3 p4 q1 q2 q3 q4 : Pos) (ar : Arg) (ccl : Value) (cdd : Option Addr) (vs : Array Value) (ccs : Array (Option Value)) (file : Str) (tf : Tok) (cl : Value) (cld : Option Addr) (csl : Array (Option Value)),
    K.lookup fI = some ⟨oc, od, .func (ksFn "__init__" qual params (sB f p0 p1 p2 p3 p4 q1 q2 q3 q4) scope dV kV doc pm an (.ref cda) ct cc), osl⟩ ∧ codeIn K (.ref cda) qual = true ∧
    (∀ (s : Shared) (u v : Value), BindsTo s (ksFn "__init__" qual params (sB f p0 p1 p2 p3 p4 q1 q2 q3 q4) scope dV kV doc pm an (.ref cda) ct cc) ⟨[u, v], []⟩ [("self", u), (f, v)]) ∧
    (params.posonlyargs ++ params.args).head? = some ar ∧ ar.arg = "self" ∧ K.lookup cda = some ⟨ccl, cdd, .fields vs, ccs⟩ ∧ vs[2]? = some (.str file tf) ∧ ((prog.main.file : Str) == file) = true ∧
    K.lookup cc = some ⟨cl, cld, .cell (some (.ref C)), csl⟩ ∧ scope.names.lookup ("super" : Str) = some .globalImplicit ∧ scope.names.lookup ("__class__" : Str) = some .free ∧ scope.names.lookup ("self" : Str) = some .local ∧ scope.names.lookup f = some .local ∧
    scope.kind = .function ∧ scope.isCoroutine = false ∧ scope.isGenerator = false ∧ (∀ y ∈ scope.names, y.2 ≠ .cell) ∧ f ≠ "self" ∧ (f == ("__debug__" : Str)) = false ∧
    ∀ env : Env, ∃ pl : Sem Bool, eval (.Call (.Attribute (.Call (.Name "super" p0) [] [] p1) "__init__" p2) [] [] p3) env = (do
      let ov ← attributeBase (.Call (.Name "super" p0) [] [] p1) "__init__" env (eval (.Call (.Name "super" p0) [] [] p1) env)
      standAt p2.atName
      let (f, first) ← holding [ov] (getMethod ov "__init__" pl)
      callWith p3 f first (backTo p3 (starEach [] env)) [])
theorem one_size (v : Value) : [v].length ≤ sizeLine := by
  rw [sizeLine_eq]
  exact (by decide : 1 ≤ 16777216)
/-- what __init__ leaves of a fresh exception at x -/
structure InitEnd (f : Str) (h h' : Heap) (x C dx t1 : Addr) (v : Value) : Prop where
  keep : ∀ b o, b ≠ x → h.get? b = some o → h'.get? b = some o
  obj : h'.get? x = some { cls := .ref C, dict := some dx, data := .fields #[.ref t1, .none, .none, .none, .bool false, .none] }
  dbig : h.objs.size ≤ dx
  dne : dx ≠ x
  ns : h'.Ns1 dx (fun y => if y = f then some v else none)
/-- a made error -/
structure OwnMade (f : Str) (h h' : Heap) (e C d : Addr) (v : Value) : Prop where
  keep : ∀ b o, h.get? b = some o → h'.get? b = some o
  new : h.objs.size ≤ e
  obj : ∃ oe vs, h'.get? e = some oe ∧ oe.cls = .ref C ∧ oe.dict = some d ∧ oe.data = .fields vs ∧ vs[1]? = some .none
  dbig : h.objs.size ≤ d
  dne : d ≠ e
  ns : h'.Ns1 d (fun y => if y = f then some v else none)
section
variable {prog : Program} {w : World} {A : Around} {E : Value → Shared → Prop} {h : Heap} {g : Array GenState} {d : Drawn} {t : Nat} {os : OsState}
variable {nm q : Str} {C N : Addr} {bs bm : List Value} {hdct : Bool} {sn : List Str} {sub : List Value} {ab : Bool} {col : Option Bool} {dd : Option Addr} {k0 k1 k2 k3 k5 : Option Value}
theorem call_mw {u e t0 : Addr} {rest : List Value} {Q : Value → Shared → Prop}
    (hC : h.get? C = some (excClassObj nm q C N bs bm hdct sn sub ab col dd k0 k1 k2 k3 k5 "ValueError.__new__")) (he : h.get? e = some (HandSPX.excO C t0)) (hu : h.get? u = some (kxs_mw "ValueError.__init__" e)) (hrest : rest.length ≤ sizeLine)
    (hq : ∀ h' t1, (∀ b o, b ≠ e → h.get? b = some o → h'.get? b = some o) → h'.get? e = some (HandSPX.excO C t1) → Q .none ⟨h', g, d, t, os⟩) :
    wpAny (model prog w) A (call (.ref u) rest) Q E ⟨h, g, d, t, os⟩ := by
  refine wpAny_call (codeAny_of_tree ?_)
  show wpAny _ A.in1 (callAny (.ref u) ⟨rest, []⟩) _ _ _
  simp only [callAny]
  refine wpAny_bind (wpAny_load hu ?_)
  simp only [kxs_mw, show (Value.type "method-wrapper" == Value.type "method" || Value.type "method-wrapper" == Value.type "builtin_function_or_method" || Value.type "method-wrapper" == Value.type "method-wrapper") = true by decide, if_true]
  refine W.KFB.if_so (by decide) ?_
  refine wpAny_bind (PySem.ESX.check_bound F.excBase_ValueError hC he rfl ?_)
  refine wpAny_bind (wpAny_pure (wpAny_pure ?_))
  refine ⟨Code.quiet_builtin _ (by decide +kernel), codeAny_builtin F.excBase_ValueError.initEntry ?_⟩
  rw [Around.under_plainId F.excBase_ValueError.init.plain _]
  wp_walk
  refine hq _ h.objs.size (fun b o hb ho => ?_) ?_
  · rw [Heap.get?_update_other _ _ (Ne.symm hb)]
    exact Heap.get?_push_of_some _ ho
  · rw [Heap.get?_update_self _ (Heap.get?_push_of_some _ he) rfl]
    rfl
end
section
variable {prog : Program} {w : World} {A : Around} {E : Value → Shared → Prop} {R : Result → Shared → Prop} {s : Shared} {K : Frag} {mg mb : Str → Option Value} {x f : Str} {C fI : Addr}
theorem sup_init (T : SupTxt prog K mg x f C fI) {e t0 : Addr} {v : Value} (X : K.In s.heap) (G : s.heap.Ns mainGlobals mg) (B : s.heap.Ns builtinsNs mb) (hb : ∀ x : Str, x ≠ "__name__" → mb x = bootBuiltins x) (hlim : s.heap.NoLimit) (hx : s.heap.get? e = some (excO C t0)) (hnx : K.lookup e = none) (hroom : A.depth < recursionLimit)
    (hq : ∀ h' tk dx t1, InitEnd f s.heap h' e C dx t1 v → R (.ok (.ret .none)) { s with heap := h', toks := tk }) :
    codeAny (model prog w) A (.call (.ref fI) ⟨[.ref e, v], []⟩) R s := by
  obtain ⟨oc, od, qual, params, scope, dV, kV, doc, pm, an, cda, cc, ct, osl, p0, p1, p2, p3, p4, q1, q2, q3, q4, ar, ccl, cdd, vs, ccs, file, tf, cl, cld, csl, ho, hcd, hbind, hp, har, hcode, hvs, hfile, hcell, hks, hkc, hka, hkf, hk, hco, hgen, hnc, hfs, hfd, hev⟩ := T.fn
  obtain ⟨nm, q, N, bs, bm, sn, sub, ab, col, dd, k0, k1, k2, k3, k5, hC, hbm⟩ := T.cls
  have hcl : clsIn K C = some { name := nm, bases := bs, mro := .ref C :: bm, ns := N, qualname := q, hasDict := true, slotNames := sn, subclasses := sub, abstract := ab, collection := col, hasDel := false } := by unfold clsIn; rw [hC] <;> rfl
  refine ks_codeAny_call_defAt (fd := ksFn "__init__" qual params (sB f p0 p1 p2 p3 p4 q1 q2 q3 q4) scope dV kV doc pm an (.ref cda) ct cc) (body := sB f p0 p1 p2 p3 p4 q1 q2 q3 q4) (binds := [("self", .ref e), (f, v)]) hroom (X _ _ ho) rfl hlim (codeRec_of X hcd) rfl (hbind s (.ref e) v) hnc ?_ (fun h₁ hn k₁ => ?_) hco hgen hk
  · intro y hy
    rcases List.mem_cons.mp hy with rfl | hy
    · exact hka
    · rcases List.mem_cons.mp hy with rfl | hy
      · exact hkf
      · cases hy
  have X₁ : K.In h₁ := X.keeps k₁
  have hx₁ := k₁ _ _ hx
  have eL : s.heap.objs.size ≠ e := Nat.ne_of_gt (Heap.lt_size hx)
  have mself : (fun z => [(("self" : Str), Value.ref e), (f, v)].reverse.lookup z) ("self" : Str) = some (.ref e) := by
    have : (("self" : Str) == f) = false := by simpa using Ne.symm hfs
    simp [List.lookup, this]
  have mf : (fun z => [(("self" : Str), Value.ref e), (f, v)].reverse.lookup z) f = some v := by simp [List.lookup]
  obtain ⟨pl, hev⟩ := hev (callEnv (ksFn "__init__" qual params (sB f p0 p1 p2 p3 p4 q1 q2 q3 q4) scope dV kV doc pm an (.ref cda) ct cc) s.heap.objs.size fI)
  have hint : interactive (callEnv (ksFn "__init__" qual params (sB f p0 p1 p2 p3 p4 q1 q2 q3 q4) scope dV kV doc pm an (.ref cda) ct cc) s.heap.objs.size fI) = false := by
    unfold interactive
    simp [callEnv, newEnv, hk]
  refine ks_wpAt_execs_cons (ks_wpAt_Expr_any (ks_wpAt_MethodCall (pl := pl) ?_ hev) hint)
  have hCt : h₁.get? C = some _ := X₁ _ _ hC
  refine ks_wpAt_super_base hks hkc (by decide) rfl (X₁ _ _ ho) rfl hp rfl (X₁ _ _ hcode) rfl hvs hfile T.top ?_
  refine ks_loadName_global hk hks (loadGlobal_builtin (G.keeps k₁) T.sup (B.keeps k₁) ((hb _ (by decide)).trans PyProof.Rows.Boot.«super») ⟨rfl, ?_⟩)
  refine wpAny_loadName_free hk hkc rfl ⟨_, X₁ _ _ hcell, rfl⟩ ?_
  rw [har]
  refine wpAny_loadName_local hk hka hn mself ?_
  refine ks_wpAny_isType_cls hCt rfl ⟨rfl, ?_⟩
  refine ks_wpAny_call_super hCt rfl hx₁ rfl (fun c z => by cases z) (looks_mroIn X₁ T.mr) (fun h₂ hso k₂ => ?_)
  have X₂ : K.In h₂ := X₁.keeps k₂
  have hx₂ := k₂ _ _ hx₁
  have I₂ : InstAt h₂ e (excO C t0) C none := ⟨hx₂, rfl, rfl, trivial⟩
  have hsi := T.sIn
  unfold ks_superIn at hsi
  rw [hcl, Option.bind_some] at hsi
  refine kxs_getMethod kxs_ValueError hso (looks_opaque X₂ T.opq) (l₀ := .ref C :: bm) ?_ rfl X₂ hsi (I₂.type.andThen (looks_subIn X₂ T.veC)) (ks_ne X₂ I₂ hcl) (by decide) ?_
  · exact fun A Q E s k q => wpAny_bind ((looks_clsIn X₂ hcl) A _ E s k (wpAny_pure q))
  have k₃ : ∀ b o, h₂.get? b = some o → (h₂.push (kxs_mw "ValueError.__init__" e)).get? b = some o := fun b o z => Heap.get?_push_of_some _ z
  have X₃ := X₂.keeps k₃
  refine kxs_callWith (i := "ValueError.__init__") (x := e) rfl (evalArgs_empty ⟨Heap.get?_push_at rfl rfl, ?_⟩)
  refine call_mw (X₃ _ _ hC) (k₃ _ _ hx₂) (Heap.get?_push_at rfl rfl) (by rw [sizeLine_eq]; exact Nat.zero_le _) (fun h₄ t1 k₄ hx₄ => ?_)
  show wpAt _ _ _ (execs _ _) _ _ _
  refine wpAt_of_wpAny (wpAny_execs_cons (plainObj_wpAny_Assign_Attribute ?_))
  have kb : ∀ b o, b ≠ e → h₁.get? b = some o → h₄.get? b = some o := fun b o hne z => k₄ b o hne (k₃ _ _ (k₂ _ _ z))
  have X₄ : K.In h₄ := fun b o z => kb b o (fun y => by rw [y, hnx] at z; cases z) (X₁ b o z)
  have hn₄ : h₄.Ns s.heap.objs.size (fun x => [(("self" : Str), Value.ref e), (f, v)].reverse.lookup x) := by
    obtain ⟨oL, es, ep, hL, r⟩ := hn
    exact ⟨oL, es, ep, kb _ _ eL hL, r⟩
  refine PySem.ESX.ldL (v := v) hn₄ mf (PySem.ESX.ldL (v := .ref e) hn₄ mself ?_ hk hka (by decide)) hk hkf hfd
  refine set_plain X₄ (ox := excO C t1) (od := none) ⟨hx₄, rfl, rfl, trivial⟩ T.sa ?_
  refine exc_osa X₄ hx₄ hcl (show refsVE (.ref C :: bm) = true from hbm) rfl T.noN (fun h₅ tk₅ dx k₅ dn dne hx₅ hn₅ => ?_)
  show wpAny _ _ (execs _ _) _ _ _
  have z : s.heap.objs.size < h₄.objs.size := hn₄.lt
  exact wpAny_execs_nil (hq h₅ tk₅ dx t1 ⟨fun b o hb' z' => k₅ b o hb' (kb b o hb' (k₁ b o z')), hx₅, Nat.le_of_lt (Nat.lt_of_lt_of_le z dn), dne, hn₅⟩)
theorem sup_made (T : SupTxt prog K mg x f C fI) {v : Value} (X : K.In s.heap) (G : s.heap.Ns mainGlobals mg) (B : s.heap.Ns builtinsNs mb) (hb : ∀ x : Str, x ≠ "__name__" → mb x = bootBuiltins x) (hlim : s.heap.NoLimit) (hroom : A.depth + 1 < recursionLimit)
    (hq : ∀ h' tk e d, OwnMade f s.heap h' e C d v → R (.ok (.ret (.ref e))) { s with heap := h', toks := tk }) :
    codeAny (model prog w) A (.call (.ref C) ⟨[v], []⟩) R s := by
  obtain ⟨nm, q, N, bs, bm, sn, sub, ab, col, dd, k0, k1, k2, k3, k5, hC, hbm⟩ := T.cls
  obtain ⟨hp, g, dr, tk, os⟩ := s
  have k : ∀ b o, hp.get? b = some o → ((hp.push (kdv_tup [v])).push (excO C hp.objs.size)).get? b = some o := fun b o e => Heap.get?_push_of_some _ (Heap.get?_push_of_some _ e)
  have hget : ((hp.push (kdv_tup [v])).push (excO C hp.objs.size)).get? (hp.objs.size + 1) = some (excO C hp.objs.size) := by heap_get
  have hnx : K.lookup (hp.objs.size + 1) = none := by
    cases e : K.lookup (hp.objs.size + 1) with
    | none => rfl
    | some o =>
      have z : hp.get? (hp.objs.size + 1) = some o := X _ _ e
      exact absurd (Nat.lt_of_succ_lt (Heap.lt_size z)) (Nat.lt_irrefl _)
  refine call_own F.excBase_ValueError (fun X => refsVE_contains X bm hbm) (X _ _ hC) (looks_findIn X T.iC) (fun self => bind_fn X self T.tC) (one_size v) ?_
  refine sup_init (s := ⟨(hp.push (kdv_tup [v])).push (excO C hp.objs.size), g, dr, tk, os⟩) T (X.keeps k) (G.keeps k) (B.keeps k) hb (hlim.keeps k) hget hnx ?_ fun h' tk' dx t1 ⟨k', hx, dn, dne, hns⟩ => ?_
  · show A.depth + 1 < recursionLimit
    exact hroom
  · have old : ∀ b o, hp.get? b = some o → h'.get? b = some o := fun b o e => k' b o (Nat.ne_of_lt (Nat.lt_succ_of_lt (Heap.lt_size e))) (k b o e)
    have z : hp.objs.size + 1 + 1 ≤ dx := by
      first
        | (simpa only [Heap.size_push] using dn)
        | exact dn
        | (have q := dn; rw [Heap.size_push, Heap.size_push] at q; exact q)
    exact ⟨rfl, hq h' tk' (hp.objs.size + 1) dx ⟨old, Nat.le_succ _, ⟨_, _, hx, rfl, rfl, rfl, rfl⟩, Nat.le_trans (Nat.le_trans (Nat.le_succ _) (Nat.le_succ _)) z, dne, hns⟩⟩
end
end SupX
end PySem

namespace PD
open PySem PySem.Spec PyProof.Rows L2
theorem relO_one {f0 : Str} {v : V} {v' : Value} (r : RelV v v') (f : Str) : RelO (List.lookup f [(f0, v)]) (if f = f0 then some v' else none) := by
  by_cases hw : f = f0
  · subst hw
    rw [if_pos rfl]
    have q : List.lookup f [(f, v)] = some v := by simp [List.lookup]
    rw [q]
    exact r
  · rw [if_neg hw]
    have qw : (f == f0) = false := by simpa using hw
    have q2 : List.lookup f [(f0, v)] = none := by simp [List.lookup, qw]
    rw [q2]
    trivial
theorem exok_sup {P : Program} {w : World} {K : PySem.W.Frag} {mg : Str → Option Value} {base : Heap} {k : Nat} {x f : Str} {C fI : Addr} (T : PySem.SupX.SupTxt P K mg x f C fI) : ExOk P w K mg base k x C [f] := by
  intro X hP hw hK hmg hbase hr hg p pos
  subst hP hw hK hmg hbase
  refine ⟨fun z => (by cases z), fun e es ta hs _ ha => ?_⟩
  intro pins s σ H Q I h
  refine wpAny_Call_Name_kw (ld_glob I hg T.gC ?_ T.xd)
  have hs' := hs
  rw [List.all_cons, Bool.and_eq_true] at hs'
  refine PySem.W.callWith_K (h₀ := X.base) I.ok.mod.kin T.kC (thn (ha.run pos pins s σ H _ I h) fun us s1 hh => ?_) (star_cons hs'.1) (back_plain hs'.2)
  obtain ⟨vs, H1, I1, r1, hl, q1⟩ := hh
  refine ⟨I1.kIn, ?_⟩
  obtain ⟨v, rfl⟩ : ∃ v, vs = [v] := by
    match vs, hl with
    | [v], _ => exact ⟨v, rfl⟩
  cases r1 with
  | cons rv rn =>
    rename_i v' us'
    cases rn
    show wpAny _ _ (PySem.call (.ref C) [v']) _ _ _
    have hlim := I1.nolimit
    obtain ⟨mb, b1, b2⟩ := I1.mod.blt
    have G1 := I1.mod.glob.keeps I1.bk
    have B1 := b1.keeps I1.bk
    obtain ⟨hp, g, dr, tk, os⟩ := s1
    refine wpAny_call (PySem.SupX.sup_made T I1.kIn G1 B1 b2 hlim (by have := hr.dp; omega) fun h' tk' e d M => ?_)
    show MkP X pins σ Q (.ref e) ⟨h', g, dr, tk', os⟩
    obtain ⟨oe, fv, hoe, hc, hd, hdat, h1⟩ := M.obj
    have hns := M.ns
    obtain ⟨G', g1, g2⟩ := restrict h' fun b => decide (b ≠ e)
    have gk : ∀ b, b ≠ e → G'.get? b = h'.get? b := fun b hb => g1 b (decide_eq_true hb)
    have ge : G'.get? e = none := g2 e (by simp)
    have old : ∀ b o, hp.get? b = some o → G'.get? b = some o := fun b o q => (gk b (Nat.ne_of_lt (Nat.lt_of_lt_of_le (Heap.lt_size q) M.new))).trans (M.keep b o q)
    have ob : ObjOk X.prog X.w (upd H1 d (.xd [(f, v)])) G' d (.xd [(f, v)]) :=
      ⟨_, hns.at (fun o q => (gk d M.dne).trans q), fun f => relO_one rv f⟩
    have J : Inv X pins σ (upd H1 d (.xd [(f, v)])) ⟨G', g, dr, tk', os⟩ := I1.laid (t' := tk') old M.dbig ob
    refine ⟨e, oe, fv, ⟨G', g, dr, tk', os⟩, _, .ref C, some d, rfl, J, fun b o q => ?_, ge, hoe, ⟨hc, hd⟩, hdat, h1, ?_, rfl, I1.bare, raises_own T.exC T.tyC, q1 d (I1.hok.fresh M.dbig)⟩
    · by_cases hb : b = e
      · have q' : G'.get? b = some o := q
        rw [hb, ge] at q'; cases q'
      · exact (gk b hb).symm.trans q
    · rw [upd_ne (Ne.symm M.dne)]
      exact I1.hok.fresh M.new
end PD

/-! PDl: from the table to the law. -/
namespace PD
open PySem L2
/-- a def of the table stands in the text -/
def DefOk (c : Cm) (mg : Str → Option Value) (x : Str) (i : Di) : Prop := ∃ d f fd qual, Dok c d i ∧ Fun c.K x qual d.st f fd ∧ FnScope d.N d.ps (defScope d.st) ∧ There c.K mg x f fd d.ps
inductive AllD (c : Cm) (mg : Str → Option Value) : List (Str × Di) → Prop
  | nil : AllD c mg []
  | cons {x : Str} {i : Di} {r : List (Str × Di)} : DefOk c mg x i → AllD c mg r → AllD c mg ((x, i) :: r)
theorem AllD.get {c : Cm} {mg : Str → Option Value} : ∀ {l : List (Str × Di)}, AllD c mg l → ∀ {x : Str} {i : Di}, l.lookup x = some i → DefOk c mg x i
  | _, .nil, x, i, h => by cases h
  | _, .cons (x := y) h1 r, x, i, h => by
    rw [List.lookup_cons] at h
    split at h
    · next e => cases h; rw [beq_iff_eq.mp e]; exact h1
    · exact r.get h
theorem def_mk {c : Cm} {mg : Str → Option Value} {h : Heap} {x : Str} {d : Df} {i : Di} {f : Addr} {oc : Value} {od an : Option Addr} {osl : Array (Option Value)} {kV doc pm cdv ct : Value} (X : c.K.In h) (G : h.Ns mainGlobals mg) (k : Dok c d i) (S : FnScope d.N d.ps (defScope d.st))
    (hb : ∀ (kV doc pm : Value) (an : Option Addr) (cdv ct : Value) (us : List Value), us.length = d.ps.length → bindArgs (PySem.W.fnOf x x (defArgs d.st) (defBody d.st) (defScope d.st) .none kV doc pm an cdv ct) ⟨us, []⟩ = pure (d.ps.zip us))
    (a : PySem.W.nsIn c.K mainGlobals x = some (some (.ref f))) (l : c.K.lookup f = some ⟨oc, od, .func (PySem.W.fnOf x x (defArgs d.st) (defBody d.st) (defScope d.st) .none kV doc pm an cdv ct), osl⟩) (cc : PySem.W.codeIn c.K cdv x = true) (kk : PySem.W.keepIn c.K (.ref f) = true) : DefOk c mg x i :=
  ⟨d, f, _, x, k, fun_mk l cc kk, S, PySem.W.mg_of X G a, kk, (fun_mk (st := d.st) l cc kk).binds hb⟩
def spLaw (K : PySem.W.Frag) : Sp := fun vs H Q _ => ∃ (a : Addr) (ns : List Int), vs = [.ref a] ∧ SqL K H a (ns.map V.int) ∧ ns.length ≤ 63 ∧ ∀ H', Q (.bl true) H'
theorem law_sp {K : PySem.W.Frag} {cl : Cls} {sem : Sl → Re Dt} (h : ∀ ns : List Int, ns.length ≤ 63 → ∃ δ, sem [some (.dat (.scr ns))] = .ok (.bl true) δ) : ∀ vs H Q E, spLaw K vs H Q E → spD K cl sem vs H Q E := by
  rintro vs H Q E ⟨a, ns, rfl, hS, hl, q⟩
  obtain ⟨δ, hd⟩ := h ns hl
  refine ⟨fun _ => False, [none], [some (.dat (.scr ns))], ⟨rfl, rfl, fun i d e => ?_, fun i c e => ?_, fun i b e => ?_, fun i j b e => ?_, fun b z => z.elim⟩, ?_⟩
  · match i with
    | 0 =>
      simp at e
      subst e
      refine ⟨.ref a, rfl, .scr ?_⟩
      exact Le.sql (fun b o hb => hid_some hb fun z => z) hS
    | i + 1 => simp at e
  · match i with
    | 0 => simp at e
    | i + 1 => simp at e
  · match i with
    | 0 => simp at e
    | i + 1 => simp at e
  · match i with
    | 0 => simp at e
    | i + 1 => simp at e
  · rw [hd]
    intro v H' _ _ r
    cases r
    exact q H'
theorem fn_weak {P : Program} {w : World} {K : PySem.W.Frag} {mg : Str → Option Value} {base : Heap} {CX : CXT} {k : Nat} {f : Addr} {fd : FuncData} {ps : List Str} {sp sp' : Sp} (F : FnOk P w K mg base CX k f fd ps sp) (h : ∀ vs H Q E, sp' vs H Q E → sp vs H Q E) : FnOk P w K mg base CX k f fd ps sp' :=
  ⟨fun vs H Q E z => F.len vs H Q E (h _ _ _ _ z), fun A outer s H args us vs Q E r e b v z => F.run A outer s H args us vs Q E r e b v (h _ _ _ _ z)⟩
theorem law_walk {l : PySem.W.OpenLaw} {k : Nat} {q : Program} {loose : List Str} {XP : (Str → Option Value) → Heap → Prop} {YP : World → Heap → Prop} {d : DefRec} {K : Params → PySem.W.Frag} (hr : Room k callerA) (hn : l.most = some 63) (hdf : d.params.defaults = [])
    (hY : ∀ (w : World) (h : Heap), YP w h → (K w.params).In h)
    (F : ∀ (w : World) (mg : Str → Option Value) (fa : Addr) (h : Heap), (K w.params).In h → h.Ns mainGlobals mg → mg d.name = some (.ref fa) →
      ∃ fd : FuncData, (∀ (s : Shared) (u : Value), BindsTo s fd ⟨[u], []⟩ [("_law_script", u)]) ∧ ∀ base : Heap, (K w.params).In base → base.Ns mainGlobals mg → FnOk l.prog w (K w.params) mg base (L2.CX l.prog w) k fa fd ["_law_script"] (spLaw (K w.params))) :
    PySem.W.WalkO q loose XP YP l.row.toRowW d [] (fun f vs => PySem.call f vs) :=
  L2.walk_of (n := 63) (k := k) (x := "_law_script") (CX := fun w => L2.CX l.prog w) (sp := fun w => spLaw (K w.params)) hn (by decide) hdf hr hY F (fun _ _ a ns hl _ hS => ⟨a, ns, rfl, hS, hl, fun _ => rfl⟩)
    fun _ _ _ _ _ z => by
      obtain ⟨_, _, _, _, _, _, _, _, _, _, _, _, z⟩ := z
      exact z
/-- the text of an own error over HandError -/
theorem sup_mk {prog : Program} {K : PySem.W.Frag} {mg : Str → Option Value} {x f : Str} {C fI : Addr} {nm q : Str} {N : Addr} {bs bm : List Value} {sn : List Str} {sub : List Value} {ab : Bool} {col : Option Bool} {dd : Option Addr} {k0 k1 k2 k3 k5 : Option Value}
    {oc : Value} {od : Option Addr} {qual : Str} {params : Arguments} {scope : Scope} {dV kV doc pm : Value} {an : Option Addr} {cda cc : Addr} {ct : Value} {osl : Array (Option Value)} {p0 p1 p2 p3 p4 q1 q2 q3 q4 : Pos} {ar : Arg} {ccl : Value} {cdd : Option Addr} {vs : Array Value} {ccs : Array (Option Value)} {file : Str} {tf : Tok} {cl : Value} {cld : Option Addr} {csl : Array (Option Value)}
    (gC : mg x = some (.ref C)) (xd : (x == ("__debug__" : Str)) = false) (xL : K.lookup C = some (excClassObj nm q C N bs bm true sn sub ab col dd k0 k1 k2 k3 k5 "ValueError.__new__")) (hbm : PySem.HandSPX.refsVE bm = true)
    (sa : PySem.W.findIn K (.ref C) "__setattr__" = some (some (.builtin "object.__setattr__"))) (noN : PySem.W.findIn K (.ref C) f = some none) (iC : PySem.W.findIn K (.ref C) "__init__" = some (some (.ref fI))) (tC : PySem.W.typeIn K (.ref fI) = some (.type "function")) (kC : PySem.W.keepIn K (.ref C) = true)
    (exC : PySem.W.subIn K (.ref C) (.type "BaseException") = some true) (veC : PySem.W.subIn K (.ref C) (.type "ValueError") = some true) (tyC : PySem.W.typeIn K (.ref C) = some (.type "type")) (mr : PySem.W.mroIn K C (.ref C) = some true) (sup : mg "super" = none) (opq : PySem.W.nsIn K PySem.cStatics "thirdparty.any" = some none)
    (sIn : PySem.W.ks_superIn K C C "__init__" = some (some (.builtin "ValueError.__init__"))) (top : (prog.main.scope.names.lookup ("super" : Str)).isSome = false)
    (lI : K.lookup fI = some ⟨oc, od, .func (PySem.W.ksFn "__init__" qual params (PySem.SupX.sB f p0 p1 p2 p3 p4 q1 q2 q3 q4) scope dV kV doc pm an (.ref cda) ct cc), osl⟩) (cI : PySem.W.codeIn K (.ref cda) qual = true)
    (lD : K.lookup cda = some ⟨ccl, cdd, .fields vs, ccs⟩) (lV : vs[2]? = some (.str file tf)) (lF : ((prog.main.file : Str) == file) = true) (lC : K.lookup cc = some ⟨cl, cld, .cell (some (.ref C)), csl⟩)
    (hb : ∀ (s : Shared) (u v : Value), BindsTo s (PySem.W.ksFn "__init__" qual params (PySem.SupX.sB f p0 p1 p2 p3 p4 q1 q2 q3 q4) scope dV kV doc pm an (.ref cda) ct cc) ⟨[u, v], []⟩ [("self", u), (f, v)])
    (hp : (params.posonlyargs ++ params.args).head? = some ar) (har : ar.arg = "self") (s1 : scope.names.lookup ("super" : Str) = some .globalImplicit) (s2 : scope.names.lookup ("__class__" : Str) = some .free) (s3 : scope.names.lookup ("self" : Str) = some .local) (s4 : scope.names.lookup f = some .local)
    (s5 : scope.kind = .function) (s6 : scope.isCoroutine = false) (s7 : scope.isGenerator = false) (s8 : ∀ y ∈ scope.names, y.2 ≠ .cell) (s9 : f ≠ "self") (s10 : (f == ("__debug__" : Str)) = false)
    (hev : ∀ env : Env, ∃ pl : Sem Bool, eval (.Call (.Attribute (.Call (.Name "super" p0) [] [] p1) "__init__" p2) [] [] p3) env = (do
      let ov ← attributeBase (.Call (.Name "super" p0) [] [] p1) "__init__" env (eval (.Call (.Name "super" p0) [] [] p1) env)
      standAt p2.atName
      let (f, first) ← holding [ov] (getMethod ov "__init__" pl)
      callWith p3 f first (backTo p3 (starEach [] env)) [])) : PySem.SupX.SupTxt prog K mg x f C fI :=
  { gC := gC, xd := xd, cls := ⟨nm, q, N, bs, _, sn, sub, ab, col, dd, k0, k1, k2, k3, k5, xL, hbm⟩, sa := sa, noN := noN, iC := iC, tC := tC, kC := kC, exC := exC, veC := veC, tyC := tyC, mr := mr, sup := sup, opq := opq, sIn := sIn, top := top,
    fn := ⟨oc, od, qual, params, scope, dV, kV, doc, pm, an, cda, cc, ct, osl, p0, p1, p2, p3, p4, q1, q2, q3, q4, ar, ccl, cdd, vs, ccs, file, tf, cl, cld, csl, lI, cI, hb, hp, har, lD, lV, lF, lC, s1, s2, s3, s4, s5, s6, s7, s8, s9, s10, hev⟩ }
/-- the class that an except clause names, by the written part -/
theorem exm_of {K : PySem.W.Frag} {C D : Addr} {b : Bool} (h1 : PySem.W.subIn K (.ref D) (.type "BaseException") = some true) (h2 : PySem.W.isClsIn K D = true) (h3 : PySem.W.typeIn K (.ref D) = some (.type "type")) (h4 : PySem.W.subIn K (.ref C) (.ref D) = some b) :
    PySem.W.exmOne K (.ref C) (.ref D) = some b := by
  have e1 : (PySem.W.subIn K (.ref D) (.type "BaseException") == some true) = true := by rw [h1] <;> rfl
  have e2 : ((PySem.W.clsIn K D).isSome && PySem.W.typeIn K (.ref D) == some (.type "type")) = true := by
    have h2' : (PySem.W.clsIn K D).isSome = true := h2
    rw [h2', h3] <;> rfl
  show (if (PySem.W.subIn K (.ref D) (.type "BaseException") == some true) = true then (if ((PySem.W.clsIn K D).isSome && PySem.W.typeIn K (.ref D) == some (.type "type")) = true then PySem.W.subIn K (.ref C) (.ref D) else none) else none) = some b
  rw [if_pos e1, if_pos e2]
  exact h4
end PD

/-! PDm: words for the plain mathematics. -/
namespace PD
open PySem L2
section
variable {α β : Type} {a : α} {x : Exn} {δ : Sl}
@[simp] theorem bio {f : α → Sl → Re β} : (Re.ok a δ).bind f = f a δ := rfl
@[simp] theorem bix {f : α → Sl → Re β} : (Re.exc x δ : Re α).bind f = .exc x δ := rfl
@[simp] theorem flo {f : α → Sl → Fl} : (Re.ok a δ).fl f = f a δ := rfl
@[simp] theorem flx {f : α → Sl → Fl} : (Re.exc x δ : Re α).fl f = .exc x δ := rfl
@[simp] theorem opt_s : opt (some a) δ = .ok a δ := rfl
@[simp] theorem optF_s {f : α → Fl} : optF (some a) f = f a := rfl
@[simp] theorem seq_nx {f : Sl → Fl} : (Fl.nx δ).seq f = f δ := rfl
@[simp] theorem seq_rt {d : Dt} {f : Sl → Fl} : (Fl.rt d δ).seq f = .rt d δ := rfl
@[simp] theorem seq_rf {d : List Dt} {f : Sl → Fl} : (Fl.rf d δ).seq f = .rf d δ := rfl
@[simp] theorem seq_exc {f : Sl → Fl} : (Fl.exc x δ).seq f = .exc x δ := rfl
@[simp] theorem seq_bk {f : Sl → Fl} : (Fl.bk δ).seq f = .bk δ := rfl
@[simp] theorem seq_ct {f : Sl → Fl} : (Fl.ct δ).seq f = .ct δ := rfl
@[simp] theorem frz_nil : frz [] δ = δ := by
  refine List.ext_getElem? fun i => ?_
  rw [frz_get]
  simp
end
/-- f, called with these data, gives r -/
def Gives (ε : Ev) (f : Str) (ds : List Dt) (r : Dt) : Prop := ∃ sem, ε.fn f = some sem ∧ ∃ xs, sem (ds.map fun d => some (.dat d)) = .ok r xs
theorem argS_vals {δ : Sl} : ∀ ds : List Dt, argS δ (ds.map .val) = some (ds.map fun d => some (.dat d))
  | [] => rfl
  | d :: ds => by
    show (argS δ (ds.map .val)).map _ = _
    rw [argS_vals ds]; rfl
theorem slots_vals : ∀ ds : List Dt, slotsOf (ds.map .val) = []
  | [] => rfl
  | d :: ds => slots_vals ds
theorem back_vals {δ : Sl} : ∀ (ds : List Dt) (xs : Sl), backS (ds.map .val) xs δ = δ
  | [], _ => by cases ‹Sl› <;> rfl
  | d :: ds, [] => rfl
  | d :: ds, x :: xs => back_vals ds xs
theorem gives_call {ε : Ev} {f : Str} {ds : List Dt} {r : Dt} {as : Ia} {δ δ1 : Sl} (h : Gives ε f ds r) (ha : evIa ε.fn as δ = .ok (ds.map .val) δ1) : evIe ε.fn (.call f as) δ = .ok r δ1 := by
  obtain ⟨sem, h1, xs, h2⟩ := h
  rw [evIe, h1]
  dsimp only
  rw [ha]
  show callD sem (ds.map .val) δ1 = _
  unfold callD
  rw [slots_vals, if_pos List.nodup_nil, argS_vals]
  dsimp only
  rw [h2]
  dsimp only
  rw [back_vals]
/-- a comprehension whose parts change nothing -/
theorem lc_map {ifs : Sl → Re Bool} {elt : Sl → Re Dt} {t : Tg} {vs : List Nat} {δ : Sl} {p : Dt → Bool} {F : Dt → Dt} : ∀ {ds : List Dt},
    (∀ d ∈ ds, ∃ δ0, putT t d (wipeS δ vs) = some δ0 ∧ ifs δ0 = .ok (p d) δ0 ∧ (p d = true → elt δ0 = .ok (F d) δ0) ∧ keepS vs δ δ0 = δ) → evLc ifs elt t vs ds δ = .ok ((ds.filter p).map F) δ
  | [], _ => rfl
  | d :: ds, h => by
    obtain ⟨δ0, h1, h2, h3, h4⟩ := h d List.mem_cons_self
    have ih := lc_map (ds := ds) fun e he => h e (List.mem_cons_of_mem _ he)
    unfold evLc
    rw [h1]
    dsimp only
    rw [h2]
    cases hp : p d with
    | true =>
      dsimp only
      rw [h3 hp]
      dsimp only
      rw [h4, ih, List.filter_cons_of_pos hp]
      rfl
    | false =>
      dsimp only
      rw [h4, ih, List.filter_cons_of_neg (by rw [hp]; decide)]
theorem lc_all {ifs : Sl → Re Bool} {elt : Sl → Re Dt} {t : Tg} {vs : List Nat} {δ : Sl} {F : Dt → Dt} {ds : List Dt}
    (h : ∀ d ∈ ds, ∃ δ0, putT t d (wipeS δ vs) = some δ0 ∧ ifs δ0 = .ok true δ0 ∧ elt δ0 = .ok (F d) δ0 ∧ keepS vs δ δ0 = δ) : evLc ifs elt t vs ds δ = .ok (ds.map F) δ := by
  have := lc_map (ifs := ifs) (elt := elt) (t := t) (vs := vs) (δ := δ) (p := fun _ => true) (F := F) (ds := ds) fun d hd => by
    obtain ⟨δ0, h1, h2, h3, h4⟩ := h d hd
    exact ⟨δ0, h1, h2, fun _ => h3, h4⟩
  rw [this, List.filter_eq_self.mpr fun _ _ => rfl]
theorem lc_flat {ifs : Sl → Re Bool} {it1 : Sl → Re (List Dt)} {ifs1 : Sl → Re Bool} {elt : Sl → Re Dt} {t t1 : Tg} {vs : List Nat} {δ : Sl} {G : Dt → List Dt} : ∀ {ds : List Dt},
    (∀ d ∈ ds, ∃ δ0 ds1 δ2, putT t d (wipeS δ vs) = some δ0 ∧ ifs δ0 = .ok true δ0 ∧ it1 δ0 = .ok ds1 δ0 ∧ evLc ifs1 elt t1 (tgSlots t1) ds1 δ0 = .ok (G d) δ2 ∧ keepS vs δ δ2 = δ) → evLc2 ifs it1 ifs1 elt t t1 vs ds δ = .ok (ds.flatMap G) δ
  | [], _ => rfl
  | d :: ds, h => by
    obtain ⟨δ0, ds1, δ2, h1, h2, h3, h4, h5⟩ := h d List.mem_cons_self
    have ih := lc_flat (ds := ds) fun e he => h e (List.mem_cons_of_mem _ he)
    unfold evLc2
    rw [h1]
    dsimp only
    rw [h2]
    dsimp only
    rw [h3]
    dsimp only
    rw [h4]
    dsimp only
    rw [h5, ih, List.flatMap_cons]
    rfl
theorem blsD_map {ds : List Dt} {F : Dt → Bool} : blsD (ds.map fun d => .bl (F d)) = some (ds.map F) := by
  induction ds with
  | nil => rfl
  | cons d ds ih => show (blsD (ds.map fun d => Dt.bl (F d))).map _ = _; rw [ih]; rfl
theorem intsD_map {α : Type} {ds : List α} {F : α → Int} : intsD (ds.map fun d => .int (F d)) = some (ds.map F) := by
  induction ds with
  | nil => rfl
  | cons d ds ih => show (intsD (ds.map fun d => Dt.int (F d))).map _ = _; rw [ih]; rfl
end PD

/-! PDn: the steps of the evaluators, with names for what follows. -/
namespace PD
open PySem L2
section
variable (fn : Fn)
@[simp] def kB2 (op : Operator) (x y : Dt) (δ : Sl) : Re Dt := opt (binD op x y) δ
@[simp] def kB1 (op : Operator) (b : Ie) (x : Dt) (δ : Sl) : Re Dt := (evIe fn b δ).bind (kB2 op x)
@[simp] def kNot (x : Dt) (δ : Sl) : Re Dt := match x with | .bl b => .ok (.bl (!b)) δ | _ => .bad
@[simp] def kNeg (x : Dt) (δ : Sl) : Re Dt := match x with | .int i => .ok (.int (-i)) δ | _ => .bad
def kAnd (b : Ie) (x : Dt) (δ : Sl) : Re Dt := match x with | .bl true => evIe fn b δ | .bl false => .ok (.bl false) δ | _ => .bad
def kOr (b : Ie) (x : Dt) (δ : Sl) : Re Dt := match x with | .bl true => .ok (.bl true) δ | .bl false => evIe fn b δ | _ => .bad
@[simp] def kC2 (op : CmpOp) (x y : Dt) (δ : Sl) : Re Dt := opt ((cmpD op x y).map .bl) δ
@[simp] def kC1 (op : CmpOp) (b : Ie) (x : Dt) (δ : Sl) : Re Dt := (evIe fn b δ).bind (kC2 op x)
def kH3 (op' : CmpOp) (c : Ie) (y : Dt) (δ : Sl) (o : Option Bool) : Re Dt := match o with
  | some true => (evIe fn c δ).bind (kC2 op' y)
  | some false => .ok (.bl false) δ
  | none => .bad
@[simp] def kH2 (op op' : CmpOp) (c : Ie) (x y : Dt) (δ : Sl) : Re Dt := kH3 fn op' c y δ (cmpD op x y)
@[simp] def kH1 (op op' : CmpOp) (b c : Ie) (x : Dt) (δ : Sl) : Re Dt := (evIe fn b δ).bind (kH2 fn op op' c x)
@[simp] def kIte (a b : Ie) (t : Bool) (δ : Sl) : Re Dt := if t then evIe fn a δ else evIe fn b δ
@[simp] def kTup (rs : List Ar) (δ : Sl) : Re Dt := match valsOf rs with | some ds => if ds.length ≤ LIM then .ok (.tup ds) δ else .bad | none => .bad
@[simp] def kLst (rs : List Ar) (δ : Sl) : Re Dt := match valsOf rs with | some ds => if ds.length ≤ LIM then .ok (.lst ds) δ else .bad | none => .bad
@[simp] def kS3 (x : Dt) (l h : Option Int) (δ : Sl) : Re Dt := opt (slD x l h) δ
@[simp] def kS2 (hi : Io) (x : Dt) (l : Option Int) (δ : Sl) : Re Dt := (evIo fn hi δ).bind (kS3 x l)
@[simp] def kS1 (lo hi : Io) (x : Dt) (δ : Sl) : Re Dt := (evIo fn lo δ).bind (kS2 fn hi x)
@[simp] def kX2 (x : Ar) (y : Dt) (δ : Sl) : Re Dt := match x with
  | .val d => opt (ixD d y) δ
  | .slot k => match getS δ k, y with
    | some (.own c), .int j => opt (atI c j) δ
    | _, _ => .bad
@[simp] def kX1 (i : Ie) (x : Ar) (δ : Sl) : Re Dt := (evIe fn i δ).bind (kX2 x)
@[simp] def kBlt (f : Str) (rs : List Ar) (δ : Sl) : Re Dt := match valsOf rs with | some ds => opt (bltD f ds) δ | none => .bad
@[simp] def kIsi (t : String) (d : Dt) (δ : Sl) : Re Dt := opt ((isiD d t).map .bl) δ
@[simp] def kJoin (s : Str) (d : Dt) (δ : Sl) : Re Dt := opt (joinD s d) δ
@[simp] def kLs (ys : List Dt) (δ : Sl) : Re Dt := if ys.length ≤ LIM then .ok (.lst ys) δ else .bad
@[simp] def kLc (t : Tg) (vs : List Nat) (c : It) (e : Ie) (ds : List Dt) (δ : Sl) : Re Dt := (evLc (evIt fn c) (evIe fn e) t vs ds δ).bind kLs
@[simp] def kLc2 (t t1 : Tg) (vs : List Nat) (c : It) (it1 : Ii) (c1 : It) (e : Ie) (ds : List Dt) (δ : Sl) : Re Dt := (evLc2 (evIt fn c) (evIi fn it1) (evIt fn c1) (evIe fn e) t t1 vs ds δ).bind kLs
@[simp] def kTn (t : Bool) (δ : Sl) : Re Bool := .ok (!t) δ
@[simp] def kTa (b : It) (x : Bool) (δ : Sl) : Re Bool := if x then evIt fn b δ else .ok false δ
@[simp] def kTo (b : It) (x : Bool) (δ : Sl) : Re Bool := if x then .ok true δ else evIt fn b δ
@[simp] def kD2 (op : CmpOp) (x y : Dt) (δ : Sl) : Re Bool := opt (cmpD op x y) δ
@[simp] def kD1 (op : CmpOp) (b : Ie) (x : Dt) (δ : Sl) : Re Bool := (evIe fn b δ).bind (kD2 op x)
def kG3 (op' : CmpOp) (c : Ie) (y : Dt) (δ : Sl) (o : Option Bool) : Re Bool := match o with
  | some true => (evIe fn c δ).bind (kD2 op' y)
  | some false => .ok false δ
  | none => .bad
@[simp] def kG2 (op op' : CmpOp) (c : Ie) (x y : Dt) (δ : Sl) : Re Bool := kG3 fn op' c y δ (cmpD op x y)
@[simp] def kG1 (op op' : CmpOp) (b c : Ie) (x : Dt) (δ : Sl) : Re Bool := (evIe fn b δ).bind (kG2 fn op op' c x)
@[simp] def kTr (x : Dt) (δ : Sl) : Re Bool := opt (truD x) δ
@[simp] def kR1 (rs : List Ar) (δ : Sl) : Re (List Dt) := match rs with | [.val (.int j)] => if -100000 ≤ j ∧ j ≤ 100000 then .ok (rangeD 0 j.toNat) δ else .bad | _ => .bad
@[simp] def kR2 (rs : List Ar) (δ : Sl) : Re (List Dt) := match rs with
    | [.val (.int i), .val (.int j)] => if -100000 ≤ i ∧ i ≤ 100000 ∧ -100000 ≤ j ∧ j ≤ 100000 then .ok (rangeD i (j - i).toNat) δ else .bad
    | _ => .bad
@[simp] def kSq (d : Dt) (δ : Sl) : Re (List Dt) := opt (itemsD d) δ
@[simp] def kVal (d : Dt) (δ : Sl) : Re Ar := .ok (.val d) δ
@[simp] def kA2 (x : Ar) (xs : List Ar) (δ : Sl) : Re (List Ar) := .ok (x :: xs) δ
@[simp] def kA1 (r : Ia) (x : Ar) (δ : Sl) : Re (List Ar) := (evIa fn r δ).bind (kA2 x)
@[simp] def kO (y : Dt) (δ : Sl) : Re (Option Int) := match y with | .int i => .ok (some i) δ | _ => .bad
end
section
variable {fn : Fn} {δ : Sl}
@[simp] theorem kAnd_b {b : Ie} {t : Bool} : kAnd fn b (.bl t) δ = if t = true then evIe fn b δ else .ok (.bl false) δ := by cases t <;> rfl
@[simp] theorem kOr_b {b : Ie} {t : Bool} : kOr fn b (.bl t) δ = if t = true then .ok (.bl true) δ else evIe fn b δ := by cases t <;> rfl
@[simp] theorem kH3_b {op : CmpOp} {c : Ie} {y : Dt} {t : Bool} : kH3 fn op c y δ (some t) = if t = true then (evIe fn c δ).bind (kC2 op y) else .ok (.bl false) δ := by cases t <;> rfl
@[simp] theorem kG3_b {op : CmpOp} {c : Ie} {y : Dt} {t : Bool} : kG3 fn op c y δ (some t) = if t = true then (evIe fn c δ).bind (kD2 op y) else .ok false δ := by cases t <;> rfl
section
variable {α β : Type} {c : Prop} [Decidable c]
@[simp] theorem ite_bi {a b : Re α} {f : α → Sl → Re β} : (if c then a else b).bind f = if c then a.bind f else b.bind f := by split <;> rfl
@[simp] theorem ite_fl {a b : Re α} {f : α → Sl → Fl} : (if c then a else b).fl f = if c then a.fl f else b.fl f := by split <;> rfl
@[simp] theorem ite_sq {a b : Fl} {f : Sl → Fl} : (if c then a else b).seq f = if c then a.seq f else b.seq f := by split <;> rfl
end
@[simp] theorem x_var {i : Nat} : evIe fn (.var i) δ = match getS δ i with | some (.dat d) => .ok d δ | _ => .bad := by rw [evIe]; try rfl
@[simp] theorem x_con {d : Dt} : evIe fn (.con d) δ = .ok d δ := by rw [evIe]
@[simp] theorem x_bin {op : Operator} {a b : Ie} : evIe fn (.bin op a b) δ = (evIe fn a δ).bind (kB1 fn op b) := by rw [evIe]; rfl
@[simp] theorem x_not {a : Ie} : evIe fn (.not a) δ = (evIe fn a δ).bind kNot := by rw [evIe]; rfl
@[simp] theorem x_neg {a : Ie} : evIe fn (.neg a) δ = (evIe fn a δ).bind kNeg := by rw [evIe]; rfl
@[simp] theorem x_and {a b : Ie} : evIe fn (.and a b) δ = (evIe fn a δ).bind (kAnd fn b) := by rw [evIe]; rfl
@[simp] theorem x_or {a b : Ie} : evIe fn (.or a b) δ = (evIe fn a δ).bind (kOr fn b) := by rw [evIe]; rfl
@[simp] theorem x_cmp {op : CmpOp} {a b : Ie} : evIe fn (.cmp op a b) δ = (evIe fn a δ).bind (kC1 fn op b) := by rw [evIe]; rfl
@[simp] theorem x_chain {op op' : CmpOp} {a b c : Ie} : evIe fn (.chain op op' a b c) δ = (evIe fn a δ).bind (kH1 fn op op' b c) := by rw [evIe]; rfl
@[simp] theorem x_ite {c : It} {a b : Ie} : evIe fn (.ite c a b) δ = (evIt fn c δ).bind (kIte fn a b) := by rw [evIe]; rfl
@[simp] theorem x_tup {as : Ia} : evIe fn (.tup as) δ = (evIa fn as δ).bind kTup := by rw [evIe]; rfl
@[simp] theorem x_lst {as : Ia} : evIe fn (.lst as) δ = (evIa fn as δ).bind kLst := by rw [evIe]; rfl
@[simp] theorem x_slc {a : Ie} {lo hi : Io} : evIe fn (.slc a lo hi) δ = (evIe fn a δ).bind (kS1 fn lo hi) := by rw [evIe]; rfl
@[simp] theorem x_ix {o : Option Nat} {a i : Ie} : evIe fn (.ix o a i) δ = (arI o δ (evIe fn a δ)).bind (kX1 fn i) := by rw [evIe]; rfl
@[simp] theorem x_blt {f : Str} {as : Ia} : evIe fn (.blt f as) δ = (evIa fn as δ).bind (kBlt f) := by rw [evIe]; rfl
@[simp] theorem x_isi {a : Ie} {t : String} : evIe fn (.isi a t) δ = (evIe fn a δ).bind (kIsi t) := by rw [evIe]; rfl
@[simp] theorem x_join {s : Str} {a : Ie} : evIe fn (.join s a) δ = (evIe fn a δ).bind (kJoin s) := by rw [evIe]; rfl
@[simp] theorem x_call {f : Str} {as : Ia} {sem : Sl → Re Dt} (h : fn f = some sem) : evIe fn (.call f as) δ = (evIa fn as δ).bind (callD sem) := by rw [evIe, h]
@[simp] theorem x_comp {t : Tg} {vs : List Nat} {it : Ii} {c : It} {e : Ie} : evIe fn (.comp t vs it c e) δ = if vs.any (isownS δ) then .bad else (evIi fn it δ).bind (kLc fn t vs c e) := by rw [evIe]; rfl
@[simp] theorem x_comp2 {t t1 : Tg} {vs : List Nat} {it it1 : Ii} {c c1 : It} {e : Ie} : evIe fn (.comp2 t t1 vs it c it1 c1 e) δ = if vs.any (isownS δ) then .bad else (evIi fn it δ).bind (kLc2 fn t t1 vs c it1 c1 e) := by rw [evIe]; rfl
@[simp] theorem y_yes : evIt fn .yes δ = .ok true δ := by rw [evIt]
@[simp] theorem y_not {a : It} : evIt fn (.not a) δ = (evIt fn a δ).bind kTn := by rw [evIt]; rfl
@[simp] theorem y_and {a b : It} : evIt fn (.and a b) δ = (evIt fn a δ).bind (kTa fn b) := by rw [evIt]; rfl
@[simp] theorem y_or {a b : It} : evIt fn (.or a b) δ = (evIt fn a δ).bind (kTo fn b) := by rw [evIt]; rfl
@[simp] theorem y_cmp {op : CmpOp} {a b : Ie} : evIt fn (.cmp op a b) δ = (evIe fn a δ).bind (kD1 fn op b) := by rw [evIt]; rfl
@[simp] theorem y_chain {op op' : CmpOp} {a b c : Ie} : evIt fn (.chain op op' a b c) δ = (evIe fn a δ).bind (kG1 fn op op' b c) := by rw [evIt]; rfl
@[simp] theorem y_tru {a : Ie} : evIt fn (.tru a) δ = (evIe fn a δ).bind kTr := by rw [evIt]; rfl
@[simp] theorem z_r1 {as : Ia} : evIi fn (.rng1 as) δ = (evIa fn as δ).bind kR1 := by rw [evIi]; rfl
@[simp] theorem z_r2 {as : Ia} : evIi fn (.rng2 as) δ = (evIa fn as δ).bind kR2 := by rw [evIi]; rfl
@[simp] theorem z_seq {a : Ie} : evIi fn (.seq a) δ = (evIe fn a δ).bind kSq := by rw [evIi]; rfl
@[simp] theorem a_nil : evIa fn .nil δ = .ok [] δ := by rw [evIa]
@[simp] theorem a_cons {o : Option Nat} {a : Ie} {r : Ia} : evIa fn (.cons o a r) δ = (arI o δ (evIe fn a δ)).bind (kA1 fn r) := by rw [evIa]; rfl
@[simp] theorem ar_none {r : Re Dt} : arI none δ r = r.bind kVal := rfl
@[simp] theorem ar_some {i : Nat} {r : Re Dt} : arI (some i) δ r = if isownS δ i = true then .ok (.slot i) δ else r.bind kVal := by
  unfold arI
  dsimp only
  cases isownS δ i <;> rfl
@[simp] theorem o_none : evIo fn .none δ = .ok none δ := by rw [evIo]
@[simp] theorem o_some {a : Ie} : evIo fn (.some a) δ = (evIe fn a δ).bind kO := by rw [evIo]; rfl
@[simp] theorem getS_0 {x : Option Dv} {l : Sl} : getS (x :: l) 0 = x := by cases x <;> rfl
@[simp] theorem getS_s {x : Option Dv} {l : Sl} {n : Nat} : getS (x :: l) (n + 1) = getS l n := rfl
end
/-! ### statements -/
section
variable (ε : Ev) (ow : List Nat)
@[simp] def kRt (d : Dt) (δ : Sl) : Fl := .rt d δ
@[simp] def kRf2 (x y : Dt) (δ : Sl) : Fl := match x, y with
      | .lst xs, .lst ys => if xs.length + ys.length ≤ LIM then .rf (xs ++ ys) δ else .bad
      | _, _ => .bad
@[simp] def kRf1 (b : Ie) (x : Dt) (δ : Sl) : Fl := (evIe ε.fn b δ).fl (kRf2 x)
@[simp] def kApp (i : Nat) (rs : List Ar) (δ : Sl) : Fl := match rs, getS δ i with
      | [.val d], some (.own c) => if c.length < LIM then .nx (δ.set i (some (.own (c ++ [d])))) else .bad
      | _, _ => .bad
@[simp] def kDrop (_ : Dt) (δ : Sl) : Fl := .nx δ
@[simp] def kSet (t : Tg) (d : Dt) (δ : Sl) : Fl := optF (putT t d δ) .nx
@[simp] def kOwn (i : Nat) (_ : Dt) (δ : Sl) : Fl := .nx (δ.set i (some (.own [])))
@[simp] def kFr2 (i : Nat) (c : List Dt) (δ : Sl) : Fl := if i ∈ ow ∧ i < δ.length then .nx (δ.set i (some (.own c))) else .bad
@[simp] def kFr (i : Nat) (sem : Sl → Re (List Dt)) (rs : List Ar) (δ : Sl) : Fl := (callD sem rs δ).fl (kFr2 ow i)
@[simp] def kPar2 (is : List Nat) (δ : Sl) (ds : List Dt) : Fl := optF (setAll is ds δ) .nx
@[simp] def kPar (is : List Nat) (rs : List Ar) (δ : Sl) : Fl := optF (valsOf rs) (kPar2 is δ)
@[simp] def kSub2 (i : Nat) (d y : Dt) (δ : Sl) : Fl := match y, getS δ i with
      | .int j, some (.own c) => match ixN c.length j with
        | some q => .nx (δ.set i (some (.own (c.set q d))))
        | none => .bad
      | _, _ => .bad
@[simp] def kSub (i : Nat) (j : Ie) (d : Dt) (δ : Sl) : Fl := if isownS δ i then (evIe ε.fn j δ).fl (kSub2 i d) else .bad
@[simp] def kIf (a b : Iss) (t : Bool) (δ : Sl) : Fl := if t then evIss ε ow a δ else evIss ε ow b δ
@[simp] def kFor (t : Tg) (b : Iss) (ds : List Dt) (δ : Sl) : Fl := evFor (putT t) (evIss ε ow b) ds δ
@[simp] def kRs2 (x : Str) (k : Nat) (δ : Sl) (ds : List Dt) : Fl := if ds.length = k then .exc ⟨x, ds⟩ δ else .bad
@[simp] def kRs (x : Str) (k : Nat) (rs : List Ar) (δ : Sl) : Fl := optF (valsOf rs) (kRs2 x k δ)
@[simp] def kTri (x : Str) (i : Nat) (h : Ih) (y : Exn) (δ : Sl) : Fl := catchF (ε.xs y.cls x) (fun δ => evIh ε y δ h) ow i y δ
end
section
variable {ε : Ev} {ow : List Nat} {δ : Sl}
@[simp] theorem s_retN : evIs ε ow .retN δ = .rt .non δ := by rw [evIs]
@[simp] theorem s_ret {e : Ie} : evIs ε ow (.ret e) δ = (evIe ε.fn e (frz ow δ)).fl kRt := by rw [evIs]; rfl
@[simp] theorem s_retF {a b : Ie} : evIs ε ow (.retF a b) δ = (evIe ε.fn a (frz ow δ)).fl (kRf1 ε b) := by rw [evIs]; rfl
@[simp] theorem s_nop : evIs ε ow .nop δ = .nx δ := by rw [evIs]
@[simp] theorem s_app {i : Nat} {as : Ia} : evIs ε ow (.app i as) δ = if isownS δ i then (evIa ε.fn as δ).fl (kApp i) else .bad := by rw [evIs]; rfl
@[simp] theorem s_call {e : Ie} : evIs ε ow (.call e) δ = (evIe ε.fn e δ).fl kDrop := by rw [evIs]; rfl
@[simp] theorem s_set {t : Tg} {e : Ie} : evIs ε ow (.set t e) δ = (evIe ε.fn e δ).fl (kSet t) := by rw [evIs]; rfl
@[simp] theorem s_own {i : Nat} {e : Ie} : evIs ε ow (.own i e) δ = if i < δ.length then (evIe ε.fn e δ).fl (kOwn i) else (evIe ε.fn e δ).fl (kSet (.name i)) := by rw [evIs]; rfl
@[simp] theorem s_fresh {i : Nat} {f : Str} {as : Ia} {sem : Sl → Re (List Dt)} (h : ε.fr f = some sem) : evIs ε ow (.fresh i f as) δ = (evIa ε.fn as δ).fl (kFr ow i sem) := by rw [evIs, h]; rfl
@[simp] theorem s_par {is : List Nat} {as : Ia} : evIs ε ow (.par is as) δ = (evIa ε.fn as δ).fl (kPar is) := by rw [evIs]; rfl
@[simp] theorem s_sub {i : Nat} {j e : Ie} : evIs ε ow (.sub i j e) δ = (evIe ε.fn e δ).fl (kSub ε i j) := by rw [evIs]; rfl
@[simp] theorem s_ite {c : It} {a b : Iss} : evIs ε ow (.ite c a b) δ = (evIt ε.fn c δ).fl (kIf ε ow a b) := by rw [evIs]; rfl
@[simp] theorem s_for {t : Tg} {it : Ii} {b : Iss} : evIs ε ow (.for t it b) δ = (evIi ε.fn it δ).fl (kFor ε ow t b) := by rw [evIs]; rfl
@[simp] theorem s_wh {c : It} {b : Iss} : evIs ε ow (.wh c b) δ = evWh (evIt ε.fn c) (evIss ε ow b) FUEL δ := by rw [evIs]
@[simp] theorem s_raise {x : Str} {k : Nat} {as : Ia} : evIs ε ow (.raise x k as) δ = (evIa ε.fn as δ).fl (kRs x k) := by rw [evIs]; rfl
@[simp] theorem s_tri {x : Str} {i : Nat} {b : Iss} {h : Ih} : evIs ε ow (.tri x i b h) δ = (evIss ε ow b δ).try (kTri ε ow x i h) := by rw [evIs]; rfl
@[simp] theorem ss_nil : evIss ε ow .nil δ = .nx δ := by rw [evIss]
@[simp] theorem ss_cons {s : Is} {r : Iss} : evIss ε ow (.cons s r) δ = (evIs ε ow s δ).seq (evIss ε ow r) := by rw [evIss]
end
end PD


/-! K1a: data that are laid whole; comparisons. -/
namespace PD
open PySem L2
open PyData (strOk)
/-- a datum of depth at most n, of plain kinds -/
def okd : Nat → Dt → Bool
  | _, .non => true
  | _, .bl _ => true
  | _, .int _ => true
  | _, .str s => strOk s && decide (s.length ≤ LIM)
  | n + 1, .lst xs => xs.all (okd n)
  | n + 1, .tup xs => xs.all (okd n)
  | _, _ => false
theorem okd_up {n : Nat} : ∀ {d : Dt}, okd n d = true → okd (n + 1) d = true := by
  induction n with
  | zero => intro d h; cases d <;> simp_all [okd]
  | succ n ih => intro d h; cases d <;> simp_all [okd] <;> (intro x hx; exact ih (h x hx))
theorem okd_le {n m : Nat} (h : n ≤ m) {d : Dt} (k : okd n d = true) : okd m d = true := by
  induction h with
  | refl => exact k
  | step _ ih => exact okd_up ih
theorem toPys_of {n : Nat} (ih : ∀ {d : Dt}, okd n d = true → ∃ x, toPy d = some x ∧ x.canLay0 = true ∧ x.depth ≤ n + 1) : ∀ {xs : List Dt}, (∀ x ∈ xs, okd n x = true) →
    ∃ ys, toPys xs = some ys ∧ PyData.canLayAll0 ys = true ∧ PyData.depthAll ys ≤ n + 1
  | [], _ => ⟨[], rfl, rfl, by simp [PyData.depthAll]⟩
  | d :: ds, h => by
    obtain ⟨x, h1, h2, h3⟩ := ih (h d List.mem_cons_self)
    obtain ⟨ys, k1, k2, k3⟩ := toPys_of ih fun e he => h e (List.mem_cons_of_mem _ he)
    refine ⟨x :: ys, by simp [toPys, h1, k1], by simp [PyData.canLayAll0, h2, k2], ?_⟩
    simp [PyData.depthAll]; omega
theorem okd_py {n : Nat} : ∀ {d : Dt}, okd n d = true → ∃ x, toPy d = some x ∧ x.canLay0 = true ∧ x.depth ≤ n + 1 := by
  induction n with
  | zero => intro d h; cases d <;> simp_all [okd, toPy, PyData.canLay0, PyData.depth]
  | succ n ih =>
    intro d h
    cases d
    case lst xs =>
      simp only [okd, List.all_eq_true] at h
      obtain ⟨ys, k1, k2, k3⟩ := toPys_of ih h
      exact ⟨.list ys, by simp [toPy, k1], by simpa [PyData.canLay0] using k2, by simp [PyData.depth]; omega⟩
    case tup xs =>
      simp only [okd, List.all_eq_true] at h
      obtain ⟨ys, k1, k2, k3⟩ := toPys_of ih h
      exact ⟨.tuple ys, by simp [toPy, k1], by simpa [PyData.canLay0] using k2, by simp [PyData.depth]; omega⟩
    all_goals simp_all [okd, toPy, PyData.canLay0, PyData.depth]
theorem eq_self {n : Nat} {d : Dt} (h : okd n d = true) (hn : n ≤ 180) : eqD d d = some true := by
  obtain ⟨x, h1, h2, h3⟩ := okd_py h
  have : x.depth ≤ 190 := by omega
  simp [eqD, h1, h2, this, PySem.SeqAt.eqv_refl x h2]
@[simp] theorem eq_str {a b : Str} (ha : strOk a = true) (hb : strOk b = true) : eqD (.str a) (.str b) = some (decide (a = b)) := by
  simp [eqD, toPy, PyData.canLay0, ha, hb, PyData.depth, PyData.eqv]
  by_cases h : a = b <;> simp [h]
@[simp] theorem eq_int {a b : Int} : eqD (.int a) (.int b) = some (decide (a = b)) := by
  simp [eqD, toPy, PyData.canLay0, PyData.depth, PyData.eqv]
  by_cases h : a = b <;> simp [h]
@[simp] theorem eq_bl {a b : Bool} : eqD (.bl a) (.bl b) = some (decide (a = b)) := by
  cases a <;> cases b <;> simp [eqD, toPy, PyData.canLay0, PyData.depth, PyData.eqv]
theorem eq_nil {n : Nat} {xs : List Dt} (h : ∀ x ∈ xs, okd n x = true) : eqD (.lst xs) (.lst []) = some (decide (xs = [])) := by
  obtain ⟨x, h1, h2, h3⟩ := okd_py (n := n + 1) (d := .lst xs) (by simpa [okd] using h)
  simp only [toPy, Option.map_eq_some_iff] at h1
  obtain ⟨ys, h1, rfl⟩ := h1
  have e1 : toPy (.lst xs) = some (.list ys) := by simp [toPy, h1]
  have e2 : toPy (.lst []) = some (.list []) := by simp [toPy, toPys]
  have e3 : (PyData.list []).canLay0 = true := by simp [PyData.canLay0, PyData.canLayAll0]
  have e4 : (PyData.list []).depth ≤ 190 := by simp [PyData.depth, PyData.depthAll]
  simp only [eqD, e1, e2, Option.bind_some, h2, e3, true_and]
  rw [if_pos (by omega)]
  cases xs with
  | nil => simp [toPys] at h1; subst h1; simp [PyData.eqv, PyData.eqvAll]
  | cons d ds =>
    simp only [toPys, Option.bind_eq_some_iff, Option.map_eq_some_iff] at h1
    obtain ⟨u, _, v, _, rfl⟩ := h1
    simp [PyData.eqv, PyData.eqvAll]
end PD

/-! PDo: further words for the plain mathematics. -/
namespace PD
open PySem L2
open PyData (strOk)
/-- what follows a call -/
def kBack {α : Type} (rs : List Ar) (δ : Sl) : Re α → Re α
  | .ok d xs => .ok d (backS rs xs δ)
  | .exc x xs => .exc x (backS rs xs δ)
  | .bad => .bad
section
variable {α : Type} {rs : List Ar} {δ : Sl} {sem : Sl → Re α} {d : α} {x : Exn} {xs : Sl}
@[simp] theorem kBack_ok : kBack rs δ (.ok d xs) = .ok d (backS rs xs δ) := rfl
@[simp] theorem kBack_exc : kBack rs δ (.exc x xs : Re α) = .exc x (backS rs xs δ) := rfl
def kSem {α : Type} (sem : Sl → Re α) (rs : List Ar) (δ : Sl) : Option Sl → Re α
  | none => .bad
  | some xs => kBack rs δ (sem xs)
@[simp] theorem kSem_s : kSem sem rs δ (some xs) = kBack rs δ (sem xs) := rfl
@[simp] theorem callD_eq : callD sem rs δ = if (slotsOf rs).Nodup then kSem sem rs δ (argS δ rs) else .bad := by
  unfold callD
  split
  · cases argS δ rs with
    | none => rfl
    | some ys =>
      dsimp only [kSem]
      cases sem ys <;> rfl
  · rfl
end
section
variable {δ xs : Sl} {r : List Ar} {d : Dt} {i : Nat} {x y : Option Dv} {c : List Dt}
@[simp] theorem slotsOf_n : slotsOf [] = [] := rfl
@[simp] theorem slotsOf_v : slotsOf (.val d :: r) = slotsOf r := rfl
@[simp] theorem slotsOf_s : slotsOf (.slot i :: r) = i :: slotsOf r := rfl
@[simp] theorem argS_n : argS δ [] = some [] := rfl
@[simp] theorem argS_v : argS δ (.val d :: r) = (argS δ r).map (some (.dat d) :: ·) := rfl
@[simp] theorem argS_s (h : getS δ i = some (.own c)) : argS δ (.slot i :: r) = (argS δ r).map (some (.own c) :: ·) := by simp [argS, h]
@[simp] theorem backS_n : backS [] xs δ = δ := by cases xs <;> rfl
@[simp] theorem backS_v : backS (.val d :: r) (x :: xs) δ = backS r xs δ := rfl
@[simp] theorem backS_s : backS (.slot i :: r) (x :: xs) δ = (backS r xs δ).set i x := rfl
@[simp] theorem valsOf_n : valsOf [] = some [] := rfl
@[simp] theorem valsOf_v : valsOf (.val d :: r) = (valsOf r).map (d :: ·) := rfl
@[simp] theorem mergeP_n : mergeP [] δ = [] := rfl
@[simp] theorem mergeP_d : mergeP (some (.dat d) :: xs) δ = some (.dat d) :: mergeP xs δ.tail := by cases δ <;> simp [mergeP]
@[simp] theorem mergeP_o : mergeP (some (.own c) :: xs) (y :: δ) = y :: mergeP xs δ := by cases y <;> simp [mergeP]
@[simp] theorem isown_n : isownS [] i = false := by simp [isownS, getS]
@[simp] theorem isown_0n : isownS (none :: δ) 0 = false := rfl
@[simp] theorem isown_0d : isownS (some (.dat d) :: δ) 0 = false := rfl
@[simp] theorem isown_0o : isownS (some (.own c) :: δ) 0 = true := rfl
@[simp] theorem isown_s : isownS (x :: δ) (i + 1) = isownS δ i := rfl
@[simp] theorem putT_name : putT (.name i) d δ = if isownS δ i = true then none else some (δ.set i (some (.dat d))) := rfl
end
/-- the end of a def -/
def fin (δ0 : Sl) : Fl → Re Dt
  | .rt v δ => .ok v (mergeP δ0 δ)
  | .rf c δ => .ok (.lst c) (mergeP δ0 δ)
  | .nx δ => .ok .non (mergeP δ0 δ)
  | .exc x δ => .exc x (mergeP δ0 δ)
  | _ => .bad
section
variable {δ0 δ : Sl} {v : Dt} {x : Exn} {c : List Dt}
@[simp] theorem fin_rt : fin δ0 (.rt v δ) = .ok v (mergeP δ0 δ) := rfl
@[simp] theorem fin_rf : fin δ0 (.rf c δ) = .ok (.lst c) (mergeP δ0 δ) := rfl
@[simp] theorem fin_nx : fin δ0 (.nx δ) = .ok .non (mergeP δ0 δ) := rfl
@[simp] theorem fin_exc : fin δ0 (.exc x δ) = .exc x (mergeP δ0 δ) := rfl
@[simp] theorem ite_fin {c : Prop} [Decidable c] {a b : Fl} : fin δ0 (if c then a else b) = if c then fin δ0 a else fin δ0 b := by split <;> rfl
theorem run_def {ε : Ev} {d : Di} (h1 : δ0.length = d.np) (h2 : (d.ow.all fun i => decide (d.np ≤ i)) = true) : runI ε d δ0 = fin δ0 (evIss ε d.ow d.body (δ0 ++ List.replicate (d.nN - d.np) none)) := by
  unfold runI
  rw [if_pos ⟨h1, h2⟩]
  cases evIss ε d.ow d.body (δ0 ++ List.replicate (d.nN - d.np) none) <;> rfl
end
/-! ### built-ins -/
section
variable {d : Dt} {xs : List Dt} {i j : Int} {b : Bool}
@[simp] theorem blt_len : bltD "len" [d] = (lenD d).map fun (n : Nat) => Dt.int (n : Int) := rfl
@[simp] theorem blt_sum : bltD "sum" [.lst xs] = (intsD xs).map fun ns => .int ns.sum := rfl
@[simp] theorem blt_max1 : bltD "max" [.lst xs] = (intsD xs).bind fun ns => if ns = [] then none else some (.int (maxI ns)) := rfl
@[simp] theorem blt_max2 : bltD "max" [.int i, .int j] = some (.int (if j > i then j else i)) := rfl
@[simp] theorem blt_min2 : bltD "min" [.int i, .int j] = some (.int (if j < i then j else i)) := rfl
@[simp] theorem blt_abs : bltD "abs" [.int i] = some (.int (if i < 0 then -i else i)) := rfl
@[simp] theorem blt_int : bltD "int" [.int i] = some (.int i) := rfl
@[simp] theorem blt_intb : bltD "int" [.bl b] = some (.int (if b then 1 else 0)) := rfl
@[simp] theorem blt_listt : bltD "list" [.tup xs] = some (.lst xs) := rfl
@[simp] theorem blt_listl : bltD "list" [.lst xs] = some (.lst xs) := rfl
@[simp] theorem blt_tuplet : bltD "tuple" [.tup xs] = some (.tup xs) := rfl
@[simp] theorem blt_tuplel : bltD "tuple" [.lst xs] = some (.tup xs) := rfl
@[simp] theorem blt_all : bltD "all" [.lst xs] = (blsD xs).map fun bs => .bl (bs.all id) := rfl
@[simp] theorem blt_any : bltD "any" [.lst xs] = (blsD xs).map fun bs => .bl (bs.any id) := rfl
@[simp] theorem isi_tup_t : isiD (.tup xs) "tuple" = some true := rfl
@[simp] theorem isi_tup_l : isiD (.lst xs) "tuple" = some false := rfl
@[simp] theorem isi_tup_s {s : Str} : isiD (.str s) "tuple" = some false := rfl
@[simp] theorem isi_tup_i : isiD (.int i) "tuple" = some false := rfl
@[simp] theorem isi_tup_b : isiD (.bl b) "tuple" = some false := rfl
@[simp] theorem isi_tup_n : isiD .non "tuple" = some false := rfl
@[simp] theorem isi_str_t : isiD (.tup xs) "str" = some false := rfl
@[simp] theorem isi_str_l : isiD (.lst xs) "str" = some false := rfl
@[simp] theorem isi_str_s {s : Str} : isiD (.str s) "str" = some true := rfl
@[simp] theorem isi_str_i : isiD (.int i) "str" = some false := rfl
@[simp] theorem isi_str_b : isiD (.bl b) "str" = some false := rfl
@[simp] theorem isi_str_n : isiD .non "str" = some false := rfl
end
/-! ### comprehensions -/
theorem keep_back {δ : Sl} {vs : List Nat} {ε' : Sl} (hl : ε'.length = δ.length) (h : ∀ i, i ∉ vs → ε'[i]? = δ[i]?) : keepS vs δ ε' = δ := by
  refine List.ext_getElem? fun i => ?_
  unfold keepS
  rw [List.getElem?_mapIdx]
  by_cases hi : i < δ.length
  · have hi' : i < ε'.length := by omega
    rw [List.getElem?_eq_getElem hi', List.getElem?_eq_getElem hi]
    by_cases hv : i ∈ vs
    · simp [hv]
    · have := h i hv
      rw [List.getElem?_eq_getElem hi', List.getElem?_eq_getElem hi] at this
      simp [hv]
      exact Option.some.inj this
  · rw [List.getElem?_eq_none (by omega), List.getElem?_eq_none (by omega)]; rfl
theorem keep_1 {δ : Sl} {i : Nat} {x : Option Dv} : keepS [i] δ ((wipeS δ [i]).set i x) = δ := by
  refine keep_back (by simp [wipeS]) fun j hj => ?_
  have : i ≠ j := fun e => hj (by simp [e])
  simp [wipeS, List.getElem?_set, this]
theorem keep_2 {δ : Sl} {i k : Nat} {x y : Option Dv} : keepS [i, k] δ (((wipeS δ [i, k]).set i x).set k y) = δ := by
  refine keep_back (by simp [wipeS]) fun j hj => ?_
  have h1 : i ≠ j := fun e => hj (by simp [e])
  have h2 : k ≠ j := fun e => hj (by simp [e])
  simp [wipeS, List.getElem?_set, h1, h2]
theorem ownset_n {δ : Sl} {i : Nat} : isownS (δ.set i none) i = false := by
  unfold isownS getS
  by_cases h : i < δ.length
  · simp [h]
  · rw [List.getElem?_eq_none (by simp; omega)]; rfl
theorem ownset_d {δ : Sl} {i : Nat} {d : Dt} : isownS (δ.set i (some (.dat d))) i = false := by
  unfold isownS getS
  by_cases h : i < δ.length
  · simp [h]
  · rw [List.getElem?_eq_none (by simp; omega)]; rfl
theorem own_ne {δ : Sl} {i j : Nat} {x : Option Dv} (h : i ≠ j) : isownS (δ.set i x) j = isownS δ j := by
  unfold isownS getS
  rw [List.getElem?_set_ne h]
/-- [e for x in ..] -/
theorem lc1 {fn : Fn} {e : Ie} {i : Nat} {δ : Sl} {ds : List Dt} (F : Dt → Dt) (h : ∀ d ∈ ds, evIe fn e ((δ.set i none).set i (some (.dat d))) = .ok (F d) ((δ.set i none).set i (some (.dat d)))) :
    evLc (evIt fn .yes) (evIe fn e) (.name i) [i] ds δ = .ok (ds.map F) δ := by
  refine lc_all fun d hd => ⟨(wipeS δ [i]).set i (some (.dat d)), ?_, y_yes, h d hd, keep_1⟩
  simp [wipeS, ownset_n]
theorem lc1m {fn : Fn} {e : Ie} {i : Nat} {δ : Sl} {α : Type} {ds : List α} (g F : α → Dt) (h : ∀ d ∈ ds, evIe fn e ((δ.set i none).set i (some (.dat (g d)))) = .ok (F d) ((δ.set i none).set i (some (.dat (g d))))) :
    evLc (evIt fn .yes) (evIe fn e) (.name i) [i] (ds.map g) δ = .ok (ds.map F) δ := by
  induction ds with
  | nil => rfl
  | cons d ds ih =>
    have ih := ih fun e he => h e (List.mem_cons_of_mem _ he)
    simp only [List.map_cons]
    unfold evLc
    have e1 : putT (.name i) (g d) (wipeS δ [i]) = some ((δ.set i none).set i (some (.dat (g d)))) := by simp [wipeS, ownset_n]
    rw [e1]
    dsimp only
    rw [y_yes]
    dsimp only
    rw [h d List.mem_cons_self]
    dsimp only
    have := keep_1 (δ := δ) (i := i) (x := some (.dat (g d)))
    simp only [wipeS] at this
    rw [this, ih]
    rfl
theorem bls_map {α : Type} {ds : List α} {F : α → Bool} : blsD (ds.map fun d => .bl (F d)) = some (ds.map F) := by
  induction ds with
  | nil => rfl
  | cons d ds ih => show (blsD (ds.map fun d => Dt.bl (F d))).map _ = _; rw [ih]; rfl
@[simp] theorem tryx {h : Exn → Sl → Fl} {y : Exn} {δ : Sl} : (Fl.exc y δ).try h = h y δ := rfl
@[simp] theorem tryr {h : Exn → Sl → Fl} {d : Dt} {δ : Sl} : (Fl.rt d δ).try h = .rt d δ := rfl
@[simp] theorem tryn {h : Exn → Sl → Fl} {δ : Sl} : (Fl.nx δ).try h = .nx δ := rfl
/-- [e for x, y in ..], a list of pairs -/
theorem lcp {fn : Fn} {e : Ie} {i k : Nat} {δ : Sl} {α : Type} {ds : List α} (hik : i ≠ k) (A B : α → Dt) (F : α → Dt) (h : ∀ d ∈ ds, evIe fn e ((((δ.set k none).set i none).set i (some (.dat (A d)))).set k (some (.dat (B d)))) = .ok (F d) ((((δ.set k none).set i none).set i (some (.dat (A d)))).set k (some (.dat (B d))))) :
    evLc (evIt fn .yes) (evIe fn e) (.tup [i, k]) [i, k] (ds.map fun d => .tup [A d, B d]) δ = .ok (ds.map F) δ := by
  induction ds with
  | nil => rfl
  | cons d ds ih =>
    have ih := ih fun e he => h e (List.mem_cons_of_mem _ he)
    simp only [List.map_cons]
    unfold evLc
    have e1 : putT (.tup [i, k]) (.tup [A d, B d]) (wipeS δ [i, k]) = some ((((δ.set k none).set i none).set i (some (.dat (A d)))).set k (some (.dat (B d)))) := by
      simp [putT, setAll, wipeS, ownset_n, own_ne hik, own_ne (Ne.symm hik)]
    rw [e1]
    dsimp only
    rw [y_yes]
    dsimp only
    rw [h d List.mem_cons_self]
    dsimp only
    have := keep_2 (δ := δ) (i := i) (k := k) (x := some (.dat (A d))) (y := some (.dat (B d)))
    simp only [wipeS] at this
    rw [this, ih]
    rfl
/-- [y for x in .. for y in f(x)] -/
theorem lcf {fn : Fn} {e : Ie} {i k : Nat} {δ : Sl} {ds : List Dt} (hik : i ≠ k) (G : Dt → List Dt) (h : ∀ d ∈ ds, evIe fn e (((δ.set k none).set i none).set i (some (.dat d))) = .ok (.tup (G d)) (((δ.set k none).set i none).set i (some (.dat d))))
    (hk : k < δ.length) : evLc2 (evIt fn .yes) (evIi fn (.seq e)) (evIt fn .yes) (evIe fn (.var k)) (.name i) (.name k) [i, k] ds δ = .ok (ds.flatMap G) δ := by
  refine lc_flat fun d hd => ⟨(wipeS δ [i, k]).set i (some (.dat d)), G d, (wipeS δ [i, k]).set i (some (.dat d)), ?_, y_yes, ?_, ?_, ?_⟩
  · simp [wipeS, ownset_n]
  · rw [z_seq]
    show (evIe fn e (((δ.set k none).set i none).set i (some (.dat d)))).bind kSq = _
    rw [h d hd]
    rfl
  · have := lc1 (fn := fn) (e := .var k) (i := k) (δ := (wipeS δ [i, k]).set i (some (.dat d))) (ds := G d) id fun y _ => by
      rw [x_var]
      have : getS ((((wipeS δ [i, k]).set i (some (.dat d))).set k none).set k (some (.dat y))) k = some (.dat y) := by
        unfold getS
        rw [List.getElem?_set_self (by simp [wipeS]; exact hk)]; rfl
      rw [this]; rfl
    rw [List.map_id] at this
    exact this
  · refine keep_back (by simp [wipeS]) fun j hj => ?_
    have h1 : i ≠ j := fun e => hj (by simp [e])
    have h2 : k ≠ j := fun e => hj (by simp [e])
    simp [wipeS, List.getElem?_set, h1, h2]
/-! ### loops -/
/-- a loop that goes on to its end -/
theorem for_nx {put : Dt → Sl → Option Sl} {body : Sl → Fl} (I : List Dt → Sl → Prop) (h : ∀ d r δ, I (d :: r) δ → ∃ δ0 δ1, put d δ = some δ0 ∧ body δ0 = .nx δ1 ∧ I r δ1) :
    ∀ (ds : List Dt) (δ : Sl), I ds δ → ∃ δ', evFor put body ds δ = .nx δ' ∧ I [] δ'
  | [], δ, k => ⟨δ, rfl, k⟩
  | d :: r, δ, k => by
    obtain ⟨δ0, δ1, h1, h2, h3⟩ := h d r δ k
    obtain ⟨δ', h4, h5⟩ := for_nx I h r δ1 h3
    refine ⟨δ', ?_, h5⟩
    unfold evFor
    rw [h1]
    dsimp only
    rw [h2]
    exact h4
end PD

/-! K3d: the defs of k03 without names. -/
namespace K1
open PySem L2 PD
def words : List Str := ["if", "else", "end", "proc", "main", "stop"]
def g_LETTERS : Dt := .str "abcdefghijklmnopqrstuvwxyz"
def g_WORDS : Dt := .tup (words.map .str)
def g_MAX_NAME : Dt := .int 8
def g_MAX_ARGS : Dt := .int 8
def g_MAX_SIZE : Dt := .int 200
def g_MAX_DEPTH : Dt := .int 30
def g_DEEPEST : Dt := .int 100
def glL (wa : Addr) : List (Str × V × Dt) := [("LETTERS", .str "abcdefghijklmnopqrstuvwxyz", g_LETTERS), ("WORDS", .ref wa, g_WORDS), ("MAX_NAME", .int 8, g_MAX_NAME), ("MAX_ARGS", .int 8, g_MAX_ARGS), ("MAX_SIZE", .int 200, g_MAX_SIZE), ("MAX_DEPTH", .int 30, g_MAX_DEPTH), ("DEEPEST", .int 100, g_DEEPEST)]
def cm (K : PySem.W.Frag) (wa C HE : Addr) : Cm := ⟨K, fun x => if x = "InvalidTerm" then some (C, ["value"]) else none, fun x => (glL wa).lookup x, fun x => x == "InvalidTerm", fun x => x == "_law_pool",
  fun y T => if y = "InvalidTerm" ∧ (T = "InvalidTerm" ∨ T = "HandError" ∨ T = "ValueError") then some true else none,
  fun T => if T = "InvalidTerm" then some (.ref C) else if T = "HandError" then some (.ref HE) else if T = "ValueError" then some (.ty "ValueError") else none⟩
section
variable {K : PySem.W.Frag} {wa C HE : Addr}
def top (i : Nat) : Stmt := PySem.Challenge.pw_handedacross_k03_whole_texts_of_terms.main.body.getD i (.Pass ⟨0, 0, 0, 0⟩)
def d_is_name : Df := ⟨top 10, ["value", "letter"], ["value"], [], false⟩
def i_is_name : Di := ⟨(.cons (.ite (.or (.not (.tru (.isi (.var 0) "str"))) (.not (.chain .LtE .LtE (.con (.int 1)) (.blt "len" (.cons (some 0) (.var 0) .nil)) (.con g_MAX_NAME)))) (.cons (.ret (.con (.bl false))) .nil) .nil) (.cons (.ret (.and (.cmp .NotIn (.var 0) (.con g_WORDS)) (.blt "all" (.cons none (.comp (.name 1) [1] (.seq (.var 0)) .yes (.cmp .In (.var 1) (.con g_LETTERS))) .nil)))) .nil)), 2, 1, [], false⟩
def d_parts_of : Df := ⟨top 11, ["term"], ["term"], [], false⟩
def i_parts_of : Di := ⟨(.cons (.ite (.cmp .Eq (.ix (some 0) (.var 0) (.con (.int 0))) (.con (.str "var"))) (.cons (.ret (.tup .nil)) .nil) .nil) (.cons (.ite (.cmp .Eq (.ix (some 0) (.var 0) (.con (.int 0))) (.con (.str "same"))) (.cons (.ret (.slc (.var 0) (.some (.con (.int 1))) .none)) .nil) .nil) (.cons (.ret (.ite (.cmp .Eq (.ix (some 0) (.var 0) (.con (.int 0))) (.con (.str "item"))) (.tup (.cons none (.ix (some 0) (.var 0) (.con (.int 2))) .nil)) (.ix (some 0) (.var 0) (.con (.int 2))))) .nil))), 1, 1, [], false⟩
def d_are_args : Df := ⟨top 12, ["value"], ["value"], [], false⟩
def i_are_args : Di := ⟨(.cons (.ret (.and (.isi (.var 0) "tuple") (.cmp .LtE (.blt "len" (.cons (some 0) (.var 0) .nil)) (.con g_MAX_ARGS)))) .nil), 1, 1, [], false⟩
def d_has_form : Df := ⟨top 13, ["value"], ["value"], [], false⟩
def i_has_form : Di := ⟨(.cons (.ite (.or (.not (.tru (.isi (.var 0) "tuple"))) (.not (.chain .LtE .LtE (.con (.int 2)) (.blt "len" (.cons (some 0) (.var 0) .nil)) (.con (.int 3))))) (.cons (.ret (.con (.bl false))) .nil) .nil) (.cons (.ite (.or (.not (.tru (.isi (.ix (some 0) (.var 0) (.con (.int 0))) "str"))) (.not (.tru (.call "is_name" (.cons none (.ix (some 0) (.var 0) (.con (.int 1))) .nil))))) (.cons (.ret (.con (.bl false))) .nil) .nil) (.cons (.ite (.cmp .Eq (.ix (some 0) (.var 0) (.con (.int 0))) (.con (.str "var"))) (.cons (.ret (.cmp .Eq (.blt "len" (.cons (some 0) (.var 0) .nil)) (.con (.int 2)))) .nil) .nil) (.cons (.ret (.and (.cmp .Eq (.blt "len" (.cons (some 0) (.var 0) .nil)) (.con (.int 3))) (.or (.cmp .Eq (.ix (some 0) (.var 0) (.con (.int 0))) (.con (.str "item"))) (.and (.cmp .Eq (.ix (some 0) (.var 0) (.con (.int 0))) (.con (.str "op"))) (.call "are_args" (.cons none (.ix (some 0) (.var 0) (.con (.int 2))) .nil)))))) .nil)))), 1, 1, [], false⟩
def d_is_term_within : Df := ⟨top 14, ["value", "size", "depth", "layer", "count", "rest", "one", "part"], ["value", "size", "depth"], [], false⟩
def i_is_term_within : Di := ⟨(.cons (.par [3, 4] (.cons none (.lst (.cons (some 0) (.var 0) .nil)) (.cons none (.con (.int 0)) .nil))) (.cons (.for (.name 5) (.rng1 (.cons (some 2) (.var 2) .nil)) (.cons (.set (.name 4) (.bin .Add (.var 4) (.blt "len" (.cons (some 3) (.var 3) .nil)))) (.cons (.ite (.or (.cmp .Gt (.var 4) (.var 1)) (.not (.tru (.blt "all" (.cons none (.comp (.name 6) [6] (.seq (.var 3)) .yes (.call "has_form" (.cons (some 6) (.var 6) .nil))) .nil))))) (.cons (.ret (.con (.bl false))) .nil) .nil) (.cons (.set (.name 3) (.comp2 (.name 6) (.name 7) [6, 7] (.seq (.var 3)) .yes (.seq (.call "parts_of" (.cons (some 6) (.var 6) .nil))) .yes (.var 7))) .nil)))) (.cons (.ret (.cmp .Eq (.var 3) (.lst .nil))) .nil))), 8, 3, [], false⟩
def d_is_atom_within : Df := ⟨top 15, ["value", "size", "depth", "term"], ["value", "size", "depth"], [], false⟩
def i_is_atom_within : Di := ⟨(.cons (.ite (.or (.not (.tru (.isi (.var 0) "tuple"))) (.or (.cmp .NotEq (.blt "len" (.cons (some 0) (.var 0) .nil)) (.con (.int 3))) (.not (.tru (.isi (.ix (some 0) (.var 0) (.con (.int 0))) "str"))))) (.cons (.ret (.con (.bl false))) .nil) .nil) (.cons (.ite (.cmp .Eq (.ix (some 0) (.var 0) (.con (.int 0))) (.con (.str "same"))) (.cons (.ret (.blt "all" (.cons none (.comp (.name 3) [3] (.seq (.slc (.var 0) (.some (.con (.int 1))) .none)) .yes (.call "is_term_within" (.cons (some 3) (.var 3) (.cons (some 1) (.var 1) (.cons (some 2) (.var 2) .nil))))) .nil))) .nil) .nil) (.cons (.ite (.or (.cmp .NotEq (.ix (some 0) (.var 0) (.con (.int 0))) (.con (.str "test"))) (.or (.not (.tru (.call "is_name" (.cons none (.ix (some 0) (.var 0) (.con (.int 1))) .nil)))) (.not (.tru (.call "are_args" (.cons none (.ix (some 0) (.var 0) (.con (.int 2))) .nil)))))) (.cons (.ret (.con (.bl false))) .nil) .nil) (.cons (.ret (.blt "all" (.cons none (.comp (.name 3) [3] (.seq (.ix (some 0) (.var 0) (.con (.int 2)))) .yes (.call "is_term_within" (.cons (some 3) (.var 3) (.cons (some 1) (.var 1) (.cons (some 2) (.var 2) .nil))))) .nil))) .nil)))), 4, 3, [], false⟩
def d_is_term : Df := ⟨top 16, ["value"], ["value"], [], false⟩
def i_is_term : Di := ⟨(.cons (.ret (.call "is_term_within" (.cons (some 0) (.var 0) (.cons none (.con g_MAX_SIZE) (.cons none (.con g_MAX_DEPTH) .nil))))) .nil), 1, 1, [], false⟩
def d_is_atom : Df := ⟨top 17, ["value"], ["value"], [], false⟩
def i_is_atom : Di := ⟨(.cons (.ret (.call "is_atom_within" (.cons (some 0) (.var 0) (.cons none (.con g_MAX_SIZE) (.cons none (.con g_MAX_DEPTH) .nil))))) .nil), 1, 1, [], false⟩
def d_text_of : Df := ⟨top 18, ["term", "parts", "part"], ["term"], [], false⟩
def i_text_of : Di := ⟨(.cons (.set (.name 1) (.comp (.name 2) [2] (.seq (.call "parts_of" (.cons (some 0) (.var 0) .nil))) .yes (.call "text_of" (.cons (some 2) (.var 2) .nil)))) (.cons (.ite (.cmp .Eq (.ix (some 0) (.var 0) (.con (.int 0))) (.con (.str "var"))) (.cons (.ret (.ix (some 0) (.var 0) (.con (.int 1)))) .nil) .nil) (.cons (.ite (.cmp .Eq (.ix (some 0) (.var 0) (.con (.int 0))) (.con (.str "same"))) (.cons (.ret (.bin .Add (.bin .Add (.ix (some 1) (.var 1) (.con (.int 0))) (.con (.str " = "))) (.ix (some 1) (.var 1) (.con (.int 1))))) .nil) .nil) (.cons (.ite (.cmp .Eq (.ix (some 0) (.var 0) (.con (.int 0))) (.con (.str "item"))) (.cons (.ret (.bin .Add (.bin .Add (.bin .Add (.ix (some 0) (.var 0) (.con (.int 1))) (.con (.str "["))) (.ix (some 1) (.var 1) (.con (.int 0)))) (.con (.str "]")))) .nil) .nil) (.cons (.ret (.bin .Add (.bin .Add (.bin .Add (.ix (some 0) (.var 0) (.con (.int 1))) (.con (.str "("))) (.join ", " (.var 1))) (.con (.str ")")))) .nil))))), 3, 1, [], false⟩
def d_show : Df := ⟨top 19, ["term"], ["term"], [], false⟩
def i_show : Di := ⟨(.cons (.ite (.and (.not (.tru (.call "is_term" (.cons (some 0) (.var 0) .nil)))) (.not (.tru (.call "is_atom" (.cons (some 0) (.var 0) .nil))))) (.cons (.raise "InvalidTerm" 1 (.cons (some 0) (.var 0) .nil)) .nil) .nil) (.cons (.ret (.call "text_of" (.cons (some 0) (.var 0) .nil))) .nil)), 1, 1, [], false⟩
def d_letters_from : Df := ⟨top 22, ["text", "at"], ["text", "at"], [], false⟩
def i_letters_from : Di := ⟨(.cons (.wh (.and (.cmp .Lt (.var 1) (.blt "len" (.cons (some 0) (.var 0) .nil))) (.cmp .In (.ix (some 0) (.var 0) (.var 1)) (.con g_LETTERS))) (.cons (.aug 1 true (.con (.int 1))) .nil)) (.cons (.ret (.var 1)) .nil)), 2, 2, [], false⟩
def d_term_from : Df := ⟨top 23, ["text", "at", "depth", "end", "name", "sign", "index", "behind", "args"], ["text", "at", "depth"], [], false⟩
def i_term_from : Di := ⟨(.cons (.set (.name 3) (.call "letters_from" (.cons (some 0) (.var 0) (.cons (some 1) (.var 1) .nil)))) (.cons (.ite (.or (.cmp .Lt (.var 2) (.con (.int 1))) (.not (.tru (.call "is_name" (.cons none (.slc (.var 0) (.some (.var 1)) (.some (.var 3))) .nil))))) (.cons (.ret (.tup (.cons none (.con .non) (.cons (some 1) (.var 1) .nil)))) .nil) .nil) (.cons (.par [4, 5] (.cons none (.slc (.var 0) (.some (.var 1)) (.some (.var 3))) (.cons none (.slc (.var 0) (.some (.var 3)) (.some (.bin .Add (.var 3) (.con (.int 1))))) .nil))) (.cons (.ite (.cmp .Eq (.var 5) (.con (.str "["))) (.cons (.set (.tup [6, 7]) (.call "term_from" (.cons (some 0) (.var 0) (.cons none (.bin .Add (.var 3) (.con (.int 1))) (.cons none (.bin .Sub (.var 2) (.con (.int 1))) .nil))))) (.cons (.ite (.or (.cmp .Is (.var 6) (.con .non)) (.cmp .NotEq (.slc (.var 0) (.some (.var 7)) (.some (.bin .Add (.var 7) (.con (.int 1))))) (.con (.str "]")))) (.cons (.ret (.tup (.cons none (.con .non) (.cons (some 1) (.var 1) .nil)))) .nil) .nil) (.cons (.ret (.tup (.cons none (.tup (.cons none (.con (.str "item")) (.cons (some 4) (.var 4) (.cons (some 6) (.var 6) .nil)))) (.cons none (.bin .Add (.var 7) (.con (.int 1))) .nil)))) .nil))) .nil) (.cons (.ite (.cmp .NotEq (.var 5) (.con (.str "("))) (.cons (.ret (.tup (.cons none (.tup (.cons none (.con (.str "var")) (.cons (some 4) (.var 4) .nil))) (.cons (some 3) (.var 3) .nil)))) .nil) .nil) (.cons (.set (.tup [8, 7]) (.call "args_from" (.cons (some 0) (.var 0) (.cons none (.bin .Add (.var 3) (.con (.int 1))) (.cons none (.bin .Sub (.var 2) (.con (.int 1))) .nil))))) (.cons (.ret (.ite (.cmp .Is (.var 8) (.con .non)) (.tup (.cons none (.con .non) (.cons (some 1) (.var 1) .nil))) (.tup (.cons none (.tup (.cons none (.con (.str "op")) (.cons (some 4) (.var 4) (.cons (some 8) (.var 8) .nil)))) (.cons (some 7) (.var 7) .nil))))) .nil))))))), 9, 3, [], false⟩
def d_args_from : Df := ⟨top 24, ["text", "at", "depth", "found", "term"], ["text", "at", "depth"], [3], false⟩
def i_args_from : Di := ⟨(.cons (.ite (.cmp .Eq (.slc (.var 0) (.some (.var 1)) (.some (.bin .Add (.var 1) (.con (.int 1))))) (.con (.str ")"))) (.cons (.ret (.tup (.cons none (.tup .nil) (.cons none (.bin .Add (.var 1) (.con (.int 1))) .nil)))) .nil) .nil) (.cons (.own 3 (.lst .nil)) (.cons (.wh (.tru (.con (.bl true))) (.cons (.set (.tup [4, 1]) (.call "term_from" (.cons (some 0) (.var 0) (.cons (some 1) (.var 1) (.cons (some 2) (.var 2) .nil))))) (.cons (.ite (.cmp .Is (.var 4) (.con .non)) (.cons (.ret (.tup (.cons none (.con .non) (.cons (some 1) (.var 1) .nil)))) .nil) .nil) (.cons (.app 3 (.cons (some 4) (.var 4) .nil)) (.cons (.ite (.cmp .Eq (.slc (.var 0) (.some (.var 1)) (.some (.bin .Add (.var 1) (.con (.int 1))))) (.con (.str ")"))) (.cons (.ret (.tup (.cons none (.blt "tuple" (.cons (some 3) (.var 3) .nil)) (.cons none (.bin .Add (.var 1) (.con (.int 1))) .nil)))) .nil) .nil) (.cons (.ite (.cmp .NotEq (.slc (.var 0) (.some (.var 1)) (.some (.bin .Add (.var 1) (.con (.int 2))))) (.con (.str ", "))) (.cons (.ret (.tup (.cons none (.con .non) (.cons (some 1) (.var 1) .nil)))) .nil) .nil) (.cons (.aug 1 true (.con (.int 2))) .nil))))))) .nil))), 5, 3, [3], false⟩
def d_term_in_text : Df := ⟨top 25, ["text", "term", "behind"], ["text"], [], false⟩
def i_term_in_text : Di := ⟨(.cons (.set (.tup [1, 2]) (.call "term_from" (.cons (some 0) (.var 0) (.cons none (.con (.int 0)) (.cons none (.con g_DEEPEST) .nil))))) (.cons (.ret (.ite (.or (.cmp .Is (.var 1) (.con .non)) (.cmp .NotEq (.var 2) (.blt "len" (.cons (some 0) (.var 0) .nil)))) (.con .non) (.var 1))) .nil)), 3, 1, [], false⟩
def d_parse_term : Df := ⟨top 26, ["text", "term"], ["text"], [], false⟩
def i_parse_term : Di := ⟨(.cons (.set (.name 1) (.ite (.tru (.isi (.var 0) "str")) (.call "term_in_text" (.cons (some 0) (.var 0) .nil)) (.con .non))) (.cons (.ite (.or (.cmp .Is (.var 1) (.con .non)) (.not (.tru (.call "is_term" (.cons (some 1) (.var 1) .nil))))) (.cons (.raise "InvalidTerm" 1 (.cons (some 0) (.var 0) .nil)) .nil) .nil) (.cons (.ret (.var 1)) .nil))), 2, 1, [], false⟩
def d_law_pool : Df := ⟨top 28, ["_law_script", "_law_k", "_law_cell", "_law_size", "_law_seed", "_law_words"], ["_law_script", "_law_k"], [], true⟩
def i_law_pool : Di := ⟨(.cons (.set (.name 2) (.con (.int 0))) (.cons (.ite (.cmp .Lt (.var 1) (.blt "len" (.cons (some 0) (.var 0) .nil))) (.cons (.set (.name 2) (.ix (some 0) (.var 0) (.var 1))) .nil) .nil) (.cons (.set (.name 3) (.blt "abs" (.cons (some 2) (.var 2) .nil))) (.cons (.set (.name 4) (.bin .Mod (.bin .Mult (.bin .Add (.bin .Add (.bin .Mod (.var 3) (.con (.int 2147483629))) (.bin .Mult (.con (.int 7919)) (.var 1))) (.con (.int 31))) (.con (.int 48271))) (.con (.int 2147483647)))) (.cons (.set (.name 5) (.lst (.cons none (.lst (.cons none (.con (.str "a")) (.cons none (.con (.str "f")) (.cons none (.con (.str "g")) (.cons none (.con (.str "c")) (.cons none (.con (.str "p")) .nil)))))) (.cons none (.lst (.cons none (.con (.str "grid")) (.cons none (.con (.str "v")) (.cons none (.con (.str "v")) (.cons none (.con (.str "v")) (.cons none (.con (.str "x")) .nil)))))) .nil)))) (.cons (.set (.name 5) (.bin .Add (.var 5) (.lst (.cons none (.lst (.cons none (.con (.str "i")) (.cons none (.con (.str "add")) (.cons none (.con (.str "mul")) (.cons none (.con (.str "none")) (.cons none (.con (.str "v")) .nil)))))) (.cons none (.lst (.cons none (.con (.str "longname")) (.cons none (.con (.str "p")) (.cons none (.con (.str "q")) (.cons none (.con (.str "p")) (.cons none (.con (.str "p")) .nil)))))) .nil))))) (.cons (.retF (.lst (.cons none (.bin .Mult (.var 3) (.blt "int" (.cons none (.cmp .GtE (.var 3) (.bin .Pow (.con (.int 10)) (.con (.int 18)))) .nil))) (.cons (some 4) (.var 4) .nil))) (.ix (some 5) (.var 5) (.bin .Mod (.var 4) (.con (.int 4))))) .nil))))))), 6, 2, [], true⟩
def d_law_draw : Df := ⟨top 29, ["_law_pool_here", "_law_count", "_law_found"], ["_law_pool_here", "_law_count"], [], false⟩
def i_law_draw : Di := ⟨(.cons (.ite (.cmp .Gt (.ix (some 0) (.var 0) (.con (.int 0))) (.con (.int 0))) (.cons (.set (.name 2) (.bin .Mod (.blt "int" (.cons none (.ix (some 0) (.var 0) (.con (.int 0))) .nil)) (.var 1))) (.cons (.sub 0 (.con (.int 0)) (.bin .FloorDiv (.blt "int" (.cons none (.ix (some 0) (.var 0) (.con (.int 0))) .nil)) (.var 1))) (.cons (.ret (.var 2)) .nil))) .nil) (.cons (.sub 0 (.con (.int 1)) (.bin .Mod (.blt "int" (.cons none (.bin .Add (.bin .Mult (.ix (some 0) (.var 0) (.con (.int 1))) (.con (.int 48271))) (.con (.int 11))) .nil)) (.con (.int 2147483647)))) (.cons (.ret (.bin .Mod (.blt "int" (.cons none (.bin .FloorDiv (.bin .Mod (.blt "int" (.cons none (.bin .Mult (.ix (some 0) (.var 0) (.con (.int 1))) (.ix (some 0) (.var 0) (.con (.int 1)))) .nil)) (.con (.int 2147483629))) (.con (.int 64))) .nil)) (.var 1))) .nil))), 3, 2, [], false⟩
def d_law_term : Df := ⟨top 30, ["_law_pool_here", "_law_names", "_law_depth", "_law_mode"], ["_law_pool_here", "_law_names", "_law_depth"], [], false⟩
def i_law_term : Di := ⟨(.cons (.set (.name 3) (.call "_law_draw" (.cons (some 0) (.var 0) (.cons none (.con (.int 7)) .nil)))) (.cons (.ite (.or (.cmp .Lt (.var 2) (.con (.int 2))) (.cmp .Lt (.var 3) (.con (.int 3)))) (.cons (.ite (.cmp .Eq (.call "_law_draw" (.cons (some 0) (.var 0) (.cons none (.con (.int 6)) .nil))) (.con (.int 0))) (.cons (.ret (.tup (.cons none (.con (.str "op")) (.cons none (.ix (some 0) (.var 0) (.con (.int 5))) (.cons none (.tup .nil) .nil))))) .nil) .nil) (.cons (.ret (.tup (.cons none (.con (.str "var")) (.cons none (.ix (some 1) (.var 1) (.call "_law_draw" (.cons (some 0) (.var 0) (.cons none (.blt "len" (.cons (some 1) (.var 1) .nil)) .nil)))) .nil)))) .nil)) .nil) (.cons (.ite (.cmp .Lt (.var 3) (.con (.int 5))) (.cons (.ret (.tup (.cons none (.con (.str "item")) (.cons none (.ix (some 0) (.var 0) (.con (.int 2))) (.cons none (.call "_law_term" (.cons (some 0) (.var 0) (.cons (some 1) (.var 1) (.cons none (.bin .Sub (.var 2) (.con (.int 1))) .nil)))) .nil))))) .nil) .nil) (.cons (.ite (.cmp .Eq (.var 3) (.con (.int 5))) (.cons (.ret (.tup (.cons none (.con (.str "op")) (.cons none (.ix (some 0) (.var 0) (.con (.int 3))) (.cons none (.tup (.cons none (.call "_law_term" (.cons (some 0) (.var 0) (.cons (some 1) (.var 1) (.cons none (.bin .Sub (.var 2) (.con (.int 1))) .nil)))) .nil)) .nil))))) .nil) .nil) (.cons (.ret (.tup (.cons none (.con (.str "op")) (.cons none (.ix (some 0) (.var 0) (.con (.int 4))) (.cons none (.tup (.cons none (.call "_law_term" (.cons (some 0) (.var 0) (.cons (some 1) (.var 1) (.cons none (.bin .Sub (.var 2) (.con (.int 1))) .nil)))) (.cons none (.call "_law_term" (.cons (some 0) (.var 0) (.cons (some 1) (.var 1) (.cons none (.con (.int 1)) .nil)))) .nil))) .nil))))) .nil))))), 4, 3, [], false⟩
def d_law_atom : Df := ⟨top 31, ["_law_pool_here", "_law_names", "_law_depth"], ["_law_pool_here", "_law_names", "_law_depth"], [], false⟩
def i_law_atom : Di := ⟨(.cons (.ite (.cmp .Eq (.call "_law_draw" (.cons (some 0) (.var 0) (.cons none (.con (.int 2)) .nil))) (.con (.int 0))) (.cons (.ret (.tup (.cons none (.con (.str "same")) (.cons none (.call "_law_term" (.cons (some 0) (.var 0) (.cons (some 1) (.var 1) (.cons (some 2) (.var 2) .nil)))) (.cons none (.call "_law_term" (.cons (some 0) (.var 0) (.cons (some 1) (.var 1) (.cons none (.con (.int 1)) .nil)))) .nil))))) .nil) .nil) (.cons (.ret (.tup (.cons none (.con (.str "test")) (.cons none (.ix (some 0) (.var 0) (.con (.int 6))) (.cons none (.tup (.cons none (.call "_law_term" (.cons (some 0) (.var 0) (.cons (some 1) (.var 1) (.cons (some 2) (.var 2) .nil)))) .nil)) .nil))))) .nil)), 3, 3, [], false⟩
def d_law_show : Df := ⟨top 32, ["_law_term_here", "_law_part"], ["_law_term_here"], [], false⟩
def i_law_show : Di := ⟨(.cons (.ite (.cmp .Eq (.ix (some 0) (.var 0) (.con (.int 0))) (.con (.str "var"))) (.cons (.ret (.ix (some 0) (.var 0) (.con (.int 1)))) .nil) .nil) (.cons (.ite (.cmp .Eq (.ix (some 0) (.var 0) (.con (.int 0))) (.con (.str "same"))) (.cons (.ret (.bin .Add (.bin .Add (.call "_law_show" (.cons none (.ix (some 0) (.var 0) (.con (.int 1))) .nil)) (.con (.str " = "))) (.call "_law_show" (.cons none (.ix (some 0) (.var 0) (.con (.int 2))) .nil)))) .nil) .nil) (.cons (.ite (.cmp .Eq (.ix (some 0) (.var 0) (.con (.int 0))) (.con (.str "item"))) (.cons (.ret (.bin .Add (.bin .Add (.bin .Add (.ix (some 0) (.var 0) (.con (.int 1))) (.con (.str "["))) (.call "_law_show" (.cons none (.ix (some 0) (.var 0) (.con (.int 2))) .nil))) (.con (.str "]")))) .nil) .nil) (.cons (.ret (.bin .Add (.bin .Add (.bin .Add (.ix (some 0) (.var 0) (.con (.int 1))) (.con (.str "("))) (.join ", " (.comp (.name 1) [1] (.seq (.ix (some 0) (.var 0) (.con (.int 2)))) .yes (.call "_law_show" (.cons (some 1) (.var 1) .nil))))) (.con (.str ")")))) .nil)))), 2, 1, [], false⟩
def d_law_word : Df := ⟨top 33, ["_law_text", "_law_at", "_law_end", "_law_word_here"], ["_law_text", "_law_at"], [], false⟩
def i_law_word : Di := ⟨(.cons (.set (.name 2) (.var 1)) (.cons (.wh (.and (.cmp .Lt (.var 2) (.blt "len" (.cons (some 0) (.var 0) .nil))) (.cmp .In (.ix (some 0) (.var 0) (.var 2)) (.con (.str "abcdefghijklmnopqrstuvwxyz")))) (.cons (.set (.name 2) (.bin .Add (.var 2) (.con (.int 1)))) .nil)) (.cons (.set (.name 3) (.slc (.var 0) (.some (.var 1)) (.some (.var 2)))) (.cons (.ret (.ite (.or (.cmp .In (.var 3) (.lst (.cons none (.con (.str "if")) (.cons none (.con (.str "else")) (.cons none (.con (.str "end")) (.cons none (.con (.str "proc")) (.cons none (.con (.str "main")) (.cons none (.con (.str "stop")) .nil)))))))) (.not (.chain .Lt .Lt (.con (.int 0)) (.blt "len" (.cons (some 3) (.var 3) .nil)) (.con (.int 9))))) (.con .non) (.var 2))) .nil)))), 4, 2, [], false⟩
def d_law_parsed : Df := ⟨top 34, ["_law_text", "_law_at", "_law_depth", "_law_end", "_law_name", "_law_inner", "_law_args"], ["_law_text", "_law_at", "_law_depth"], [], false⟩
def i_law_parsed : Di := ⟨(.cons (.set (.name 3) (.call "_law_word" (.cons (some 0) (.var 0) (.cons (some 1) (.var 1) .nil)))) (.cons (.ite (.or (.cmp .Is (.var 3) (.con .non)) (.cmp .Eq (.var 2) (.con (.int 0)))) (.cons (.ret (.con .non)) .nil) .nil) (.cons (.set (.name 4) (.slc (.var 0) (.some (.var 1)) (.some (.var 3)))) (.cons (.ite (.cmp .Eq (.slc (.var 0) (.some (.var 3)) (.some (.bin .Add (.var 3) (.con (.int 1))))) (.con (.str "["))) (.cons (.set (.name 5) (.call "_law_parsed" (.cons (some 0) (.var 0) (.cons none (.bin .Add (.var 3) (.con (.int 1))) (.cons none (.bin .Sub (.var 2) (.con (.int 1))) .nil))))) (.cons (.ite (.or (.cmp .Is (.var 5) (.con .non)) (.cmp .NotEq (.slc (.var 0) (.some (.ix (some 5) (.var 5) (.con (.int 1)))) (.some (.bin .Add (.ix (some 5) (.var 5) (.con (.int 1))) (.con (.int 1))))) (.con (.str "]")))) (.cons (.ret (.con .non)) .nil) .nil) (.cons (.ret (.tup (.cons none (.tup (.cons none (.con (.str "item")) (.cons (some 4) (.var 4) (.cons none (.ix (some 5) (.var 5) (.con (.int 0))) .nil)))) (.cons none (.bin .Add (.ix (some 5) (.var 5) (.con (.int 1))) (.con (.int 1))) .nil)))) .nil))) .nil) (.cons (.ite (.cmp .NotEq (.slc (.var 0) (.some (.var 3)) (.some (.bin .Add (.var 3) (.con (.int 1))))) (.con (.str "("))) (.cons (.ret (.tup (.cons none (.tup (.cons none (.con (.str "var")) (.cons (some 4) (.var 4) .nil))) (.cons (some 3) (.var 3) .nil)))) .nil) .nil) (.cons (.ite (.cmp .Eq (.slc (.var 0) (.some (.bin .Add (.var 3) (.con (.int 1)))) (.some (.bin .Add (.var 3) (.con (.int 2))))) (.con (.str ")"))) (.cons (.ret (.tup (.cons none (.tup (.cons none (.con (.str "op")) (.cons (some 4) (.var 4) (.cons none (.tup .nil) .nil)))) (.cons none (.bin .Add (.var 3) (.con (.int 2))) .nil)))) .nil) .nil) (.cons (.par [6, 1] (.cons none (.lst .nil) (.cons none (.bin .Sub (.var 3) (.con (.int 1))) .nil))) (.cons (.wh (.cmp .NotEq (.slc (.var 0) (.some (.var 1)) (.some (.bin .Add (.var 1) (.con (.int 1))))) (.con (.str ")"))) (.cons (.set (.name 5) (.call "_law_parsed" (.cons (some 0) (.var 0) (.cons none (.bin .Add (.var 1) (.con (.int 2))) (.cons none (.bin .Sub (.var 2) (.con (.int 1))) .nil))))) (.cons (.ite (.or (.cmp .Is (.var 5) (.con .non)) (.cmp .Eq (.blt "len" (.cons (some 6) (.var 6) .nil)) (.con (.int 8)))) (.cons (.ret (.con .non)) .nil) .nil) (.cons (.ite (.and (.cmp .NotEq (.slc (.var 0) (.some (.ix (some 5) (.var 5) (.con (.int 1)))) (.some (.bin .Add (.ix (some 5) (.var 5) (.con (.int 1))) (.con (.int 1))))) (.con (.str ")"))) (.cmp .NotEq (.slc (.var 0) (.some (.ix (some 5) (.var 5) (.con (.int 1)))) (.some (.bin .Add (.ix (some 5) (.var 5) (.con (.int 1))) (.con (.int 2))))) (.con (.str ", ")))) (.cons (.ret (.con .non)) .nil) .nil) (.cons (.par [6, 1] (.cons none (.bin .Add (.var 6) (.lst (.cons none (.ix (some 5) (.var 5) (.con (.int 0))) .nil))) (.cons none (.ix (some 5) (.var 5) (.con (.int 1))) .nil))) .nil))))) (.cons (.ret (.tup (.cons none (.tup (.cons none (.con (.str "op")) (.cons (some 4) (.var 4) (.cons none (.blt "tuple" (.cons (some 6) (.var 6) .nil)) .nil)))) (.cons none (.bin .Add (.var 1) (.con (.int 1))) .nil)))) .nil))))))))), 7, 3, [], false⟩
def d_law_read_term : Df := ⟨top 35, ["_law_text", "_law_found"], ["_law_text"], [], false⟩
def i_law_read_term : Di := ⟨(.cons (.set (.name 1) (.call "_law_parsed" (.cons (some 0) (.var 0) (.cons none (.con (.int 0)) (.cons none (.con (.int 40)) .nil))))) (.cons (.ret (.ite (.or (.cmp .Is (.var 1) (.con .non)) (.cmp .NotEq (.ix (some 1) (.var 1) (.con (.int 1))) (.blt "len" (.cons (some 0) (.var 0) .nil)))) (.con .non) (.ix (some 1) (.var 1) (.con (.int 0))))) .nil)), 2, 1, [], false⟩
def d_law_bent : Df := ⟨top 36, ["_law_pool_here", "_law_text", "_law_spot", "_law_sign", "_law_mode"], ["_law_pool_here", "_law_text"], [], false⟩
def i_law_bent : Di := ⟨(.cons (.par [2, 3] (.cons none (.call "_law_draw" (.cons (some 0) (.var 0) (.cons none (.bin .Add (.blt "len" (.cons (some 1) (.var 1) .nil)) (.con (.int 1))) .nil))) (.cons none (.ix none (.con (.str "axfgp(), []=1 A_\n:")) (.call "_law_draw" (.cons (some 0) (.var 0) (.cons none (.con (.int 17)) .nil)))) .nil))) (.cons (.set (.name 4) (.call "_law_draw" (.cons (some 0) (.var 0) (.cons none (.con (.int 3)) .nil)))) (.cons (.ite (.cmp .Eq (.var 4) (.con (.int 0))) (.cons (.ret (.bin .Add (.bin .Add (.slc (.var 1) .none (.some (.var 2))) (.var 3)) (.slc (.var 1) (.some (.var 2)) .none))) .nil) .nil) (.cons (.ret (.ite (.cmp .Eq (.var 4) (.con (.int 1))) (.bin .Add (.slc (.var 1) .none (.some (.var 2))) (.slc (.var 1) (.some (.bin .Add (.var 2) (.con (.int 1)))) .none)) (.bin .Add (.bin .Add (.slc (.var 1) .none (.some (.var 2))) (.var 3)) (.slc (.var 1) (.some (.bin .Add (.var 2) (.con (.int 1)))) .none)))) .nil)))), 5, 2, [], false⟩
def d_law_error : Df := ⟨top 37, ["_law_act", "_law_value", "e"], ["_law_act", "_law_value"], [], false⟩
def i_law_error : Di := ⟨(.cons (.tri "InvalidTerm" 2 (.cons (.ret (.ite (.cmp .Eq (.var 0) (.con (.int 0))) (.call "parse_term" (.cons (some 1) (.var 1) .nil)) (.call "show" (.cons (some 1) (.var 1) .nil)))) .nil) (.lst (.cons (.cmp .Eq (.fld "value") (.var 1)) .nil))) .nil), 3, 2, [], false⟩
def d_law : Df := ⟨top 38, ["_law_script", "_law_k", "_law_pool_here", "_law_turn", "_law_term_here", "_law_atom_here", "_law_text", "_law_again", "_law_due", "_law_odd"], ["_law_script"], [2], false⟩
def i_law : Di := ⟨(.cons (.for (.name 1) (.rng1 (.cons none (.blt "max" (.cons none (.con (.int 1)) (.cons none (.blt "min" (.cons none (.con (.int 8)) (.cons none (.blt "len" (.cons (some 0) (.var 0) .nil)) .nil))) .nil))) .nil)) (.cons (.fresh 2 "_law_pool" (.cons (some 0) (.var 0) (.cons (some 1) (.var 1) .nil))) (.cons (.for (.name 3) (.rng1 (.cons none (.con (.int 6)) .nil)) (.cons (.set (.name 4) (.call "_law_term" (.cons (some 2) (.var 2) (.cons none (.lst (.cons none (.con (.str "x")) (.cons none (.con (.str "verylong")) (.cons none (.con (.str "i")) .nil)))) (.cons none (.con (.int 5)) .nil))))) (.cons (.set (.name 5) (.call "_law_atom" (.cons (some 2) (.var 2) (.cons none (.lst (.cons none (.con (.str "x")) (.cons none (.con (.str "y")) .nil))) (.cons none (.con (.int 3)) .nil))))) (.cons (.set (.name 6) (.call "_law_show" (.cons (some 4) (.var 4) .nil))) (.cons (.ite (.or (.cmp .NotEq (.call "show" (.cons (some 4) (.var 4) .nil)) (.var 6)) (.or (.cmp .NotEq (.call "parse_term" (.cons (some 6) (.var 6) .nil)) (.var 4)) (.cmp .NotEq (.call "_law_read_term" (.cons (some 6) (.var 6) .nil)) (.var 4)))) (.cons (.ret (.con (.bl false))) .nil) .nil) (.cons (.ite (.cmp .NotEq (.call "show" (.cons (some 5) (.var 5) .nil)) (.call "_law_show" (.cons (some 5) (.var 5) .nil))) (.cons (.ret (.con (.bl false))) .nil) .nil) (.cons (.for (.name 7) (.rng1 (.cons none (.con (.int 4)) .nil)) (.cons (.set (.name 6) (.call "_law_bent" (.cons (some 2) (.var 2) (.cons (some 6) (.var 6) .nil)))) (.cons (.set (.name 8) (.call "_law_read_term" (.cons (some 6) (.var 6) .nil))) (.cons (.ite (.cmp .NotEq (.call "_law_error" (.cons none (.con (.int 0)) (.cons (some 6) (.var 6) .nil))) (.ite (.cmp .Is (.var 8) (.con .non)) (.lst (.cons none (.con (.bl true)) .nil)) (.var 8))) (.cons (.ret (.con (.bl false))) .nil) .nil) (.cons (.ite (.and (.cmp .IsNot (.var 8) (.con .non)) (.or (.not (.tru (.call "is_term" (.cons (some 8) (.var 8) .nil)))) (.cmp .NotEq (.call "show" (.cons (some 8) (.var 8) .nil)) (.var 6)))) (.cons (.ret (.con (.bl false))) .nil) .nil) .nil))))) (.cons (.for (.name 9) (.seq (.lst (.cons none (.con .non) (.cons none (.con (.int 5)) (.cons none (.con (.str "")) (.cons none (.lst (.cons (some 4) (.var 4) .nil)) (.cons none (.tup (.cons none (.con (.str "var")) .nil)) (.cons none (.tup (.cons none (.con (.str "same")) (.cons (some 4) (.var 4) .nil))) (.cons none (.tup (.cons none (.con (.str "put")) (.cons (some 4) (.var 4) (.cons (some 4) (.var 4) .nil)))) .nil))))))))) (.cons (.ite (.or (.cmp .NotEq (.call "_law_error" (.cons none (.con (.int 1)) (.cons (some 9) (.var 9) .nil))) (.lst (.cons none (.con (.bl true)) .nil))) (.and (.not (.tru (.isi (.var 9) "str"))) (.cmp .NotEq (.call "_law_error" (.cons none (.con (.int 0)) (.cons (some 9) (.var 9) .nil))) (.lst (.cons none (.con (.bl true)) .nil))))) (.cons (.ret (.con (.bl false))) .nil) .nil) .nil)) .nil)))))))) .nil))) (.cons (.ret (.and (.cmp .Eq (.call "_law_error" (.cons none (.con (.int 0)) (.cons none (.bin .Add (.bin .Add (.bin .Mult (.con (.str "f(")) (.con (.int 30))) (.con (.str "x"))) (.bin .Mult (.con (.str ")")) (.con (.int 30)))) .nil))) (.lst (.cons none (.con (.bl true)) .nil))) (.cmp .Eq (.call "_law_error" (.cons none (.con (.int 0)) (.cons none (.con (.str "")) .nil))) (.lst (.cons none (.con (.bl true)) .nil))))) .nil)), 10, 1, [2], false⟩
def defsL : List (Str × Di) := [("is_name", i_is_name), ("parts_of", i_parts_of), ("are_args", i_are_args), ("has_form", i_has_form), ("is_term_within", i_is_term_within), ("is_atom_within", i_is_atom_within), ("is_term", i_is_term), ("is_atom", i_is_atom), ("text_of", i_text_of), ("show", i_show), ("letters_from", i_letters_from), ("term_from", i_term_from), ("args_from", i_args_from), ("term_in_text", i_term_in_text), ("parse_term", i_parse_term), ("_law_pool", i_law_pool), ("_law_draw", i_law_draw), ("_law_term", i_law_term), ("_law_atom", i_law_atom), ("_law_show", i_law_show), ("_law_word", i_law_word), ("_law_parsed", i_law_parsed), ("_law_read_term", i_law_read_term), ("_law_bent", i_law_bent), ("_law_error", i_law_error), ("law", i_law)]
theorem k_is_name : Dok (cm K wa C HE) d_is_name i_is_name := ⟨fun _ _ => (by kernel_rfl), rfl, rfl, rfl, rfl⟩
theorem k_parts_of : Dok (cm K wa C HE) d_parts_of i_parts_of := ⟨fun _ _ => (by kernel_rfl), rfl, rfl, rfl, rfl⟩
theorem k_are_args : Dok (cm K wa C HE) d_are_args i_are_args := ⟨fun _ _ => (by kernel_rfl), rfl, rfl, rfl, rfl⟩
theorem k_has_form : Dok (cm K wa C HE) d_has_form i_has_form := ⟨fun _ _ => (by kernel_rfl), rfl, rfl, rfl, rfl⟩
theorem k_is_term_within : Dok (cm K wa C HE) d_is_term_within i_is_term_within := ⟨fun _ _ => (by kernel_rfl), rfl, rfl, rfl, rfl⟩
theorem k_is_atom_within : Dok (cm K wa C HE) d_is_atom_within i_is_atom_within := ⟨fun _ _ => (by kernel_rfl), rfl, rfl, rfl, rfl⟩
theorem k_is_term : Dok (cm K wa C HE) d_is_term i_is_term := ⟨fun _ _ => (by kernel_rfl), rfl, rfl, rfl, rfl⟩
theorem k_is_atom : Dok (cm K wa C HE) d_is_atom i_is_atom := ⟨fun _ _ => (by kernel_rfl), rfl, rfl, rfl, rfl⟩
theorem k_text_of : Dok (cm K wa C HE) d_text_of i_text_of := ⟨fun _ _ => (by kernel_rfl), rfl, rfl, rfl, rfl⟩
theorem k_show : Dok (cm K wa C HE) d_show i_show := ⟨fun _ _ => (by kernel_rfl), rfl, rfl, rfl, rfl⟩
theorem k_letters_from : Dok (cm K wa C HE) d_letters_from i_letters_from := ⟨fun _ _ => (by kernel_rfl), rfl, rfl, rfl, rfl⟩
theorem k_term_from : Dok (cm K wa C HE) d_term_from i_term_from := ⟨fun _ _ => (by kernel_rfl), rfl, rfl, rfl, rfl⟩
theorem k_args_from : Dok (cm K wa C HE) d_args_from i_args_from := ⟨fun _ _ => (by kernel_rfl), rfl, rfl, rfl, rfl⟩
theorem k_term_in_text : Dok (cm K wa C HE) d_term_in_text i_term_in_text := ⟨fun _ _ => (by kernel_rfl), rfl, rfl, rfl, rfl⟩
theorem k_parse_term : Dok (cm K wa C HE) d_parse_term i_parse_term := ⟨fun _ _ => (by kernel_rfl), rfl, rfl, rfl, rfl⟩
theorem k_law_pool : Dok (cm K wa C HE) d_law_pool i_law_pool := ⟨fun _ _ => (by kernel_rfl), rfl, rfl, rfl, rfl⟩
theorem k_law_draw : Dok (cm K wa C HE) d_law_draw i_law_draw := ⟨fun _ _ => (by kernel_rfl), rfl, rfl, rfl, rfl⟩
theorem k_law_term : Dok (cm K wa C HE) d_law_term i_law_term := ⟨fun _ _ => (by kernel_rfl), rfl, rfl, rfl, rfl⟩
theorem k_law_atom : Dok (cm K wa C HE) d_law_atom i_law_atom := ⟨fun _ _ => (by kernel_rfl), rfl, rfl, rfl, rfl⟩
theorem k_law_show : Dok (cm K wa C HE) d_law_show i_law_show := ⟨fun _ _ => (by kernel_rfl), rfl, rfl, rfl, rfl⟩
theorem k_law_word : Dok (cm K wa C HE) d_law_word i_law_word := ⟨fun _ _ => (by kernel_rfl), rfl, rfl, rfl, rfl⟩
theorem k_law_parsed : Dok (cm K wa C HE) d_law_parsed i_law_parsed := ⟨fun _ _ => (by kernel_rfl), rfl, rfl, rfl, rfl⟩
theorem k_law_read_term : Dok (cm K wa C HE) d_law_read_term i_law_read_term := ⟨fun _ _ => (by kernel_rfl), rfl, rfl, rfl, rfl⟩
theorem k_law_bent : Dok (cm K wa C HE) d_law_bent i_law_bent := ⟨fun _ _ => (by kernel_rfl), rfl, rfl, rfl, rfl⟩
theorem k_law_error : Dok (cm K wa C HE) d_law_error i_law_error := ⟨fun _ _ => (by kernel_rfl), rfl, rfl, rfl, rfl⟩
theorem k_law : Dok (cm K wa C HE) d_law i_law := ⟨fun _ _ => (by kernel_rfl), rfl, rfl, rfl, rfl⟩
end
end K1

/-! K3b: the plain defs of k03. -/
namespace K1
open PySem L2 PD
open PyData (strOk)
def pg (C : Addr) : Pg := ⟨fun x => defsL.lookup x, (cm [] 0 C 0).cl, (cm [] 0 0 0).xs⟩
abbrev T (C : Addr) (m : Nat) : Ev := (pg C).T m
section
variable {C : Addr} {m : Nat}
@[simp] theorem fn_is_name : (T C (m + 1)).fn "is_name" = some (runI (T C m) i_is_name) := by kernel_rfl
@[simp] theorem fn_parts_of : (T C (m + 1)).fn "parts_of" = some (runI (T C m) i_parts_of) := by kernel_rfl
@[simp] theorem fn_are_args : (T C (m + 1)).fn "are_args" = some (runI (T C m) i_are_args) := by kernel_rfl
@[simp] theorem fn_has_form : (T C (m + 1)).fn "has_form" = some (runI (T C m) i_has_form) := by kernel_rfl
@[simp] theorem fn_is_term_within : (T C (m + 1)).fn "is_term_within" = some (runI (T C m) i_is_term_within) := by kernel_rfl
@[simp] theorem fn_is_atom_within : (T C (m + 1)).fn "is_atom_within" = some (runI (T C m) i_is_atom_within) := by kernel_rfl
@[simp] theorem fn_is_term : (T C (m + 1)).fn "is_term" = some (runI (T C m) i_is_term) := by kernel_rfl
@[simp] theorem fn_is_atom : (T C (m + 1)).fn "is_atom" = some (runI (T C m) i_is_atom) := by kernel_rfl
@[simp] theorem fn_text_of : (T C (m + 1)).fn "text_of" = some (runI (T C m) i_text_of) := by kernel_rfl
@[simp] theorem fn_show : (T C (m + 1)).fn "show" = some (runI (T C m) i_show) := by kernel_rfl
@[simp] theorem fn_letters_from : (T C (m + 1)).fn "letters_from" = some (runI (T C m) i_letters_from) := by kernel_rfl
@[simp] theorem fn_term_from : (T C (m + 1)).fn "term_from" = some (runI (T C m) i_term_from) := by kernel_rfl
@[simp] theorem fn_args_from : (T C (m + 1)).fn "args_from" = some (runI (T C m) i_args_from) := by kernel_rfl
@[simp] theorem fn_term_in_text : (T C (m + 1)).fn "term_in_text" = some (runI (T C m) i_term_in_text) := by kernel_rfl
@[simp] theorem fn_parse_term : (T C (m + 1)).fn "parse_term" = some (runI (T C m) i_parse_term) := by kernel_rfl
@[simp] theorem fr_law_pool : (T C (m + 1)).fr "_law_pool" = some (runIF (T C m) i_law_pool) := by kernel_rfl
@[simp] theorem fn_law_draw : (T C (m + 1)).fn "_law_draw" = some (runI (T C m) i_law_draw) := by kernel_rfl
@[simp] theorem fn_law_term : (T C (m + 1)).fn "_law_term" = some (runI (T C m) i_law_term) := by kernel_rfl
@[simp] theorem fn_law_atom : (T C (m + 1)).fn "_law_atom" = some (runI (T C m) i_law_atom) := by kernel_rfl
@[simp] theorem fn_law_show : (T C (m + 1)).fn "_law_show" = some (runI (T C m) i_law_show) := by kernel_rfl
@[simp] theorem fn_law_word : (T C (m + 1)).fn "_law_word" = some (runI (T C m) i_law_word) := by kernel_rfl
@[simp] theorem fn_law_parsed : (T C (m + 1)).fn "_law_parsed" = some (runI (T C m) i_law_parsed) := by kernel_rfl
@[simp] theorem fn_law_read_term : (T C (m + 1)).fn "_law_read_term" = some (runI (T C m) i_law_read_term) := by kernel_rfl
@[simp] theorem fn_law_bent : (T C (m + 1)).fn "_law_bent" = some (runI (T C m) i_law_bent) := by kernel_rfl
@[simp] theorem fn_law_error : (T C (m + 1)).fn "_law_error" = some (runI (T C m) i_law_error) := by kernel_rfl
def letters : Str := "abcdefghijklmnopqrstuvwxyz"
def isNameS (s : Str) : Bool := decide (1 ≤ s.length ∧ s.length ≤ 8) && !(decide (s ∈ words)) && s.cps.toList.all fun c => decide (c ∈ letters.cps.toList)
def isName : Dt → Bool
  | .str s => isNameS s
  | _ => false
theorem eqV_str (a b : Str) : eqV (.str a) (.str b) = decide (b = a) := by
  by_cases h : b = a
  · subst h; simp [eqV]
  · simp [eqV, h, Ne.symm h]
theorem flDs_str : ∀ l : List Str, flDs (l.map .str) = some (l.map .str)
  | [] => rfl
  | a :: l => by simp [flDs, flD, flDs_str l]
theorem inV_str (s : Str) : ∀ l : List Str, inV (.str s) (l.map .str) = decide (s ∈ l)
  | [] => rfl
  | a :: l => by
    have ih := inV_str s l
    simp only [inV, List.map_cons, List.any_cons] at ih ⊢
    rw [ih, eqV_str]
    simp
theorem words_in {s : Str} : inD (.str s) g_WORDS = some (decide (s ∈ words)) := by
  have := flDs_str words
  simp [g_WORDS, inD, flD, this, inV_str]
theorem run_is_name {n : Nat} {d : Dt} (h : okd n d = true) : runI (T C m) i_is_name [some (.dat d)] = .ok (.bl (isName d)) [some (.dat d)] := by
  rw [run_def rfl rfl]
  cases d
  case str s =>
    have hl : s.length ≤ LIM := by simp [okd] at h; exact h.2
    by_cases h1 : 1 ≤ s.length
    · by_cases h2 : s.length ≤ 8
      · by_cases h3 : s ∈ words
        · have h1' : (1 : Int) ≤ s.length := by omega
          have h2' : ¬ (8 : Int) < s.length := by omega
          simp [i_is_name, truD, lenD, hl, cmpD, g_MAX_NAME, words_in, h1', h2', h3, isName, isNameS]
        · have h1' : (1 : Int) ≤ s.length := by omega
          have h2' : ¬ (8 : Int) < s.length := by omega
          simp [i_is_name, truD, lenD, hl, cmpD, g_MAX_NAME, words_in, h1', h2', h3, itemsD]
          rw [lc1m _ (fun c => .bl (decide (c ∈ letters.cps.toList))) ?_]
          · have : s.cps.size ≤ LIM := hl
            simp [bls_map, this, isName, isNameS, h1, h2, h3]
          · intro c hc
            simp [cmpD, inD, g_LETTERS, letters]
      · have h1' : (1 : Int) ≤ s.length := by omega
        have h2' : (8 : Int) < s.length := by omega
        simp [i_is_name, truD, lenD, hl, cmpD, g_MAX_NAME, words_in, h1', h2', isName, isNameS, h1, h2]
    · have h1' : ¬ (1 : Int) ≤ s.length := by omega
      simp [i_is_name, truD, lenD, hl, cmpD, g_MAX_NAME, words_in, h1', isName, isNameS, h1]
  all_goals first | (simp [okd] at h; done) | (simp [i_is_name, truD, isName]; done)
/-- value[0] and so on -/
theorem atI_nat {α : Type} {xs : List α} {k : Nat} : atI xs (k : Int) = xs[k]? := by
  unfold atI ixN
  rw [if_pos (by omega)]
  by_cases h : k < xs.length
  · rw [if_pos (by omega)]; simp
  · rw [if_neg (by omega)]; simp; omega
@[simp] theorem at0 {α : Type} {x : α} {l : List α} : atI (x :: l) 0 = some x := atI_nat (k := 0)
@[simp] theorem at1 {α : Type} {x y : α} {l : List α} : atI (x :: y :: l) 1 = some y := atI_nat (k := 1)
@[simp] theorem at2 {α : Type} {x y z : α} {l : List α} : atI (x :: y :: z :: l) 2 = some z := atI_nat (k := 2)
def areArgs : Dt → Bool
  | .tup xs => decide (xs.length ≤ 8)
  | _ => false
theorem run_are_args {n : Nat} {d : Dt} (h : okd n d = true) : runI (T C m) i_are_args [some (.dat d)] = .ok (.bl (areArgs d)) [some (.dat d)] := by
  rw [run_def rfl rfl]
  cases d
  case tup xs => 
    simp [i_are_args, lenD, cmpD, g_MAX_ARGS, areArgs]
    omega
  all_goals first | (simp [okd] at h; done) | (simp [i_are_args, areArgs]; done)
def hasForm : Dt → Bool
  | .tup [.str k, x] => isName x && decide (k = "var")
  | .tup [.str k, x, a] => isName x && !decide (k = "var") && (decide (k = "item") || decide (k = "op") && areArgs a)
  | _ => false
@[simp] theorem ok_var : strOk "var" = true := by kernel_rfl
@[simp] theorem ok_item : strOk "item" = true := by kernel_rfl
@[simp] theorem ok_op : strOk "op" = true := by kernel_rfl
@[simp] theorem ok_same : strOk "same" = true := by kernel_rfl
@[simp] theorem ok_test : strOk "test" = true := by kernel_rfl
@[simp] theorem ne_var_item : ((("var" : Str) = "item")) = False := eq_false (ne_of_beq_false (by kernel_rfl))
@[simp] theorem ne_var_op : ((("var" : Str) = "op")) = False := eq_false (ne_of_beq_false (by kernel_rfl))
@[simp] theorem ne_var_same : ((("var" : Str) = "same")) = False := eq_false (ne_of_beq_false (by kernel_rfl))
@[simp] theorem ne_var_test : ((("var" : Str) = "test")) = False := eq_false (ne_of_beq_false (by kernel_rfl))
@[simp] theorem ne_item_var : ((("item" : Str) = "var")) = False := eq_false (ne_of_beq_false (by kernel_rfl))
@[simp] theorem ne_item_op : ((("item" : Str) = "op")) = False := eq_false (ne_of_beq_false (by kernel_rfl))
@[simp] theorem ne_item_same : ((("item" : Str) = "same")) = False := eq_false (ne_of_beq_false (by kernel_rfl))
@[simp] theorem ne_item_test : ((("item" : Str) = "test")) = False := eq_false (ne_of_beq_false (by kernel_rfl))
@[simp] theorem ne_op_var : ((("op" : Str) = "var")) = False := eq_false (ne_of_beq_false (by kernel_rfl))
@[simp] theorem ne_op_item : ((("op" : Str) = "item")) = False := eq_false (ne_of_beq_false (by kernel_rfl))
@[simp] theorem ne_op_same : ((("op" : Str) = "same")) = False := eq_false (ne_of_beq_false (by kernel_rfl))
@[simp] theorem ne_op_test : ((("op" : Str) = "test")) = False := eq_false (ne_of_beq_false (by kernel_rfl))
@[simp] theorem ne_same_var : ((("same" : Str) = "var")) = False := eq_false (ne_of_beq_false (by kernel_rfl))
@[simp] theorem ne_same_item : ((("same" : Str) = "item")) = False := eq_false (ne_of_beq_false (by kernel_rfl))
@[simp] theorem ne_same_op : ((("same" : Str) = "op")) = False := eq_false (ne_of_beq_false (by kernel_rfl))
@[simp] theorem ne_same_test : ((("same" : Str) = "test")) = False := eq_false (ne_of_beq_false (by kernel_rfl))
@[simp] theorem ne_test_var : ((("test" : Str) = "var")) = False := eq_false (ne_of_beq_false (by kernel_rfl))
@[simp] theorem ne_test_item : ((("test" : Str) = "item")) = False := eq_false (ne_of_beq_false (by kernel_rfl))
@[simp] theorem ne_test_op : ((("test" : Str) = "op")) = False := eq_false (ne_of_beq_false (by kernel_rfl))
@[simp] theorem ne_test_same : ((("test" : Str) = "same")) = False := eq_false (ne_of_beq_false (by kernel_rfl))
theorem run_has_form {n : Nat} {d : Dt} (h : okd n d = true) : runI (T C (m + 1)) i_has_form [some (.dat d)] = .ok (.bl (hasForm d)) [some (.dat d)] := by
  rw [run_def rfl rfl]
  cases d
  case tup xs => 
    cases n with
    | zero => simp [okd] at h
    | succ n =>
    simp only [okd, List.all_eq_true] at h
    rcases xs with _ | ⟨x0, _ | ⟨x1, _ | ⟨x2, _ | ⟨x3, xs⟩⟩⟩⟩
    · simp [i_has_form, lenD, cmpD, truD, hasForm]
    · simp [i_has_form, lenD, cmpD, truD, hasForm]
    · have h0 := h x0 (by simp)
      have h1 := h x1 (by simp)
      cases x0
      case str k =>
        simp only [okd, Bool.and_eq_true] at h0
        by_cases hn : isName x1 = true <;> by_cases hk : k = "var" <;>
          simp [i_has_form, lenD, cmpD, truD, hasForm, ixD, run_is_name h1, hn, h0.1, hk]
      all_goals simp [i_has_form, lenD, cmpD, truD, hasForm, ixD, okd] at h0 ⊢
    · have h0 := h x0 (by simp)
      have h1 := h x1 (by simp)
      have h2 := h x2 (by simp)
      cases x0
      case str k =>
        simp only [okd, Bool.and_eq_true] at h0
        by_cases hn : isName x1 = true <;> by_cases hk : k = "var" <;> by_cases hi : k = "item" <;> by_cases ho : k = "op" <;>
          simp [i_has_form, lenD, cmpD, truD, hasForm, ixD, run_is_name h1, hn, h0.1, hk, hi, ho, run_are_args h2]
      all_goals simp [i_has_form, lenD, cmpD, truD, hasForm, ixD, okd] at h0 ⊢
    · simp [i_has_form, lenD, cmpD, truD, hasForm]
      omega
  all_goals first | (simp [okd] at h; done) | (simp [i_has_form, truD, hasForm]; done)
/-! ### parts -/
def parts : Dt → List Dt
  | .tup [.str k, _, a] => if k = "item" then [a] else match a with | .tup xs => xs | _ => []
  | _ => []
theorem form_cases {d : Dt} (h : hasForm d = true) : (∃ x, d = .tup [.str "var", x] ∧ isName x = true) ∨ (∃ x a, d = .tup [.str "item", x, a] ∧ isName x = true) ∨ ∃ x xs, d = .tup [.str "op", x, .tup xs] ∧ isName x = true ∧ xs.length ≤ 8 := by
  unfold hasForm at h
  split at h
  · rename_i k x
    simp at h
    obtain ⟨h1, rfl⟩ := h
    exact .inl ⟨x, rfl, h1⟩
  · rename_i k x a
    simp at h
    obtain ⟨⟨h1, h2⟩, rfl | ⟨rfl, h3⟩⟩ := h
    · exact .inr (.inl ⟨x, a, rfl, h1⟩)
    · cases a <;> simp [areArgs] at h3
      rename_i xs
      exact .inr (.inr ⟨x, xs, rfl, h1, h3⟩)
  · cases h
theorem parts_len {d : Dt} (h : hasForm d = true) : (parts d).length ≤ 8 := by
  rcases form_cases h with ⟨x, rfl, h1⟩ | ⟨x, a, rfl, h1⟩ | ⟨x, xs, rfl, h1, h2⟩ <;> simp [parts]
  exact h2
theorem parts_ok {n : Nat} {d : Dt} (h : okd n d = true) : ∀ p ∈ parts d, okd n p = true := by
  intro p hp
  unfold parts at hp
  split at hp
  · rename_i k x a
    cases n with
    | zero => simp [okd] at h
    | succ n =>
      simp [okd] at h
      split at hp
      · simp at hp; subst hp; exact okd_up h.2.2
      · split at hp
        · rename_i xs
          cases n with
          | zero => simp [okd] at h
          | succ n => 
            simp [okd] at h
            exact okd_up (okd_up (h.2.2 p hp))
        · cases hp
  · cases hp
theorem run_parts_of {d : Dt} (h : hasForm d = true) : runI (T C m) i_parts_of [some (.dat d)] = .ok (.tup (parts d)) [some (.dat d)] := by
  rw [run_def rfl rfl]
  have hL : 1 ≤ LIM := by decide
  rcases form_cases h with ⟨x, rfl, h1⟩ | ⟨x, a, rfl, h1⟩ | ⟨x, xs, rfl, h1, h2⟩ <;> simp [i_parts_of, parts, ixD, cmpD, hL]
/-! ### is_term_within -/
def tw (S : Nat) : Nat → List Dt → Nat → Bool
  | 0, L, _ => decide (L = [])
  | n + 1, L, c => decide (c + L.length ≤ S) && L.all hasForm && tw S n (L.flatMap parts) (c + L.length)
def b_tw : Iss := match i_is_term_within.body with | .cons _ (.cons (.for _ _ b) _) => b | _ => .nil
abbrev stw (v : Dt) (S D : Nat) (L : List Dt) (c : Int) (x : Option Dv) : Sl := [some (.dat v), some (.dat (.int S)), some (.dat (.int D)), some (.dat (.lst L)), some (.dat (.int c)), x, none, none]
theorem flat_len {L : List Dt} (h : L.all hasForm = true) : (L.flatMap parts).length ≤ 8 * L.length := by
  induction L with
  | nil => simp
  | cons d L ih =>
    simp only [List.all_cons, Bool.and_eq_true] at h
    have := parts_len h.1
    have := ih h.2
    simp only [List.flatMap_cons, List.length_append, List.length_cons]
    omega
theorem body_tw {S D : Nat} (hS : S ≤ 1000) {v d : Dt} {n : Nat} {L : List Dt} {c : Nat} (hL : ∀ d ∈ L, okd n d = true) :
    evIss (T C (m + 2)) [] b_tw (stw v S D L c (some (.dat d))) = if c + L.length ≤ S ∧ L.all hasForm = true then .nx (stw v S D (L.flatMap parts) ((c : Int) + (L.length : Int)) (some (.dat d))) else .rt (.bl false) (stw v S D L ((c : Int) + (L.length : Int)) (some (.dat d))) := by
  by_cases h1 : c + L.length ≤ S
  · have h1' : ¬ ((S : Int) < c + L.length) := by omega
    have hl : L.length ≤ LIM := by unfold LIM; omega
    have e2 := lc1 (fn := (T C (m + 2)).fn) (e := .call "has_form" (.cons (some 6) (.var 6) .nil)) (i := 6) (δ := stw v S D L ((c : Int) + (L.length : Int)) (some (.dat d))) (ds := L) (fun d => .bl (hasForm d)) (by
      intro e he
      simp [run_has_form (hL e he)])
    by_cases h2 : L.all hasForm = true
    · have e3 := lcf (fn := (T C (m + 2)).fn) (e := .call "parts_of" (.cons (some 6) (.var 6) .nil)) (i := 6) (k := 7) (δ := stw v S D L ((c : Int) + (L.length : Int)) (some (.dat d))) (ds := L) (by decide) parts (by
        intro e he
        simp [run_parts_of (List.all_eq_true.mp h2 e he)]) (by simp)
      have hl2 : (L.flatMap parts).length ≤ LIM := by have := flat_len h2; unfold LIM; omega
      rw [if_pos ⟨h1, h2⟩]
      simp [b_tw, i_is_term_within, lenD, binD, cmpD, h1', itemsD, e2, e3, bls_map, hl, truD]
      rw [if_neg (by rintro ⟨a, ha, hb⟩; rw [List.all_eq_true.mp h2 a ha] at hb; cases hb), if_pos (by simpa using hl2)]
    · rw [if_neg (by simp [h2])]
      simp [b_tw, i_is_term_within, lenD, binD, cmpD, h1', itemsD, e2, bls_map, hl, truD]
      intro h
      exact absurd (List.all_eq_true.mpr h) h2
  · have h1' : (S : Int) < c + L.length := by omega
    rw [if_neg (by simp [h1])]
    simp [b_tw, i_is_term_within, lenD, binD, cmpD, h1']
theorem loop_tw {S D : Nat} (hS : S ≤ 1000) {v : Dt} {n : Nat} : ∀ (ds : List Dt) (L : List Dt) (c : Nat) (x : Option Dv), isownS [x] 0 = false → (∀ d ∈ L, okd n d = true) →
    (∃ δ, tw S ds.length L c = false ∧ evFor (putT (.name 5)) (evIss (T C (m + 2)) [] b_tw) ds (stw v S D L c x) = .rt (.bl false) δ) ∨
    ∃ L' c' x', (∀ d ∈ L', okd n d = true) ∧ tw S ds.length L c = decide (L' = []) ∧ evFor (putT (.name 5)) (evIss (T C (m + 2)) [] b_tw) ds (stw v S D L c x) = .nx (stw v S D L' c' x')
  | [], L, c, x, hx, hL => .inr ⟨L, c, x, hL, rfl, rfl⟩
  | d :: ds, L, c, x, hx, hL => by
    unfold evFor
    have e1 : putT (.name 5) d (stw v S D L c x) = some (stw v S D L c (some (.dat d))) := by
      rcases x with _ | ⟨_ | _⟩ <;> simp at hx ⊢
    rw [e1]
    dsimp only
    rw [body_tw hS hL]
    by_cases h : c + L.length ≤ S ∧ L.all hasForm = true
    · rw [if_pos h]
      dsimp only
      have := loop_tw hS (D := D) (v := v) (n := n) ds (L.flatMap parts) (c + L.length) (some (.dat d)) rfl (by
        intro e he
        simp only [List.mem_flatMap] at he
        obtain ⟨f, hf, he⟩ := he
        exact parts_ok (hL f hf) e he)
      have ht : tw S (d :: ds).length L c = tw S ds.length (L.flatMap parts) (c + L.length) := by simp only [List.length_cons, tw, h.1, h.2]; simp
      rw [ht]
      exact this
    · rw [if_neg h]
      dsimp only
      left
      refine ⟨_, ?_, rfl⟩
      simp only [List.length_cons, tw]
      rw [Bool.and_eq_false_iff]
      left
      rw [← Bool.not_eq_true, Bool.and_eq_true, decide_eq_true_iff]
      exact h
theorem run_is_term_within {n S D : Nat} {d : Dt} (hS : S ≤ 1000) (hD : D ≤ 1000) (h : okd n d = true) : runI (T C (m + 2)) i_is_term_within [some (.dat d), some (.dat (.int S)), some (.dat (.int D))] = .ok (.bl (tw S D [d] 0)) [some (.dat d), some (.dat (.int S)), some (.dat (.int D))] := by
  rw [run_def rfl rfl]
  have hl : (rangeD 0 (D : Int).toNat).length = D := by simp [rangeD]
  have q := loop_tw hS (C := C) (m := m) (D := D) (v := d) (n := n) (rangeD 0 (D : Int).toNat) [d] 0 none rfl (by simpa using h)
  rw [hl] at q
  have e0 : evIss (T C (m + 2)) [] i_is_term_within.body ([some (.dat d), some (.dat (.int S)), some (.dat (.int D))] ++ List.replicate (i_is_term_within.nN - i_is_term_within.np) none) = (evFor (putT (.name 5)) (evIss (T C (m + 2)) [] b_tw) (rangeD 0 (D : Int).toNat) (stw d S D [d] 0 none)).seq (evIss (T C (m + 2)) [] (.cons (.ret (.cmp .Eq (.var 3) (.lst .nil))) .nil)) := by
    have h1 : (-100000 : Int) ≤ D := by omega
    have h2 : (D : Int) ≤ 100000 := by omega
    have h3 : 1 ≤ LIM := by decide
    simp [i_is_term_within, b_tw, h3, setAll, h1, h2]
  show fin _ (evIss (T C (m + 2)) [] i_is_term_within.body _) = _
  rw [e0]
  rcases q with ⟨δ, h1, h2⟩ | ⟨L', c', x', h1, h2, h3⟩
  · rw [show ((0 : Nat) : Int) = 0 from rfl] at h2
    rw [h2, h1]
    simp
  · rw [show ((0 : Nat) : Int) = 0 from rfl] at h3
    rw [h3, h2]
    simp [cmpD, eq_nil h1]
end
end K1

/-! K3c: sizes and depths. -/
namespace K1
open PySem L2 PD
open PyData (strOk)
def mL (f : Dt → Option (Nat × Nat)) : List Dt → Option (Nat × Nat)
  | [] => some (0, 0)
  | d :: ds => (f d).bind fun a => (mL f ds).map fun b => (a.1 + b.1, max a.2 b.2)
/-- the size and the depth of a term of depth at most n -/
def ms : Nat → Dt → Option (Nat × Nat)
  | 0, _ => none
  | n + 1, d => if hasForm d = true then (mL (ms n) (parts d)).map fun b => (b.1 + 1, b.2 + 1) else none
theorem mL_append {f : Dt → Option (Nat × Nat)} {a b : List Dt} {x y : Nat × Nat} (ha : mL f a = some x) (hb : mL f b = some y) : mL f (a ++ b) = some (x.1 + y.1, max x.2 y.2) := by
  induction a generalizing x with
  | nil => simp [mL] at ha; subst ha; simp [hb]
  | cons d a ih =>
    simp only [mL, Option.bind_eq_some_iff, Option.map_eq_some_iff] at ha
    obtain ⟨u, h1, v, h2, rfl⟩ := ha
    simp only [List.cons_append, mL, h1, ih h2, Option.bind_some, Option.map_some, Option.some.injEq, Prod.mk.injEq]
    omega
theorem ms_succ {n : Nat} {d : Dt} {x : Nat × Nat} (h : ms (n + 1) d = some x) : hasForm d = true ∧ ∃ b, mL (ms n) (parts d) = some b ∧ x = (b.1 + 1, b.2 + 1) := by
  unfold ms at h
  split at h
  · rename_i hf
    simp only [Option.map_eq_some_iff] at h
    obtain ⟨b, h1, h2⟩ := h
    exact ⟨hf, b, h1, h2.symm⟩
  · cases h
theorem mL_flat {k : Nat} : ∀ {L : List Dt} {x : Nat × Nat}, mL (ms (k + 1)) L = some x → L.all hasForm = true ∧ ∃ y, mL (ms k) (L.flatMap parts) = some y ∧ x.1 = y.1 + L.length ∧ x.2 = if L = [] then 0 else y.2 + 1
  | [], x, h => by simp [mL] at h; subst h; exact ⟨rfl, (0, 0), rfl, rfl, rfl⟩
  | d :: L, x, h => by
    simp only [mL, Option.bind_eq_some_iff, Option.map_eq_some_iff] at h
    obtain ⟨u, h1, v, h2, rfl⟩ := h
    obtain ⟨hf, b, h3, rfl⟩ := ms_succ h1
    obtain ⟨ha, y, h4, h5, h6⟩ := mL_flat h2
    refine ⟨by simp [hf] ; simpa using ha, _, mL_append h3 h4, ?_, ?_⟩
    · simp; omega
    · simp only [reduceCtorEq, if_false]
      split at h6
      · rename_i hn
        subst hn
        simp [mL] at h4
        subst h4
        simp [h6]
      · rw [h6]; omega
theorem tw_nil {S : Nat} : ∀ n {c : Nat}, c ≤ S → tw S n [] c = true
  | 0, _, _ => rfl
  | n + 1, c, h => by simp [tw, h, tw_nil n h]
theorem tw_ms {S : Nat} : ∀ n {k : Nat} {L : List Dt} {c : Nat} {x : Nat × Nat}, mL (ms k) L = some x → c ≤ S → tw S n L c = decide (c + x.1 ≤ S ∧ x.2 ≤ n) := by
  intro n
  induction n with
  | zero =>
    intro k L c x h hc
    cases L with
    | nil => simp [mL] at h; subst h; simp [tw, hc]
    | cons d L =>
      cases k with
      | zero => simp [mL, ms] at h
      | succ k =>
        obtain ⟨_, y, _, _, h3⟩ := mL_flat h
        simp at h3
        simp [tw, h3]
  | succ n ih =>
    intro k L c x h hc
    cases L with
    | nil => simp [mL] at h; subst h; simp [tw_nil (n + 1) hc, hc]
    | cons d L =>
      cases k with
      | zero => simp [mL, ms] at h
      | succ k =>
        obtain ⟨h0, y, h1, h2, h3⟩ := mL_flat h
        simp only [reduceCtorEq, if_false] at h3
        by_cases hl : c + (d :: L).length ≤ S
        · rw [tw, ih h1 hl, h0, decide_eq_true hl]
          simp only [Bool.and_self, Bool.true_and]
          rw [decide_eq_decide]
          omega
        · rw [tw, decide_eq_false hl]
          simp only [Bool.false_and]
          symm
          rw [decide_eq_false_iff_not]
          omega
theorem tw_some {S : Nat} : ∀ n {L : List Dt} {c : Nat}, tw S n L c = true → ∃ x, mL (ms n) L = some x := by
  intro n
  induction n with
  | zero => intro L c h; simp [tw] at h; subst h; exact ⟨_, rfl⟩
  | succ n ih =>
    intro L c h
    simp only [tw, Bool.and_eq_true] at h
    obtain ⟨⟨hc, hf⟩, ht⟩ := h
    obtain ⟨y, hy⟩ := ih ht
    clear ht hc
    induction L generalizing y with
    | nil => exact ⟨_, rfl⟩
    | cons d L ihL =>
      simp only [List.all_cons, Bool.and_eq_true] at hf
      have key : ∀ (a b : List Dt) y, mL (ms n) (a ++ b) = some y → (∃ u, mL (ms n) a = some u) ∧ ∃ v, mL (ms n) b = some v := by
        intro a
        induction a with
        | nil => intro b y h; exact ⟨⟨_, rfl⟩, _, h⟩
        | cons e a iha =>
          intro b y h
          simp only [List.cons_append, mL, Option.bind_eq_some_iff, Option.map_eq_some_iff] at h
          obtain ⟨p, h1, q, h2, _⟩ := h
          obtain ⟨⟨u, hu⟩, hv⟩ := iha b q h2
          exact ⟨⟨(p.1 + u.1, max p.2 u.2), by simp only [mL, h1, hu, Option.bind_some, Option.map_some]⟩, hv⟩
      rw [List.flatMap_cons] at hy
      obtain ⟨⟨u, hu⟩, v, hv⟩ := key _ _ _ hy
      obtain ⟨w, hw⟩ := ihL hf.2 v hv
      have e1 : ms (n + 1) d = some (u.1 + 1, u.2 + 1) := by rw [ms, if_pos hf.1, hu]; rfl
      exact ⟨(u.1 + 1 + w.1, max (u.2 + 1) w.2), by simp only [mL, hw, e1, Option.bind_some, Option.map_some]⟩
theorem ms_some {S : Nat} {n : Nat} {d : Dt} (h : tw S n [d] 0 = true) : ∃ x, ms n d = some x := by
  obtain ⟨x, h⟩ := tw_some n h
  simp only [mL, Option.bind_eq_some_iff] at h
  obtain ⟨u, h, _⟩ := h
  exact ⟨u, h⟩
theorem tw_one {S n k : Nat} {d : Dt} {x : Nat × Nat} (h : ms k d = some x) : tw S n [d] 0 = decide (x.1 ≤ S ∧ x.2 ≤ n) := by
  rw [tw_ms (k := k) (x := x) n (by simp [mL, h]) (Nat.zero_le _)]
  simp
theorem mL_mono {n m : Nat} (ih : ∀ {d x}, ms n d = some x → ms m d = some x) : ∀ {L : List Dt} {x : Nat × Nat}, mL (ms n) L = some x → mL (ms m) L = some x
  | [], _, h => h
  | d :: L, x, h => by
    simp only [mL, Option.bind_eq_some_iff, Option.map_eq_some_iff] at h ⊢
    obtain ⟨u, h1, v, h2, h3⟩ := h
    exact ⟨u, ih h1, v, mL_mono ih h2, h3⟩
theorem ms_up {n : Nat} : ∀ {d : Dt} {x : Nat × Nat}, ms n d = some x → ms (n + 1) d = some x := by
  induction n with
  | zero => intro d x h; simp [ms] at h
  | succ n ih =>
    intro d x h
    obtain ⟨hf, b, h1, rfl⟩ := ms_succ h
    rw [ms, if_pos hf, mL_mono ih h1]; rfl
theorem ms_le {n m : Nat} (h : n ≤ m) {d : Dt} {x : Nat × Nat} (k : ms n d = some x) : ms m d = some x := by
  induction h with
  | refl => exact k
  | step _ ih => exact ms_up ih
/-! ### sums -/
end K1

/-! K3e: is_term, is_atom, errors. -/
namespace K1
open PySem L2 PD
open PyData (strOk)
def isT (d : Dt) : Bool := tw 200 30 [d] 0
def isOp : Dt → Bool
  | .tup (.str k :: _) => decide (k = "op")
  | _ => false
def argsOf : Dt → List Dt
  | .tup xs => xs
  | _ => []
def isA : Dt → Bool
  | .tup [.str k, x, y] => if k = "same" then isT x && isT y else decide (k = "test") && isName x && areArgs y && (argsOf y).all isT
  | _ => false
section
variable {C : Addr} {m : Nat}
theorem run_tw {n : Nat} {d : Dt} (h : okd n d = true) : runI (T C (m + 2)) i_is_term_within [some (.dat d), some (.dat (.int 200)), some (.dat (.int 30))] = .ok (.bl (isT d)) [some (.dat d), some (.dat (.int 200)), some (.dat (.int 30))] :=
  run_is_term_within (S := 200) (D := 30) (by decide) (by decide) h
theorem run_is_term {n : Nat} {d : Dt} (h : okd n d = true) : runI (T C (m + 3)) i_is_term [some (.dat d)] = .ok (.bl (isT d)) [some (.dat d)] := by
  rw [run_def rfl rfl]
  simp [i_is_term, g_MAX_SIZE, g_MAX_DEPTH, run_tw h]
theorem isT_form {d : Dt} (h : isT d = true) : hasForm d = true := by
  obtain ⟨x, hx⟩ := ms_some h
  exact (ms_succ hx).1
theorem run_is_atom_within {n : Nat} {d : Dt} (h : okd n d = true) : runI (T C (m + 3)) i_is_atom_within [some (.dat d), some (.dat (.int 200)), some (.dat (.int 30))] = .ok (.bl (isA d)) [some (.dat d), some (.dat (.int 200)), some (.dat (.int 30))] := by
  rw [run_def rfl rfl]
  cases d
  case tup xs =>
    cases n with
    | zero => simp [okd] at h
    | succ n =>
    simp only [okd, List.all_eq_true] at h
    rcases xs with _ | ⟨x0, _ | ⟨x1, _ | ⟨x2, _ | ⟨x3, xs⟩⟩⟩⟩
    · simp [i_is_atom_within, lenD, cmpD, truD, isA]
    · simp [i_is_atom_within, lenD, cmpD, truD, isA]
    · simp [i_is_atom_within, lenD, cmpD, truD, isA]
    · have h0 := h x0 (by simp)
      have h1 := h x1 (by simp)
      have h2 := h x2 (by simp)
      cases x0
      case str k =>
        simp only [okd, Bool.and_eq_true] at h0
        have hL : 2 ≤ LIM := by decide
        by_cases hs : k = "same"
        · subst hs
          have e2 := lc1 (fn := (T C (m + 3)).fn) (e := .call "is_term_within" (.cons (some 3) (.var 3) (.cons (some 1) (.var 1) (.cons (some 2) (.var 2) .nil)))) (i := 3) (δ := [some (.dat (.tup [.str "same", x1, x2])), some (.dat (.int 200)), some (.dat (.int 30)), none]) (ds := [x1, x2]) (fun d => .bl (isT d)) (by
            intro e he
            have : okd n e = true := by simp at he; rcases he with rfl | rfl <;> assumption
            simp [run_tw this])
          simp only [List.map_cons, List.map_nil] at e2
          have e3 : slD (.tup [.str "same", x1, x2]) (some 1) none = some (.tup [x1, x2]) := rfl
          simp [i_is_atom_within, lenD, cmpD, truD, ixD, e3, itemsD, e2, hL, blsD, isA]
        · by_cases ht : k = "test"
          · subst ht
            by_cases hn : isName x1 = true
            · by_cases ha : areArgs x2 = true
              · cases x2 <;> simp [areArgs] at ha
                rename_i ys
                have hy : ∀ y ∈ ys, okd n y = true := by
                  cases n with
                  | zero => simp [okd] at h2
                  | succ n => simp [okd] at h2; exact fun y hy => okd_up (h2 y hy)
                have e2 := lc1 (fn := (T C (m + 3)).fn) (e := .call "is_term_within" (.cons (some 3) (.var 3) (.cons (some 1) (.var 1) (.cons (some 2) (.var 2) .nil)))) (i := 3) (δ := [some (.dat (.tup [.str "test", x1, .tup ys])), some (.dat (.int 200)), some (.dat (.int 30)), none]) (ds := ys) (fun d => .bl (isT d)) (by
                  intro e he
                  simp [run_tw (hy e he)])
                have hl : ys.length ≤ LIM := by unfold LIM; omega
                simp [i_is_atom_within, lenD, cmpD, truD, ixD, run_is_name h1, run_are_args h2, hn, areArgs, ha, itemsD, e2, hl, bls_map, isA, argsOf]
              · simp [i_is_atom_within, lenD, cmpD, truD, ixD, run_is_name h1, run_are_args h2, hn, ha, isA]
            · simp [i_is_atom_within, lenD, cmpD, truD, ixD, run_is_name h1, hn, isA]
          · simp [i_is_atom_within, lenD, cmpD, truD, ixD, h0.1, hs, ht, isA]
      all_goals simp [i_is_atom_within, lenD, cmpD, truD, isA, ixD, okd] at h0 ⊢
    · simp [i_is_atom_within, lenD, cmpD, truD, isA]
      omega
  all_goals first | (simp [okd] at h; done) | (simp [i_is_atom_within, truD, isA]; done)
theorem run_is_atom {n : Nat} {d : Dt} (h : okd n d = true) : runI (T C (m + 4)) i_is_atom [some (.dat d)] = .ok (.bl (isA d)) [some (.dat d)] := by
  rw [run_def rfl rfl]
  simp [i_is_atom, g_MAX_SIZE, g_MAX_DEPTH, run_is_atom_within h]
@[simp] theorem cl_T : (T C (m + 1)).cl "InvalidTerm" = some (C, [("value" : Str)]) := by kernel_rfl
@[simp] theorem xs_1 : (T C (m + 1)).xs "InvalidTerm" "InvalidTerm" = some true := by kernel_rfl
@[simp] theorem xs_2 : (T C (m + 1)).xs "InvalidTerm" "HandError" = some true := by kernel_rfl
@[simp] theorem xs_3 : (T C (m + 1)).xs "InvalidTerm" "ValueError" = some true := by kernel_rfl
theorem isA_same {x y : Dt} : isA (.tup [.str "same", x, y]) = (isT x && isT y) := by simp [isA]
theorem okd_str {n : Nat} {s : Str} (h : (strOk s && decide (s.length ≤ LIM)) = true) : okd n (.str s) = true := by simp only [okd]; exact h
@[simp] theorem putT_tup {is : List Nat} {ds : List Dt} {δ : Sl} : putT (.tup is) (.tup ds) δ = setAll is ds δ := rfl
theorem okd_same {n : Nat} {x y : Dt} (hx : okd n x = true) (hy : okd n y = true) : okd (n + 1) (.tup [.str "same", x, y]) = true := by
  have : okd n (.str "same") = true := okd_str (by kernel_rfl)
  simp only [okd, List.all_cons, List.all_nil, hx, hy, this, Bool.and_self]
end
end K1

/-! K3f: draws. -/
namespace K1
open PySem L2 PD
open PyData (strOk)
structure Wd where
  a : Str
  f : Str
  g : Str
  k : Str
  p : Str
def nm (s : Str) : Bool := isNameS s && (strOk s && decide (s.length ≤ LIM))
def Wd.ok (w : Wd) : Bool := nm w.a && nm w.f && nm w.g && nm w.k && nm w.p
abbrev pool (w : Wd) (i0 i1 : Int) : List Dt := [.int i0, .int i1, .str w.a, .str w.f, .str w.g, .str w.k, .str w.p]
def Pool (w : Wd) (c : List Dt) : Prop := ∃ i0 i1, c = pool w i0 i1 ∧ 0 ≤ i0 ∧ 0 ≤ i1 ∧ i1 < 2147483648
section
variable {C : Addr} {m : Nat} {w : Wd}
@[simp] theorem at3 {α : Type} {x y z u : α} {l : List α} : atI (x :: y :: z :: u :: l) 3 = some u := atI_nat (k := 3)
@[simp] theorem at4 {α : Type} {x y z u v : α} {l : List α} : atI (x :: y :: z :: u :: v :: l) 4 = some v := atI_nat (k := 4)
@[simp] theorem at5 {α : Type} {x y z u v w : α} {l : List α} : atI (x :: y :: z :: u :: v :: w :: l) 5 = some w := atI_nat (k := 5)
@[simp] theorem at6 {α : Type} {x y z u v w r : α} {l : List α} : atI (x :: y :: z :: u :: v :: w :: r :: l) 6 = some r := atI_nat (k := 6)
theorem run_draw {c : List Dt} (h : Pool w c) {k : Int} (h1 : 0 < k) (h2 : k < 1000) : ∃ r c', Pool w c' ∧ 0 ≤ r ∧ r < k ∧ runI (T C m) i_law_draw [some (.own c), some (.dat (.int k))] = .ok (.int r) [some (.own c'), some (.dat (.int k))] := by
  obtain ⟨i0, i1, rfl, p0, p1, p2⟩ := h
  have h2' : k < 1073741824 := by omega
  have x0 : ixN 7 0 = some 0 := by decide
  have x1 : ixN 7 1 = some 1 := by decide
  by_cases h0 : 0 < i0
  · refine ⟨i0 % k, pool w (i0 / k) i1, ⟨_, _, rfl, Int.ediv_nonneg p0 (by omega), p1, p2⟩, Int.emod_nonneg _ (by omega), Int.emod_lt_of_pos _ h1, ?_⟩
    rw [run_def rfl rfl]
    simp [i_law_draw, cmpD, h0, binD, h1, h2', x0]
  · have q0 : 0 ≤ (i1 * 48271 + 11) % 2147483647 := by omega
    have q1 : (i1 * 48271 + 11) % 2147483647 < 2147483648 := by omega
    refine ⟨(((i1 * 48271 + 11) % 2147483647) * ((i1 * 48271 + 11) % 2147483647)) % 2147483629 / 64 % k, pool w i0 ((i1 * 48271 + 11) % 2147483647), ⟨_, _, rfl, p0, q0, q1⟩, Int.emod_nonneg _ (by omega), Int.emod_lt_of_pos _ h1, ?_⟩
    rw [run_def rfl rfl]
    have b1 : (-(2 ^ 64) < (i1 * 48271 + 11) % 2147483647 ∧ (i1 * 48271 + 11) % 2147483647 < 2 ^ 64) := by constructor <;> omega
    have b2 : -18446744073709551616 < (i1 * 48271 + 11) % 2147483647 := by omega
    have b3 : (i1 * 48271 + 11) % 2147483647 < 18446744073709551616 := by omega
    simp [i_law_draw, cmpD, h0, binD, h1, h2', x1, b2, b3]
end
end K1

/-! K3g: drawn terms and atoms. -/
namespace K1
open PySem L2 PD
open PyData (strOk)
theorem ms_e {n : Nat} : ∀ {d : Dt} {x : Nat × Nat}, ms n d = some x → x.2 ≤ n := by
  induction n with
  | zero => intro d x h; simp [ms] at h
  | succ n ih =>
    intro d x h
    obtain ⟨_, b, h1, rfl⟩ := ms_succ h
    have : ∀ {L : List Dt} {y : Nat × Nat}, mL (ms n) L = some y → y.2 ≤ n := by
      intro L
      induction L with
      | nil => intro y h; simp [mL] at h; subst h; omega
      | cons d L ihL =>
        intro y h
        simp only [mL, Option.bind_eq_some_iff, Option.map_eq_some_iff] at h
        obtain ⟨u, h1, v, h2, rfl⟩ := h
        have := ih h1
        have := ihL h2
        simp only
        omega
    have := this h1
    simp only
    omega
theorem ms_var {n : Nat} {s : Str} (h : nm s = true) : ms (n + 1) (.tup [.str "var", .str s]) = some (1, 1) := by
  simp only [nm, Bool.and_eq_true] at h
  simp [ms, hasForm, isName, h.1, parts, mL]
theorem ms_item {n : Nat} {s : Str} {d : Dt} {x : Nat × Nat} (h : nm s = true) (hd : ms n d = some x) : ms (n + 1) (.tup [.str "item", .str s, d]) = some (x.1 + 1, x.2 + 1) := by
  simp only [nm, Bool.and_eq_true] at h
  simp [ms, hasForm, isName, h.1, parts, mL, hd]
theorem ms_op {n : Nat} {s : Str} {xs : List Dt} {x : Nat × Nat} (h : nm s = true) (hl : xs.length ≤ 8) (hd : mL (ms n) xs = some x) : ms (n + 1) (.tup [.str "op", .str s, .tup xs]) = some (x.1 + 1, x.2 + 1) := by
  simp only [nm, Bool.and_eq_true] at h
  simp [ms, hasForm, isName, h.1, parts, hd, areArgs, hl]
theorem okd_nm {n : Nat} {s : Str} (h : nm s = true) : okd n (.str s) = true := by
  simp only [nm, Bool.and_eq_true] at h
  exact okd_str (by simp only [Bool.and_eq_true]; exact h.2)
theorem okl {n : Nat} : okd n (.str "var") = true ∧ okd n (.str "item") = true ∧ okd n (.str "op") = true ∧ okd n (.str "same") = true ∧ okd n (.str "test") = true :=
  ⟨okd_str (by kernel_rfl), okd_str (by kernel_rfl), okd_str (by kernel_rfl), okd_str (by kernel_rfl), okd_str (by kernel_rfl)⟩
theorem okd_var {n : Nat} {s : Str} (h : nm s = true) : okd (n + 1) (.tup [.str "var", .str s]) = true := by
  show ([Dt.str "var", Dt.str s].all (okd n)) = true
  simp only [List.all_cons, List.all_nil, okl.1, okd_nm h]; rfl
theorem okd_item {n : Nat} {s : Str} {d : Dt} (h : nm s = true) (hd : okd n d = true) : okd (n + 1) (.tup [.str "item", .str s, d]) = true := by
  show ([Dt.str "item", Dt.str s, d].all (okd n)) = true
  simp only [List.all_cons, List.all_nil, okl.2.1, okd_nm h, hd]; rfl
theorem okd_op {n : Nat} {s : Str} {xs : List Dt} (h : nm s = true) (hd : ∀ x ∈ xs, okd n x = true) : okd (n + 2) (.tup [.str "op", .str s, .tup xs]) = true := by
  have : okd (n + 1) (.tup xs) = true := by simp only [okd, List.all_eq_true]; exact hd
  show ([Dt.str "op", Dt.str s, Dt.tup xs].all (okd (n + 1))) = true
  simp only [List.all_cons, List.all_nil, okl.2.2.1, okd_nm h, this]; rfl
end K1

/-! K3m: terms as trees, their texts, the reader of texts: plain mathematics. -/
namespace K1
open PySem L2 PD
open PyData (strOk)
open SX (S S_len S_cat S_inj)
inductive Tr where
  | var (s : List Nat)
  | item (s : List Nat) (t : Tr)
  | op (s : List Nat) (ts : List Tr)
def isN (s : List Nat) : Bool := isNameS (S s)
mutual
def toD : Tr → Dt
  | .var s => .tup [.str "var", .str (S s)]
  | .item s t => .tup [.str "item", .str (S s), toD t]
  | .op s ts => .tup [.str "op", .str (S s), .tup (toDs ts)]
def toDs : List Tr → List Dt
  | [] => []
  | t :: ts => toD t :: toDs ts
end
mutual
def wfT : Tr → Bool
  | .var s => isN s
  | .item s t => isN s && wfT t
  | .op s ts => isN s && wfTs ts
def wfTs : List Tr → Bool
  | [] => true
  | t :: ts => wfT t && wfTs ts
end
mutual
def arT : Tr → Bool
  | .var _ => true
  | .item _ t => arT t
  | .op _ ts => decide (ts.length ≤ 8) && arTs ts
def arTs : List Tr → Bool
  | [] => true
  | t :: ts => arT t && arTs ts
end
mutual
def siz : Tr → Nat
  | .var _ => 1
  | .item _ t => siz t + 1
  | .op _ ts => sizs ts + 1
def sizs : List Tr → Nat
  | [] => 0
  | t :: ts => siz t + sizs ts
end
mutual
def dep : Tr → Nat
  | .var _ => 1
  | .item _ t => dep t + 1
  | .op _ ts => deps ts + 1
def deps : List Tr → Nat
  | [] => 0
  | t :: ts => max (dep t) (deps ts)
end
mutual
def txt : Tr → List Nat
  | .var s => s
  | .item s t => s ++ 91 :: (txt t ++ [93])
  | .op s ts => s ++ 40 :: (txts ts ++ [41])
def txts : List Tr → List Nat
  | [] => []
  | t :: ts => txt t ++ txtr ts
def txtr : List Tr → List Nat
  | [] => []
  | t :: ts => 44 :: 32 :: (txt t ++ txtr ts)
end
/-! ### names -/
def letB (c : Nat) : Bool := decide (c ∈ letters.cps.toList)
theorem letB_lt {c : Nat} (h : letB c = true) : 97 ≤ c ∧ c ≤ 122 := by
  have e : letters.cps.toList = [97, 98, 99, 100, 101, 102, 103, 104, 105, 106, 107, 108, 109, 110, 111, 112, 113, 114, 115, 116, 117, 118, 119, 120, 121, 122] := by kernel_rfl
  simp only [letB, e, decide_eq_true_eq, List.mem_cons, List.not_mem_nil, or_false] at h
  omega
theorem letB_no {c : Nat} (h : ¬ (97 ≤ c ∧ c ≤ 122)) : letB c = false := by
  cases hb : letB c with
  | false => rfl
  | true => exact absurd (letB_lt hb) h
theorem isN_iff {s : List Nat} : isN s = (decide (1 ≤ s.length ∧ s.length ≤ 8) && !(decide (S s ∈ words)) && s.all letB) := by
  simp only [isN, isNameS, S_len]
  rfl
theorem isN_len {s : List Nat} (h : isN s = true) : 1 ≤ s.length ∧ s.length ≤ 8 ∧ s.all letB = true := by
  rw [isN_iff] at h
  simp only [Bool.and_eq_true, decide_eq_true_eq] at h
  exact ⟨h.1.1.1, h.1.1.2, h.2⟩
theorem strOk_S {s : List Nat} (h : ∀ c ∈ s, c < 1114112) : strOk (S s) = true := by
  simp only [strOk, S, List.all_toArray, List.all_eq_true, decide_eq_true_eq]
  exact h
theorem isN_nm {s : List Nat} (h : isN s = true) : nm (S s) = true := by
  obtain ⟨h1, h2, h3⟩ := isN_len h
  have a : strOk (S s) = true := strOk_S fun c hc => by have := letB_lt (List.all_eq_true.mp h3 c hc); omega
  have b : (S s).length ≤ LIM := by rw [S_len]; unfold LIM; omega
  have c : isNameS (S s) = true := h
  simp only [nm, a, c, decide_eq_true b, Bool.and_self]
theorem nm_isN {s : Str} (h : nm s = true) : isN s.cps.toList = true := by
  simp only [nm, Bool.and_eq_true] at h
  exact h.1
/-! ### trees and data -/
theorem toDs_map : ∀ ts : List Tr, toDs ts = ts.map toD
  | [] => rfl
  | t :: ts => by simp [toDs, toDs_map ts]
theorem dep_pos (t : Tr) : 1 ≤ dep t := by cases t <;> simp [dep]
mutual
theorem ok_tr : ∀ {t : Tr} {n : Nat}, wfT t = true → dep t ≤ n → okd (2 * n) (toD t) = true
  | .var s, n, h, hn => by
    have : 1 ≤ n := hn
    exact okd_le (by omega) (okd_var (n := 0) (isN_nm h))
  | .item s t, n, h, hn => by
    simp only [wfT, Bool.and_eq_true] at h
    simp only [dep] at hn
    exact okd_le (by omega) (okd_item (n := 2 * (n - 1)) (isN_nm h.1) (ok_tr h.2 (by omega)))
  | .op s ts, n, h, hn => by
    simp only [wfT, Bool.and_eq_true] at h
    simp only [dep] at hn
    exact okd_le (by omega) (okd_op (n := 2 * (n - 1)) (isN_nm h.1) (ok_trs h.2 (by omega)))
theorem ok_trs : ∀ {ts : List Tr} {n : Nat}, wfTs ts = true → deps ts ≤ n → ∀ x ∈ toDs ts, okd (2 * n) x = true
  | [], n, h, hn => by simp [toDs]
  | t :: ts, n, h, hn => by
    simp only [wfTs, Bool.and_eq_true] at h
    simp only [deps] at hn
    intro x hx
    simp only [toDs, List.mem_cons] at hx
    rcases hx with rfl | hx
    · exact ok_tr h.1 (by omega)
    · exact ok_trs h.2 (by omega) x hx
end
mutual
theorem ms_tr : ∀ {t : Tr} {n : Nat}, wfT t = true → arT t = true → dep t ≤ n → ms n (toD t) = some (siz t, dep t)
  | .var s, n, h, ha, hn => by
    obtain ⟨k, rfl⟩ : ∃ k, n = k + 1 := ⟨n - 1, by simp [dep] at hn; omega⟩
    exact ms_var (isN_nm h)
  | .item s t, n, h, ha, hn => by
    simp only [wfT, Bool.and_eq_true] at h
    simp only [dep] at hn
    obtain ⟨k, rfl⟩ : ∃ k, n = k + 1 := ⟨n - 1, by omega⟩
    exact ms_item (isN_nm h.1) (ms_tr h.2 ha (by omega))
  | .op s ts, n, h, ha, hn => by
    simp only [wfT, Bool.and_eq_true] at h
    simp only [arT, Bool.and_eq_true, decide_eq_true_eq] at ha
    simp only [dep] at hn
    obtain ⟨k, rfl⟩ : ∃ k, n = k + 1 := ⟨n - 1, by omega⟩
    exact ms_op (x := (sizs ts, deps ts)) (isN_nm h.1) (by rw [toDs_map]; simpa using ha.1) (ms_trs h.2 ha.2 (by omega))
theorem ms_trs : ∀ {ts : List Tr} {n : Nat}, wfTs ts = true → arTs ts = true → deps ts ≤ n → mL (ms n) (toDs ts) = some (sizs ts, deps ts)
  | [], n, h, ha, hn => rfl
  | t :: ts, n, h, ha, hn => by
    simp only [wfTs, Bool.and_eq_true] at h
    simp only [arTs, Bool.and_eq_true] at ha
    simp only [deps] at hn
    simp only [toDs, mL, ms_tr h.1 ha.1 (show dep t ≤ n by omega), ms_trs h.2 ha.2 (show deps ts ≤ n by omega), Option.bind_some, Option.map_some, sizs, deps]
end
mutual
theorem ar_ms : ∀ {t : Tr} {n : Nat} {x : Nat × Nat}, ms n (toD t) = some x → arT t = true
  | .var s, n, x, h => rfl
  | .item s t, n, x, h => by
    cases n with
    | zero => simp [ms] at h
    | succ n =>
      obtain ⟨h1, b, h2, _⟩ := ms_succ h
      have e : parts (toD (.item s t)) = [toD t] := by simp [toD, parts]
      rw [e] at h2
      simp only [mL, Option.bind_eq_some_iff] at h2
      obtain ⟨u, h3, _⟩ := h2
      exact ar_ms (t := t) h3
  | .op s ts, n, x, h => by
    cases n with
    | zero => simp [ms] at h
    | succ n =>
      obtain ⟨h1, b, h2, _⟩ := ms_succ h
      have e : parts (toD (.op s ts)) = toDs ts := by simp [toD, parts]
      have l := parts_len h1
      rw [e] at h2 l
      simp only [arT, Bool.and_eq_true, decide_eq_true_eq]
      exact ⟨by rw [toDs_map] at l; simpa using l, ar_mss h2⟩
theorem ar_mss : ∀ {ts : List Tr} {n : Nat} {x : Nat × Nat}, mL (ms n) (toDs ts) = some x → arTs ts = true
  | [], n, x, h => rfl
  | t :: ts, n, x, h => by
    simp only [toDs, mL, Option.bind_eq_some_iff, Option.map_eq_some_iff] at h
    obtain ⟨u, h1, v, h2, _⟩ := h
    simp only [arTs, Bool.and_eq_true]
    exact ⟨ar_ms h1, ar_mss h2⟩
end
theorem isT_tr {t : Tr} (h : wfT t = true) : isT (toD t) = (arT t && decide (siz t ≤ 200 ∧ dep t ≤ 30)) := by
  cases ha : arT t with
  | true => rw [isT, tw_one (ms_tr h ha (Nat.le_refl _))]; rfl
  | false =>
    cases hb : isT (toD t) with
    | false => rfl
    | true =>
      obtain ⟨x, hx⟩ := ms_some hb
      rw [ar_ms hx] at ha
      cases ha
end K1

/-! K3p: the reader of texts: plain mathematics. -/
namespace K1
open PySem L2 PD
open PyData (strOk)
open SX (S S_len S_cat S_inj)
abbrev Rd := List Nat → Option (Tr × List Nat)
def gL (p : Rd) : Nat → List Nat → Option (List Tr × List Nat)
  | 0, _ => none
  | n + 1, r => match p r with
    | some (t, 41 :: r') => some ([t], r')
    | some (t, 44 :: 32 :: r') => (gL p n r').map fun x => (t :: x.1, x.2)
    | _ => none
def gA (p : Rd) (r : List Nat) : Option (List Tr × List Nat) := match r with
  | 41 :: r' => some ([], r')
  | r => gL p (r.length + 1) r
def gT : Nat → Rd
  | 0, _ => none
  | d + 1, r => if isN (r.takeWhile letB) = true then (match r.dropWhile letB with
      | 91 :: r2 => (match gT d r2 with | some (t, 93 :: r3) => some (.item (r.takeWhile letB) t, r3) | _ => none)
      | 40 :: r2 => (gA (gT d) r2).map fun x => (.op (r.takeWhile letB) x.1, x.2)
      | r1 => some (.var (r.takeWhile letB), r1)) else none
/-! ### what is read has just this text -/
def Sound (d : Nat) (p : Rd) : Prop := ∀ r t r', p r = some (t, r') → r = txt t ++ r' ∧ wfT t = true ∧ dep t ≤ d
theorem gL_sound {d : Nat} {p : Rd} (h : Sound d p) : ∀ n r ts r', gL p n r = some (ts, r') → r = txts ts ++ 41 :: r' ∧ wfTs ts = true ∧ deps ts ≤ d ∧ ts ≠ []
  | 0, r, ts, r', e => by simp [gL] at e
  | n + 1, r, ts, r', e => by
    unfold gL at e
    split at e
    · next t q hp =>
      cases e
      obtain ⟨h1, h2, h3⟩ := h _ _ _ hp
      refine ⟨by simp [txts, txtr, h1], by simp [wfTs, h2], by simp [deps, h3], by simp⟩
    · next t q hp =>
      obtain ⟨h1, h2, h3⟩ := h _ _ _ hp
      simp only [Option.map_eq_some_iff] at e
      obtain ⟨⟨us, q'⟩, e1, e2⟩ := e
      simp only [Prod.mk.injEq] at e2
      obtain ⟨rfl, rfl⟩ := e2
      obtain ⟨k1, k2, k3, k4⟩ := gL_sound h n q us q' e1
      refine ⟨?_, by simp [wfTs, h2, k2], by simp [deps]; omega, by simp⟩
      cases us with
      | nil => exact absurd rfl k4
      | cons u us =>
        rw [h1, k1]
        simp [txts, txtr]
    · cases e
theorem gA_sound {d : Nat} {p : Rd} (h : Sound d p) {r : List Nat} {ts : List Tr} {r' : List Nat} (e : gA p r = some (ts, r')) : r = txts ts ++ 41 :: r' ∧ wfTs ts = true ∧ deps ts ≤ d := by
  unfold gA at e
  split at e
  · cases e; simp [txts, wfTs, deps]
  · obtain ⟨a, b, c, _⟩ := gL_sound h _ _ _ _ e
    exact ⟨a, b, c⟩
theorem tw_dw (r : List Nat) : r.takeWhile letB ++ r.dropWhile letB = r := List.takeWhile_append_dropWhile
theorem gT_sound : ∀ d, Sound d (gT d)
  | 0, r, t, r', e => by simp [gT] at e
  | d + 1, r, t, r', e => by
    have ih := gT_sound d
    have tw := tw_dw r
    unfold gT at e
    split at e
    · next hn =>
      split at e
      · next r2 hd =>
        rw [hd] at tw
        split at e
        · next u q hu =>
          cases e
          obtain ⟨h1, h2, h3⟩ := ih _ _ _ hu
          refine ⟨?_, by simp [wfT, hn, h2], by simp [dep, h3]⟩
          rw [h1] at tw
          refine tw.symm.trans ?_
          simp [txt]
        · cases e
      · next r2 hd =>
        rw [hd] at tw
        simp only [Option.map_eq_some_iff] at e
        obtain ⟨⟨us, q'⟩, e1, e2⟩ := e
        simp only [Prod.mk.injEq] at e2
        obtain ⟨rfl, rfl⟩ := e2
        obtain ⟨h1, h2, h3⟩ := gA_sound ih e1
        refine ⟨?_, by simp [wfT, hn, h2], by simp [dep, h3]⟩
        rw [h1] at tw
        refine tw.symm.trans ?_
        simp [txt]
      · cases e
        exact ⟨by rw [txt]; exact tw.symm, by simp [wfT, hn], by simp [dep]⟩
    · cases e
/-! ### measures of texts -/
def brk (l : List Nat) : Nat := l.countP fun c => c == 91 || c == 40
theorem brk_append (a b : List Nat) : brk (a ++ b) = brk a + brk b := by simp [brk]
theorem brk_cons (c : Nat) (b : List Nat) : brk (c :: b) = brk b + if (c == 91 || c == 40) = true then 1 else 0 := by simp [brk, List.countP_cons]
mutual
theorem dep_brk : ∀ (t : Tr), dep t ≤ 1 + brk (txt t)
  | .var s => by simp [dep]
  | .item s t => by
    have := dep_brk t
    simp only [dep, txt, brk_append, brk_cons]
    simp
    omega
  | .op s ts => by
    have := deps_brk ts
    simp only [dep, txt, brk_append, brk_cons]
    simp
    omega
theorem deps_brk : ∀ (ts : List Tr), deps ts ≤ 1 + brk (txts ts)
  | [] => by simp [deps]
  | t :: ts => by
    have := dep_brk t
    have := depr_brk ts
    simp only [deps, txts, brk_append]
    omega
theorem depr_brk : ∀ (ts : List Tr), deps ts ≤ 1 + brk (txtr ts)
  | [] => by simp [deps]
  | t :: ts => by
    have := dep_brk t
    have := depr_brk ts
    simp only [deps, txtr, brk_append, brk_cons]
    omega
end
mutual
theorem siz_len : ∀ (t : Tr), wfT t = true → siz t ≤ (txt t).length
  | .var s, h => (isN_len h).1
  | .item s t, h => by
    simp only [wfT, Bool.and_eq_true] at h
    have := siz_len t h.2
    have := (isN_len h.1).1
    simp [siz, txt]; omega
  | .op s ts, h => by
    simp only [wfT, Bool.and_eq_true] at h
    have := sizs_len ts h.2
    simp [siz, txt]; omega
theorem sizs_len : ∀ (ts : List Tr), wfTs ts = true → sizs ts ≤ (txts ts).length
  | [], h => by simp [sizs]
  | t :: ts, h => by
    simp only [wfTs, Bool.and_eq_true] at h
    have := siz_len t h.1
    have := sizr_len ts h.2
    simp [sizs, txts]; omega
theorem sizr_len : ∀ (ts : List Tr), wfTs ts = true → sizs ts ≤ (txtr ts).length
  | [], h => by simp [sizs]
  | t :: ts, h => by
    simp only [wfTs, Bool.and_eq_true] at h
    have := siz_len t h.1
    have := sizr_len ts h.2
    simp [sizs, txtr]; omega
end
theorem txt_pos {t : Tr} (h : wfT t = true) : 1 ≤ (txt t).length := by
  have := siz_len t h
  have : 1 ≤ siz t := by cases t <;> simp [siz]
  omega
/-! ### the depth that is allowed does not matter -/
theorem gL_dep {d : Nat} {p p' : Rd} (h : ∀ r t r', p' r = some (t, r') → dep t ≤ d → p r = some (t, r')) : ∀ n r ts r', gL p' n r = some (ts, r') → deps ts ≤ d → gL p n r = some (ts, r')
  | 0, r, ts, r', e, _ => by simp [gL] at e
  | n + 1, r, ts, r', e, hd => by
    unfold gL at e
    split at e
    · next t q hp =>
      cases e
      simp only [deps] at hd
      have := h _ _ _ hp (by omega)
      unfold gL
      rw [this]
      rfl
    · next t q hp =>
      simp only [Option.map_eq_some_iff] at e
      obtain ⟨⟨us, q'⟩, e1, e2⟩ := e
      simp only [Prod.mk.injEq] at e2
      obtain ⟨rfl, rfl⟩ := e2
      simp only [deps] at hd
      have a := h _ _ _ hp (by omega)
      have b := gL_dep h n q us q' e1 (by omega)
      unfold gL
      rw [a]
      simp [b]
    · cases e
theorem gT_dep : ∀ d' {d : Nat} {r : List Nat} {t : Tr} {r' : List Nat}, gT d' r = some (t, r') → dep t ≤ d → gT d r = some (t, r')
  | 0, d, r, t, r', e, _ => by simp [gT] at e
  | d' + 1, d, r, t, r', e, hd => by
    have hp := dep_pos t
    obtain ⟨k, rfl⟩ : ∃ k, d = k + 1 := ⟨d - 1, by omega⟩
    unfold gT at e ⊢
    split at e
    · next hn =>
      rw [if_pos hn]
      split at e
      · next r2 h2 =>
        split at e
        · next u q hu =>
          cases e
          simp only [dep] at hd
          have := gT_dep d' (d := k) hu (by omega)
          simp [this]
        · cases e
      · next r2 h2 =>
        simp only [Option.map_eq_some_iff] at e ⊢
        obtain ⟨⟨us, q'⟩, e1, e2⟩ := e
        simp only [Prod.mk.injEq] at e2
        obtain ⟨rfl, rfl⟩ := e2
        simp only [dep] at hd
        refine ⟨(us, q'), ?_, rfl⟩
        unfold gA at e1 ⊢
        split at e1
        · exact e1
        · next hr =>
          exact gL_dep (p' := gT d') (fun r t r' e h => gT_dep d' e h) _ _ _ _ e1 (by omega)
      · next h2 =>
        cases e
        rfl
    · cases e
theorem gT_same {d d' : Nat} {r : List Nat} (h : brk r + 1 ≤ d) (h' : brk r + 1 ≤ d') : gT d r = gT d' r := by
  have key : ∀ {a b : Nat}, brk r + 1 ≤ b → ∀ x, gT a r = some x → gT b r = some x := by
    intro a b hb x e
    obtain ⟨t, r'⟩ := x
    obtain ⟨h1, h2, h3⟩ := gT_sound _ _ _ _ e
    have := dep_brk t
    have h4 : brk r = brk (txt t) + brk r' := by rw [h1, brk_append]
    exact gT_dep _ e (by omega)
  cases e : gT d r with
  | some x => exact (key h' x e).symm
  | none =>
    cases e' : gT d' r with
    | none => rfl
    | some x => rw [key h x e'] at e; cases e
/-! ### each text is read -/
def Stop : List Nat → Prop
  | [] => True
  | c :: _ => letB c = false ∧ c ≠ 91 ∧ c ≠ 40
theorem tw_word {s r : List Nat} (h : s.all letB = true) (hr : ∀ c q, r = c :: q → letB c = false) : (s ++ r).takeWhile letB = s ∧ (s ++ r).dropWhile letB = r := by
  induction s with
  | nil =>
    cases r with
    | nil => simp
    | cons c q => simp [hr c q rfl]
  | cons c s ih =>
    simp only [List.all_cons, Bool.and_eq_true] at h
    obtain ⟨i1, i2⟩ := ih h.2
    simp [h.1, i1, i2]
theorem let_no {c : Nat} (h : c < 97) : letB c = false := letB_no (by omega)
theorem gL_all {d : Nat} (ih : ∀ {t : Tr} {r' : List Nat}, wfT t = true → dep t ≤ d → Stop r' → gT d (txt t ++ r') = some (t, r')) : ∀ (ts : List Tr) (t : Tr) (n : Nat) (r' : List Nat), wfTs (t :: ts) = true → deps (t :: ts) ≤ d → ts.length < n → gL (gT d) n (txts (t :: ts) ++ 41 :: r') = some (t :: ts, r')
  | [], t, n, r', h, hd, hn => by
    obtain ⟨n, rfl⟩ : ∃ k, n = k + 1 := ⟨n - 1, by omega⟩
    simp only [wfTs, Bool.and_eq_true] at h
    simp only [deps] at hd
    have := ih (t := t) (r' := 41 :: r') h.1 (by omega) ⟨let_no (by decide), by decide, by decide⟩
    unfold gL
    simp [txts, txtr, this]
  | u :: ts, t, n, r', h, hd, hn => by
    obtain ⟨n, rfl⟩ : ∃ k, n = k + 1 := ⟨n - 1, by omega⟩
    have h0 := h
    simp only [wfTs, Bool.and_eq_true] at h
    have hd0 := hd
    simp only [deps] at hd
    have e1 := ih (t := t) (r' := 44 :: 32 :: (txts (u :: ts) ++ 41 :: r')) h.1 (by omega) ⟨let_no (by decide), by decide, by decide⟩
    have e2 := gL_all ih ts u n r' (by simp only [wfTs, Bool.and_eq_true]; exact h.2) (by simp only [deps]; omega) (by simp at hn; omega)
    have e3 : txts (t :: u :: ts) ++ 41 :: r' = txt t ++ 44 :: 32 :: (txts (u :: ts) ++ 41 :: r') := by simp [txts, txtr]
    unfold gL
    rw [e3, e1]
    simp [e2]
theorem txts_len : ∀ (ts : List Tr), wfTs ts = true → ts.length ≤ (txts ts).length
  | [], h => by simp
  | t :: ts, h => by
    have r : ∀ ts : List Tr, ts.length ≤ (txtr ts).length := by
      intro ts
      induction ts with
      | nil => simp
      | cons t ts ih => simp [txtr]; omega
    simp only [wfTs, Bool.and_eq_true] at h
    have := txt_pos h.1
    have := r ts
    simp [txts]; omega
theorem txt_head {t : Tr} (h : wfT t = true) (r : List Nat) : ∃ c q, txt t ++ r = c :: q ∧ letB c = true := by
  have key : ∀ s : List Nat, isN s = true → ∀ r, ∃ c q, s ++ r = c :: q ∧ letB c = true := by
    intro s hs r
    obtain ⟨h1, _, h3⟩ := isN_len hs
    cases s with
    | nil => simp at h1
    | cons c s =>
      simp only [List.all_cons, Bool.and_eq_true] at h3
      exact ⟨c, s ++ r, rfl, h3.1⟩
  cases t with
  | var s => exact key s h r
  | item s t =>
    simp only [wfT, Bool.and_eq_true] at h
    obtain ⟨c, q, e, hc⟩ := key s h.1 (91 :: (txt t ++ [93]) ++ r)
    exact ⟨c, q, by simpa [txt] using e, hc⟩
  | op s ts =>
    simp only [wfT, Bool.and_eq_true] at h
    obtain ⟨c, q, e, hc⟩ := key s h.1 (40 :: (txts ts ++ [41]) ++ r)
    exact ⟨c, q, by simpa [txt] using e, hc⟩
theorem gT_all : ∀ {d : Nat} {t : Tr} {r' : List Nat}, wfT t = true → dep t ≤ d → Stop r' → gT d (txt t ++ r') = some (t, r') := by
  intro d
  induction d with
  | zero => intro t r' h hd; have := dep_pos t; omega
  | succ d ih =>
    intro t r' h hd hs
    cases t with
    | var s =>
      have hw : isN s = true := h
      obtain ⟨e1, e2⟩ := tw_word (s := s) (r := r') (isN_len hw).2.2 (fun c q e => by subst e; exact hs.1)
      unfold gT
      rw [txt, e1, e2, if_pos hw]
      cases r' with
      | nil => rfl
      | cons c q =>
        obtain ⟨_, h2, h3⟩ := hs
        split
        · next e => cases e; exact absurd rfl h2
        · next e => cases e; exact absurd rfl h3
        · rfl
    | item s t =>
      simp only [wfT, Bool.and_eq_true] at h
      simp only [dep] at hd
      have e0 : txt (.item s t) ++ r' = s ++ 91 :: (txt t ++ 93 :: r') := by simp [txt]
      obtain ⟨e1, e2⟩ := tw_word (s := s) (r := 91 :: (txt t ++ 93 :: r')) (isN_len h.1).2.2 (fun c q e => by cases e; exact let_no (by decide))
      unfold gT
      rw [e0, e1, e2, if_pos h.1]
      simp [ih (t := t) (r' := 93 :: r') h.2 (by omega) ⟨let_no (by decide), by decide, by decide⟩]
    | op s ts =>
      simp only [wfT, Bool.and_eq_true] at h
      simp only [dep] at hd
      have e0 : txt (.op s ts) ++ r' = s ++ 40 :: (txts ts ++ 41 :: r') := by simp [txt]
      obtain ⟨e1, e2⟩ := tw_word (s := s) (r := 40 :: (txts ts ++ 41 :: r')) (isN_len h.1).2.2 (fun c q e => by cases e; exact let_no (by decide))
      unfold gT
      rw [e0, e1, e2, if_pos h.1]
      have : gA (gT d) (txts ts ++ 41 :: r') = some (ts, r') := by
        cases ts with
        | nil => simp [txts, gA]
        | cons t ts =>
          have hl := txts_len (t :: ts) h.2
          have e3 := gL_all ih ts t ((txts (t :: ts) ++ 41 :: r').length + 1) r' h.2 (by omega) (by simp at hl ⊢; omega)
          have h2 := h.2
          simp only [wfTs, Bool.and_eq_true] at h2
          unfold gA
          split
          · next q e =>
            obtain ⟨c, q', e', hc⟩ := txt_head h2.1 (txtr ts ++ 41 :: r')
            simp only [txts, List.append_assoc] at e
            rw [e'] at e
            cases e
            have := letB_lt hc
            omega
          · exact e3
      simp [this]
end K1

/-! K3q: texts at the level of data; letters_from. -/
namespace K1
open PySem L2 PD
open PyData (strOk)
open SX (S S_len S_cat S_inj)
section
variable {l a b : List Nat} {i j k : Nat}
theorem lenS (h : l.length ≤ LIM) : lenD (.str (S l)) = some l.length := by
  simp only [lenD, S_len, if_pos h]
theorem truS (h : l.length ≤ LIM) : lenD (.str (S l)) = some l.length := by
  simp only [lenD, S_len, if_pos h]
theorem ixS (h : l.length ≤ LIM) : ixD (.str (S l)) (.int (i : Int)) = (l[i]?).map fun c => .str (S [c]) := by
  simp only [ixD, S_len, if_pos h, atI_nat]
theorem slS (h : l.length ≤ LIM) (hij : i ≤ j) : slD (.str (S l)) (some (i : Int)) (some (j : Int)) = some (.str (S ((l.drop i).take (j - i)))) := by
  simp only [slD, S_len, if_pos h, cutS, HT.sIx_nat]
  refine congrArg (fun z => some (Dt.str (S z))) ?_
  show (l.drop (min i l.length)).take (min j l.length - min i l.length) = (l.drop i).take (j - i)
  by_cases h1 : i ≤ l.length
  · rw [Nat.min_eq_left h1]
    by_cases h2 : j ≤ l.length
    · rw [Nat.min_eq_left h2]
    · rw [Nat.min_eq_right (by omega), List.take_of_length_le (by simp), List.take_of_length_le (by simp; omega)]
  · rw [Nat.min_eq_right (by omega), Nat.min_eq_right (by omega)]
    simp
    omega
theorem slS0 (h : l.length ≤ LIM) : slD (.str (S l)) none (some (j : Int)) = some (.str (S (l.take j))) := by
  have := slS (l := l) (i := 0) (j := j) h (by omega)
  simp only [slD, S_len, if_pos h, cutS] at this ⊢
  simpa [HT.sIx] using this
theorem slSn (h : l.length ≤ LIM) : slD (.str (S l)) (some (i : Int)) none = some (.str (S (l.drop i))) := by
  simp only [slD, S_len, if_pos h, cutS, HT.sIx_nat, HT.sIx_none]
  refine congrArg (fun z => some (Dt.str (S z))) ?_
  show (l.drop (min i l.length)).take (l.length - min i l.length) = l.drop i
  by_cases h1 : i ≤ l.length
  · rw [Nat.min_eq_left h1, List.take_of_length_le (by simp)]
  · rw [Nat.min_eq_right (by omega)]
    simp
    omega
theorem catS (h : a.length + b.length ≤ LIM) : binD .Add (.str (S a)) (.str (S b)) = some (.str (S (a ++ b))) := by
  simp only [binD, S_len, if_pos h, S_cat]
theorem eqS (ha : ∀ c ∈ a, c < 1114112) (hb : ∀ c ∈ b, c < 1114112) : eqD (.str (S a)) (.str (S b)) = some (decide (a = b)) := by
  rw [eq_str (strOk_S ha) (strOk_S hb)]
  by_cases h : a = b
  · subst h; simp
  · have : S a ≠ S b := fun e => h (S_inj e)
    simp [h, this]
theorem inS {c : Nat} : inD (.str (S [c])) g_LETTERS = some (letB c) := by
  simp [inD, g_LETTERS, letB, letters]
end
@[simp] def kAug (i : Nat) (b : Bool) (u : Int) (y : Dt) (δ : Sl) : Fl := match y with
  | .int v => .nx (δ.set i (some (.dat (.int (if b then u + v else u - v)))))
  | _ => .bad
@[simp] theorem s_aug {ε : Ev} {ow : List Nat} {δ : Sl} {i : Nat} {b : Bool} {e : Ie} {u : Int} (h : getS δ i = some (.dat (.int u))) : evIs ε ow (.aug i b e) δ = (evIe ε.fn e δ).fl (kAug i b u) := by rw [evIs, h]; rfl
section
variable {C : Addr} {m : Nat}
def t_let : PD.It := match i_letters_from.body with | .cons (.wh c _) _ => c | _ => .bad
def b_let : Iss := match i_letters_from.body with | .cons (.wh _ b) _ => b | _ => .nil
theorem loop_let {l : List Nat} (hl : l.length ≤ LIM) : ∀ (n fuel at_ : Nat), at_ ≤ l.length → l.length - at_ ≤ n → n < fuel → evWh (evIt (T C m).fn t_let) (evIss (T C m) [] b_let) fuel [some (.dat (.str (S l))), some (.dat (.int (at_ : Int)))] = .nx [some (.dat (.str (S l))), some (.dat (.int ((at_ + ((l.drop at_).takeWhile letB).length : Nat) : Int)))]
  | n, 0, at_, h0, h1, h2 => by omega
  | n, fuel + 1, at_, h0, h1, h2 => by
    unfold evWh
    by_cases h : at_ < l.length
    · have h' : (at_ : Int) < (l.length : Int) := by omega
      have e1 : l[at_]? = some l[at_] := List.getElem?_eq_getElem h
      have e2 : l.drop at_ = l[at_] :: l.drop (at_ + 1) := List.drop_eq_getElem_cons h
      cases hb : letB l[at_] with
      | true =>
        have ih := loop_let hl (n - 1) fuel (at_ + 1) (by omega) (by omega) (by omega)
        have e3 : (l.drop at_).takeWhile letB = l[at_] :: (l.drop (at_ + 1)).takeWhile letB := by rw [e2, List.takeWhile_cons, if_pos hb]
        have e4 : at_ + ((l.drop at_).takeWhile letB).length = at_ + 1 + ((l.drop (at_ + 1)).takeWhile letB).length := by rw [e3, List.length_cons]; omega
        rw [e4]
        clear e2 e3 e4
        simp [t_let, b_let, i_letters_from, lenS hl, cmpD, h', ixS hl, e1, inS, hb] at ih ⊢
        exact ih
      | false =>
        have e3 : (l.drop at_).takeWhile letB = [] := by rw [e2, List.takeWhile_cons, if_neg (by rw [hb]; exact Bool.false_ne_true)]
        rw [e3]
        clear e2 e3
        simp [t_let, b_let, i_letters_from, lenS hl, cmpD, h', ixS hl, e1, inS, hb]
    · have h' : ¬ (at_ : Int) < (l.length : Int) := by omega
      have e2 : l.drop at_ = [] := List.drop_eq_nil_of_le (by omega)
      simp [t_let, b_let, i_letters_from, lenS hl, cmpD, h', e2]
theorem run_letters {l : List Nat} {at_ : Nat} (hl : l.length ≤ 1000) (h : at_ ≤ l.length) : runI (T C m) i_letters_from [some (.dat (.str (S l))), some (.dat (.int (at_ : Int)))] = .ok (.int ((at_ + ((l.drop at_).takeWhile letB).length : Nat) : Int)) [some (.dat (.str (S l))), some (.dat (.int (at_ : Int)))] := by
  have hL : l.length ≤ LIM := by unfold LIM; omega
  rw [run_def rfl rfl]
  have e0 : evIss (T C m) [] i_letters_from.body ([some (.dat (.str (S l))), some (.dat (.int (at_ : Int)))] ++ List.replicate (i_letters_from.nN - i_letters_from.np) none) = (evWh (evIt (T C m).fn t_let) (evIss (T C m) [] b_let) FUEL [some (.dat (.str (S l))), some (.dat (.int (at_ : Int)))]).seq (evIss (T C m) [] (.cons (.ret (.var 1)) .nil)) := by
    show evIss (T C m) [] (.cons (.wh t_let b_let) (.cons (.ret (.var 1)) .nil)) _ = _
    rw [ss_cons, s_wh]
    rfl
  show fin _ (evIss (T C m) [] i_letters_from.body _) = _
  rw [e0, loop_let hL 1000 FUEL at_ h (by omega) (by decide)]
  simp
end
end K1

/-! K3r: term_from, args_from. -/
namespace K1
open PySem L2 PD
open PyData (strOk)
open SX (S S_len S_cat S_inj)
/-- where a rest begins -/
def pos (l r : List Nat) : Nat := l.length - r.length
/-- a text whose signs are plain -/
structure Pt (l : List Nat) : Prop where
  len : l.length ≤ 1000
  chr : ∀ c ∈ l, c < 1114112
section
variable {l r r' a : List Nat} {c : Nat}
theorem suf_len (h : r <:+ l) : r.length ≤ l.length := h.length_le
theorem drop_pos (h : r <:+ l) : l.drop (pos l r) = r := (List.suffix_iff_eq_drop.mp h).symm
theorem pos_le : pos l r ≤ l.length := Nat.sub_le _ _
theorem suf_app (h : a ++ r <:+ l) : r <:+ l := (List.suffix_append a r).trans h
theorem pos_app (h : a ++ r <:+ l) : pos l r = pos l (a ++ r) + a.length := by
  have := suf_len h
  simp only [pos, List.length_append] at this ⊢
  omega
theorem suf_cons (h : c :: r <:+ l) : r <:+ l := suf_app (a := [c]) h
theorem pos_cons (h : c :: r <:+ l) : ((pos l (c :: r) : Nat) : Int) + 1 = ((pos l r : Nat) : Int) := by
  have := pos_app (a := [c]) h
  simp at this
  omega
theorem Pt.lim (h : Pt l) : l.length ≤ LIM := by have := h.len; unfold LIM; omega
theorem Pt.suf (h : Pt l) (hs : r <:+ l) : ∀ c ∈ r, c < 1114112 := fun c hc => h.chr c (hs.subset hc)
theorem slP (hp : Pt l) (h : r <:+ l) (k : Nat) : slD (.str (S l)) (some ((pos l r : Nat) : Int)) (some (((pos l r : Nat) : Int) + (k : Int))) = some (.str (S (r.take k))) := by
  have := slS (l := l) (i := pos l r) (j := pos l r + k) hp.lim (by omega)
  rw [drop_pos h] at this
  simpa using this
theorem slP1 (hp : Pt l) (h : r <:+ l) : slD (.str (S l)) (some ((pos l r : Nat) : Int)) (some (((pos l r : Nat) : Int) + 1)) = some (.str (S (r.take 1))) := slP hp h 1
theorem slP2 (hp : Pt l) (h : r <:+ l) : slD (.str (S l)) (some ((pos l r : Nat) : Int)) (some (((pos l r : Nat) : Int) + 2)) = some (.str (S (r.take 2))) := slP hp h 2
theorem slW (hp : Pt l) (h : a ++ r <:+ l) : slD (.str (S l)) (some ((pos l (a ++ r) : Nat) : Int)) (some ((pos l r : Nat) : Int)) = some (.str (S a)) := by
  have e := pos_app h
  rw [e]
  have := slP hp h a.length
  rw [List.take_left] at this
  simpa using this
theorem eqL {s : Str} {b : List Nat} (hs : s = S b) (hb : ∀ c ∈ b, c < 1114112) (ha : ∀ c ∈ a, c < 1114112) : eqD (.str (S a)) (.str s) = some (decide (a = b)) := by
  subst hs
  exact eqS ha hb
theorem ch_91 : ("[" : Str) = S [91] := by kernel_rfl
theorem ch_93 : ("]" : Str) = S [93] := by kernel_rfl
theorem ch_40 : ("(" : Str) = S [40] := by kernel_rfl
theorem ch_41 : (")" : Str) = S [41] := by kernel_rfl
theorem ch_44 : (", " : Str) = S [44, 32] := by kernel_rfl
theorem eq_lb (ha : ∀ c ∈ a, c < 1114112) : eqD (.str (S a)) (.str "[") = some (decide (a = [91])) := eqL ch_91 (by simp) ha
theorem eq_rb (ha : ∀ c ∈ a, c < 1114112) : eqD (.str (S a)) (.str "]") = some (decide (a = [93])) := eqL ch_93 (by simp) ha
theorem eq_lp (ha : ∀ c ∈ a, c < 1114112) : eqD (.str (S a)) (.str "(") = some (decide (a = [40])) := eqL ch_40 (by simp) ha
theorem eq_rp (ha : ∀ c ∈ a, c < 1114112) : eqD (.str (S a)) (.str ")") = some (decide (a = [41])) := eqL ch_41 (by simp) ha
theorem eq_cs (ha : ∀ c ∈ a, c < 1114112) : eqD (.str (S a)) (.str ", ") = some (decide (a = [44, 32])) := eqL ch_44 (by simp) ha
theorem take_ok (hp : Pt l) (h : r <:+ l) (k : Nat) : ∀ c ∈ r.take k, c < 1114112 := fun c hc => hp.suf h c (List.mem_of_mem_take hc)
theorem okd_S {n : Nat} (h : ∀ c ∈ a, c < 1114112) (hl : a.length ≤ 1000) : okd n (.str (S a)) = true := by
  refine okd_str ?_
  rw [strOk_S h, S_len, Bool.true_and, decide_eq_true_iff]
  unfold LIM; omega
theorem tw_len (r : List Nat) : (r.takeWhile letB).length ≤ r.length := by
  have := congrArg List.length (tw_dw r)
  simp only [List.length_append] at this
  omega
end
/-- what a reading gives -/
def rT (l : List Nat) (q : Int) : Option (Tr × List Nat) → Dt
  | some (t, r) => .tup [toD t, .int ((pos l r : Nat) : Int)]
  | none => .tup [.non, .int q]
def rA (l : List Nat) (q : Int) : Option (List Tr × List Nat) → Dt
  | some (ts, r) => .tup [.tup (toDs ts), .int ((pos l r : Nat) : Int)]
  | none => .tup [.non, .int q]
abbrev ar3 (l : List Nat) (r : List Nat) (d : Nat) : Sl := [some (.dat (.str (S l))), some (.dat (.int ((pos l r : Nat) : Int))), some (.dat (.int (d : Int)))]
section
variable {C : Addr} {m : Nat} {l : List Nat}
theorem run_let (hp : Pt l) {r : List Nat} (h : r <:+ l) : runI (T C m) i_letters_from [some (.dat (.str (S l))), some (.dat (.int ((pos l r : Nat) : Int)))] = .ok (.int ((pos l (r.dropWhile letB) : Nat) : Int)) [some (.dat (.str (S l))), some (.dat (.int ((pos l r : Nat) : Int)))] := by
  have e := run_letters (C := C) (m := m) (l := l) (at_ := pos l r) hp.len pos_le
  rw [drop_pos h] at e
  rw [e]
  have h' : r.takeWhile letB ++ r.dropWhile letB <:+ l := by rw [tw_dw]; exact h
  have := pos_app h'
  rw [tw_dw] at this
  rw [this]
def TF (C : Addr) (l : List Nat) (d m : Nat) : Prop := ∀ r, r <:+ l → ∃ q, runI (T C m) i_term_from (ar3 l r d) = .ok (rT l q (gT d r)) (ar3 l r d)
def AF (C : Addr) (l : List Nat) (d m : Nat) : Prop := ∀ r, r <:+ l → ∃ q, runI (T C m) i_args_from (ar3 l r d) = .ok (rA l q (gA (gT d) r)) (ar3 l r d)
theorem toD_ne (t : Tr) : isNon (toD t) = false := by cases t <;> simp [toD, isNon]
theorem term_tf {d m : Nat} (hp : Pt l) (h1 : TF C l d (m + 1)) (h2 : AF C l d (m + 1)) : TF C l (d + 1) (m + 2) := by
  intro r hr
  have hL2 : 2 ≤ LIM := by decide
  have hL3 : 3 ≤ LIM := by decide
  have e1 := run_let (C := C) (m := m + 1) hp hr
  have hw : r.takeWhile letB ++ r.dropWhile letB <:+ l := by rw [tw_dw]; exact hr
  have e2 := slW hp hw
  rw [tw_dw] at e2
  have hr1 := suf_app hw
  generalize hr1d : r.dropWhile letB = r1 at *
  generalize hwd : r.takeWhile letB = w at *
  have cw : ∀ c ∈ w, c < 1114112 := fun c hc => hp.suf hw c (List.mem_append_left _ hc)
  have lw : w.length ≤ 1000 := by have a1 := suf_len hw; have a2 := hp.len; rw [List.length_append] at a1; omega
  have e3 : runI (T C (m + 1)) i_is_name [some (.dat (.str (S w)))] = .ok (.bl (isN w)) [some (.dat (.str (S w)))] := run_is_name (n := 0) (okd_S cw lw)
  have hd0 : ¬ ((d : Int) + 1 < 1) := by omega
  have hds : (d : Int) + 1 - 1 = (d : Int) := by omega
  have e4 := slP1 hp hr1
  have gg : gT (d + 1) r = if isN w = true then (match r1 with
      | 91 :: r2 => (match gT d r2 with | some (t, 93 :: r3) => some (.item w t, r3) | _ => none)
      | 40 :: r2 => (gA (gT d) r2).map fun x => (.op w x.1, x.2)
      | r1 => some (.var w, r1)) else none := by (rw [gT, hr1d, hwd]) <;> rfl
  obtain ⟨sT, hsT⟩ : ∃ s, s = runI (T C (m + 1)) i_term_from := ⟨_, rfl⟩
  have fT : (T C (m + 2)).fn "term_from" = some sT := by rw [hsT]; exact fn_term_from
  obtain ⟨sA, hsA⟩ : ∃ s, s = runI (T C (m + 1)) i_args_from := ⟨_, rfl⟩
  have fA : (T C (m + 2)).fn "args_from" = some sA := by rw [hsA]; exact fn_args_from
  have t1 := eq_lb (take_ok hp hr1 1)
  have t2 := eq_lp (take_ok hp hr1 1)
  cases hn : isN w with
  | false =>
    refine ⟨(pos l r : Int), ?_⟩
    rw [gg, hn]
    rw [run_def rfl rfl]
    simp [i_term_from, e1, cmpD, e2, e3, hn, truD, hL2, rT]
  | true =>
    rw [gg, if_pos hn]
    have plain : r1.take 1 ≠ [91] → r1.take 1 ≠ [40] → runI (T C (m + 2)) i_term_from (ar3 l r (d + 1)) = .ok (.tup [.tup [.str "var", .str (S w)], .int ((pos l r1 : Nat) : Int)]) (ar3 l r (d + 1)) := by
      intro n1 n2
      rw [run_def rfl rfl]
      simp [i_term_from, e1, cmpD, e2, e3, hn, truD, hL2, binD, e4, t1, t2, n1, n2, setAll, hd0]
    cases r1 with
    | nil => exact ⟨0, plain (by simp) (by simp)⟩
    | cons c r2 =>
      have hr2 := suf_cons hr1
      have ep := pos_cons hr1
      by_cases c1 : c = 91
      · subst c1
        obtain ⟨q, e5⟩ := h1 r2 hr2
        rw [← hsT] at e5
        simp only [List.take_succ_cons, List.take_zero] at e4 t1
        rw [ep] at e4
        cases hg : gT d r2 with
        | none =>
          rw [hg] at e5
          simp only [rT] at e5
          refine ⟨(pos l r : Int), ?_⟩
          rw [run_def rfl rfl]
          simp [i_term_from, -fn_term_from, fT, e1, cmpD, e2, e3, hn, truD, hL2, binD, e4, t1, setAll, hd0, ep, hds, e5, isNon, rT, hg]
        | some x =>
          obtain ⟨t, r3⟩ := x
          rw [hg] at e5
          simp only [rT] at e5
          obtain ⟨s1, s2, s3⟩ := gT_sound _ _ _ _ hg
          have hr3 : r3 <:+ l := suf_app (a := txt t) (by rw [← s1]; exact hr2)
          have e6 := slP1 hp hr3
          have t3 := eq_rb (take_ok hp hr3 1)
          by_cases c3 : ∃ r4, r3 = 93 :: r4
          · obtain ⟨r4, rfl⟩ := c3
            simp only [List.take_succ_cons, List.take_zero] at e6 t3
            have ep3 := pos_cons hr3
            rw [ep3] at e6
            refine ⟨0, ?_⟩
            rw [run_def rfl rfl]
            simp [i_term_from, -fn_term_from, fT, e1, cmpD, e2, e3, hn, truD, hL2, hL3, binD, e4, t1, setAll, hd0, ep, hds, e5, toD_ne, e6, t3, ep3, rT, hg, toD]
          · have n3 : r3.take 1 ≠ [93] := by
              intro e
              cases r3 with
              | nil => simp at e
              | cons x r4 => simp at e; exact c3 ⟨r4, by rw [e]⟩
            refine ⟨(pos l r : Int), ?_⟩
            have hm : (match (some (t, r3) : Option (Tr × List Nat)) with | some (t, 93 :: r3) => some (Tr.item w t, r3) | _ => none) = none := by
              split
              · next e => cases e; exact absurd ⟨_, rfl⟩ c3
              · rfl
            rw [run_def rfl rfl]
            simp [i_term_from, -fn_term_from, fT, e1, cmpD, e2, e3, hn, truD, hL2, hL3, binD, e4, t1, setAll, hd0, ep, hds, e5, toD_ne, e6, t3, n3, rT, hg]
            split
            · next e =>
              split at e
              · next e' => cases e'; exact absurd ⟨_, rfl⟩ c3
              · cases e
            · rfl
      · by_cases c2 : c = 40
        · subst c2
          obtain ⟨q, e5⟩ := h2 r2 hr2
          rw [← hsA] at e5
          simp only [List.take_succ_cons, List.take_zero] at e4 t1 t2
          rw [ep] at e4
          cases hg : gA (gT d) r2 with
          | none =>
            rw [hg] at e5
            simp only [rA] at e5
            refine ⟨(pos l r : Int), ?_⟩
            rw [run_def rfl rfl]
            simp [i_term_from, -fn_args_from, fA, e1, cmpD, e2, e3, hn, truD, hL2, binD, e4, t1, t2, setAll, hd0, ep, hds, e5, isNon, rT, hg]
          | some x =>
            obtain ⟨ts, r3⟩ := x
            rw [hg] at e5
            simp only [rA] at e5
            refine ⟨0, ?_⟩
            rw [run_def rfl rfl]
            simp [i_term_from, -fn_args_from, fA, e1, cmpD, e2, e3, hn, truD, hL2, hL3, binD, e4, t1, t2, setAll, hd0, ep, hds, e5, isNon, rT, hg, toD]
        · have := plain (by simpa using c1) (by simpa using c2)
          refine ⟨0, this.trans ?_⟩
          have hm : (match (c :: r2) with
            | 91 :: r2 => (match gT d r2 with | some (t, 93 :: r3) => some (Tr.item w t, r3) | _ => none)
            | 40 :: r2 => (gA (gT d) r2).map fun x => (Tr.op w x.1, x.2)
            | r1 => some (Tr.var w, r1)) = some (Tr.var w, c :: r2) := by
            split
            · next e => cases e; exact absurd rfl c1
            · next e => cases e; exact absurd rfl c2
            · rfl
          rw [hm]
          rfl
def b_arg : Iss := match i_args_from.body with | .cons _ (.cons _ (.cons (.wh _ b) _)) => b | _ => .nil
abbrev sta (l : List Nat) (p : Nat) (d : Nat) (c : List Dt) (x : Option Dv) : Sl := [some (.dat (.str (S l))), some (.dat (.int (p : Int))), some (.dat (.int (d : Int))), some (.own c), x]
theorem toDs_app (a b : List Tr) : toDs (a ++ b) = toDs a ++ toDs b := by simp [toDs_map]
theorem toDs_len (a : List Tr) : (toDs a).length = a.length := by simp [toDs_map]
theorem loop_arg {d m : Nat} (hp : Pt l) (h1 : TF C l d m) : ∀ (n fuel : Nat) (r : List Nat) (us : List Tr) (x : Option Dv), isownS [x] 0 = false → r <:+ l → r.length < n → n ≤ fuel → us.length + r.length ≤ 1000 →
    ∃ q δ, evWh (evIt (T C (m + 1)).fn (.tru (.con (.bl true)))) (evIss (T C (m + 1)) [3] b_arg) fuel (sta l (pos l r) d (toDs us) x) = .rt (rA l q ((gL (gT d) n r).map fun y => (us ++ y.1, y.2))) (some (.dat (.str (S l))) :: δ)
  | 0, fuel, r, us, x, hx, hr, hn, hf, hu => by omega
  | n + 1, fuel, r, us, x, hx, hr, hn, hf, hu => by
    obtain ⟨fuel, rfl⟩ : ∃ k, fuel = k + 1 := ⟨fuel - 1, by omega⟩
    have hL2 : 2 ≤ LIM := by decide
    have hul : us.length < LIM := by unfold LIM; omega
    obtain ⟨sT, hsT⟩ : ∃ s, s = runI (T C m) i_term_from := ⟨_, rfl⟩
    have fT : (T C (m + 1)).fn "term_from" = some sT := by rw [hsT]; exact fn_term_from
    obtain ⟨q, e5⟩ := h1 r hr
    rw [← hsT] at e5
    have hx' : isownS [some (.dat (.str (S l))), some (.dat (.int ((pos l r : Nat) : Int))), some (.dat (.int (d : Int))), some (.own (toDs us)), x] 4 = false := by
      rcases x with _ | ⟨_ | _⟩ <;> first | rfl | cases hx
    have frz3 : ∀ {a b c' e : Option Dv} {c : List Dt}, frz [3] [a, b, c', some (.own c), e] = [a, b, c', some (.dat (.lst c)), e] := fun {a b c' e c} => by simp [frz]
    have own4 : isownS [x] 0 = false := hx
    have set4 : ∀ {c : List Dt} {u v : Dt}, setAll [4, 1] [u, v] (sta l (pos l r) d c x) = some [some (.dat (.str (S l))), some (.dat v), some (.dat (.int (d : Int))), some (.own c), some (.dat u)] := by
      intro c u v
      rcases x with _ | ⟨_ | _⟩ <;> simp [setAll] at hx ⊢
    unfold evWh
    cases hg : gT d r with
    | none =>
      rw [hg] at e5
      simp only [rT] at e5
      refine ⟨q, [some (.dat (.int q)), some (.dat (.int d)), some (.dat (.lst (toDs us))), some (.dat .non)], ?_⟩
      simp [b_arg, i_args_from, -fn_term_from, fT, e5, set4, truD, cmpD, isNon, hL2, gL, hg, rA, frz3]
    | some y =>
      obtain ⟨t, r'⟩ := y
      rw [hg] at e5
      simp only [rT] at e5
      obtain ⟨s1, s2, s3⟩ := gT_sound _ _ _ _ hg
      have hr' : r' <:+ l := suf_app (a := txt t) (by rw [← s1]; exact hr)
      have l1 : r.length = (txt t).length + r'.length := by rw [s1]; simp
      have l2 := txt_pos s2
      have e6 := slP1 hp hr'
      have e7 := slP2 hp hr'
      have t3 := eq_rp (take_ok hp hr' 1)
      have t4 := eq_cs (take_ok hp hr' 2)
      by_cases c1 : ∃ r2, r' = 41 :: r2
      · obtain ⟨r2, rfl⟩ := c1
        have ep := pos_cons hr'
        simp only [List.take_succ_cons, List.take_zero] at e6 t3
        rw [ep] at e6
        refine ⟨0, [some (.dat (.int ((pos l (41 :: r2) : Nat) : Int))), some (.dat (.int d)), some (.dat (.lst (toDs us ++ [toD t]))), some (.dat (toD t))], ?_⟩
        simp [b_arg, i_args_from, -fn_term_from, fT, e5, set4, truD, cmpD, toD_ne, hL2, gL, hg, rA, frz3, binD, e6, t3, ep, toDs_len, hul, toDs_app, toDs]
      · have n1 : r'.take 1 ≠ [41] := by
          intro e
          cases r' with
          | nil => simp at e
          | cons x r4 => simp at e; exact c1 ⟨r4, by rw [e]⟩
        by_cases c2 : ∃ r2, r' = 44 :: 32 :: r2
        · obtain ⟨r2, rfl⟩ := c2
          have hr2 : r2 <:+ l := suf_app (a := [44, 32]) hr'
          have ep : ((pos l (44 :: 32 :: r2) : Nat) : Int) + 2 = ((pos l r2 : Nat) : Int) := by
            have := pos_app (a := [44, 32]) hr'
            simp at this
            omega
          simp only [List.take_succ_cons, List.take_zero] at e6 t3 e7 t4
          rw [ep] at e7
          simp only [List.length_cons] at l1
          obtain ⟨q', δ', ih⟩ := loop_arg hp h1 n fuel r2 (us ++ [t]) (some (.dat (toD t))) rfl hr2 (by omega) (by omega) (by simp; omega)
          refine ⟨q', δ', ?_⟩
          rw [toDs_app] at ih
          have hgl : (gL (gT d) (n + 1) r).map (fun y => (us ++ y.1, y.2)) = (gL (gT d) n r2).map fun y => (us ++ [t] ++ y.1, y.2) := by
            rw [gL, hg]
            simp [Option.map_map, Function.comp_def]
          rw [hgl, ← ih]
          simp [b_arg, i_args_from, -fn_term_from, fT, e5, set4, truD, cmpD, toD_ne, hL2, frz3, binD, e6, t3, n1, e7, t4, ep, toDs_len, hul, toDs]
        · have n2 : r'.take 2 ≠ [44, 32] := by
            intro e
            rcases r' with _ | ⟨x, _ | ⟨y, r4⟩⟩ <;> simp at e
            exact c2 ⟨r4, by rw [e.1, e.2]⟩
          have hgl : gL (gT d) (n + 1) r = none := by
            rw [gL, hg]
            split
            · next e => cases e; exact absurd ⟨_, rfl⟩ c1
            · next e => cases e; exact absurd ⟨_, rfl⟩ c2
            · rfl
          refine ⟨((pos l r' : Nat) : Int), [some (.dat (.int ((pos l r' : Nat) : Int))), some (.dat (.int d)), some (.dat (.lst (toDs us ++ [toD t]))), some (.dat (toD t))], ?_⟩
          rw [hgl]
          simp [b_arg, i_args_from, -fn_term_from, fT, e5, set4, truD, cmpD, toD_ne, hL2, rA, frz3, binD, e6, t3, n1, e7, t4, n2, toDs_len, hul, toDs]
theorem args_af {d m : Nat} (hp : Pt l) (h1 : TF C l d m) : AF C l d (m + 1) := by
  intro r hr
  have hL2 : 2 ≤ LIM := by decide
  have e4 := slP1 hp hr
  have t1 := eq_rp (take_ok hp hr 1)
  by_cases c1 : ∃ r2, r = 41 :: r2
  · obtain ⟨r2, rfl⟩ := c1
    have ep := pos_cons hr
    simp only [List.take_succ_cons, List.take_zero] at e4 t1
    rw [ep] at e4
    refine ⟨0, ?_⟩
    rw [run_def rfl rfl]
    simp [i_args_from, binD, e4, ep, cmpD, t1, hL2, rA, gA, toDs, frz]
  · have n1 : r.take 1 ≠ [41] := by
      intro e
      cases r with
      | nil => simp at e
      | cons x r4 => simp at e; exact c1 ⟨r4, by rw [e]⟩
    have hl := hp.len
    have hrl := suf_len hr
    have hga : gA (gT d) r = gL (gT d) (r.length + 1) r := by
      unfold gA
      split
      · exact absurd ⟨_, rfl⟩ c1
      · rfl
    obtain ⟨q, δ, e⟩ := loop_arg hp h1 (r.length + 1) FUEL r [] none rfl hr (by omega) (by unfold FUEL; omega) (by simp; omega)
    refine ⟨q, ?_⟩
    rw [hga]
    have hmap : (gL (gT d) (r.length + 1) r).map (fun y => (([] : List Tr) ++ y.1, y.2)) = gL (gT d) (r.length + 1) r := by
      cases gL (gT d) (r.length + 1) r <;> simp
    rw [hmap] at e
    rw [run_def rfl rfl]
    have e0 : evIss (T C (m + 1)) [3] i_args_from.body (ar3 l r d ++ List.replicate (i_args_from.nN - i_args_from.np) none) = (evWh (evIt (T C (m + 1)).fn (.tru (.con (.bl true)))) (evIss (T C (m + 1)) [3] b_arg) FUEL (sta l (pos l r) d (toDs []) none)).seq (evIss (T C (m + 1)) [3] .nil) := by
      simp [i_args_from, b_arg, binD, e4, cmpD, t1, n1, toDs]
    show fin _ (evIss (T C (m + 1)) [3] i_args_from.body _) = _
    rw [e0, e]
    simp [Fl.seq]
theorem tf_all (hp : Pt l) : ∀ d, ∀ m, 2 * d + 1 ≤ m → TF C l d m
  | 0, m, hm => by
    intro r hr
    have hL2 : 2 ≤ LIM := by decide
    obtain ⟨m, rfl⟩ : ∃ k, m = k + 1 := ⟨m - 1, by omega⟩
    have e1 := run_let (C := C) (m := m) hp hr
    refine ⟨((pos l r : Nat) : Int), ?_⟩
    rw [run_def rfl rfl]
    simp [i_term_from, e1, cmpD, hL2, rT, gT]
  | d + 1, m, hm => by
    obtain ⟨m, rfl⟩ : ∃ k, m = k + 2 := ⟨m - 2, by omega⟩
    have a := tf_all hp d (m + 1) (by omega)
    have b := tf_all hp d m (by omega)
    exact term_tf hp a (args_af hp b)
end
end K1

/-! K3s: parse_term; the law's own reader. -/
namespace K1
open PySem L2 PD
open PyData (strOk)
open SX (S S_len S_cat S_inj)
theorem pos_self (l : List Nat) : pos l l = 0 := by simp [pos]
theorem pos_end {l r : List Nat} (h : r <:+ l) : pos l r = l.length ↔ r = [] := by
  have := suf_len h
  unfold pos
  constructor
  · intro e
    have : r.length = 0 ∨ l.length = 0 := by omega
    exact List.eq_nil_of_length_eq_zero (by omega)
  · intro e; subst e; simp
/-- the term with this text -/
def rd (x : Option (Tr × List Nat)) : Option Tr := match x with
  | some (t, []) => some t
  | _ => none
def oD : Option Tr → Dt
  | some t => toD t
  | none => .non
theorem rd_sound {d : Nat} {l : List Nat} {t : Tr} (h : rd (gT d l) = some t) : l = txt t ∧ wfT t = true := by
  cases hg : gT d l with
  | none => rw [hg] at h; cases h
  | some x =>
    obtain ⟨u, r⟩ := x
    rw [hg] at h
    cases r with
    | nil =>
      cases h
      obtain ⟨a, b, _⟩ := gT_sound _ _ _ _ hg
      exact ⟨by simpa using a, b⟩
    | cons c r => cases h
section
variable {C : Addr} {m : Nat} {l : List Nat}
theorem run_in_text (hp : Pt l) (hm : 202 ≤ m) : runI (T C m) i_term_in_text [some (.dat (.str (S l)))] = .ok (oD (rd (gT 100 l))) [some (.dat (.str (S l)))] := by
  obtain ⟨m, rfl⟩ : ∃ k, m = k + 1 := ⟨m - 1, by omega⟩
  obtain ⟨q, e⟩ := tf_all (C := C) hp 100 m (by omega) l List.suffix_rfl
  have hl := lenS hp.lim
  simp only [ar3, pos_self] at e
  obtain ⟨sT, hsT⟩ : ∃ s, s = runI (T C m) i_term_from := ⟨_, rfl⟩
  have fT : (T C (m + 1)).fn "term_from" = some sT := by rw [hsT]; exact fn_term_from
  rw [← hsT] at e
  rw [run_def rfl rfl]
  cases hg : gT 100 l with
  | none =>
    rw [hg] at e
    simp only [rT] at e
    simp at e
    simp [i_term_in_text, -fn_term_from, fT, g_DEEPEST, e, setAll, cmpD, isNon, rd, oD]
  | some x =>
    obtain ⟨t, r⟩ := x
    rw [hg] at e
    simp only [rT] at e
    obtain ⟨s1, s2, s3⟩ := gT_sound _ _ _ _ hg
    have hr : r <:+ l := suf_app (a := txt t) (by rw [← s1]; exact List.suffix_rfl)
    simp at e
    cases r with
    | nil =>
      have : pos l [] = l.length := (pos_end hr).mpr rfl
      simp [i_term_in_text, -fn_term_from, fT, g_DEEPEST, e, setAll, cmpD, toD_ne, hl, this, rd, oD]
    | cons c r =>
      have n : ¬ pos l (c :: r) = l.length := fun z => by have := (pos_end hr).mp z; cases this
      have n' : ¬ ((pos l (c :: r) : Nat) : Int) = (l.length : Int) := by omega
      simp [i_term_in_text, -fn_term_from, fT, g_DEEPEST, e, setAll, cmpD, toD_ne, hl, n, n', rd, oD]
/-- what parse_term gives -/
def prs (l : List Nat) : Option Tr := match rd (gT 100 l) with
  | some t => if isT (toD t) = true then some t else none
  | none => none
theorem run_parse (hp : Pt l) (hm : 203 ≤ m) : runI (T C m) i_parse_term [some (.dat (.str (S l)))] = match prs l with
    | some t => .ok (toD t) [some (.dat (.str (S l)))]
    | none => .exc ⟨"InvalidTerm", [.str (S l)]⟩ [some (.dat (.str (S l)))] := by
  obtain ⟨m, rfl⟩ : ∃ k, m = k + 4 := ⟨m - 4, by omega⟩
  have e := run_in_text (C := C) (m := m + 3) hp (by omega)
  rw [run_def rfl rfl]
  cases hg : rd (gT 100 l) with
  | none =>
    rw [hg] at e
    simp [i_parse_term, truD, e, oD, cmpD, isNon, prs, hg]
  | some t =>
    rw [hg] at e
    obtain ⟨_, hw⟩ := rd_sound hg
    have e2 := run_is_term (C := C) (m := m) (ok_tr hw (Nat.le_refl _))
    cases ht : isT (toD t) <;> rw [ht] at e2 <;> simp [i_parse_term, truD, e, oD, cmpD, toD_ne, prs, hg, ht, e2]
theorem run_parse_no {n : Nat} {d : Dt} (h : okd n d = true) (hs : ∀ s, d ≠ .str s) : runI (T C m) i_parse_term [some (.dat d)] = .exc ⟨"InvalidTerm", [d]⟩ [some (.dat d)] := by
  rw [run_def rfl rfl]
  cases d
  case str s => exact absurd rfl (hs s)
  all_goals first | (simp [okd] at h; done) | simp [i_parse_term, truD, cmpD, isNon]
/-! ### the law's own reader -/
def t_wrd : PD.It := match i_law_word.body with | .cons _ (.cons (.wh c _) _) => c | _ => .bad
def b_wrd : Iss := match i_law_word.body with | .cons _ (.cons (.wh _ b) _) => b | _ => .nil
abbrev swd (l : List Nat) (p q : Nat) : Sl := [some (.dat (.str (S l))), some (.dat (.int (p : Int))), some (.dat (.int (q : Int))), none]
theorem inS' {c : Nat} : inD (.str (S [c])) (.str "abcdefghijklmnopqrstuvwxyz") = some (letB c) := inS
theorem loop_wrd {l : List Nat} {p : Nat} (hl : l.length ≤ LIM) : ∀ (n fuel at_ : Nat), at_ ≤ l.length → l.length - at_ ≤ n → n < fuel → evWh (evIt (T C m).fn t_wrd) (evIss (T C m) [] b_wrd) fuel (swd l p at_) = .nx (swd l p (at_ + ((l.drop at_).takeWhile letB).length))
  | n, 0, at_, h0, h1, h2 => by omega
  | n, fuel + 1, at_, h0, h1, h2 => by
    unfold evWh
    by_cases h : at_ < l.length
    · have h' : (at_ : Int) < (l.length : Int) := by omega
      have e1 : l[at_]? = some l[at_] := List.getElem?_eq_getElem h
      have e2 : l.drop at_ = l[at_] :: l.drop (at_ + 1) := List.drop_eq_getElem_cons h
      cases hb : letB l[at_] with
      | true =>
        have ih := loop_wrd (p := p) hl (n - 1) fuel (at_ + 1) (by omega) (by omega) (by omega)
        have e3 : (l.drop at_).takeWhile letB = l[at_] :: (l.drop (at_ + 1)).takeWhile letB := by rw [e2, List.takeWhile_cons, if_pos hb]
        have e4 : at_ + ((l.drop at_).takeWhile letB).length = at_ + 1 + ((l.drop (at_ + 1)).takeWhile letB).length := by rw [e3, List.length_cons]; omega
        rw [e4]
        clear e2 e3 e4
        simp [t_wrd, b_wrd, i_law_word, lenS hl, cmpD, h', ixS hl, e1, inS', hb, binD] at ih ⊢
        exact ih
      | false =>
        have e3 : (l.drop at_).takeWhile letB = [] := by rw [e2, List.takeWhile_cons, if_neg (by rw [hb]; exact Bool.false_ne_true)]
        rw [e3]
        clear e2 e3
        simp [t_wrd, b_wrd, i_law_word, lenS hl, cmpD, h', ixS hl, e1, inS', hb]
    · have h' : ¬ (at_ : Int) < (l.length : Int) := by omega
      have e2 : l.drop at_ = [] := List.drop_eq_nil_of_le (by omega)
      simp [t_wrd, b_wrd, i_law_word, lenS hl, cmpD, h', e2]
theorem words_inL {s : Str} : inD (.str s) (.lst [.str "if", .str "else", .str "end", .str "proc", .str "main", .str "stop"]) = some (decide (s ∈ words)) := by
  have := flDs_str words
  show inD (.str s) (.lst (words.map .str)) = _
  simp [inD, flD, this, inV_str]
theorem tw_all (r : List Nat) : (r.takeWhile letB).all letB = true := by
  induction r with
  | nil => rfl
  | cons c r ih =>
    rw [List.takeWhile_cons]
    split
    · next h => simp [h]
    · rfl
theorem isN_tw (r : List Nat) : isN (r.takeWhile letB) = (!(decide (S (r.takeWhile letB) ∈ words)) && decide (1 ≤ (r.takeWhile letB).length ∧ (r.takeWhile letB).length ≤ 8)) := by
  rw [isN_iff, tw_all, Bool.and_true, Bool.and_comm]
theorem run_word (hp : Pt l) {r : List Nat} (h : r <:+ l) : runI (T C m) i_law_word [some (.dat (.str (S l))), some (.dat (.int ((pos l r : Nat) : Int)))] = .ok (if isN (r.takeWhile letB) = true then .int ((pos l (r.dropWhile letB) : Nat) : Int) else .non) [some (.dat (.str (S l))), some (.dat (.int ((pos l r : Nat) : Int)))] := by
  have hw : r.takeWhile letB ++ r.dropWhile letB <:+ l := by rw [tw_dw]; exact h
  have e2 := slW hp hw
  have hpos := pos_app hw
  rw [tw_dw] at e2 hpos
  have lp := loop_wrd (C := C) (m := m) (p := pos l r) hp.lim 1000 FUEL (pos l r) pos_le (by have := hp.len; omega) (by decide)
  rw [drop_pos h, ← hpos] at lp
  have e0 : evIss (T C m) [] i_law_word.body ([some (.dat (.str (S l))), some (.dat (.int ((pos l r : Nat) : Int)))] ++ List.replicate (i_law_word.nN - i_law_word.np) none) = (evWh (evIt (T C m).fn t_wrd) (evIss (T C m) [] b_wrd) FUEL (swd l (pos l r) (pos l r))).seq (evIss (T C m) [] (match i_law_word.body with | .cons _ (.cons _ x) => x | _ => .nil)) := by
    show evIss (T C m) [] (.cons (.set (.name 2) (.var 1)) (.cons (.wh t_wrd b_wrd) (match i_law_word.body with | .cons _ (.cons _ x) => x | _ => .nil))) _ = _
    rw [ss_cons, s_set, x_var]
    simp [i_law_word]
  rw [run_def rfl rfl]
  show fin _ (evIss (T C m) [] i_law_word.body _) = _
  rw [e0, lp]
  have lw : (r.takeWhile letB).length ≤ LIM := by have a1 := suf_len hw; have a2 := hp.lim; rw [List.length_append] at a1; omega
  have hL6 : 6 ≤ LIM := by decide
  rw [isN_tw]
  generalize r.takeWhile letB = w at *
  generalize r.dropWhile letB = r1 at *
  by_cases h1 : S w ∈ words
  · simp [i_law_word, Fl.seq, e2, cmpD, words_inL, h1, hL6]
  · by_cases h2 : 0 < w.length
    · have h2' : (0 : Int) < (w.length : Int) := by omega
      by_cases h3 : w.length < 9
      · have h3' : ¬ (9 : Int) ≤ (w.length : Int) := by omega
        have h4 : 1 ≤ w.length ∧ w.length ≤ 8 := by omega
        simp [i_law_word, Fl.seq, e2, cmpD, words_inL, h1, hL6, lenS lw, h2', h2, h3', h4]
      · have h3' : (9 : Int) ≤ (w.length : Int) := by omega
        have h4 : ¬ (1 ≤ w.length ∧ w.length ≤ 8) := by omega
        simp [i_law_word, Fl.seq, e2, cmpD, words_inL, h1, hL6, lenS lw, h2', h2, h3', h4]
    · have h2' : ¬ (0 : Int) < (w.length : Int) := by omega
      have h4 : ¬ (1 ≤ w.length ∧ w.length ≤ 8) := by omega
      simp [i_law_word, Fl.seq, e2, cmpD, words_inL, h1, hL6, lenS lw, h2', h2, h4]
end
end K1

/-! K3t: the law's own reader. -/
namespace K1
open PySem L2 PD
open PyData (strOk)
open SX (S S_len S_cat S_inj)
theorem wh_step {c : Sl → Re Bool} {body : Sl → Fl} {fuel : Nat} {δ δ0 δ1 : Sl} (h1 : c δ = .ok true δ0) (h2 : body δ0 = .nx δ1) : evWh c body (fuel + 1) δ = evWh c body fuel δ1 := by
  rw [evWh, h1]
  simp [Re.fl, h2]
/-- what the law's reader gives -/
def rQ (l : List Nat) : Option (Tr × List Nat) → Dt
  | some (t, r) => if arT t = true then .tup [toD t, .int ((pos l r : Nat) : Int)] else .non
  | none => .non
def LF (C : Addr) (l : List Nat) (d m : Nat) : Prop := ∀ r, r <:+ l → runI (T C m) i_law_parsed (ar3 l r d) = .ok (rQ l (gT d r)) (ar3 l r d)
def t_prs : PD.It := match i_law_parsed.body with | .cons _ (.cons _ (.cons _ (.cons _ (.cons _ (.cons _ (.cons _ (.cons (.wh c _) _))))))) => c | _ => .bad
def b_prs : Iss := match i_law_parsed.body with | .cons _ (.cons _ (.cons _ (.cons _ (.cons _ (.cons _ (.cons _ (.cons (.wh _ b) _))))))) => b | _ => .nil
def r_prs : Iss := match i_law_parsed.body with | .cons _ (.cons _ (.cons _ (.cons _ (.cons _ (.cons _ (.cons _ (.cons _ r))))))) => r | _ => .nil
abbrev sps (l : List Nat) (p d e : Nat) (w : List Nat) (x : Option Dt) (us : List Dt) : Sl := [some (.dat (.str (S l))), some (.dat (.int (p : Int))), some (.dat (.int ((d : Int) + 1))), some (.dat (.int (e : Int))), some (.dat (.str (S w))), x.map Dv.dat, some (.dat (.lst us))]
@[simp] theorem isown_dv {o : Option Dt} {δ : Sl} : isownS (o.map Dv.dat :: δ) 0 = false := by cases o <;> rfl
/-- how the loop over arguments ends -/
def LoopEnd (l : List Nat) (d e : Nat) (w : List Nat) (us : List Tr) (o : Option (List Tr × List Nat)) (f : Fl) : Prop := match o with
  | some (ts, r') => if arTs ts = true ∧ us.length + ts.length ≤ 8 then 41 :: r' <:+ l ∧ ∃ x, f = .nx (sps l (pos l (41 :: r')) d e w x (toDs (us ++ ts))) else ∃ δ, f = .rt .non δ
  | none => ∃ δ, f = .rt .non δ
theorem LoopEnd.no {l : List Nat} {d e : Nat} {w : List Nat} {us : List Tr} {o : Option (List Tr × List Nat)} {f : Fl} {δ : Sl} (h : f = .rt .non δ) (k : ∀ ts r', o = some (ts, r') → ¬ (arTs ts = true ∧ us.length + ts.length ≤ 8)) : LoopEnd l d e w us o f := by
  cases o with
  | none => exact ⟨δ, h⟩
  | some x =>
    obtain ⟨ts, r'⟩ := x
    unfold LoopEnd
    dsimp only
    rw [if_neg (k ts r' rfl)]
    exact ⟨δ, h⟩
section
variable {C : Addr} {m : Nat} {l : List Nat}
theorem loop_prs {d m e : Nat} {w : List Nat} (hp : Pt l) (h1 : LF C l d m) : ∀ (n fuel : Nat) (c0 c1 : Nat) (r : List Nat) (us : List Tr) (x : Option Dt), c0 ≠ 41 → c0 :: c1 :: r <:+ l → r.length < n → n < fuel → us.length ≤ 8 →
    LoopEnd l d e w us (gL (gT d) n r) (evWh (evIt (T C (m + 1)).fn t_prs) (evIss (T C (m + 1)) [] b_prs) fuel (sps l (pos l (c0 :: c1 :: r)) d e w x (toDs us)))
  | 0, fuel, c0, c1, r, us, x, hc, hr, hn, hf, hu => by omega
  | n + 1, fuel, c0, c1, r, us, x, hc, hr, hn, hf, hu => by
    obtain ⟨fuel, rfl⟩ : ∃ k, fuel = k + 1 := ⟨fuel - 1, by omega⟩
    have hL1 : 1 ≤ LIM := by decide
    have hL2 : 2 ≤ LIM := by decide
    have hr0 : r <:+ l := suf_cons (suf_cons hr)
    have ep : ((pos l (c0 :: c1 :: r) : Nat) : Int) + 2 = ((pos l r : Nat) : Int) := by
      have := pos_app (a := [c0, c1]) hr
      simp at this
      omega
    have e4 := slP1 hp hr
    have t1 := eq_rp (take_ok hp hr 1)
    simp only [List.take_succ_cons, List.take_zero] at e4 t1
    have n0 : ¬ ([c0] = [41]) := by simpa using hc
    obtain ⟨sP, hsP⟩ : ∃ s, s = runI (T C m) i_law_parsed := ⟨_, rfl⟩
    have fP : (T C (m + 1)).fn "_law_parsed" = some sP := by rw [hsP]; exact fn_law_parsed
    have e5 := h1 r hr0
    rw [← hsP] at e5
    have hds : (d : Int) + 1 - 1 = (d : Int) := by omega
    have ulen : (toDs us).length ≤ LIM := by rw [toDs_len]; unfold LIM; omega
    cases hg : gT d r with
    | none =>
      rw [hg] at e5
      simp only [rQ] at e5
      refine LoopEnd.no (δ := [some (.dat (.str (S l))), some (.dat (.int ((pos l (c0 :: c1 :: r) : Nat) : Int))), some (.dat (.int ((d : Int) + 1))), some (.dat (.int (e : Int))), some (.dat (.str (S w))), some (.dat .non), some (.dat (.lst (toDs us)))]) ?_ ?_
      · unfold evWh; simp [t_prs, b_prs, i_law_parsed, -fn_law_parsed, fP, binD, e4, cmpD, t1, n0, ep, hds, e5, isNon]
      · intro ts r' z
        rw [gL, hg] at z
        cases z
    | some y =>
      obtain ⟨t, r'⟩ := y
      rw [hg] at e5
      obtain ⟨s1, s2, s3⟩ := gT_sound _ _ _ _ hg
      have hr' : r' <:+ l := suf_app (a := txt t) (by rw [← s1]; exact hr0)
      have l1 : r.length = (txt t).length + r'.length := by rw [s1]; simp
      have l2 := txt_pos s2
      have heads : ∀ ts q, gL (gT d) (n + 1) r = some (ts, q) → ∃ us', ts = t :: us' := by
        intro ts q z
        rw [gL, hg] at z
        split at z
        · next e => cases e; cases z; exact ⟨[], rfl⟩
        · next e =>
          cases e
          simp only [Option.map_eq_some_iff] at z
          obtain ⟨v, _, z⟩ := z
          cases z
          exact ⟨v.1, rfl⟩
        · cases z
      cases ha : arT t with
      | false =>
        simp only [rQ, ha] at e5
        simp at e5
        refine LoopEnd.no (δ := [some (.dat (.str (S l))), some (.dat (.int ((pos l (c0 :: c1 :: r) : Nat) : Int))), some (.dat (.int ((d : Int) + 1))), some (.dat (.int (e : Int))), some (.dat (.str (S w))), some (.dat .non), some (.dat (.lst (toDs us)))]) ?_ ?_
        · unfold evWh; simp [t_prs, b_prs, i_law_parsed, -fn_law_parsed, fP, binD, e4, cmpD, t1, n0, ep, hds, e5, isNon]
        · intro ts q z
          obtain ⟨us', rfl⟩ := heads ts q z
          simp [arTs, ha]
      | true =>
        simp only [rQ, ha, if_true] at e5
        by_cases h8 : us.length = 8
        · have h8' : ((toDs us).length : Int) = 8 := by rw [toDs_len]; omega
          refine LoopEnd.no (δ := [some (.dat (.str (S l))), some (.dat (.int ((pos l (c0 :: c1 :: r) : Nat) : Int))), some (.dat (.int ((d : Int) + 1))), some (.dat (.int (e : Int))), some (.dat (.str (S w))), some (.dat (.tup [toD t, .int ((pos l r' : Nat) : Int)])), some (.dat (.lst (toDs us)))]) ?_ ?_
          · unfold evWh; simp [t_prs, b_prs, i_law_parsed, -fn_law_parsed, fP, binD, e4, cmpD, t1, n0, ep, hds, e5, isNon, lenD, h8']
          · intro ts q z
            obtain ⟨us', rfl⟩ := heads ts q z
            simp; omega
        · have h8' : ¬ ((toDs us).length : Int) = 8 := by rw [toDs_len]; omega
          have e6 := slP1 hp hr'
          have e7 := slP2 hp hr'
          have t3 := eq_rp (take_ok hp hr' 1)
          have t4 := eq_cs (take_ok hp hr' 2)
          have ul1 : (toDs us).length + 1 ≤ LIM := by rw [toDs_len]; unfold LIM; omega
          by_cases c1' : ∃ r2, r' = 41 :: r2
          · obtain ⟨r2, rfl⟩ := c1'
            have hgl : gL (gT d) (n + 1) r = some ([t], r2) := by rw [gL, hg]; rfl
            rw [hgl]
            unfold LoopEnd
            dsimp only
            rw [if_pos ⟨by simp [arTs, ha], by simp; omega⟩]
            refine ⟨hr', some (.tup [toD t, .int ((pos l (41 :: r2) : Nat) : Int)]), ?_⟩
            obtain ⟨fuel, rfl⟩ : ∃ k, fuel = k + 1 := ⟨fuel - 1, by omega⟩
            simp only [List.take_succ_cons, List.take_zero] at e6 t3
            simp [t_prs, b_prs, i_law_parsed, -fn_law_parsed, fP, binD, e4, cmpD, t1, n0, ep, hds, e5, isNon, lenD, h8', ixD, e6, t3, hL1, ul1, setAll, evWh, toDs_app, toDs]
          · have n1 : r'.take 1 ≠ [41] := by
              intro e
              cases r' with
              | nil => simp at e
              | cons x r4 => simp at e; exact c1' ⟨r4, by rw [e]⟩
            by_cases c2' : ∃ r2, r' = 44 :: 32 :: r2
            · obtain ⟨r2, rfl⟩ := c2'
              simp only [List.length_cons] at l1
              have ih := loop_prs (d := d) (m := m) (e := e) (w := w) hp h1 n fuel 44 32 r2 (us ++ [t]) (some (.tup [toD t, .int ((pos l (44 :: 32 :: r2) : Nat) : Int)])) (by decide) hr' (by omega) (by omega) (by simp; omega)
              have hgl : gL (gT d) (n + 1) r = (gL (gT d) n r2).map fun x => (t :: x.1, x.2) := by rw [gL, hg]; rfl
              simp only [List.take_succ_cons, List.take_zero] at e6 t3 e7 t4
              have ev := wh_step (fuel := fuel) (c := evIt (T C (m + 1)).fn t_prs) (body := evIss (T C (m + 1)) [] b_prs) (δ := sps l (pos l (c0 :: c1 :: r)) d e w x (toDs us)) (δ0 := sps l (pos l (c0 :: c1 :: r)) d e w x (toDs us)) (δ1 := sps l (pos l (44 :: 32 :: r2)) d e w (some (.tup [toD t, .int ((pos l (44 :: 32 :: r2) : Nat) : Int)])) (toDs (us ++ [t])))
                (by simp [t_prs, i_law_parsed, binD, e4, cmpD, t1, n0])
                (by simp [b_prs, i_law_parsed, -fn_law_parsed, fP, binD, cmpD, ep, hds, e5, isNon, lenD, h8', ixD, e6, t3, n1, e7, t4, hL1, ul1, setAll, toDs_app, toDs])
              rw [ev, hgl]
              cases hgn : gL (gT d) n r2 with
              | none => rw [hgn] at ih; exact ih
              | some z =>
                obtain ⟨ts, q⟩ := z
                rw [hgn] at ih
                unfold LoopEnd at ih ⊢
                simp only [Option.map_some] at ih ⊢
                by_cases hk : arTs ts = true ∧ (us ++ [t]).length + ts.length ≤ 8
                · rw [if_pos hk] at ih
                  rw [if_pos ⟨by simp [arTs, ha, hk.1], by have := hk.2; simp at this ⊢; omega⟩]
                  simpa using ih
                · rw [if_neg hk] at ih
                  rw [if_neg (fun z => hk ⟨by have := z.1; simp [arTs, ha] at this; exact this, by have := z.2; simp at this ⊢; omega⟩)]
                  exact ih
            · have n2 : r'.take 2 ≠ [44, 32] := by
                intro e
                rcases r' with _ | ⟨x, _ | ⟨y, r4⟩⟩ <;> simp at e
                exact c2' ⟨r4, by rw [e.1, e.2]⟩
              have hgl : gL (gT d) (n + 1) r = none := by
                rw [gL, hg]
                split
                · next e => cases e; exact absurd ⟨_, rfl⟩ c1'
                · next e => cases e; exact absurd ⟨_, rfl⟩ c2'
                · rfl
              refine LoopEnd.no (δ := [some (.dat (.str (S l))), some (.dat (.int ((pos l (c0 :: c1 :: r) : Nat) : Int))), some (.dat (.int ((d : Int) + 1))), some (.dat (.int (e : Int))), some (.dat (.str (S w))), some (.dat (.tup [toD t, .int ((pos l r' : Nat) : Int)])), some (.dat (.lst (toDs us)))]) ?_ ?_
              · unfold evWh; simp [t_prs, b_prs, i_law_parsed, -fn_law_parsed, fP, binD, e4, cmpD, t1, n0, ep, hds, e5, isNon, lenD, h8', ixD, e6, t3, n1, e7, t4, n2]
              · intro ts q z; rw [hgl] at z; cases z
theorem parsed_lf {d m : Nat} (hp : Pt l) (h1 : LF C l d m) : LF C l (d + 1) (m + 1) := by
  intro r hr
  have hL0 : 0 ≤ LIM := by decide
  have hL2 : 2 ≤ LIM := by decide
  have hL3 : 3 ≤ LIM := by decide
  have e1 := run_word (C := C) (m := m) hp hr
  have hw : r.takeWhile letB ++ r.dropWhile letB <:+ l := by rw [tw_dw]; exact hr
  have e2 := slW hp hw
  rw [tw_dw] at e2
  have hr1 := suf_app hw
  generalize hr1d : r.dropWhile letB = r1 at *
  generalize hwd : r.takeWhile letB = w at *
  have hd0 : ¬ ((d : Int) + 1 = 0) := by omega
  have hds : (d : Int) + 1 - 1 = (d : Int) := by omega
  have e4 := slP1 hp hr1
  have gg : gT (d + 1) r = if isN w = true then (match r1 with
      | 91 :: r2 => (match gT d r2 with | some (t, 93 :: r3) => some (.item w t, r3) | _ => none)
      | 40 :: r2 => (gA (gT d) r2).map fun x => (.op w x.1, x.2)
      | r1 => some (.var w, r1)) else none := by (rw [gT, hr1d, hwd]) <;> rfl
  obtain ⟨sP, hsP⟩ : ∃ s, s = runI (T C m) i_law_parsed := ⟨_, rfl⟩
  have fP : (T C (m + 1)).fn "_law_parsed" = some sP := by rw [hsP]; exact fn_law_parsed
  have t1 := eq_lb (take_ok hp hr1 1)
  have t2 := eq_lp (take_ok hp hr1 1)
  cases hn : isN w with
  | false =>
    rw [gg, hn]
    rw [hn] at e1
    simp at e1
    rw [run_def rfl rfl]
    simp [i_law_parsed, e1, cmpD, isNon, rQ]
  | true =>
    rw [gg, if_pos hn]
    rw [if_pos hn] at e1
    have plain : r1.take 1 ≠ [91] → r1.take 1 ≠ [40] → runI (T C (m + 1)) i_law_parsed (ar3 l r (d + 1)) = .ok (.tup [.tup [.str "var", .str (S w)], .int ((pos l r1 : Nat) : Int)]) (ar3 l r (d + 1)) := by
      intro n1 n2
      rw [run_def rfl rfl]
      simp [i_law_parsed, e1, cmpD, isNon, e2, hL2, binD, e4, t1, t2, n1, n2, hd0]
    cases r1 with
    | nil => exact plain (by simp) (by simp)
    | cons c r2 =>
      have hr2 := suf_cons hr1
      have ep := pos_cons hr1
      by_cases c1 : c = 91
      · subst c1
        have e5 := h1 r2 hr2
        rw [← hsP] at e5
        simp only [List.take_succ_cons, List.take_zero] at e4 t1
        rw [ep] at e4
        cases hg : gT d r2 with
        | none =>
          rw [hg] at e5
          simp only [rQ] at e5
          rw [run_def rfl rfl]
          simp [i_law_parsed, -fn_law_parsed, fP, e1, cmpD, isNon, e2, hL2, binD, e4, t1, hd0, ep, hds, e5, rQ, hg]
        | some x =>
          obtain ⟨t, r3⟩ := x
          rw [hg] at e5
          obtain ⟨s1, s2, s3⟩ := gT_sound _ _ _ _ hg
          have hr3 : r3 <:+ l := suf_app (a := txt t) (by rw [← s1]; exact hr2)
          have e6 := slP1 hp hr3
          have t3 := eq_rb (take_ok hp hr3 1)
          cases ha : arT t with
          | false =>
            simp only [rQ, ha] at e5
            simp at e5
            have hm : rQ l (match (some (t, r3) : Option (Tr × List Nat)) with | some (t, 93 :: r3) => some (Tr.item w t, r3) | _ => none) = .non := by
              split
              · next e => cases e; simp [rQ, arT, ha]
              · rfl
            rw [run_def rfl rfl]
            simp [i_law_parsed, -fn_law_parsed, fP, e1, cmpD, isNon, e2, hL2, binD, e4, t1, hd0, ep, hds, e5, hg]
            exact hm.symm
          | true =>
            simp only [rQ, ha, if_true] at e5
            by_cases c3 : ∃ r4, r3 = 93 :: r4
            · obtain ⟨r4, rfl⟩ := c3
              simp only [List.take_succ_cons, List.take_zero] at e6 t3
              have ep3 := pos_cons hr3
              rw [ep3] at e6
              rw [run_def rfl rfl]
              simp [i_law_parsed, -fn_law_parsed, fP, e1, cmpD, isNon, e2, hL2, hL3, binD, e4, t1, hd0, ep, hds, e5, ixD, e6, t3, ep3, rQ, hg, toD, arT, ha]
            · have n3 : r3.take 1 ≠ [93] := by
                intro e
                cases r3 with
                | nil => simp at e
                | cons x r4 => simp at e; exact c3 ⟨r4, by rw [e]⟩
              have hm : rQ l (match (some (t, r3) : Option (Tr × List Nat)) with | some (t, 93 :: r3) => some (Tr.item w t, r3) | _ => none) = .non := by
                split
                · next e => cases e; exact absurd ⟨_, rfl⟩ c3
                · rfl
              rw [run_def rfl rfl]
              simp [i_law_parsed, -fn_law_parsed, fP, e1, cmpD, isNon, e2, hL2, hL3, binD, e4, t1, hd0, ep, hds, e5, ixD, e6, t3, n3, hg]
              exact hm.symm
      · by_cases c2 : c = 40
        · subst c2
          have e7 := slP1 hp hr2
          have t5 := eq_rp (take_ok hp hr2 1)
          have ep2 : ((pos l (40 :: r2) : Nat) : Int) + 2 = ((pos l r2 : Nat) : Int) + 1 := by omega
          simp only [List.take_succ_cons, List.take_zero] at e4 t1 t2
          rw [ep] at e4
          by_cases c4 : ∃ r3, r2 = 41 :: r3
          · obtain ⟨r3, rfl⟩ := c4
            have ep3 := pos_cons hr2
            simp only [List.take_succ_cons, List.take_zero] at e7 t5
            rw [ep3] at e7 ep2
            rw [run_def rfl rfl]
            simp [i_law_parsed, e1, cmpD, isNon, e2, hL0, hL2, hL3, binD, e4, t1, t2, hd0, ep, ep2, e7, t5, rQ, gA, toD, toDs, arT, arTs]
          · have n4 : r2.take 1 ≠ [41] := by
              intro e
              cases r2 with
              | nil => simp at e
              | cons x r4 => simp at e; exact c4 ⟨r4, by rw [e]⟩
            have hga : gA (gT d) r2 = gL (gT d) (r2.length + 1) r2 := by
              unfold gA
              split
              · exact absurd ⟨_, rfl⟩ c4
              · rfl
            obtain ⟨lw1, _, lw3⟩ := isN_len hn
            obtain ⟨w', c0, rfl⟩ : ∃ w' c0, w = w' ++ [c0] := ⟨w.dropLast, w.getLast (by intro e; subst e; simp at lw1), (List.dropLast_concat_getLast _).symm⟩
            have hc0 : letB c0 = true := List.all_eq_true.mp lw3 c0 (by simp)
            have hsuf : c0 :: 40 :: r2 <:+ l := suf_app (a := w') (by simpa using hw)
            have epc := pos_cons hsuf
            have epc' : ((pos l (40 :: r2) : Nat) : Int) - 1 = ((pos l (c0 :: 40 :: r2) : Nat) : Int) := by omega
            have hlen := suf_len hr2
            have hl := hp.len
            have lp := loop_prs (C := C) (d := d) (m := m) (e := pos l (40 :: r2)) (w := w' ++ [c0]) hp h1 (r2.length + 1) FUEL c0 40 r2 [] none (by have := letB_lt hc0; omega) hsuf (by omega) (by unfold FUEL; omega) (by simp)
            show _ = Re.ok (rQ l ((gA (gT d) r2).map fun x => (Tr.op (w' ++ [c0]) x.1, x.2))) _
            rw [hga]
            rw [run_def rfl rfl]
            have e0 : evIss (T C (m + 1)) [] i_law_parsed.body (ar3 l r (d + 1) ++ List.replicate (i_law_parsed.nN - i_law_parsed.np) none) = (evWh (evIt (T C (m + 1)).fn t_prs) (evIss (T C (m + 1)) [] b_prs) FUEL (sps l (pos l (c0 :: 40 :: r2)) d (pos l (40 :: r2)) (w' ++ [c0]) none (toDs []))).seq (evIss (T C (m + 1)) [] r_prs) := by
              simp [i_law_parsed, t_prs, b_prs, r_prs, -fn_law_parsed, fP, e1, cmpD, isNon, e2, hL0, hL2, hL3, binD, e4, t1, t2, hd0, ep, ep2, e7, t5, n4, epc', setAll, toDs]
              rfl
            show fin _ (evIss (T C (m + 1)) [] i_law_parsed.body _) = _
            rw [e0]
            cases hg : gL (gT d) (r2.length + 1) r2 with
            | none =>
              rw [hg] at lp
              obtain ⟨δ, lp⟩ := lp
              rw [lp]
              simp [rQ, Fl.seq]
            | some x =>
              obtain ⟨ts, r'⟩ := x
              rw [hg] at lp
              unfold LoopEnd at lp
              dsimp only at lp
              by_cases hk : arTs ts = true ∧ ([] : List Tr).length + ts.length ≤ 8
              · rw [if_pos hk] at lp
                obtain ⟨hs, x, lp⟩ := lp
                have ep4 := pos_cons hs
                have h8 : ts.length ≤ 8 := by simpa using hk.2
                rw [lp]
                simp [r_prs, i_law_parsed, Fl.seq, hL2, hL3, binD, ep4, rQ, toD, arT, hk.1, h8]
              · rw [if_neg hk] at lp
                obtain ⟨δ, lp⟩ := lp
                have hk' : arT (.op (w' ++ [c0]) ts) = false := by
                  cases hb : arT (.op (w' ++ [c0]) ts) with
                  | false => rfl
                  | true => simp [arT] at hb; exact absurd ⟨hb.2, by simpa using hb.1⟩ hk
                rw [lp]
                simp [rQ, Fl.seq, hk']
        · have := plain (by simpa using c1) (by simpa using c2)
          refine this.trans ?_
          have hm : (match (c :: r2) with
            | 91 :: r2 => (match gT d r2 with | some (t, 93 :: r3) => some (Tr.item w t, r3) | _ => none)
            | 40 :: r2 => (gA (gT d) r2).map fun x => (Tr.op w x.1, x.2)
            | r1 => some (Tr.var w, r1)) = some (Tr.var w, c :: r2) := by
            split
            · next e => cases e; exact absurd rfl c1
            · next e => cases e; exact absurd rfl c2
            · rfl
          rw [hm]
          simp [rQ, arT, toD]
theorem lf_all (hp : Pt l) : ∀ d, ∀ m, d + 1 ≤ m → LF C l d m
  | 0, m, hm => by
    intro r hr
    obtain ⟨m, rfl⟩ : ∃ k, m = k + 1 := ⟨m - 1, by omega⟩
    have e1 := run_word (C := C) (m := m) hp hr
    rw [run_def rfl rfl]
    cases hn : isN (r.takeWhile letB) <;> rw [hn] at e1 <;> simp at e1 <;> simp [i_law_parsed, e1, cmpD, isNon, rQ, gT]
  | d + 1, m, hm => by
    obtain ⟨m, rfl⟩ : ∃ k, m = k + 1 := ⟨m - 1, by omega⟩
    exact parsed_lf hp (lf_all hp d m (by omega))
/-- what the law reads -/
def lrd (l : List Nat) : Option Tr := match rd (gT 40 l) with
  | some t => if arT t = true then some t else none
  | none => none
theorem run_read (hp : Pt l) (hm : 42 ≤ m) : runI (T C m) i_law_read_term [some (.dat (.str (S l)))] = .ok (oD (lrd l)) [some (.dat (.str (S l)))] := by
  obtain ⟨m, rfl⟩ : ∃ k, m = k + 1 := ⟨m - 1, by omega⟩
  have e := lf_all (C := C) hp 40 m (by omega) l List.suffix_rfl
  have hl := lenS hp.lim
  simp only [ar3, pos_self] at e
  obtain ⟨sP, hsP⟩ : ∃ s, s = runI (T C m) i_law_parsed := ⟨_, rfl⟩
  have fP : (T C (m + 1)).fn "_law_parsed" = some sP := by rw [hsP]; exact fn_law_parsed
  rw [← hsP] at e
  rw [run_def rfl rfl]
  cases hg : gT 40 l with
  | none =>
    rw [hg] at e
    simp only [rQ] at e
    simp at e
    simp [i_law_read_term, -fn_law_parsed, fP, e, cmpD, isNon, lrd, rd, hg, oD]
  | some x =>
    obtain ⟨t, r⟩ := x
    rw [hg] at e
    obtain ⟨s1, s2, s3⟩ := gT_sound _ _ _ _ hg
    have hr : r <:+ l := suf_app (a := txt t) (by rw [← s1]; exact List.suffix_rfl)
    cases ha : arT t with
    | false =>
      simp only [rQ, ha] at e
      simp at e
      simp [i_law_read_term, -fn_law_parsed, fP, e, cmpD, isNon, lrd, hg]
      cases r with
      | nil => simp [rd, ha, oD]
      | cons c r => simp [rd, oD]
    | true =>
      simp only [rQ, ha, if_true] at e
      simp at e
      cases r with
      | nil =>
        have : pos l [] = l.length := (pos_end hr).mpr rfl
        simp [i_law_read_term, -fn_law_parsed, fP, e, cmpD, isNon, ixD, hl, this, lrd, hg, rd, ha, oD]
      | cons c r =>
        have n : ¬ pos l (c :: r) = l.length := fun z => by have := (pos_end hr).mp z; cases this
        have n' : ¬ ((pos l (c :: r) : Nat) : Int) = (l.length : Int) := by omega
        simp [i_law_read_term, -fn_law_parsed, fP, e, cmpD, isNon, ixD, hl, n, n', lrd, hg, rd, oD]
end
end K1

/-! K3u: texts of terms and atoms. -/
namespace K1
open PySem L2 PD
open PyData (strOk)
open SX (S S_len S_cat S_inj)
theorem joinL_txts : ∀ ts : List Tr, TL.joinL [44, 32] (ts.map txt) = txts ts
  | [] => rfl
  | [t] => by simp [TL.joinL, txts, txtr]
  | t :: u :: ts => by
    have := joinL_txts (u :: ts)
    simp only [List.map_cons] at this ⊢
    rw [TL.joinL, this]
    simp [txts, txtr]
theorem strs_map {α : Type} (F : α → Str) : ∀ ts : List α, strsD (ts.map fun t => .str (F t)) = some (ts.map F)
  | [] => rfl
  | t :: ts => by simp [strsD, strs_map F ts]
theorem sum_txts : ∀ ts : List Tr, ((ts.map fun t => (txt t).length).sum + ts.length * 2) ≤ (txts ts).length + 2
  | [] => by simp
  | [t] => by simp [txts, txtr]
  | t :: u :: ts => by
    have := sum_txts (u :: ts)
    simp [txts, txtr] at this ⊢
    omega
theorem join_txts {ts : List Tr} (h : (txts ts).length ≤ 1000) : joinD ", " (.lst (ts.map fun t => .str (S (txt t)))) = some (.str (S (txts ts))) := by
  have e1 := strs_map (fun t => S (txt t)) ts
  have e2 : Txt.join ", " (ts.map fun t => S (txt t)) = S (txts ts) := by
    rw [ch_44, ← joinL_txts, ← SX.join_S, List.map_map]
    rfl
  have e3 : ((ts.map fun t => S (txt t)).map (·.length)).sum + (ts.map fun t => S (txt t)).length * (", " : Str).length ≤ LIM := by
    have a := sum_txts ts
    have b : (ts.map fun t => S (txt t)).map (·.length) = ts.map fun t => (txt t).length := by simp [S_len]
    have c : (", " : Str).length = 2 := by kernel_rfl
    rw [b, c, List.length_map]
    unfold LIM
    omega
  simp only [joinD, e1, Option.bind_some, if_pos e3, e2]
theorem parts_tr (t : Tr) : parts (toD t) = match t with | .var _ => [] | .item _ u => [toD u] | .op _ ts => ts.map toD := by
  cases t <;> simp [toD, parts, toDs_map]
theorem form_tr {t : Tr} (h : wfT t = true) (ha : arT t = true) : hasForm (toD t) = true := (ms_succ (ms_le (Nat.le_succ _) (ms_tr h ha (Nat.le_refl _)))).1
theorem txts_mem : ∀ {ts : List Tr} {t : Tr}, t ∈ ts → (txt t).length ≤ (txts ts).length
  | u :: ts, t, h => by
    have key : ∀ {ts : List Tr} {t : Tr}, t ∈ ts → (txt t).length ≤ (txtr ts).length := by
      intro ts
      induction ts with
      | nil => intro t h; cases h
      | cons u ts ih =>
        intro t h
        simp only [List.mem_cons] at h
        rcases h with rfl | h
        · simp [txtr]; omega
        · have := ih h; simp [txtr]; omega
    simp only [List.mem_cons] at h
    rcases h with rfl | h
    · simp [txts]
    · have := key h; simp [txts]; omega
theorem wf_mem : ∀ {ts : List Tr} {t : Tr}, wfTs ts = true → t ∈ ts → wfT t = true
  | u :: ts, t, h, hm => by
    simp only [wfTs, Bool.and_eq_true] at h
    simp only [List.mem_cons] at hm
    rcases hm with rfl | hm
    · exact h.1
    · exact wf_mem h.2 hm
theorem ar_mem : ∀ {ts : List Tr} {t : Tr}, arTs ts = true → t ∈ ts → arT t = true
  | u :: ts, t, h, hm => by
    simp only [arTs, Bool.and_eq_true] at h
    simp only [List.mem_cons] at hm
    rcases hm with rfl | hm
    · exact h.1
    · exact ar_mem h.2 hm
theorem dep_mem : ∀ {ts : List Tr} {t : Tr}, t ∈ ts → dep t ≤ deps ts
  | u :: ts, t, hm => by
    simp only [List.mem_cons] at hm
    simp only [deps]
    rcases hm with rfl | hm
    · omega
    · have := dep_mem hm; omega
theorem isN_ok {s : List Nat} (h : isN s = true) : ∀ c ∈ s, c < 1114112 := fun c hc => by have := letB_lt (List.all_eq_true.mp (isN_len h).2.2 c hc); omega
theorem cat_c {a : List Nat} {s : Str} {b : List Nat} (hs : s = S b) (h : a.length + b.length ≤ 2000) : binD .Add (.str (S a)) (.str s) = some (.str (S (a ++ b))) := by
  subst hs
  exact catS (by unfold LIM; omega)
theorem cat_s {a b : List Nat} (h : a.length + b.length ≤ 2000) : binD .Add (.str (S a)) (.str (S b)) = some (.str (S (a ++ b))) := catS (by unfold LIM; omega)
section
variable {C : Addr}
theorem run_text_of : ∀ (n : Nat) {m : Nat} {t : Tr}, wfT t = true → arT t = true → dep t ≤ n → n ≤ m → (txt t).length ≤ 1000 → runI (T C m) i_text_of [some (.dat (toD t))] = .ok (.str (S (txt t))) [some (.dat (toD t))]
  | 0, m, t, _, _, hd, _, _ => by have := dep_pos t; omega
  | n + 1, m, t, hw, ha, hd, hm, hl => by
    obtain ⟨m, rfl⟩ : ∃ k, m = k + 1 := ⟨m - 1, by omega⟩
    have hL0 : 0 ≤ LIM := by decide
    have hL1 : 1 ≤ LIM := by decide
    have e1 := run_parts_of (C := C) (m := m) (form_tr hw ha)
    rw [parts_tr] at e1
    obtain ⟨sT, hsT⟩ : ∃ s, s = runI (T C m) i_text_of := ⟨_, rfl⟩
    have fT : (T C (m + 1)).fn "text_of" = some sT := by rw [hsT]; exact fn_text_of
    rw [run_def rfl rfl]
    cases t with
    | var s =>
      simp only [toD] at e1
      have e2 := lc1m (fn := (T C (m + 1)).fn) (e := .call "text_of" (.cons (some 2) (.var 2) .nil)) (i := 2) (δ := [some (.dat (toD (.var s))), none, none]) (ds := ([] : List Tr)) toD (fun t => .str (S (txt t))) (by simp)
      simp only [toD, List.map_nil] at e2
      simp [i_text_of, -fn_text_of, fT, e1, itemsD, e2, hL0, toD, ixD, cmpD, txt]
    | item s u =>
      simp only [wfT, Bool.and_eq_true] at hw
      simp only [dep] at hd
      simp only [txt, List.length_append, List.length_cons] at hl
      have ih := run_text_of n (m := m) (t := u) hw.2 ha (by omega) (by omega) (by omega)
      rw [← hsT] at ih
      simp only [toD] at e1
      have e2 := lc1m (fn := (T C (m + 1)).fn) (e := .call "text_of" (.cons (some 2) (.var 2) .nil)) (i := 2) (δ := [some (.dat (toD (.item s u))), none, none]) (ds := [u]) toD (fun t => .str (S (txt t))) (by
        intro d hd
        simp only [List.mem_singleton] at hd
        subst hd
        simp [-fn_text_of, fT, ih])
      simp only [toD, List.map_nil, List.map_cons] at e2
      have c1 := cat_c (a := s) ch_91 (by simp; omega)
      have c2 := cat_s (a := s ++ [91]) (b := txt u) (by simp; omega)
      have c3 := cat_c (a := s ++ [91] ++ txt u) ch_93 (by simp; omega)
      simp only [List.append_assoc, List.cons_append, List.nil_append] at c2 c3
      simp [i_text_of, -fn_text_of, fT, e1, itemsD, e2, hL1, toD, ixD, cmpD, c1, c2, c3, txt]
    | op s ts =>
      simp only [wfT, Bool.and_eq_true] at hw
      simp only [arT, Bool.and_eq_true, decide_eq_true_eq] at ha
      simp only [dep] at hd
      simp only [txt, List.length_append, List.length_cons] at hl
      have ih : ∀ t ∈ ts, sT [some (.dat (toD t))] = .ok (.str (S (txt t))) [some (.dat (toD t))] := by
        intro t ht
        have := run_text_of n (m := m) (t := t) (wf_mem hw.2 ht) (ar_mem ha.2 ht) (by have := dep_mem ht; omega) (by omega) (by have := txts_mem ht; omega)
        rw [← hsT] at this
        exact this
      simp only [toD] at e1
      have e2 := lc1m (fn := (T C (m + 1)).fn) (e := .call "text_of" (.cons (some 2) (.var 2) .nil)) (i := 2) (δ := [some (.dat (toD (.op s ts))), none, none]) (ds := ts) toD (fun t => .str (S (txt t))) (by
        intro d hd
        simp [-fn_text_of, fT, ih d hd])
      simp only [toD] at e2
      have hlen : ts.length ≤ LIM := by unfold LIM; omega
      have j1 := join_txts (ts := ts) (by omega)
      have c1 := cat_c (a := s) ch_40 (by simp; omega)
      have c2 := cat_s (a := s ++ [40]) (b := txts ts) (by simp; omega)
      have c3 := cat_c (a := s ++ [40] ++ txts ts) ch_41 (by simp; omega)
      simp only [List.append_assoc, List.cons_append, List.nil_append] at c2 c3
      simp [i_text_of, -fn_text_of, fT, e1, itemsD, e2, hlen, toD, ixD, cmpD, c1, j1, c2, c3, txt]
theorem run_law_show : ∀ (n : Nat) {m : Nat} {t : Tr}, wfT t = true → arT t = true → dep t ≤ n → n ≤ m → (txt t).length ≤ 1000 → runI (T C m) i_law_show [some (.dat (toD t))] = .ok (.str (S (txt t))) [some (.dat (toD t))]
  | 0, m, t, _, _, hd, _, _ => by have := dep_pos t; omega
  | n + 1, m, t, hw, ha, hd, hm, hl => by
    obtain ⟨m, rfl⟩ : ∃ k, m = k + 1 := ⟨m - 1, by omega⟩
    obtain ⟨sT, hsT⟩ : ∃ s, s = runI (T C m) i_law_show := ⟨_, rfl⟩
    have fT : (T C (m + 1)).fn "_law_show" = some sT := by rw [hsT]; exact fn_law_show
    rw [run_def rfl rfl]
    cases t with
    | var s => simp [i_law_show, toD, ixD, cmpD, txt]
    | item s u =>
      simp only [wfT, Bool.and_eq_true] at hw
      simp only [dep] at hd
      simp only [txt, List.length_append, List.length_cons] at hl
      have ih := run_law_show n (m := m) (t := u) hw.2 ha (by omega) (by omega) (by omega)
      rw [← hsT] at ih
      have c1 := cat_c (a := s) ch_91 (by simp; omega)
      have c2 := cat_s (a := s ++ [91]) (b := txt u) (by simp; omega)
      have c3 := cat_c (a := s ++ [91] ++ txt u) ch_93 (by simp; omega)
      simp only [List.append_assoc, List.cons_append, List.nil_append] at c2 c3
      simp [i_law_show, -fn_law_show, fT, toD, ixD, cmpD, ih, c1, c2, c3, txt]
    | op s ts =>
      simp only [wfT, Bool.and_eq_true] at hw
      simp only [arT, Bool.and_eq_true, decide_eq_true_eq] at ha
      simp only [dep] at hd
      simp only [txt, List.length_append, List.length_cons] at hl
      have ih : ∀ t ∈ ts, sT [some (.dat (toD t))] = .ok (.str (S (txt t))) [some (.dat (toD t))] := by
        intro t ht
        have := run_law_show n (m := m) (t := t) (wf_mem hw.2 ht) (ar_mem ha.2 ht) (by have := dep_mem ht; omega) (by omega) (by have := txts_mem ht; omega)
        rw [← hsT] at this
        exact this
      have e2 := lc1m (fn := (T C (m + 1)).fn) (e := .call "_law_show" (.cons (some 1) (.var 1) .nil)) (i := 1) (δ := [some (.dat (toD (.op s ts))), none]) (ds := ts) toD (fun t => .str (S (txt t))) (by
        intro d hd
        simp [-fn_law_show, fT, ih d hd])
      simp only [toD, toDs_map] at e2
      have hlen : ts.length ≤ LIM := by unfold LIM; omega
      have j1 := join_txts (ts := ts) (by omega)
      have c1 := cat_c (a := s) ch_40 (by simp; omega)
      have c2 := cat_s (a := s ++ [40]) (b := txts ts) (by simp; omega)
      have c3 := cat_c (a := s ++ [40] ++ txts ts) ch_41 (by simp; omega)
      simp only [List.append_assoc, List.cons_append, List.nil_append] at c2 c3
      simp [i_law_show, -fn_law_show, fT, toD, toDs_map, ixD, cmpD, itemsD, e2, hlen, c1, j1, c2, c3, txt]
/-! ### atoms -/
inductive At where
  | same (a b : Tr)
  | test (s : List Nat) (a : Tr)
def atD : At → Dt
  | .same a b => .tup [.str "same", toD a, toD b]
  | .test s a => .tup [.str "test", .str (S s), .tup [toD a]]
def atx : At → List Nat
  | .same a b => txt a ++ 32 :: 61 :: 32 :: txt b
  | .test s a => s ++ 40 :: (txt a ++ [41])
def wfA (n : Nat) : At → Prop
  | .same a b => (wfT a = true ∧ arT a = true ∧ dep a ≤ n ∧ (txt a).length ≤ 200) ∧ (wfT b = true ∧ arT b = true ∧ dep b ≤ n ∧ (txt b).length ≤ 200)
  | .test s a => isN s = true ∧ wfT a = true ∧ arT a = true ∧ dep a ≤ n ∧ (txt a).length ≤ 200
theorem ch_eq : (" = " : Str) = S [32, 61, 32] := by kernel_rfl
theorem run_law_show_at {n m : Nat} {a : At} (h : wfA n a) (hm : n ≤ m) : runI (T C (m + 1)) i_law_show [some (.dat (atD a))] = .ok (.str (S (atx a))) [some (.dat (atD a))] := by
  obtain ⟨sT, hsT⟩ : ∃ s, s = runI (T C m) i_law_show := ⟨_, rfl⟩
  have fT : (T C (m + 1)).fn "_law_show" = some sT := by rw [hsT]; exact fn_law_show
  have hL1 : 1 ≤ LIM := by decide
  rw [run_def rfl rfl]
  cases a with
  | same a b =>
    obtain ⟨⟨a1, a2, a3, a4⟩, ⟨b1, b2, b3, b4⟩⟩ := h
    have ea := run_law_show (C := C) n a1 a2 a3 hm (by omega)
    have eb := run_law_show (C := C) n b1 b2 b3 hm (by omega)
    rw [← hsT] at ea eb
    have c1 := cat_c (a := txt a) ch_eq (by simp; omega)
    have c2 := cat_s (a := txt a ++ [32, 61, 32]) (b := txt b) (by simp; omega)
    simp only [List.append_assoc, List.cons_append, List.nil_append] at c1 c2
    simp [i_law_show, -fn_law_show, fT, atD, ixD, cmpD, ea, eb, c1, c2, atx]
  | test s a =>
    obtain ⟨h0, a1, a2, a3, a4⟩ := h
    have ea := run_law_show (C := C) n a1 a2 a3 hm (by omega)
    rw [← hsT] at ea
    have e2 := lc1m (fn := (T C (m + 1)).fn) (e := .call "_law_show" (.cons (some 1) (.var 1) .nil)) (i := 1) (δ := [some (.dat (atD (.test s a))), none]) (ds := [a]) toD (fun t => .str (S (txt t))) (by
        intro d hd
        simp only [List.mem_singleton] at hd
        subst hd
        simp [-fn_law_show, fT, ea])
    simp only [atD, List.map_cons, List.map_nil] at e2
    obtain ⟨_, l8, _⟩ := isN_len h0
    have j1 := join_txts (ts := [a]) (by simp [txts, txtr]; omega)
    simp only [List.map_cons, List.map_nil, txts, txtr, List.append_nil] at j1
    have c1 := cat_c (a := s) ch_40 (by simp; omega)
    have c2 := cat_s (a := s ++ [40]) (b := txt a) (by simp; omega)
    have c3 := cat_c (a := s ++ [40] ++ txt a) ch_41 (by simp; omega)
    simp only [List.append_assoc, List.cons_append, List.nil_append] at c2 c3
    simp [i_law_show, -fn_law_show, fT, atD, ixD, cmpD, itemsD, e2, hL1, c1, j1, c2, c3, atx]
theorem run_text_at {n m : Nat} {a : At} (h : wfA n a) (hm : n ≤ m) : runI (T C (m + 1)) i_text_of [some (.dat (atD a))] = .ok (.str (S (atx a))) [some (.dat (atD a))] := by
  obtain ⟨sT, hsT⟩ : ∃ s, s = runI (T C m) i_text_of := ⟨_, rfl⟩
  have fT : (T C (m + 1)).fn "text_of" = some sT := by rw [hsT]; exact fn_text_of
  have hL1 : 1 ≤ LIM := by decide
  have hL2 : 2 ≤ LIM := by decide
  rw [run_def rfl rfl]
  cases a with
  | same a b =>
    obtain ⟨⟨a1, a2, a3, a4⟩, ⟨b1, b2, b3, b4⟩⟩ := h
    have ea := run_text_of (C := C) n a1 a2 a3 hm (by omega)
    have eb := run_text_of (C := C) n b1 b2 b3 hm (by omega)
    rw [← hsT] at ea eb
    have e1 : runI (T C m) i_parts_of [some (.dat (atD (.same a b)))] = .ok (.tup [toD a, toD b]) [some (.dat (atD (.same a b)))] := by
      rw [run_def rfl rfl]
      have e3 : slD (.tup [.str "same", toD a, toD b]) (some 1) none = some (.tup [toD a, toD b]) := rfl
      simp [i_parts_of, atD, ixD, cmpD, e3]
    have e2 := lc1m (fn := (T C (m + 1)).fn) (e := .call "text_of" (.cons (some 2) (.var 2) .nil)) (i := 2) (δ := [some (.dat (atD (.same a b))), none, none]) (ds := [a, b]) toD (fun t => .str (S (txt t))) (by
        intro d hd
        simp only [List.mem_cons, List.not_mem_nil, or_false] at hd
        rcases hd with rfl | rfl
        · simp [-fn_text_of, fT, ea]
        · simp [-fn_text_of, fT, eb])
    simp only [atD, List.map_cons, List.map_nil] at e1 e2
    have c1 := cat_c (a := txt a) ch_eq (by simp; omega)
    have c2 := cat_s (a := txt a ++ [32, 61, 32]) (b := txt b) (by simp; omega)
    simp only [List.append_assoc, List.cons_append, List.nil_append] at c1 c2
    simp [i_text_of, -fn_text_of, fT, atD, e1, itemsD, e2, hL2, ixD, cmpD, c1, c2, atx]
  | test s a =>
    obtain ⟨h0, a1, a2, a3, a4⟩ := h
    have ea := run_text_of (C := C) n a1 a2 a3 hm (by omega)
    rw [← hsT] at ea
    have e1 : runI (T C m) i_parts_of [some (.dat (atD (.test s a)))] = .ok (.tup [toD a]) [some (.dat (atD (.test s a)))] := by
      rw [run_def rfl rfl]
      simp [i_parts_of, atD, ixD, cmpD]
    have e2 := lc1m (fn := (T C (m + 1)).fn) (e := .call "text_of" (.cons (some 2) (.var 2) .nil)) (i := 2) (δ := [some (.dat (atD (.test s a))), none, none]) (ds := [a]) toD (fun t => .str (S (txt t))) (by
        intro d hd
        simp only [List.mem_singleton] at hd
        subst hd
        simp [-fn_text_of, fT, ea])
    simp only [atD, List.map_cons, List.map_nil] at e1 e2
    obtain ⟨_, l8, _⟩ := isN_len h0
    have j1 := join_txts (ts := [a]) (by simp [txts, txtr]; omega)
    simp only [List.map_cons, List.map_nil, txts, txtr, List.append_nil] at j1
    have c1 := cat_c (a := s) ch_40 (by simp; omega)
    have c2 := cat_s (a := s ++ [40]) (b := txt a) (by simp; omega)
    have c3 := cat_c (a := s ++ [40] ++ txt a) ch_41 (by simp; omega)
    simp only [List.append_assoc, List.cons_append, List.nil_append] at c2 c3
    simp [i_text_of, -fn_text_of, fT, atD, e1, itemsD, e2, hL1, ixD, cmpD, c1, j1, c2, c3, atx]
/-! ### show -/
theorem isA_noform {t : Tr} (h : wfT t = true) (ha : arT t = true) : isA (toD t) = false := by
  cases t <;> simp [toD, isA]
theorem run_show {t : Tr} {m : Nat} (h : wfT t = true) (ha : arT t = true) (hs : siz t ≤ 200) (hd : dep t ≤ 30) (hl : (txt t).length ≤ 1000) (hm : 31 ≤ m) : runI (T C m) i_show [some (.dat (toD t))] = .ok (.str (S (txt t))) [some (.dat (toD t))] := by
  obtain ⟨m, rfl⟩ : ∃ k, m = k + 5 := ⟨m - 5, by omega⟩
  have e1 := run_is_term (C := C) (m := m + 1) (ok_tr h (Nat.le_refl _))
  rw [isT_tr h, ha] at e1
  simp [hs, hd] at e1
  have e2 := run_text_of (C := C) 30 (m := m + 4) h ha hd (by omega) hl
  rw [run_def rfl rfl]
  simp [i_show, e1, truD, e2]
theorem run_show_at {a : At} {n m : Nat} (h : wfA n a) (hk : okd 70 (atD a) = true) (hi : isA (atD a) = true) (hf : hasForm (atD a) = false) (hm : n + 6 ≤ m) : runI (T C m) i_show [some (.dat (atD a))] = .ok (.str (S (atx a))) [some (.dat (atD a))] := by
  obtain ⟨m, rfl⟩ : ∃ k, m = k + 6 := ⟨m - 6, by omega⟩
  have e1 := run_is_term (C := C) (m := m + 2) hk
  have e3 := run_is_atom (C := C) (m := m + 1) hk
  have ht : isT (atD a) = false := by
    cases hb : isT (atD a) with
    | false => rfl
    | true => rw [isT_form hb] at hf; cases hf
  rw [ht] at e1
  rw [hi] at e3
  have e2 := run_text_at (C := C) (m := m + 4) h (by omega)
  rw [run_def rfl rfl]
  simp [i_show, e1, e3, truD, e2]
theorem run_show_no {d : Dt} {n m : Nat} (hk : okd n d = true) (ht : isT d = false) (hi : isA d = false) (hm : 6 ≤ m) : runI (T C m) i_show [some (.dat d)] = .exc ⟨"InvalidTerm", [d]⟩ [some (.dat d)] := by
  obtain ⟨m, rfl⟩ : ∃ k, m = k + 5 := ⟨m - 5, by omega⟩
  have e1 := run_is_term (C := C) (m := m + 1) hk
  have e3 := run_is_atom (C := C) (m := m) hk
  rw [ht] at e1
  rw [hi] at e3
  rw [run_def rfl rfl]
  simp [i_show, e1, e3, truD]
end
end K1

/-! K3v: drawn terms and atoms, as trees. -/
namespace K1
open PySem L2 PD
open PyData (strOk)
open SX (S S_len S_cat S_inj S_tl)
theorem brk_name {s : List Nat} (h : isN s = true) : brk s = 0 := by
  unfold brk
  rw [List.countP_eq_zero]
  intro c hc
  have := letB_lt (List.all_eq_true.mp (isN_len h).2.2 c hc)
  simp
  omega
structure Dr (n : Nat) (t : Tr) : Prop where
  wf : wfT t = true
  ar : arT t = true
  dp : dep t ≤ n + 1
  ln : (txt t).length ≤ 10 + 22 * n
  br : brk (txt t) ≤ 1 + 2 * n
theorem Dr.le {n k : Nat} {t : Tr} (h : Dr n t) (hk : n ≤ k) : Dr k t := ⟨h.wf, h.ar, by have := h.dp; omega, by have := h.ln; omega, by have := h.br; omega⟩
abbrev cp (s : Str) : List Nat := s.cps.toList
theorem str_cp (s : Str) : Dt.str s = Dt.str (S (cp s)) := by rw [S_tl]
theorem Dr.var {s : Str} (h : nm s = true) : Dr 0 (.var (cp s)) := by
  have hn := nm_isN h
  obtain ⟨a, b, c⟩ := isN_len hn
  exact ⟨hn, rfl, by simp [dep], by simp only [txt]; exact Nat.le_trans b (by omega), by simp only [txt]; rw [brk_name hn]; omega⟩
theorem Dr.op0 {s : Str} (h : nm s = true) : Dr 0 (.op (cp s) []) := by
  have hn := nm_isN h
  obtain ⟨a, b, c⟩ := isN_len hn
  refine ⟨by simp only [wfT, wfTs, hn]; rfl, rfl, by simp [dep, deps], ?_, ?_⟩
  · simp [txt, txts] at b ⊢; omega
  · simp only [txt, txts, brk_append, brk_cons, brk_name hn]; simp [brk]
theorem Dr.item {s : Str} {n : Nat} {t : Tr} (h : nm s = true) (ht : Dr n t) : Dr (n + 1) (.item (cp s) t) := by
  have hn := nm_isN h
  obtain ⟨a, b, c⟩ := isN_len hn
  refine ⟨by simp only [wfT, hn, ht.wf]; rfl, ht.ar, by have := ht.dp; simp [dep]; omega, ?_, ?_⟩
  · have := ht.ln; simp [txt] at b ⊢; omega
  · have := ht.br
    have e : brk [93] = 0 := by simp [brk]
    simp only [txt, brk_append, brk_cons, brk_name hn, e]; simp; omega
theorem Dr.op1 {s : Str} {n : Nat} {t : Tr} (h : nm s = true) (ht : Dr n t) : Dr (n + 1) (.op (cp s) [t]) := by
  have hn := nm_isN h
  obtain ⟨a, b, c⟩ := isN_len hn
  refine ⟨by simp only [wfT, wfTs, hn, ht.wf]; rfl, by simp [arT, arTs, ht.ar], by have := ht.dp; simp [dep, deps]; omega, ?_, ?_⟩
  · have := ht.ln; simp [txt, txts, txtr] at b ⊢; omega
  · have := ht.br
    have e : brk [41] = 0 := by simp [brk]
    have e0 : brk [] = 0 := by simp [brk]
    simp only [txt, txts, txtr, brk_append, brk_cons, brk_name hn, e, e0]; simp; omega
theorem Dr.op2 {s : Str} {n : Nat} {t u : Tr} (h : nm s = true) (ht : Dr n t) (hu : Dr 0 u) : Dr (n + 1) (.op (cp s) [t, u]) := by
  have hn := nm_isN h
  obtain ⟨a, b, c⟩ := isN_len hn
  refine ⟨by simp only [wfT, wfTs, hn, ht.wf, hu.wf]; rfl, by simp [arT, arTs, ht.ar, hu.ar], by have := ht.dp; have := hu.dp; simp [dep, deps]; omega, ?_, ?_⟩
  · have := ht.ln; have := hu.ln; simp [txt, txts, txtr] at b ⊢; omega
  · have := ht.br
    have := hu.br
    have e : brk [41] = 0 := by simp [brk]
    have e0 : brk [] = 0 := by simp [brk]
    simp only [txt, txts, txtr, brk_append, brk_cons, brk_name hn, e, e0]; simp; omega
section
variable {C : Addr} {w : Wd}
theorem nm_x : nm "x" = true := by kernel_rfl
theorem nm_y : nm "y" = true := by kernel_rfl
abbrev nms (ns : List Str) : Dt := .lst (ns.map .str)
theorem run_term {ns : List Str} (hns : ∀ s ∈ ns, nm s = true) (h0 : 0 < ns.length) (h1 : ns.length < 100) (hw : w.ok = true) : ∀ (n : Nat) {m : Nat} {c : List Dt}, Pool w c → n + 1 ≤ m → ∃ t c', Pool w c' ∧ Dr n t ∧ runI (T C m) i_law_term [some (.own c), some (.dat (nms ns)), some (.dat (.int ((n + 1 : Nat) : Int)))] = .ok (toD t) [some (.own c'), some (.dat (nms ns)), some (.dat (.int ((n + 1 : Nat) : Int)))] := by
  have hL2 : 2 ≤ LIM := by decide
  have hL3 : 3 ≤ LIM := by decide
  have hL1 : 1 ≤ LIM := by decide
  simp only [Wd.ok, Bool.and_eq_true] at hw
  obtain ⟨⟨⟨⟨wa, wf⟩, wg⟩, wk⟩, wp⟩ := hw
  have base : ∀ {m : Nat} {c : List Dt} {d : Int}, Pool w c → 1 ≤ m → (∀ r1 c1, Pool w c1 → runI (T C (m - 1)) i_law_draw [some (.own c), some (.dat (.int 7))] = .ok (.int r1) [some (.own c1), some (.dat (.int 7))] → d < 2 ∨ r1 < 3) → ∃ t c', Pool w c' ∧ Dr 0 t ∧ runI (T C m) i_law_term [some (.own c), some (.dat (nms ns)), some (.dat (.int d))] = .ok (toD t) [some (.own c'), some (.dat (nms ns)), some (.dat (.int d))] := by
    intro m c d hc hm hcond
    obtain ⟨m, rfl⟩ : ∃ k, m = k + 1 := ⟨m - 1, by omega⟩
    obtain ⟨r1, c1, p1, l1, u1, e1⟩ := run_draw (C := C) (m := m) hc (k := 7) (by decide) (by decide)
    obtain ⟨r2, c2, p2, l2, u2, e2⟩ := run_draw (C := C) (m := m) p1 (k := 6) (by decide) (by decide)
    obtain ⟨r3, c3, p3, l3, u3, e3⟩ := run_draw (C := C) (m := m) p2 (k := (ns.length : Int)) (by omega) (by omega)
    have hcd := hcond r1 c1 p1 e1
    by_cases hr : r2 = 0
    · obtain ⟨i0, i1, rfl, _⟩ := id p2
      refine ⟨.op (cp w.k) [], _, p2, Dr.op0 wk, ?_⟩
      rw [run_def rfl rfl]
      rcases hcd with hcd | hcd
      · simp [i_law_term, e1, cmpD, e2, hr, hL3, hcd, toD, toDs]
      · by_cases hdd : d < 2
        · simp [i_law_term, e1, cmpD, e2, hr, hL3, hdd, toD, toDs]
        · simp [i_law_term, e1, cmpD, e2, hr, hL3, hcd, hdd, toD, toDs]
    · obtain ⟨j, rfl⟩ : ∃ j : Nat, r3 = (j : Int) := ⟨r3.toNat, by omega⟩
      have hj : j < ns.length := by omega
      refine ⟨.var (cp ns[j]), _, p3, Dr.var (hns _ (List.getElem_mem hj)), ?_⟩
      have ea : atI (ns.map Dt.str) (j : Int) = some (.str ns[j]) := by rw [atI_nat]; simp [hj]
      rw [run_def rfl rfl]
      have el : lenD (nms ns) = some ns.length := by simp [lenD]
      rcases hcd with hcd | hcd
      · simp [i_law_term, e1, cmpD, e2, hr, hL2, hcd, el, e3, ixD, ea, toD]
      · by_cases hdd : d < 2
        · simp [i_law_term, e1, cmpD, e2, hr, hL2, hdd, el, e3, ixD, ea, toD]
        · simp [i_law_term, e1, cmpD, e2, hr, hL2, hcd, hdd, el, e3, ixD, ea, toD]
  intro n
  induction n with
  | zero =>
    intro m c hc hm
    exact base hc hm (fun _ _ _ _ => .inl (by decide))
  | succ n ih =>
    intro m c hc hm
    obtain ⟨r1, c1, p1, l1, u1, e1⟩ := run_draw (C := C) (m := m - 1) hc (k := 7) (by decide) (by decide)
    by_cases h3 : r1 < 3
    · obtain ⟨t, c', q1, q2, q3⟩ := base (m := m) (c := c) (d := ((n + 1 + 1 : Nat) : Int)) hc (by omega) (fun r c2 _ e => .inr (by rw [e1] at e; cases e; exact h3))
      exact ⟨t, c', q1, q2.le (by omega), q3⟩
    · obtain ⟨m, rfl⟩ : ∃ k, m = k + 1 := ⟨m - 1, by omega⟩
      simp only [Nat.add_sub_cancel] at e1
      obtain ⟨sem, hq⟩ : ∃ s, s = runI (T C m) i_law_term := ⟨_, rfl⟩
      have hfn : (T C (m + 1)).fn "_law_term" = some sem := by rw [hq]; exact fn_law_term
      obtain ⟨t2, c2, p2, d2, e2⟩ := ih (m := m) p1 (by omega)
      have hs : ((n : Int) + 1 + 1 - 1) = ((n : Int) + 1) := by omega
      have hd' : ¬ ((n : Int) + 1 + 1 < 2) := by omega
      simp only [Int.natCast_add, Int.cast_ofNat_Int] at e2
      rw [← hq] at e2
      by_cases h5 : r1 < 5
      · obtain ⟨i0, i1, rfl, _⟩ := id p1
        refine ⟨.item (cp w.a) t2, _, p2, Dr.item wa d2, ?_⟩
        rw [run_def rfl rfl]
        simp [i_law_term, -fn_law_term, hfn, e1, cmpD, e2, hL3, h3, h5, binD, hs, hd', toD]
      · by_cases h6 : r1 = 5
        · obtain ⟨i0, i1, rfl, _⟩ := id p1
          refine ⟨.op (cp w.f) [t2], _, p2, Dr.op1 wf d2, ?_⟩
          rw [run_def rfl rfl]
          simp [i_law_term, -fn_law_term, hfn, e1, cmpD, e2, hL3, hL1, h3, h5, h6, binD, hs, hd', toD, toDs]
        · obtain ⟨t3, c3, p3, d3, e3⟩ := base (m := m) (d := 1) p2 (by omega) (fun _ _ _ _ => .inl (by decide))
          rw [← hq] at e3
          obtain ⟨i0, i1, rfl, _⟩ := id p1
          refine ⟨.op (cp w.g) [t2, t3], _, p3, Dr.op2 wg d2 d3, ?_⟩
          rw [run_def rfl rfl]
          simp [i_law_term, -fn_law_term, hfn, e1, cmpD, e2, e3, hL3, hL2, h3, h5, h6, binD, hs, hd', toD, toDs]
theorem run_atom (hw : w.ok = true) {m : Nat} {c : List Dt} (hc : Pool w c) : ∃ a c', Pool w c' ∧ wfA 3 a ∧ (okd 70 (atD a) = true ∧ isA (atD a) = true ∧ hasForm (atD a) = false) ∧ runI (T C (m + 4)) i_law_atom [some (.own c), some (.dat (nms ["x", "y"])), some (.dat (.int 3))] = .ok (atD a) [some (.own c'), some (.dat (nms ["x", "y"])), some (.dat (.int 3))] := by
  have hL3 : 3 ≤ LIM := by decide
  have hL1 : 1 ≤ LIM := by decide
  have hns : ∀ s ∈ ([("x" : Str), "y"] : List Str), nm s = true := by
    intro s hs
    simp only [List.mem_cons, List.not_mem_nil, or_false] at hs
    rcases hs with rfl | rfl
    · exact nm_x
    · exact nm_y
  obtain ⟨r1, c1, p1, l1, u1, e1⟩ := run_draw (C := C) (m := m + 3) hc (k := 2) (by decide) (by decide)
  obtain ⟨t2, c2, p2, d2, e2⟩ := run_term (C := C) hns (by decide) (by decide) hw 2 (m := m + 3) p1 (by omega)
  obtain ⟨t3, c3, p3, d3, e3⟩ := run_term (C := C) hns (by decide) (by decide) hw 0 (m := m + 3) p2 (by omega)
  have e2' : runI (T C (m + 3)) i_law_term [some (.own c1), some (.dat (nms ["x", "y"])), some (.dat (.int 3))] = .ok (toD t2) [some (.own c2), some (.dat (nms ["x", "y"])), some (.dat (.int 3))] := e2
  have e3' : runI (T C (m + 3)) i_law_term [some (.own c2), some (.dat (nms ["x", "y"])), some (.dat (.int 1))] = .ok (toD t3) [some (.own c3), some (.dat (nms ["x", "y"])), some (.dat (.int 1))] := e3
  have ok2 := ok_tr d2.wf (n := 30) (by have := d2.dp; omega)
  have ok3 := ok_tr d3.wf (n := 30) (by have := d3.dp; omega)
  have is2 : isT (toD t2) = true := by
    rw [isT_tr d2.wf, d2.ar, Bool.true_and, decide_eq_true_iff]
    have := siz_len t2 d2.wf; have := d2.ln; have := d2.dp; omega
  have is3 : isT (toD t3) = true := by
    rw [isT_tr d3.wf, d3.ar, Bool.true_and, decide_eq_true_iff]
    have := siz_len t3 d3.wf; have := d3.ln; have := d3.dp; omega
  by_cases hr : r1 = 0
  · refine ⟨.same t2 t3, c3, p3, ⟨⟨d2.wf, d2.ar, by have := d2.dp; omega, by have := d2.ln; omega⟩, ⟨d3.wf, d3.ar, by have := d3.dp; omega, by have := d3.ln; omega⟩⟩, ⟨?_, ?_, ?_⟩, ?_⟩
    · exact okd_same (n := 69) (okd_le (by decide) ok2) (okd_le (by decide) ok3)
    · show isA (.tup [.str "same", toD t2, toD t3]) = true
      rw [isA_same, is2, is3]; rfl
    · cases t2 <;> simp [atD, toD, hasForm, isName]
    · rw [run_def rfl rfl]
      simp only [nms, List.map_cons, List.map_nil] at e2' e3' ⊢
      simp [i_law_atom, e1, cmpD, hr, e2', e3', hL3, atD]
  · simp only [Wd.ok, Bool.and_eq_true] at hw
    have wp := hw.2
    obtain ⟨i0, i1, rfl, _⟩ := id p1
    refine ⟨.test (cp w.p) t2, c2, p2, ⟨nm_isN wp, d2.wf, d2.ar, by have := d2.dp; omega, by have := d2.ln; omega⟩, ⟨?_, ?_, ?_⟩, ?_⟩
    · have : okd 69 (.tup [toD t2]) = true := by simp only [okd, List.all_cons, List.all_nil, Bool.and_true]; exact okd_le (by decide) ok2
      show ([Dt.str "test", Dt.str (S (cp w.p)), Dt.tup [toD t2]].all (okd 69)) = true
      rw [← str_cp]
      simp only [List.all_cons, List.all_nil, okl.2.2.2.2, okd_nm wp, this]; rfl
    · have hn : isNameS w.p = true := by simp only [nm, Bool.and_eq_true] at wp; exact wp.1
      simp only [atD, ← str_cp]
      simp [isA, isName, hn, areArgs, argsOf, is2]
    · simp [atD, hasForm]
    · rw [run_def rfl rfl]
      simp only [nms, List.map_cons, List.map_nil] at e2' ⊢
      simp [i_law_atom, e1, cmpD, hr, e2', hL3, hL1, atD]
end
end K1

/-! K3w: bent texts, errors. -/
namespace K1
open PySem L2 PD
open PyData (strOk)
open SX (S S_len S_cat S_inj S_tl)
/-- a text, bent k times -/
structure Bt (k : Nat) (l : List Nat) : Prop where
  ln : l.length ≤ 98 + k
  br : brk l ≤ 9 + k
  ch : ∀ c ∈ l, c < 1114112
theorem Bt.pt {k : Nat} {l : List Nat} (h : Bt k l) (hk : k ≤ 10) : Pt l := ⟨by have := h.ln; omega, h.ch⟩
mutual
theorem ch_txt : ∀ {t : Tr}, wfT t = true → ∀ c ∈ txt t, c < 1114112
  | .var s, h => isN_ok h
  | .item s t, h => by
    simp only [wfT, Bool.and_eq_true] at h
    intro c hc
    simp only [txt, List.mem_append, List.mem_cons, List.not_mem_nil, or_false] at hc
    rcases hc with hc | rfl | hc | rfl
    · exact isN_ok h.1 c hc
    · decide
    · exact ch_txt h.2 c hc
    · decide
  | .op s ts, h => by
    simp only [wfT, Bool.and_eq_true] at h
    intro c hc
    simp only [txt, List.mem_append, List.mem_cons, List.not_mem_nil, or_false] at hc
    rcases hc with hc | rfl | hc | rfl
    · exact isN_ok h.1 c hc
    · decide
    · exact ch_txts h.2 c hc
    · decide
theorem ch_txts : ∀ {ts : List Tr}, wfTs ts = true → ∀ c ∈ txts ts, c < 1114112
  | [], h => by simp [txts]
  | t :: ts, h => by
    simp only [wfTs, Bool.and_eq_true] at h
    intro c hc
    simp only [txts, List.mem_append] at hc
    rcases hc with hc | hc
    · exact ch_txt h.1 c hc
    · exact ch_txtr h.2 c hc
theorem ch_txtr : ∀ {ts : List Tr}, wfTs ts = true → ∀ c ∈ txtr ts, c < 1114112
  | [], h => by simp [txtr]
  | t :: ts, h => by
    simp only [wfTs, Bool.and_eq_true] at h
    intro c hc
    simp only [txtr, List.mem_append, List.mem_cons] at hc
    rcases hc with rfl | rfl | hc | hc
    · decide
    · decide
    · exact ch_txt h.1 c hc
    · exact ch_txtr h.2 c hc
end
theorem Dr.bt {t : Tr} (h : Dr 4 t) : Bt 0 (txt t) := ⟨by have := h.ln; omega, by have := h.br; omega, ch_txt h.wf⟩
theorem brk_split (l : List Nat) (j : Nat) : brk (l.take j) + brk (l.drop j) = brk l := by rw [← brk_append, List.take_append_drop]
theorem brk_drop1 (l : List Nat) (j : Nat) : brk (l.drop (j + 1)) ≤ brk (l.drop j) := by
  have := brk_split (l.drop j) 1
  rw [List.drop_drop] at this
  rw [show j + 1 = j + 1 from rfl]
  omega
theorem Bt.ins {k j c : Nat} {l : List Nat} (h : Bt k l) (hc : c < 1114112) : Bt (k + 1) (l.take j ++ c :: l.drop j) := by
  have e := brk_split l j
  refine ⟨?_, ?_, ?_⟩
  · have := h.ln; simp; omega
  · have := h.br; rw [brk_append, brk_cons]; split <;> omega
  · intro d hd
    simp only [List.mem_append, List.mem_cons] at hd
    rcases hd with hd | rfl | hd
    · exact h.ch d (List.mem_of_mem_take hd)
    · exact hc
    · exact h.ch d (List.mem_of_mem_drop hd)
theorem Bt.del {k j : Nat} {l : List Nat} (h : Bt k l) : Bt (k + 1) (l.take j ++ l.drop (j + 1)) := by
  have e := brk_split l j
  have e1 := brk_drop1 l j
  refine ⟨?_, ?_, ?_⟩
  · have := h.ln; simp; omega
  · have := h.br; rw [brk_append]; omega
  · intro d hd
    simp only [List.mem_append] at hd
    rcases hd with hd | hd
    · exact h.ch d (List.mem_of_mem_take hd)
    · exact h.ch d (List.mem_of_mem_drop hd)
theorem Bt.put {k j c : Nat} {l : List Nat} (h : Bt k l) (hc : c < 1114112) : Bt (k + 1) (l.take j ++ c :: l.drop (j + 1)) := by
  have e := brk_split l j
  have e1 := brk_drop1 l j
  refine ⟨?_, ?_, ?_⟩
  · have := h.ln; simp; omega
  · have := h.br; rw [brk_append, brk_cons]; split <;> omega
  · intro d hd
    simp only [List.mem_append, List.mem_cons] at hd
    rcases hd with hd | rfl | hd
    · exact h.ch d (List.mem_of_mem_take hd)
    · exact hc
    · exact h.ch d (List.mem_of_mem_drop hd)
theorem prs_lrd {k : Nat} {l : List Nat} (h : Bt k l) (hk : k ≤ 10) : prs l = lrd l := by
  have hb := h.br
  have hl := h.ln
  unfold prs lrd
  rw [gT_same (d := 100) (d' := 40) (r := l) (by omega) (by omega)]
  cases hg : rd (gT 40 l) with
  | none => rfl
  | some t =>
    obtain ⟨h1, h2⟩ := rd_sound hg
    have a1 := dep_brk t
    have a2 := siz_len t h2
    rw [← h1] at a1 a2
    dsimp only
    rw [isT_tr h2]
    have : decide (siz t ≤ 200 ∧ dep t ≤ 30) = true := by rw [decide_eq_true_iff]; omega
    rw [this, Bool.and_true]
theorem lrd_ok {k : Nat} {l : List Nat} {t : Tr} (h : Bt k l) (hk : k ≤ 10) (e : lrd l = some t) : wfT t = true ∧ arT t = true ∧ siz t ≤ 200 ∧ dep t ≤ 30 ∧ l = txt t := by
  have hb := h.br
  have hl := h.ln
  unfold lrd at e
  cases hg : rd (gT 40 l) with
  | none => rw [hg] at e; cases e
  | some u =>
    rw [hg] at e
    dsimp only at e
    split at e
    · next ha =>
      cases e
      obtain ⟨h1, h2⟩ := rd_sound hg
      have a1 := dep_brk t
      have a2 := siz_len t h2
      rw [← h1] at a1 a2
      exact ⟨h2, ha, by omega, by omega, h1⟩
    · cases e
theorem bai {i j : Int} : binD .Add (.int i) (.int j) = some (.int (i + j)) := rfl
def signs : List Nat := [97, 120, 102, 103, 112, 40, 41, 44, 32, 91, 93, 61, 49, 32, 65, 95, 10, 58]
theorem ch_signs : ("axfgp(), []=1 A_\n:" : Str) = S signs := by kernel_rfl
section
variable {C : Addr} {w : Wd}
theorem run_bent {m k : Nat} {c : List Dt} {l : List Nat} (hc : Pool w c) (hl : Bt k l) (hk : k ≤ 10) : ∃ l' c', Pool w c' ∧ Bt (k + 1) l' ∧ runI (T C (m + 1)) i_law_bent [some (.own c), some (.dat (.str (S l)))] = .ok (.str (S l')) [some (.own c'), some (.dat (.str (S l)))] := by
  have hp := hl.pt hk
  have hln := hl.ln
  obtain ⟨r1, c1, p1, l1, u1, e1⟩ := run_draw (C := C) (m := m) hc (k := (l.length : Int) + 1) (by omega) (by omega)
  obtain ⟨r2, c2, p2, l2, u2, e2⟩ := run_draw (C := C) (m := m) p1 (k := 17) (by decide) (by decide)
  obtain ⟨r3, c3, p3, l3, u3, e3⟩ := run_draw (C := C) (m := m) p2 (k := 3) (by decide) (by decide)
  obtain ⟨j, rfl⟩ : ∃ j : Nat, r1 = (j : Int) := ⟨r1.toNat, by omega⟩
  obtain ⟨i, rfl⟩ : ∃ j : Nat, r2 = (j : Int) := ⟨r2.toNat, by omega⟩
  have hi : i < signs.length := by simp [signs]; omega
  have hci : signs[i] < 1114112 := by
    have : ∀ c ∈ signs, c < 1114112 := by decide
    exact this _ (List.getElem_mem hi)
  have ei : ixD (.str "axfgp(), []=1 A_\n:") (.int (i : Int)) = some (.str (S [signs[i]])) := by
    rw [ch_signs, ixS (by simp [signs, LIM]), List.getElem?_eq_getElem hi]; rfl
  generalize signs[i] = x at *
  have el := lenS hp.lim
  have s0 := slS0 (j := j) hp.lim
  have s1 := slSn (i := j) hp.lim
  have s2 := slSn (i := j + 1) hp.lim
  have s2' : slD (.str (S l)) (some ((j : Int) + 1)) none = some (.str (S (l.drop (j + 1)))) := s2
  by_cases h0 : r3 = 0
  · refine ⟨_, c3, p3, hl.ins (j := j) hci, ?_⟩
    have b1 := cat_s (a := l.take j) (b := [x]) (by simp; omega)
    have b2 := cat_s (a := l.take j ++ [x]) (b := l.drop j) (by simp; omega)
    simp only [List.append_assoc, List.cons_append, List.nil_append] at b2
    rw [run_def rfl rfl]
    simp [i_law_bent, el, bai, e1, e2, ei, setAll, e3, cmpD, h0, s0, s1, b1, b2]
  · by_cases h1 : r3 = 1
    · refine ⟨_, c3, p3, hl.del (j := j), ?_⟩
      have b1 := cat_s (a := l.take j) (b := l.drop (j + 1)) (by simp; omega)
      rw [run_def rfl rfl]
      simp [i_law_bent, el, bai, e1, e2, ei, setAll, e3, cmpD, h0, h1, s0, s2', b1]
    · refine ⟨_, c3, p3, hl.put (j := j) hci, ?_⟩
      have b1 := cat_s (a := l.take j) (b := [x]) (by simp; omega)
      have b2 := cat_s (a := l.take j ++ [x]) (b := l.drop (j + 1)) (by simp; omega)
      simp only [List.append_assoc, List.cons_append, List.nil_append] at b2
      rw [run_def rfl rfl]
      simp [i_law_bent, el, bai, e1, e2, ei, setAll, e3, cmpD, h0, h1, s0, s2', b1, b2]
/-! ### _law_error -/
theorem eqS_self {l : List Nat} (h : ∀ c ∈ l, c < 1114112) : eqD (.str (S l)) (.str (S l)) = some true := by rw [eqS h h]; simp
abbrev yes1 : Dt := .lst [.bl true]
theorem run_err0 {m : Nat} {l : List Nat} (hp : Pt l) (hm : 204 ≤ m) : runI (T C m) i_law_error [some (.dat (.int 0)), some (.dat (.str (S l)))] = .ok (match prs l with | some t => toD t | none => yes1) [some (.dat (.int 0)), some (.dat (.str (S l)))] := by
  obtain ⟨m, rfl⟩ : ∃ k, m = k + 1 := ⟨m - 1, by omega⟩
  have hL1 : 1 ≤ LIM := by decide
  have e := run_parse (C := C) (m := m) hp (by omega)
  have q := eqS_self hp.chr
  rw [run_def rfl rfl]
  cases hg : prs l with
  | some t =>
    rw [hg] at e
    simp [i_law_error, cmpD, e]
  | none =>
    rw [hg] at e
    simp [i_law_error, cmpD, e, catchF, evIh, evIha, q, hL1]
theorem run_err0_no {m n : Nat} {d : Dt} (hk : okd n d = true) (hn : n ≤ 180) (hs : ∀ s, d ≠ .str s) : runI (T C (m + 1)) i_law_error [some (.dat (.int 0)), some (.dat d)] = .ok yes1 [some (.dat (.int 0)), some (.dat d)] := by
  have hL1 : 1 ≤ LIM := by decide
  have e := run_parse_no (C := C) (m := m) hk hs
  have q := eq_self hk hn
  rw [run_def rfl rfl]
  simp [i_law_error, cmpD, e, catchF, evIh, evIha, q, hL1]
theorem run_err1_no {m n : Nat} {d : Dt} (hk : okd n d = true) (hn : n ≤ 180) (ht : isT d = false) (hi : isA d = false) (hm : 7 ≤ m) : runI (T C m) i_law_error [some (.dat (.int 1)), some (.dat d)] = .ok yes1 [some (.dat (.int 1)), some (.dat d)] := by
  obtain ⟨m, rfl⟩ : ∃ k, m = k + 1 := ⟨m - 1, by omega⟩
  have hL1 : 1 ≤ LIM := by decide
  have e := run_show_no (C := C) (m := m) hk ht hi (by omega)
  have q := eq_self hk hn
  rw [run_def rfl rfl]
  simp [i_law_error, cmpD, e, catchF, evIh, evIha, q, hL1]
end
end K1

/-! K3j: the pool. -/
namespace K1
open PySem L2 PD
open PyData (strOk)
def finF (δ0 : Sl) : Fl → Re (List Dt)
  | .rf c δ => .ok c (mergeP δ0 δ)
  | .exc x δ => .exc x (mergeP δ0 δ)
  | _ => .bad
@[simp] theorem finF_rf {δ0 δ : Sl} {c : List Dt} : finF δ0 (.rf c δ) = .ok c (mergeP δ0 δ) := rfl
@[simp] theorem ite_finF {δ0 : Sl} {c : Prop} [Decidable c] {a b : Fl} : finF δ0 (if c then a else b) = if c then finF δ0 a else finF δ0 b := by split <;> rfl
theorem run_defF {ε : Ev} {d : Di} {δ0 : Sl} (h1 : δ0.length = d.np) (h2 : (d.ow.all fun i => decide (d.np ≤ i)) = true) : runIF ε d δ0 = finF δ0 (evIss ε d.ow d.body (δ0 ++ List.replicate (d.nN - d.np) none)) := by
  unfold runIF
  rw [if_pos ⟨h1, h2⟩]
  cases evIss ε d.ow d.body (δ0 ++ List.replicate (d.nN - d.np) none) <;> rfl
def wd (r : Int) : Wd := if r = 0 then ⟨"a", "f", "g", "c", "p"⟩ else if r = 1 then ⟨"grid", "v", "v", "v", "x"⟩ else if r = 2 then ⟨"i", "add", "mul", "none", "v"⟩ else ⟨"longname", "p", "q", "p", "p"⟩
theorem wd_ok (r : Int) : (wd r).ok = true := by
  unfold wd
  split
  · kernel_rfl
  · split
    · kernel_rfl
    · split <;> kernel_rfl
section
variable {C : Addr} {m : Nat}
def p1 : Is := match i_law_pool.body with | .cons s _ => s | _ => .nop
def p2 : Is := match i_law_pool.body with | .cons _ (.cons s _) => s | _ => .nop
def p3 : Is := match i_law_pool.body with | .cons _ (.cons _ (.cons s _)) => s | _ => .nop
def p4 : Is := match i_law_pool.body with | .cons _ (.cons _ (.cons _ (.cons s _))) => s | _ => .nop
def r_pool : Iss := match i_law_pool.body with | .cons _ (.cons _ (.cons _ (.cons _ r))) => r | _ => .nil
theorem body_pool : i_law_pool.body = .cons p1 (.cons p2 (.cons p3 (.cons p4 r_pool))) := rfl
theorem e_p12 {ns : List Int} {k : Nat} {v : Int} {ε : Ev} {r : Iss} (hv : v = if h : k < ns.length then ns[k] else 0) : evIss ε [] (.cons p1 (.cons p2 r)) [some (.dat (.scr ns)), some (.dat (.int k)), none, none, none, none] = evIss ε [] r [some (.dat (.scr ns)), some (.dat (.int k)), some (.dat (.int v)), none, none, none] := by
  by_cases hl : k < ns.length
  · rw [dif_pos hl] at hv
    have hl' : (k : Int) < ns.length := by omega
    have ha : atI ns (k : Int) = some v := by rw [atI_nat, List.getElem?_eq_getElem hl, hv]
    simp [p1, p2, i_law_pool, cmpD, lenD, hl', hl, ixD, ha]
  · rw [dif_neg hl] at hv
    have hl' : ¬ (k : Int) < ns.length := by omega
    subst hv
    simp [p1, p2, i_law_pool, cmpD, lenD, hl', hl]
theorem e_p3 {a b : Option Dv} {v sz : Int} {ε : Ev} {r : Iss} (h : sz = if v < 0 then -v else v) : evIss ε [] (.cons p3 r) [a, b, some (.dat (.int v)), none, none, none] = evIss ε [] r [a, b, some (.dat (.int v)), some (.dat (.int sz)), none, none] := by
  have habs : bltD "abs" [.int v] = some (.int sz) := by rw [h]; rfl
  simp [p3, i_law_pool, -blt_abs, habs]
theorem e_p4 {a c : Option Dv} {k sz sd : Int} {ε : Ev} {r : Iss} (h : sd = ((sz % 2147483629 + 7919 * k + 31) * 48271) % 2147483647) : evIss ε [] (.cons p4 r) [a, some (.dat (.int k)), c, some (.dat (.int sz)), none, none] = evIss ε [] r [a, some (.dat (.int k)), c, some (.dat (.int sz)), some (.dat (.int sd)), none] := by
  rw [h]
  simp [p4, i_law_pool, binD]
theorem run_pool {ns : List Int} {k : Nat} (hk : k ≤ 100) : ∃ w c, w.ok = true ∧ Pool w c ∧ runIF (T C m) i_law_pool [some (.dat (.scr ns)), some (.dat (.int k))] = .ok c [some (.dat (.scr ns)), some (.dat (.int k))] := by
  have hL : ∀ k : Nat, k ≤ 30 → k ≤ LIM := fun k h => by unfold LIM; omega
  obtain ⟨v, hv⟩ : ∃ v : Int, v = if h : k < ns.length then ns[k] else 0 := ⟨_, rfl⟩
  obtain ⟨sz, hsz⟩ : ∃ sz : Int, sz = if v < 0 then -v else v := ⟨_, rfl⟩
  have h0 : 0 ≤ sz := by rw [hsz]; split <;> omega
  obtain ⟨sd, hsd⟩ : ∃ sd : Int, sd = ((sz % 2147483629 + 7919 * k + 31) * 48271) % 2147483647 := ⟨_, rfl⟩
  have s0 : 0 ≤ sd := by omega
  have s1 : sd < 2147483648 := by omega
  obtain ⟨i0, hi0⟩ : ∃ i0 : Int, i0 = if 1000000000000000000 ≤ sz then sz else 0 := ⟨_, rfl⟩
  refine ⟨wd (sd % 4), pool (wd (sd % 4)) i0 sd, wd_ok _, ⟨i0, sd, rfl, by rw [hi0]; split <;> omega, s0, s1⟩, ?_⟩
  rw [run_defF rfl rfl]
  show finF _ (evIss (T C m) [] i_law_pool.body [some (.dat (.scr ns)), some (.dat (.int k)), none, none, none, none]) = _
  rw [body_pool, e_p12 hv, e_p3 hsz, e_p4 hsd]
  have hr : sd % 4 = 0 ∨ sd % 4 = 1 ∨ sd % 4 = 2 ∨ sd % 4 = 3 := by omega
  clear hsd
  by_cases hb : 1000000000000000000 ≤ sz <;> rcases hr with hr | hr | hr | hr <;>
    simp [r_pool, i_law_pool, binD, hL, hr, hb, cmpD, ixD, wd, hi0]
end
end K1

/-! K3x: the law. -/
namespace K1
open PySem L2 PD
open PyData (strOk)
open SX (S S_len S_cat S_inj S_tl)
abbrev dv (o : Option Dt) : Option Dv := o.map Dv.dat
def b1 : Iss := match i_law.body with | .cons (.for _ _ b) _ => b | _ => .nil
def s0 : Is := match b1 with | .cons s _ => s | _ => .nop
def b2 : Iss := match b1 with | .cons _ (.cons (.for _ _ b) _) => b | _ => .nil
def nth : Nat → Iss → Is
  | 0, .cons s _ => s
  | n + 1, .cons _ r => nth n r
  | _, _ => .nop
def q1 : Is := nth 0 b2
def q2 : Is := nth 1 b2
def q3 : Is := nth 2 b2
def q4 : Is := nth 3 b2
def q5 : Is := nth 4 b2
def q6 : Is := nth 5 b2
def q7 : Is := nth 6 b2
theorem b2_eq : b2 = .cons q1 (.cons q2 (.cons q3 (.cons q4 (.cons q5 (.cons q6 (.cons q7 .nil)))))) := rfl
def b3 : Iss := match q6 with | .for _ _ b => b | _ => .nil
def b4 : Iss := match q7 with | .for _ _ b => b | _ => .nil
abbrev st (z0 z1 : Option Dv) (c : List Dt) (z3 : Option Dv) (x4 x5 x6 x7 x8 x9 : Option Dt) : Sl := [z0, z1, some (.own c), z3, dv x4, dv x5, dv x6, dv x7, dv x8, dv x9]
abbrev M : Nat := 210
theorem nm3 : ∀ s ∈ ([("x" : Str), "verylong", "i"] : List Str), nm s = true := by
  intro s hs
  simp only [List.mem_cons, List.not_mem_nil, or_false] at hs
  rcases hs with rfl | rfl | rfl <;> kernel_rfl
section
variable {C : Addr} {w : Wd} {z0 z1 z3 : Option Dv} {x4 x5 x6 x7 x8 x9 : Option Dt} {r : Iss} {c : List Dt}
theorem lw1 (hw : w.ok = true) (hc : Pool w c) : ∃ t c', Pool w c' ∧ Dr 4 t ∧
    evIss (T C M) [2] (.cons q1 r) (st z0 z1 c z3 x4 x5 x6 x7 x8 x9) = evIss (T C M) [2] r (st z0 z1 c' z3 (some (toD t)) x5 x6 x7 x8 x9) := by
  have hL3 : 3 ≤ LIM := by decide
  obtain ⟨t, c1, p1, t1, e1⟩ := run_term (C := C) nm3 (by decide) (by decide) hw 4 (m := 209) hc (by decide)
  refine ⟨t, c1, p1, t1, ?_⟩
  simp [nms] at e1
  simp [q1, nth, b2, b1, i_law, hL3, e1]
  rfl
theorem lw2 (hw : w.ok = true) (hc : Pool w c) : ∃ a c', Pool w c' ∧ wfA 3 a ∧ (okd 70 (atD a) = true ∧ isA (atD a) = true ∧ hasForm (atD a) = false) ∧
    evIss (T C M) [2] (.cons q2 r) (st z0 z1 c z3 x4 x5 x6 x7 x8 x9) = evIss (T C M) [2] r (st z0 z1 c' z3 x4 (some (atD a)) x6 x7 x8 x9) := by
  have hL2 : 2 ≤ LIM := by decide
  obtain ⟨a, c1, p1, t1, t2, e1⟩ := run_atom (C := C) hw (m := 205) hc
  refine ⟨a, c1, p1, t1, t2, ?_⟩
  simp [nms] at e1
  simp [q2, nth, b2, b1, i_law, hL2, e1]
  rfl
theorem lw3 {t : Tr} (ht : Dr 4 t) : evIss (T C M) [2] (.cons q3 r) (st z0 z1 c z3 (some (toD t)) x5 x6 x7 x8 x9) = evIss (T C M) [2] r (st z0 z1 c z3 (some (toD t)) x5 (some (.str (S (txt t)))) x7 x8 x9) := by
  have e1 := run_law_show (C := C) 5 (m := 209) ht.wf ht.ar ht.dp (by decide) (by have := ht.ln; omega)
  simp [q3, nth, b2, b1, i_law, e1]
  rfl
theorem lw4 {t : Tr} (ht : Dr 4 t) : evIss (T C M) [2] (.cons q4 r) (st z0 z1 c z3 (some (toD t)) x5 (some (.str (S (txt t)))) x7 x8 x9) = evIss (T C M) [2] r (st z0 z1 c z3 (some (toD t)) x5 (some (.str (S (txt t)))) x7 x8 x9) := by
  have hb := ht.bt
  have hp := hb.pt (by decide)
  have a1 := ht.ln
  have a2 := ht.dp
  have a3 := siz_len t ht.wf
  have e1 := run_show (C := C) (m := 209) ht.wf ht.ar (by omega) (by omega) (by omega) (by decide)
  have e2 := run_parse (C := C) (m := 209) hp (by decide)
  have e3 := run_read (C := C) (m := 209) hp (by decide)
  have g1 : gT 40 (txt t) = some (t, []) := by
    have := gT_all (d := 40) (t := t) (r' := []) ht.wf (by omega) trivial
    simpa using this
  have g2 : lrd (txt t) = some t := by
    unfold lrd
    rw [g1]
    simp [rd, ht.ar]
  have g3 : prs (txt t) = some t := by rw [prs_lrd hb (by decide), g2]
  rw [g3] at e2
  rw [g2] at e3
  simp only [oD] at e2 e3
  have q1' := eqS_self hp.chr
  have q2' := eq_self (ok_tr ht.wf (n := 30) (by omega)) (by decide)
  simp [q4, nth, b2, b1, i_law, e1, e2, e3, cmpD, q1', q2']
theorem atx_ok {a : At} (h : wfA 3 a) : ∀ c ∈ atx a, c < 1114112 := by
  cases a with
  | same a b =>
    obtain ⟨⟨a1, _⟩, ⟨b1, _⟩⟩ := h
    intro c hc
    simp only [atx, List.mem_append, List.mem_cons] at hc
    rcases hc with hc | rfl | rfl | rfl | hc
    · exact ch_txt a1 c hc
    · decide
    · decide
    · decide
    · exact ch_txt b1 c hc
  | test s a =>
    obtain ⟨h0, a1, _⟩ := h
    intro c hc
    simp only [atx, List.mem_append, List.mem_cons, List.not_mem_nil, or_false] at hc
    rcases hc with hc | rfl | hc | rfl
    · exact isN_ok h0 c hc
    · decide
    · exact ch_txt a1 c hc
    · decide
theorem lw5 {a : At} (h : wfA 3 a) (hk : okd 70 (atD a) = true) (hi : isA (atD a) = true) (hf : hasForm (atD a) = false) : evIss (T C M) [2] (.cons q5 r) (st z0 z1 c z3 x4 (some (atD a)) x6 x7 x8 x9) = evIss (T C M) [2] r (st z0 z1 c z3 x4 (some (atD a)) x6 x7 x8 x9) := by
  have e1 := run_show_at (C := C) (m := 209) h hk hi hf (by decide)
  have e2 := run_law_show_at (C := C) (m := 208) h (by decide)
  have q1' := eqS_self (atx_ok h)
  simp [q5, nth, b2, b1, i_law, e1, e2, cmpD, q1']
/-! ### bent texts -/
theorem eq_yes1 : eqD (.lst [.bl true]) (.lst [.bl true]) = some true := eq_self (n := 1) rfl (by decide)
theorem lw6b {k : Nat} {l : List Nat} {e : Dt} (hc : Pool w c) (hl : Bt k l) (hk : k ≤ 9) : ∃ l' c' y8, Pool w c' ∧ Bt (k + 1) l' ∧ evIss (T C M) [2] b3 (st z0 z1 c z3 x4 x5 (some (.str (S l))) (some e) x8 x9) = .nx (st z0 z1 c' z3 x4 x5 (some (.str (S l'))) (some e) y8 x9) := by
  obtain ⟨l', c1, p1, t1, e1⟩ := run_bent (C := C) (m := 208) hc hl (by omega)
  have hp := t1.pt (by omega)
  have hL1 : 1 ≤ LIM := by decide
  have e2 := run_read (C := C) (m := 209) hp (by decide)
  have e3 := run_err0 (C := C) (m := 209) hp (by decide)
  rw [prs_lrd t1 (by omega)] at e3
  refine ⟨l', c1, some (oD (lrd l')), p1, t1, ?_⟩
  cases hg : lrd l' with
  | none =>
    rw [hg] at e2 e3
    simp only [oD, yes1] at e2 e3
    simp [b3, q6, nth, b2, b1, i_law, e1, e2, e3, cmpD, isNon, eq_yes1, hL1, oD]
  | some t =>
    rw [hg] at e2 e3
    obtain ⟨h1, h2, h3, h4, h5⟩ := lrd_ok t1 (by omega) hg
    simp only [oD] at e2 e3
    have ok := ok_tr h1 (n := 30) h4
    have e4 := run_is_term (C := C) (m := 206) ok
    rw [isT_tr h1, h2] at e4
    simp [h3, h4] at e4
    have ln := t1.ln
    have e5 := run_show (C := C) (m := 209) h1 h2 h3 h4 (by rw [← h5]; omega) (by decide)
    rw [← h5] at e5
    have q1' := eqS_self t1.ch
    have q2' := eq_self ok (by decide)
    simp [b3, q6, nth, b2, b1, i_law, e1, e2, e3, cmpD, toD_ne, q2', e4, truD, e5, q1', oD]
theorem lw6f : ∀ (ds : List Dt) (k : Nat) (l : List Nat) (c : List Dt) (x7 x8 : Option Dt), Pool w c → Bt k l → k + ds.length ≤ 9 → ∃ l' c' y7 y8, Pool w c' ∧ evFor (putT (.name 7)) (evIss (T C M) [2] b3) ds (st z0 z1 c z3 x4 x5 (some (.str (S l))) x7 x8 x9) = .nx (st z0 z1 c' z3 x4 x5 (some (.str (S l'))) y7 y8 x9)
  | [], k, l, c, x7, x8, hc, hl, hk => ⟨l, c, x7, x8, hc, rfl⟩
  | d :: ds, k, l, c, x7, x8, hc, hl, hk => by
    obtain ⟨l1, c1, y8, p1, t1, e1⟩ := lw6b (C := C) (z0 := z0) (z1 := z1) (z3 := z3) (x4 := x4) (x5 := x5) (x8 := x8) (x9 := x9) (e := d) hc hl (by simp at hk; omega)
    obtain ⟨l2, c2, u7, u8, p2, e2⟩ := lw6f ds (k + 1) l1 c1 (some d) y8 p1 t1 (by simp at hk; omega)
    refine ⟨l2, c2, u7, u8, p2, ?_⟩
    unfold evFor
    have e0 : putT (.name 7) d (st z0 z1 c z3 x4 x5 (some (.str (S l))) x7 x8 x9) = some (st z0 z1 c z3 x4 x5 (some (.str (S l))) (some d) x8 x9) := by simp
    rw [e0]
    dsimp only
    rw [e1]
    exact e2
theorem lw6 {l : List Nat} (hc : Pool w c) (hl : Bt 0 l) : ∃ c' y6 y7 y8, Pool w c' ∧ evIss (T C M) [2] (.cons q6 r) (st z0 z1 c z3 x4 x5 (some (.str (S l))) x7 x8 x9) = evIss (T C M) [2] r (st z0 z1 c' z3 x4 x5 y6 y7 y8 x9) := by
  obtain ⟨l', c1, y7, y8, p1, e1⟩ := lw6f (C := C) (z0 := z0) (z1 := z1) (z3 := z3) (x4 := x4) (x5 := x5) (x9 := x9) (rangeD 0 4) 0 l c x7 x8 hc hl (by simp [rangeD])
  refine ⟨c1, some (.str (S l')), y7, y8, p1, ?_⟩
  have e2 : evIs (T C M) [2] q6 (st z0 z1 c z3 x4 x5 (some (.str (S l))) x7 x8 x9) = evFor (putT (.name 7)) (evIss (T C M) [2] b3) (rangeD 0 4) (st z0 z1 c z3 x4 x5 (some (.str (S l))) x7 x8 x9) := by
    simp only [q6, nth, b3, b1, b2, i_law, s_for, z_r1, a_cons, x_con, ar_none, a_nil]
    rfl
  rw [ss_cons, e2, e1, seq_nx]
/-! ### other objects -/
structure Od (d : Dt) : Prop where
  ok : okd 100 d = true
  nt : isT d = false
  na : isA d = false
theorem lw7b {d : Dt} (h : Od d) : evIss (T C M) [2] b4 (st z0 z1 c z3 x4 x5 x6 x7 x8 (some d)) = .nx (st z0 z1 c z3 x4 x5 x6 x7 x8 (some d)) := by
  have hL1 : 1 ≤ LIM := by decide
  have e1 := run_err1_no (C := C) (m := 209) h.ok (by decide) h.nt h.na (by decide)
  by_cases hs : ∃ s, d = .str s
  · obtain ⟨s, rfl⟩ := hs
    simp [b4, q7, nth, b2, b1, i_law, e1, cmpD, hL1, eq_yes1, truD]
  · have e2 := run_err0_no (C := C) (m := 208) h.ok (by decide) (fun s z => hs ⟨s, z⟩)
    have hi : isiD d "str" = some false := by
      cases d
      case str s => exact absurd ⟨s, rfl⟩ hs
      all_goals first | rfl | (have := h.ok; simp [okd] at this)
    simp [b4, q7, nth, b2, b1, i_law, e1, e2, cmpD, hL1, eq_yes1, truD, hi]
theorem lw7f : ∀ (ds : List Dt) (x9 : Option Dt), (∀ d ∈ ds, Od d) → ∃ x9', evFor (putT (.name 9)) (evIss (T C M) [2] b4) ds (st z0 z1 c z3 x4 x5 x6 x7 x8 x9) = .nx (st z0 z1 c z3 x4 x5 x6 x7 x8 x9')
  | [], x9, _ => ⟨x9, rfl⟩
  | d :: ds, x9, h => by
    obtain ⟨x, hx⟩ := lw7f ds (some d) fun e he => h e (List.mem_cons_of_mem _ he)
    refine ⟨x, ?_⟩
    unfold evFor
    have e0 : putT (.name 9) d (st z0 z1 c z3 x4 x5 x6 x7 x8 x9) = some (st z0 z1 c z3 x4 x5 x6 x7 x8 (some d)) := by simp
    rw [e0]
    dsimp only
    rw [lw7b (h d List.mem_cons_self)]
    exact hx
theorem isT_nf {d : Dt} (h : hasForm d = false) : isT d = false := by
  cases hb : isT d with
  | false => rfl
  | true => rw [isT_form hb] at h; cases h
theorem odds {t : Tr} (ht : Dr 4 t) : ∀ d ∈ ([.non, .int 5, .str "", .lst [toD t], .tup [.str "var"], .tup [.str "same", toD t], .tup [.str "put", toD t, toD t]] : List Dt), Od d := by
  have ok : okd 98 (toD t) = true := okd_le (by decide) (ok_tr ht.wf (n := 30) (by have := ht.dp; omega))
  have os : ∀ n, okd n (.str "same") = true := fun n => okl.2.2.2.1
  have ov : ∀ n, okd n (.str "var") = true := fun n => okl.1
  have op : ∀ n, okd n (.str "put") = true := fun n => okd_str (by kernel_rfl)
  have nn : isName (toD t) = false := by cases t <;> simp [toD, isName]
  have n1 : (("put" : Str) = "same") = False := eq_false (ne_of_beq_false (by kernel_rfl))
  have n2 : (("put" : Str) = "test") = False := eq_false (ne_of_beq_false (by kernel_rfl))
  intro d hd
  simp only [List.mem_cons, List.not_mem_nil, or_false] at hd
  rcases hd with rfl | rfl | rfl | rfl | rfl | rfl | rfl
  · exact ⟨rfl, isT_nf (by simp [hasForm]), by simp [isA]⟩
  · exact ⟨rfl, isT_nf (by simp [hasForm]), by simp [isA]⟩
  · exact ⟨okd_str (by kernel_rfl), isT_nf (by simp [hasForm]), by simp [isA]⟩
  · exact ⟨by simp only [okd, List.all_cons, List.all_nil, Bool.and_true]; exact okd_le (by decide) ok, isT_nf (by simp [hasForm]), by simp [isA]⟩
  · exact ⟨by show ([Dt.str "var"].all (okd 99)) = true; simp only [List.all_cons, List.all_nil, ov]; rfl, isT_nf (by simp [hasForm]), by simp [isA]⟩
  · exact ⟨by show ([Dt.str "same", toD t].all (okd 99)) = true; simp only [List.all_cons, List.all_nil, os, okd_le (show 98 ≤ 99 by decide) ok]; rfl, isT_nf (by simp [hasForm, nn]), by simp [isA]⟩
  · exact ⟨by show ([Dt.str "put", toD t, toD t].all (okd 99)) = true; simp only [List.all_cons, List.all_nil, op, okd_le (show 98 ≤ 99 by decide) ok]; rfl, isT_nf (by simp [hasForm, nn]), by simp [isA, n1, n2]⟩
theorem lw7 {t : Tr} (ht : Dr 4 t) : ∃ y9, evIss (T C M) [2] (.cons q7 r) (st z0 z1 c z3 (some (toD t)) x5 x6 x7 x8 x9) = evIss (T C M) [2] r (st z0 z1 c z3 (some (toD t)) x5 x6 x7 x8 y9) := by
  have hL : ∀ k : Nat, k ≤ 30 → k ≤ LIM := fun k h => by unfold LIM; omega
  obtain ⟨y9, e1⟩ := lw7f (C := C) (z0 := z0) (z1 := z1) (z3 := z3) (c := c) (x4 := some (toD t)) (x5 := x5) (x6 := x6) (x7 := x7) (x8 := x8) _ x9 (odds ht)
  refine ⟨y9, ?_⟩
  have e2 : evIs (T C M) [2] q7 (st z0 z1 c z3 (some (toD t)) x5 x6 x7 x8 x9) = evFor (putT (.name 9)) (evIss (T C M) [2] b4) [.non, .int 5, .str "", .lst [toD t], .tup [.str "var"], .tup [.str "same", toD t], .tup [.str "put", toD t, toD t]] (st z0 z1 c z3 (some (toD t)) x5 x6 x7 x8 x9) := by
    simp [q7, nth, b4, b1, b2, i_law, hL, itemsD]
  rw [ss_cons, e2, e1, seq_nx]
/-! ### joined -/
theorem lwB (hw : w.ok = true) (hc : Pool w c) : ∃ c' y4 y5 y6 y7 y8 y9, Pool w c' ∧ evIss (T C M) [2] b2 (st z0 z1 c z3 x4 x5 x6 x7 x8 x9) = .nx (st z0 z1 c' z3 y4 y5 y6 y7 y8 y9) := by
  rw [b2_eq]
  obtain ⟨t, c1, p1, ht, e1⟩ := lw1 (C := C) (z0 := z0) (z1 := z1) (z3 := z3) (x4 := x4) (x5 := x5) (x6 := x6) (x7 := x7) (x8 := x8) (x9 := x9) (r := .cons q2 (.cons q3 (.cons q4 (.cons q5 (.cons q6 (.cons q7 .nil)))))) hw hc
  obtain ⟨a, c2, p2, ha, ⟨ha1, ha2, ha3⟩, e2⟩ := lw2 (C := C) (z0 := z0) (z1 := z1) (z3 := z3) (x4 := some (toD t)) (x5 := x5) (x6 := x6) (x7 := x7) (x8 := x8) (x9 := x9) (r := .cons q3 (.cons q4 (.cons q5 (.cons q6 (.cons q7 .nil))))) hw p1
  have e3 := lw3 (C := C) (z0 := z0) (z1 := z1) (z3 := z3) (c := c2) (x5 := some (atD a)) (x6 := x6) (x7 := x7) (x8 := x8) (x9 := x9) (r := .cons q4 (.cons q5 (.cons q6 (.cons q7 .nil)))) ht
  have e4 := lw4 (C := C) (z0 := z0) (z1 := z1) (z3 := z3) (c := c2) (x5 := some (atD a)) (x7 := x7) (x8 := x8) (x9 := x9) (r := .cons q5 (.cons q6 (.cons q7 .nil))) ht
  have e5 := lw5 (C := C) (z0 := z0) (z1 := z1) (z3 := z3) (c := c2) (x4 := some (toD t)) (x6 := some (.str (S (txt t)))) (x7 := x7) (x8 := x8) (x9 := x9) (r := .cons q6 (.cons q7 .nil)) ha ha1 ha2 ha3
  obtain ⟨c6, y6, y7, y8, p6, e6⟩ := lw6 (C := C) (z0 := z0) (z1 := z1) (z3 := z3) (x4 := some (toD t)) (x5 := some (atD a)) (x7 := x7) (x8 := x8) (x9 := x9) (r := .cons q7 .nil) p2 ht.bt
  obtain ⟨y9, e7⟩ := lw7 (C := C) (z0 := z0) (z1 := z1) (z3 := z3) (c := c6) (x5 := some (atD a)) (x6 := y6) (x7 := y7) (x8 := y8) (x9 := x9) (r := .nil) ht
  refine ⟨c6, some (toD t), some (atD a), y6, y7, y8, y9, p6, ?_⟩
  rw [e1, e2, e3, e4, e5, e6, e7, ss_nil]
theorem lwI (hw : w.ok = true) : ∀ (ds : List Dt) (c : List Dt) (x3 x4 x5 x6 x7 x8 x9 : Option Dt), Pool w c → ∃ c' y3 y4 y5 y6 y7 y8 y9, Pool w c' ∧
    evFor (putT (.name 3)) (evIss (T C M) [2] b2) ds (st z0 z1 c (dv x3) x4 x5 x6 x7 x8 x9) = .nx (st z0 z1 c' (dv y3) y4 y5 y6 y7 y8 y9)
  | [], c, x3, x4, x5, x6, x7, x8, x9, hc => ⟨c, x3, x4, x5, x6, x7, x8, x9, hc, rfl⟩
  | d :: ds, c, x3, x4, x5, x6, x7, x8, x9, hc => by
    obtain ⟨c1, y4, y5, y6, y7, y8, y9, p1, e1⟩ := lwB (C := C) (z0 := z0) (z1 := z1) (z3 := some (.dat d)) (x4 := x4) (x5 := x5) (x6 := x6) (x7 := x7) (x8 := x8) (x9 := x9) hw hc
    obtain ⟨c2, u3, u4, u5, u6, u7, u8, u9, p2, e2⟩ := lwI hw ds c1 (some d) y4 y5 y6 y7 y8 y9 p1
    refine ⟨c2, u3, u4, u5, u6, u7, u8, u9, p2, ?_⟩
    unfold evFor
    have e0 : putT (.name 3) d (st z0 z1 c (dv x3) x4 x5 x6 x7 x8 x9) = some (st z0 z1 c (some (.dat d)) x4 x5 x6 x7 x8 x9) := by simp
    rw [e0]
    dsimp only
    rw [e1]
    exact e2
def q0 : Is := match b1 with | .cons _ (.cons s _) => s | _ => .nop
theorem b1_eq : b1 = .cons s0 (.cons q0 .nil) := rfl
abbrev so (z0 z1 z2 : Option Dv) (x3 x4 x5 x6 x7 x8 x9 : Option Dt) : Sl := [z0, z1, z2, dv x3, dv x4, dv x5, dv x6, dv x7, dv x8, dv x9]
theorem lwF {ns : List Int} {k : Nat} {z2 : Option Dv} {x3 : Option Dt} (hk : k ≤ 100) : ∃ w c, w.ok = true ∧ Pool w c ∧ evIss (T C M) [2] (.cons s0 r) (so (some (.dat (.scr ns))) (some (.dat (.int k))) z2 x3 x4 x5 x6 x7 x8 x9) = evIss (T C M) [2] r (st (some (.dat (.scr ns))) (some (.dat (.int k))) c (dv x3) x4 x5 x6 x7 x8 x9) := by
  obtain ⟨w, c, h1, h2, e⟩ := run_pool (C := C) (m := 209) (ns := ns) hk
  refine ⟨w, c, h1, h2, ?_⟩
  simp [s0, b1, i_law, e]
theorem lwO {ns : List Int} : ∀ (ds : List Nat), (∀ k ∈ ds, k ≤ 100) → ∀ (z2 : Option Dv) (x1 x3 x4 x5 x6 x7 x8 x9 : Option Dt), ∃ z2' y1 y3 y4 y5 y6 y7 y8 y9,
    evFor (putT (.name 1)) (evIss (T C M) [2] b1) (ds.map fun (k : Nat) => Dt.int (k : Int)) (so (some (.dat (.scr ns))) (dv x1) z2 x3 x4 x5 x6 x7 x8 x9) = .nx (so (some (.dat (.scr ns))) (dv y1) z2' y3 y4 y5 y6 y7 y8 y9)
  | [], _, z2, x1, x3, x4, x5, x6, x7, x8, x9 => ⟨z2, x1, x3, x4, x5, x6, x7, x8, x9, rfl⟩
  | k :: ds, h, z2, x1, x3, x4, x5, x6, x7, x8, x9 => by
    obtain ⟨w, c, hw, hc, e1⟩ := lwF (C := C) (z2 := z2) (x3 := x3) (x4 := x4) (x5 := x5) (x6 := x6) (x7 := x7) (x8 := x8) (x9 := x9) (r := .cons q0 .nil) (ns := ns) (h k List.mem_cons_self)
    obtain ⟨c1, y3, y4, y5, y6, y7, y8, y9, p1, e2⟩ := lwI (C := C) (z0 := some (.dat (.scr ns))) (z1 := some (.dat (.int k))) hw (rangeD 0 6) c x3 x4 x5 x6 x7 x8 x9 hc
    obtain ⟨z2', u1, u3, u4, u5, u6, u7, u8, u9, e3⟩ := lwO ds (fun k hk => h k (List.mem_cons_of_mem _ hk)) (some (.own c1)) (some (.int k)) y3 y4 y5 y6 y7 y8 y9
    refine ⟨z2', u1, u3, u4, u5, u6, u7, u8, u9, ?_⟩
    rw [List.map_cons]
    unfold evFor
    have e0 : putT (.name 1) (.int k) (so (some (.dat (.scr ns))) (dv x1) z2 x3 x4 x5 x6 x7 x8 x9) = some (so (some (.dat (.scr ns))) (some (.dat (.int k))) z2 x3 x4 x5 x6 x7 x8 x9) := by simp
    rw [e0]
    dsimp only
    have e4 : evIs (T C M) [2] q0 (st (some (.dat (.scr ns))) (some (.dat (.int k))) c (dv x3) x4 x5 x6 x7 x8 x9) = evFor (putT (.name 3)) (evIss (T C M) [2] b2) (rangeD 0 6) (st (some (.dat (.scr ns))) (some (.dat (.int k))) c (dv x3) x4 x5 x6 x7 x8 x9) := by
      simp only [q0, b1, b2, i_law, s_for, z_r1, a_cons, x_con, ar_none, a_nil]
      rfl
    have e5 : evIss (T C M) [2] b1 (so (some (.dat (.scr ns))) (some (.dat (.int k))) z2 x3 x4 x5 x6 x7 x8 x9) = .nx (st (some (.dat (.scr ns))) (some (.dat (.int k))) c1 (dv y3) y4 y5 y6 y7 y8 y9) := by
      rw [b1_eq, e1, ss_cons, e4, e2, seq_nx, ss_nil]
    rw [e5]
    exact e3
def f1 : Is := match i_law.body with | .cons s _ => s | _ => .nop
def f2 : Is := match i_law.body with | .cons _ (.cons s _) => s | _ => .nop
theorem body_law : i_law.body = .cons f1 (.cons f2 .nil) := rfl
theorem lwE {ns : List Int} : evIs (T C M) [2] f1 [some (.dat (.scr ns)), none, none, none, none, none, none, none, none, none] = evFor (putT (.name 1)) (evIss (T C M) [2] b1) ((List.range (max 1 (min 8 ns.length))).map fun (k : Nat) => Dt.int (k : Int)) [some (.dat (.scr ns)), none, none, none, none, none, none, none, none, none] := by
  have h1 : rangeD 0 (max 1 (min 8 ns.length)) = (List.range (max 1 (min 8 ns.length))).map fun (k : Nat) => Dt.int (k : Int) := by simp [rangeD]
  rw [← h1]
  have h3 : (if (ns.length : Int) < 8 then (ns.length : Int) else 8) = ((min 8 ns.length : Nat) : Int) := by split <;> omega
  have h4 : (if ((min 8 ns.length : Nat) : Int) > 1 then ((min 8 ns.length : Nat) : Int) else 1) = ((max 1 (min 8 ns.length) : Nat) : Int) := by split <;> omega
  have h5 : ((max 1 (min 8 ns.length) : Nat) : Int) ≤ 100000 := by omega
  have h6 : (-100000 : Int) ≤ ((max 1 (min 8 ns.length) : Nat) : Int) := by omega
  simp only [f1, b1, i_law, s_for, z_r1, a_cons, x_con, ar_none, a_nil, x_blt, x_var, getS_0, ar_some, isown_0d, bio, kVal, kA1, kA2, kBlt, valsOf_v, valsOf_n, Option.map_some, blt_len, lenD, opt_s, blt_min2, blt_max2, h3, h4, kR1, h5, h6, Bool.false_eq_true, if_false, and_self, if_true, flo, kFor, Int.toNat_natCast]
/-! ### the last row -/
def deep : Nat → Tr
  | 0 => .var [120]
  | n + 1 => .op [102] [deep n]
theorem deep_wf : ∀ n, wfT (deep n) = true
  | 0 => by kernel_rfl
  | n + 1 => by
    have h : isN [102] = true := by kernel_rfl
    simp only [deep, wfT, wfTs, h, deep_wf n]; rfl
theorem deep_dep : ∀ n, dep (deep n) = n + 1
  | 0 => rfl
  | n + 1 => by simp [deep, dep, deps, deep_dep n]
theorem last_txt : txt (deep 30) = (List.replicate 30 [102, 40]).flatten ++ 120 :: List.replicate 30 41 := by kernel_rfl
theorem e_ff : binD .Mult (.str "f(") (.int 30) = some (.str (S (List.replicate 30 [102, 40]).flatten)) := by kernel_rfl
theorem e_pp : binD .Mult (.str ")") (.int 30) = some (.str (S (List.replicate 30 41))) := by kernel_rfl
theorem ch_x : ("x" : Str) = S [120] := by kernel_rfl
theorem ch_0 : ("" : Str) = S [] := by kernel_rfl
theorem lwZ {a0 a1 a2 : Option Dv} {x3 : Option Dt} : ∃ δ, evIss (T C M) [2] (.cons f2 .nil) (so a0 a1 a2 x3 x4 x5 x6 x7 x8 x9) = .rt (.bl true) δ := by
  have hL1 : 1 ≤ LIM := by decide
  have hb : evIss (T C M) [2] (.cons f2 .nil) (so a0 a1 a2 x3 x4 x5 x6 x7 x8 x9) = ((evIs (T C M) [] f2 (frz [2] (so a0 a1 a2 x3 x4 x5 x6 x7 x8 x9))).seq fun δ => .nx δ) := by
    simp only [ss_cons, f2, i_law, s_ret, frz_nil]
    congr 1
    try (funext δ; exact ss_nil)
  obtain ⟨a2', hf⟩ : ∃ a2', frz [2] (so a0 a1 a2 x3 x4 x5 x6 x7 x8 x9) = so a0 a1 a2' x3 x4 x5 x6 x7 x8 x9 := ⟨_, rfl⟩
  rw [hb, hf]
  have p1 : Pt (txt (deep 30)) := ⟨by rw [last_txt]; simp, ch_txt (deep_wf 30)⟩
  have p0 : Pt [] := ⟨by simp, by simp⟩
  have e1 := run_err0 (C := C) (m := 209) p1 (by decide)
  have e2 := run_err0 (C := C) (m := 209) p0 (by decide)
  have g1 : prs (txt (deep 30)) = none := by
    unfold prs
    have := gT_all (d := 100) (t := deep 30) (r' := []) (deep_wf 30) (by rw [deep_dep]; decide) trivial
    rw [List.append_nil] at this
    rw [this]
    dsimp only [rd]
    rw [isT_tr (deep_wf 30), if_neg]
    rw [deep_dep]
    simp
  have g2 : prs [] = none := by
    unfold prs
    have : gT 100 [] = none := by
      unfold gT
      rw [if_neg]
      simp [isN_iff]
    rw [this]
    rfl
  rw [g1] at e1
  rw [g2] at e2
  rw [last_txt] at e1
  simp only [yes1] at e1 e2
  have c1 := cat_c (a := (List.replicate 30 [102, 40]).flatten) ch_x (by simp)
  have c2 := cat_s (a := (List.replicate 30 [102, 40]).flatten ++ [120]) (b := List.replicate 30 41) (by simp)
  simp only [List.append_assoc, List.cons_append, List.nil_append] at c2
  rw [← ch_0] at e2
  have hff := e_ff
  have hpp := e_pp
  generalize (List.replicate 30 [102, 40]).flatten = ff at *
  generalize List.replicate 30 41 = pp at *
  simp [f2, i_law, hff, hpp, c1, c2, e1, e2, cmpD, eq_yes1, hL1]
theorem math1 : ∀ ns : List Int, ns.length ≤ 63 → ∃ δ, runI (T C M) i_law [some (.dat (.scr ns))] = .ok (.bl true) δ := by
  intro ns _
  obtain ⟨z2', u1, u3, u4, u5, u6, u7, u8, u9, e3⟩ := lwO (C := C) (ns := ns) (List.range (max 1 (min 8 ns.length))) (fun k hk => by simp at hk; omega) none none none none none none none none none
  obtain ⟨δ, e4⟩ := lwZ (C := C) (a0 := some (.dat (.scr ns))) (a1 := dv u1) (a2 := z2') (x3 := u3) (x4 := u4) (x5 := u5) (x6 := u6) (x7 := u7) (x8 := u8) (x9 := u9)
  refine ⟨mergeP [some (.dat (.scr ns))] δ, ?_⟩
  rw [run_def rfl rfl]
  show fin _ (evIss (T C M) [2] i_law.body [some (.dat (.scr ns)), none, none, none, none, none, none, none, none, none]) = _
  rw [body_law, ss_cons, lwE]
  refine Eq.trans (congrArg (fun q => fin _ (Fl.seq q _)) e3) ?_
  rw [seq_nx, e4, fin_rt]
end
end K1

/-! K3z: the law k03, linked. -/
namespace K1
open PySem L2 PD
theorem math (C : Addr) : ∀ ns : List Int, ns.length ≤ 63 → ∃ δ, runI ((⟨fun x => defsL.lookup x, (cm [] 0 C 0).cl, (cm [] 0 0 0).xs⟩ : Pg).T 210) i_law [some (.dat (.scr ns))] = .ok (.bl true) δ := math1
theorem s_is_name : FnScope d_is_name.N d_is_name.ps (defScope d_is_name.st) := ⟨rfl, rfl, rfl, by decide +kernel, rfl, by decide +kernel, by decide +kernel⟩
theorem b_is_name : ∀ (kV doc pm : Value) (an : Option Addr) (cdv ct : Value) (us : List Value), us.length = d_is_name.ps.length → bindArgs (PySem.W.fnOf "is_name" "is_name" (defArgs d_is_name.st) (defBody d_is_name.st) (defScope d_is_name.st) .none kV doc pm an cdv ct) ⟨us, []⟩ = pure (d_is_name.ps.zip us) := fun _ _ _ _ _ _ us hl => match us, hl with | [_], _ => rfl
theorem s_parts_of : FnScope d_parts_of.N d_parts_of.ps (defScope d_parts_of.st) := ⟨rfl, rfl, rfl, by decide +kernel, rfl, by decide +kernel, by decide +kernel⟩
theorem b_parts_of : ∀ (kV doc pm : Value) (an : Option Addr) (cdv ct : Value) (us : List Value), us.length = d_parts_of.ps.length → bindArgs (PySem.W.fnOf "parts_of" "parts_of" (defArgs d_parts_of.st) (defBody d_parts_of.st) (defScope d_parts_of.st) .none kV doc pm an cdv ct) ⟨us, []⟩ = pure (d_parts_of.ps.zip us) := fun _ _ _ _ _ _ us hl => match us, hl with | [_], _ => rfl
theorem s_are_args : FnScope d_are_args.N d_are_args.ps (defScope d_are_args.st) := ⟨rfl, rfl, rfl, by decide +kernel, rfl, by decide +kernel, by decide +kernel⟩
theorem b_are_args : ∀ (kV doc pm : Value) (an : Option Addr) (cdv ct : Value) (us : List Value), us.length = d_are_args.ps.length → bindArgs (PySem.W.fnOf "are_args" "are_args" (defArgs d_are_args.st) (defBody d_are_args.st) (defScope d_are_args.st) .none kV doc pm an cdv ct) ⟨us, []⟩ = pure (d_are_args.ps.zip us) := fun _ _ _ _ _ _ us hl => match us, hl with | [_], _ => rfl
theorem s_has_form : FnScope d_has_form.N d_has_form.ps (defScope d_has_form.st) := ⟨rfl, rfl, rfl, by decide +kernel, rfl, by decide +kernel, by decide +kernel⟩
theorem b_has_form : ∀ (kV doc pm : Value) (an : Option Addr) (cdv ct : Value) (us : List Value), us.length = d_has_form.ps.length → bindArgs (PySem.W.fnOf "has_form" "has_form" (defArgs d_has_form.st) (defBody d_has_form.st) (defScope d_has_form.st) .none kV doc pm an cdv ct) ⟨us, []⟩ = pure (d_has_form.ps.zip us) := fun _ _ _ _ _ _ us hl => match us, hl with | [_], _ => rfl
theorem s_is_term_within : FnScope d_is_term_within.N d_is_term_within.ps (defScope d_is_term_within.st) := ⟨rfl, rfl, rfl, by decide +kernel, rfl, by decide +kernel, by decide +kernel⟩
theorem b_is_term_within : ∀ (kV doc pm : Value) (an : Option Addr) (cdv ct : Value) (us : List Value), us.length = d_is_term_within.ps.length → bindArgs (PySem.W.fnOf "is_term_within" "is_term_within" (defArgs d_is_term_within.st) (defBody d_is_term_within.st) (defScope d_is_term_within.st) .none kV doc pm an cdv ct) ⟨us, []⟩ = pure (d_is_term_within.ps.zip us) := fun _ _ _ _ _ _ us hl => match us, hl with | [_, _, _], _ => rfl
theorem s_is_atom_within : FnScope d_is_atom_within.N d_is_atom_within.ps (defScope d_is_atom_within.st) := ⟨rfl, rfl, rfl, by decide +kernel, rfl, by decide +kernel, by decide +kernel⟩
theorem b_is_atom_within : ∀ (kV doc pm : Value) (an : Option Addr) (cdv ct : Value) (us : List Value), us.length = d_is_atom_within.ps.length → bindArgs (PySem.W.fnOf "is_atom_within" "is_atom_within" (defArgs d_is_atom_within.st) (defBody d_is_atom_within.st) (defScope d_is_atom_within.st) .none kV doc pm an cdv ct) ⟨us, []⟩ = pure (d_is_atom_within.ps.zip us) := fun _ _ _ _ _ _ us hl => match us, hl with | [_, _, _], _ => rfl
theorem s_is_term : FnScope d_is_term.N d_is_term.ps (defScope d_is_term.st) := ⟨rfl, rfl, rfl, by decide +kernel, rfl, by decide +kernel, by decide +kernel⟩
theorem b_is_term : ∀ (kV doc pm : Value) (an : Option Addr) (cdv ct : Value) (us : List Value), us.length = d_is_term.ps.length → bindArgs (PySem.W.fnOf "is_term" "is_term" (defArgs d_is_term.st) (defBody d_is_term.st) (defScope d_is_term.st) .none kV doc pm an cdv ct) ⟨us, []⟩ = pure (d_is_term.ps.zip us) := fun _ _ _ _ _ _ us hl => match us, hl with | [_], _ => rfl
theorem s_is_atom : FnScope d_is_atom.N d_is_atom.ps (defScope d_is_atom.st) := ⟨rfl, rfl, rfl, by decide +kernel, rfl, by decide +kernel, by decide +kernel⟩
theorem b_is_atom : ∀ (kV doc pm : Value) (an : Option Addr) (cdv ct : Value) (us : List Value), us.length = d_is_atom.ps.length → bindArgs (PySem.W.fnOf "is_atom" "is_atom" (defArgs d_is_atom.st) (defBody d_is_atom.st) (defScope d_is_atom.st) .none kV doc pm an cdv ct) ⟨us, []⟩ = pure (d_is_atom.ps.zip us) := fun _ _ _ _ _ _ us hl => match us, hl with | [_], _ => rfl
theorem s_text_of : FnScope d_text_of.N d_text_of.ps (defScope d_text_of.st) := ⟨rfl, rfl, rfl, by decide +kernel, rfl, by decide +kernel, by decide +kernel⟩
theorem b_text_of : ∀ (kV doc pm : Value) (an : Option Addr) (cdv ct : Value) (us : List Value), us.length = d_text_of.ps.length → bindArgs (PySem.W.fnOf "text_of" "text_of" (defArgs d_text_of.st) (defBody d_text_of.st) (defScope d_text_of.st) .none kV doc pm an cdv ct) ⟨us, []⟩ = pure (d_text_of.ps.zip us) := fun _ _ _ _ _ _ us hl => match us, hl with | [_], _ => rfl
theorem s_show : FnScope d_show.N d_show.ps (defScope d_show.st) := ⟨rfl, rfl, rfl, by decide +kernel, rfl, by decide +kernel, by decide +kernel⟩
theorem b_show : ∀ (kV doc pm : Value) (an : Option Addr) (cdv ct : Value) (us : List Value), us.length = d_show.ps.length → bindArgs (PySem.W.fnOf "show" "show" (defArgs d_show.st) (defBody d_show.st) (defScope d_show.st) .none kV doc pm an cdv ct) ⟨us, []⟩ = pure (d_show.ps.zip us) := fun _ _ _ _ _ _ us hl => match us, hl with | [_], _ => rfl
theorem s_letters_from : FnScope d_letters_from.N d_letters_from.ps (defScope d_letters_from.st) := ⟨rfl, rfl, rfl, by decide +kernel, rfl, by decide +kernel, by decide +kernel⟩
theorem b_letters_from : ∀ (kV doc pm : Value) (an : Option Addr) (cdv ct : Value) (us : List Value), us.length = d_letters_from.ps.length → bindArgs (PySem.W.fnOf "letters_from" "letters_from" (defArgs d_letters_from.st) (defBody d_letters_from.st) (defScope d_letters_from.st) .none kV doc pm an cdv ct) ⟨us, []⟩ = pure (d_letters_from.ps.zip us) := fun _ _ _ _ _ _ us hl => match us, hl with | [_, _], _ => rfl
theorem s_term_from : FnScope d_term_from.N d_term_from.ps (defScope d_term_from.st) := ⟨rfl, rfl, rfl, by decide +kernel, rfl, by decide +kernel, by decide +kernel⟩
theorem b_term_from : ∀ (kV doc pm : Value) (an : Option Addr) (cdv ct : Value) (us : List Value), us.length = d_term_from.ps.length → bindArgs (PySem.W.fnOf "term_from" "term_from" (defArgs d_term_from.st) (defBody d_term_from.st) (defScope d_term_from.st) .none kV doc pm an cdv ct) ⟨us, []⟩ = pure (d_term_from.ps.zip us) := fun _ _ _ _ _ _ us hl => match us, hl with | [_, _, _], _ => rfl
theorem s_args_from : FnScope d_args_from.N d_args_from.ps (defScope d_args_from.st) := ⟨rfl, rfl, rfl, by decide +kernel, rfl, by decide +kernel, by decide +kernel⟩
theorem b_args_from : ∀ (kV doc pm : Value) (an : Option Addr) (cdv ct : Value) (us : List Value), us.length = d_args_from.ps.length → bindArgs (PySem.W.fnOf "args_from" "args_from" (defArgs d_args_from.st) (defBody d_args_from.st) (defScope d_args_from.st) .none kV doc pm an cdv ct) ⟨us, []⟩ = pure (d_args_from.ps.zip us) := fun _ _ _ _ _ _ us hl => match us, hl with | [_, _, _], _ => rfl
theorem s_term_in_text : FnScope d_term_in_text.N d_term_in_text.ps (defScope d_term_in_text.st) := ⟨rfl, rfl, rfl, by decide +kernel, rfl, by decide +kernel, by decide +kernel⟩
theorem b_term_in_text : ∀ (kV doc pm : Value) (an : Option Addr) (cdv ct : Value) (us : List Value), us.length = d_term_in_text.ps.length → bindArgs (PySem.W.fnOf "term_in_text" "term_in_text" (defArgs d_term_in_text.st) (defBody d_term_in_text.st) (defScope d_term_in_text.st) .none kV doc pm an cdv ct) ⟨us, []⟩ = pure (d_term_in_text.ps.zip us) := fun _ _ _ _ _ _ us hl => match us, hl with | [_], _ => rfl
theorem s_parse_term : FnScope d_parse_term.N d_parse_term.ps (defScope d_parse_term.st) := ⟨rfl, rfl, rfl, by decide +kernel, rfl, by decide +kernel, by decide +kernel⟩
theorem b_parse_term : ∀ (kV doc pm : Value) (an : Option Addr) (cdv ct : Value) (us : List Value), us.length = d_parse_term.ps.length → bindArgs (PySem.W.fnOf "parse_term" "parse_term" (defArgs d_parse_term.st) (defBody d_parse_term.st) (defScope d_parse_term.st) .none kV doc pm an cdv ct) ⟨us, []⟩ = pure (d_parse_term.ps.zip us) := fun _ _ _ _ _ _ us hl => match us, hl with | [_], _ => rfl
theorem s_law_pool : FnScope d_law_pool.N d_law_pool.ps (defScope d_law_pool.st) := ⟨rfl, rfl, rfl, by decide +kernel, rfl, by decide +kernel, by decide +kernel⟩
theorem b_law_pool : ∀ (kV doc pm : Value) (an : Option Addr) (cdv ct : Value) (us : List Value), us.length = d_law_pool.ps.length → bindArgs (PySem.W.fnOf "_law_pool" "_law_pool" (defArgs d_law_pool.st) (defBody d_law_pool.st) (defScope d_law_pool.st) .none kV doc pm an cdv ct) ⟨us, []⟩ = pure (d_law_pool.ps.zip us) := fun _ _ _ _ _ _ us hl => match us, hl with | [_, _], _ => rfl
theorem s_law_draw : FnScope d_law_draw.N d_law_draw.ps (defScope d_law_draw.st) := ⟨rfl, rfl, rfl, by decide +kernel, rfl, by decide +kernel, by decide +kernel⟩
theorem b_law_draw : ∀ (kV doc pm : Value) (an : Option Addr) (cdv ct : Value) (us : List Value), us.length = d_law_draw.ps.length → bindArgs (PySem.W.fnOf "_law_draw" "_law_draw" (defArgs d_law_draw.st) (defBody d_law_draw.st) (defScope d_law_draw.st) .none kV doc pm an cdv ct) ⟨us, []⟩ = pure (d_law_draw.ps.zip us) := fun _ _ _ _ _ _ us hl => match us, hl with | [_, _], _ => rfl
theorem s_law_term : FnScope d_law_term.N d_law_term.ps (defScope d_law_term.st) := ⟨rfl, rfl, rfl, by decide +kernel, rfl, by decide +kernel, by decide +kernel⟩
theorem b_law_term : ∀ (kV doc pm : Value) (an : Option Addr) (cdv ct : Value) (us : List Value), us.length = d_law_term.ps.length → bindArgs (PySem.W.fnOf "_law_term" "_law_term" (defArgs d_law_term.st) (defBody d_law_term.st) (defScope d_law_term.st) .none kV doc pm an cdv ct) ⟨us, []⟩ = pure (d_law_term.ps.zip us) := fun _ _ _ _ _ _ us hl => match us, hl with | [_, _, _], _ => rfl
theorem s_law_atom : FnScope d_law_atom.N d_law_atom.ps (defScope d_law_atom.st) := ⟨rfl, rfl, rfl, by decide +kernel, rfl, by decide +kernel, by decide +kernel⟩
theorem b_law_atom : ∀ (kV doc pm : Value) (an : Option Addr) (cdv ct : Value) (us : List Value), us.length = d_law_atom.ps.length → bindArgs (PySem.W.fnOf "_law_atom" "_law_atom" (defArgs d_law_atom.st) (defBody d_law_atom.st) (defScope d_law_atom.st) .none kV doc pm an cdv ct) ⟨us, []⟩ = pure (d_law_atom.ps.zip us) := fun _ _ _ _ _ _ us hl => match us, hl with | [_, _, _], _ => rfl
theorem s_law_show : FnScope d_law_show.N d_law_show.ps (defScope d_law_show.st) := ⟨rfl, rfl, rfl, by decide +kernel, rfl, by decide +kernel, by decide +kernel⟩
theorem b_law_show : ∀ (kV doc pm : Value) (an : Option Addr) (cdv ct : Value) (us : List Value), us.length = d_law_show.ps.length → bindArgs (PySem.W.fnOf "_law_show" "_law_show" (defArgs d_law_show.st) (defBody d_law_show.st) (defScope d_law_show.st) .none kV doc pm an cdv ct) ⟨us, []⟩ = pure (d_law_show.ps.zip us) := fun _ _ _ _ _ _ us hl => match us, hl with | [_], _ => rfl
theorem s_law_word : FnScope d_law_word.N d_law_word.ps (defScope d_law_word.st) := ⟨rfl, rfl, rfl, by decide +kernel, rfl, by decide +kernel, by decide +kernel⟩
theorem b_law_word : ∀ (kV doc pm : Value) (an : Option Addr) (cdv ct : Value) (us : List Value), us.length = d_law_word.ps.length → bindArgs (PySem.W.fnOf "_law_word" "_law_word" (defArgs d_law_word.st) (defBody d_law_word.st) (defScope d_law_word.st) .none kV doc pm an cdv ct) ⟨us, []⟩ = pure (d_law_word.ps.zip us) := fun _ _ _ _ _ _ us hl => match us, hl with | [_, _], _ => rfl
theorem s_law_parsed : FnScope d_law_parsed.N d_law_parsed.ps (defScope d_law_parsed.st) := ⟨rfl, rfl, rfl, by decide +kernel, rfl, by decide +kernel, by decide +kernel⟩
theorem b_law_parsed : ∀ (kV doc pm : Value) (an : Option Addr) (cdv ct : Value) (us : List Value), us.length = d_law_parsed.ps.length → bindArgs (PySem.W.fnOf "_law_parsed" "_law_parsed" (defArgs d_law_parsed.st) (defBody d_law_parsed.st) (defScope d_law_parsed.st) .none kV doc pm an cdv ct) ⟨us, []⟩ = pure (d_law_parsed.ps.zip us) := fun _ _ _ _ _ _ us hl => match us, hl with | [_, _, _], _ => rfl
theorem s_law_read_term : FnScope d_law_read_term.N d_law_read_term.ps (defScope d_law_read_term.st) := ⟨rfl, rfl, rfl, by decide +kernel, rfl, by decide +kernel, by decide +kernel⟩
theorem b_law_read_term : ∀ (kV doc pm : Value) (an : Option Addr) (cdv ct : Value) (us : List Value), us.length = d_law_read_term.ps.length → bindArgs (PySem.W.fnOf "_law_read_term" "_law_read_term" (defArgs d_law_read_term.st) (defBody d_law_read_term.st) (defScope d_law_read_term.st) .none kV doc pm an cdv ct) ⟨us, []⟩ = pure (d_law_read_term.ps.zip us) := fun _ _ _ _ _ _ us hl => match us, hl with | [_], _ => rfl
theorem s_law_bent : FnScope d_law_bent.N d_law_bent.ps (defScope d_law_bent.st) := ⟨rfl, rfl, rfl, by decide +kernel, rfl, by decide +kernel, by decide +kernel⟩
theorem b_law_bent : ∀ (kV doc pm : Value) (an : Option Addr) (cdv ct : Value) (us : List Value), us.length = d_law_bent.ps.length → bindArgs (PySem.W.fnOf "_law_bent" "_law_bent" (defArgs d_law_bent.st) (defBody d_law_bent.st) (defScope d_law_bent.st) .none kV doc pm an cdv ct) ⟨us, []⟩ = pure (d_law_bent.ps.zip us) := fun _ _ _ _ _ _ us hl => match us, hl with | [_, _], _ => rfl
theorem s_law_error : FnScope d_law_error.N d_law_error.ps (defScope d_law_error.st) := ⟨rfl, rfl, rfl, by decide +kernel, rfl, by decide +kernel, by decide +kernel⟩
theorem b_law_error : ∀ (kV doc pm : Value) (an : Option Addr) (cdv ct : Value) (us : List Value), us.length = d_law_error.ps.length → bindArgs (PySem.W.fnOf "_law_error" "_law_error" (defArgs d_law_error.st) (defBody d_law_error.st) (defScope d_law_error.st) .none kV doc pm an cdv ct) ⟨us, []⟩ = pure (d_law_error.ps.zip us) := fun _ _ _ _ _ _ us hl => match us, hl with | [_, _], _ => rfl
theorem s_law : FnScope d_law.N d_law.ps (defScope d_law.st) := ⟨rfl, rfl, rfl, by decide +kernel, rfl, by decide +kernel, by decide +kernel⟩
theorem b_law : ∀ (kV doc pm : Value) (an : Option Addr) (cdv ct : Value) (us : List Value), us.length = d_law.ps.length → bindArgs (PySem.W.fnOf "law" "law" (defArgs d_law.st) (defBody d_law.st) (defScope d_law.st) .none kV doc pm an cdv ct) ⟨us, []⟩ = pure (d_law.ps.zip us) := fun _ _ _ _ _ _ us hl => match us, hl with | [_], _ => rfl
theorem all_mk {l : PySem.W.OpenLaw} {w : World} {K : PySem.W.Frag} {h : Heap} {mg : Str → Option Value} {fa wa C HE fI : Addr} (X : K.In h) (G : h.Ns mainGlobals mg) (hfa : mg "law" = some (.ref fa))
    {tL t1 t2 t3 t4 t5 t6 u0 u1 u2 u3 u4 : Tok} {odW : Option Addr} {nW : Nat} {slW : Array (Option Value)}
    {f0 f1 f2 f3 f4 f5 f6 f7 f8 f9 f10 f11 f12 f13 f14 f15 f16 f17 f18 f19 f20 f21 f22 f23 f24 f25 : Addr}
    {od0 an0 od1 an1 od2 an2 od3 an3 od4 an4 od5 an5 od6 an6 od7 an7 od8 an8 od9 an9 od10 an10 od11 an11 od12 an12 od13 an13 od14 an14 od15 an15 od16 an16 od17 an17 od18 an18 od19 an19 od20 an20 od21 an21 od22 an22 od23 an23 od24 an24 od25 an25 : Option Addr} {sl0 sl1 sl2 sl3 sl4 sl5 sl6 sl7 sl8 sl9 sl10 sl11 sl12 sl13 sl14 sl15 sl16 sl17 sl18 sl19 sl20 sl21 sl22 sl23 sl24 sl25 : Array (Option Value)}
    {oc0 kV0 dc0 pm0 cd0 ct0 oc1 kV1 dc1 pm1 cd1 ct1 oc2 kV2 dc2 pm2 cd2 ct2 oc3 kV3 dc3 pm3 cd3 ct3 oc4 kV4 dc4 pm4 cd4 ct4 oc5 kV5 dc5 pm5 cd5 ct5 oc6 kV6 dc6 pm6 cd6 ct6 oc7 kV7 dc7 pm7 cd7 ct7 oc8 kV8 dc8 pm8 cd8 ct8 oc9 kV9 dc9 pm9 cd9 ct9 oc10 kV10 dc10 pm10 cd10 ct10 oc11 kV11 dc11 pm11 cd11 ct11 oc12 kV12 dc12 pm12 cd12 ct12 oc13 kV13 dc13 pm13 cd13 ct13 oc14 kV14 dc14 pm14 cd14 ct14 oc15 kV15 dc15 pm15 cd15 ct15 oc16 kV16 dc16 pm16 cd16 ct16 oc17 kV17 dc17 pm17 cd17 ct17 oc18 kV18 dc18 pm18 cd18 ct18 oc19 kV19 dc19 pm19 cd19 ct19 oc20 kV20 dc20 pm20 cd20 ct20 oc21 kV21 dc21 pm21 cd21 ct21 oc22 kV22 dc22 pm22 cd22 ct22 oc23 kV23 dc23 pm23 cd23 ct23 oc24 kV24 dc24 pm24 cd24 ct24 oc25 kV25 dc25 pm25 cd25 ct25 : Value}
    (a0 : PySem.W.nsIn K mainGlobals "is_name" = some (some (.ref f0))) (l0 : K.lookup f0 = some ⟨oc0, od0, .func (PySem.W.fnOf "is_name" "is_name" (defArgs d_is_name.st) (defBody d_is_name.st) (defScope d_is_name.st) .none kV0 dc0 pm0 an0 cd0 ct0), sl0⟩) (c0 : PySem.W.codeIn K cd0 "is_name" = true) (k0 : PySem.W.keepIn K (.ref f0) = true)
    (a1 : PySem.W.nsIn K mainGlobals "parts_of" = some (some (.ref f1))) (l1 : K.lookup f1 = some ⟨oc1, od1, .func (PySem.W.fnOf "parts_of" "parts_of" (defArgs d_parts_of.st) (defBody d_parts_of.st) (defScope d_parts_of.st) .none kV1 dc1 pm1 an1 cd1 ct1), sl1⟩) (c1 : PySem.W.codeIn K cd1 "parts_of" = true) (k1 : PySem.W.keepIn K (.ref f1) = true)
    (a2 : PySem.W.nsIn K mainGlobals "are_args" = some (some (.ref f2))) (l2 : K.lookup f2 = some ⟨oc2, od2, .func (PySem.W.fnOf "are_args" "are_args" (defArgs d_are_args.st) (defBody d_are_args.st) (defScope d_are_args.st) .none kV2 dc2 pm2 an2 cd2 ct2), sl2⟩) (c2 : PySem.W.codeIn K cd2 "are_args" = true) (k2 : PySem.W.keepIn K (.ref f2) = true)
    (a3 : PySem.W.nsIn K mainGlobals "has_form" = some (some (.ref f3))) (l3 : K.lookup f3 = some ⟨oc3, od3, .func (PySem.W.fnOf "has_form" "has_form" (defArgs d_has_form.st) (defBody d_has_form.st) (defScope d_has_form.st) .none kV3 dc3 pm3 an3 cd3 ct3), sl3⟩) (c3 : PySem.W.codeIn K cd3 "has_form" = true) (k3 : PySem.W.keepIn K (.ref f3) = true)
    (a4 : PySem.W.nsIn K mainGlobals "is_term_within" = some (some (.ref f4))) (l4 : K.lookup f4 = some ⟨oc4, od4, .func (PySem.W.fnOf "is_term_within" "is_term_within" (defArgs d_is_term_within.st) (defBody d_is_term_within.st) (defScope d_is_term_within.st) .none kV4 dc4 pm4 an4 cd4 ct4), sl4⟩) (c4 : PySem.W.codeIn K cd4 "is_term_within" = true) (k4 : PySem.W.keepIn K (.ref f4) = true)
    (a5 : PySem.W.nsIn K mainGlobals "is_atom_within" = some (some (.ref f5))) (l5 : K.lookup f5 = some ⟨oc5, od5, .func (PySem.W.fnOf "is_atom_within" "is_atom_within" (defArgs d_is_atom_within.st) (defBody d_is_atom_within.st) (defScope d_is_atom_within.st) .none kV5 dc5 pm5 an5 cd5 ct5), sl5⟩) (c5 : PySem.W.codeIn K cd5 "is_atom_within" = true) (k5 : PySem.W.keepIn K (.ref f5) = true)
    (a6 : PySem.W.nsIn K mainGlobals "is_term" = some (some (.ref f6))) (l6 : K.lookup f6 = some ⟨oc6, od6, .func (PySem.W.fnOf "is_term" "is_term" (defArgs d_is_term.st) (defBody d_is_term.st) (defScope d_is_term.st) .none kV6 dc6 pm6 an6 cd6 ct6), sl6⟩) (c6 : PySem.W.codeIn K cd6 "is_term" = true) (k6 : PySem.W.keepIn K (.ref f6) = true)
    (a7 : PySem.W.nsIn K mainGlobals "is_atom" = some (some (.ref f7))) (l7 : K.lookup f7 = some ⟨oc7, od7, .func (PySem.W.fnOf "is_atom" "is_atom" (defArgs d_is_atom.st) (defBody d_is_atom.st) (defScope d_is_atom.st) .none kV7 dc7 pm7 an7 cd7 ct7), sl7⟩) (c7 : PySem.W.codeIn K cd7 "is_atom" = true) (k7 : PySem.W.keepIn K (.ref f7) = true)
    (a8 : PySem.W.nsIn K mainGlobals "text_of" = some (some (.ref f8))) (l8 : K.lookup f8 = some ⟨oc8, od8, .func (PySem.W.fnOf "text_of" "text_of" (defArgs d_text_of.st) (defBody d_text_of.st) (defScope d_text_of.st) .none kV8 dc8 pm8 an8 cd8 ct8), sl8⟩) (c8 : PySem.W.codeIn K cd8 "text_of" = true) (k8 : PySem.W.keepIn K (.ref f8) = true)
    (a9 : PySem.W.nsIn K mainGlobals "show" = some (some (.ref f9))) (l9 : K.lookup f9 = some ⟨oc9, od9, .func (PySem.W.fnOf "show" "show" (defArgs d_show.st) (defBody d_show.st) (defScope d_show.st) .none kV9 dc9 pm9 an9 cd9 ct9), sl9⟩) (c9 : PySem.W.codeIn K cd9 "show" = true) (k9 : PySem.W.keepIn K (.ref f9) = true)
    (a10 : PySem.W.nsIn K mainGlobals "letters_from" = some (some (.ref f10))) (l10 : K.lookup f10 = some ⟨oc10, od10, .func (PySem.W.fnOf "letters_from" "letters_from" (defArgs d_letters_from.st) (defBody d_letters_from.st) (defScope d_letters_from.st) .none kV10 dc10 pm10 an10 cd10 ct10), sl10⟩) (c10 : PySem.W.codeIn K cd10 "letters_from" = true) (k10 : PySem.W.keepIn K (.ref f10) = true)
    (a11 : PySem.W.nsIn K mainGlobals "term_from" = some (some (.ref f11))) (l11 : K.lookup f11 = some ⟨oc11, od11, .func (PySem.W.fnOf "term_from" "term_from" (defArgs d_term_from.st) (defBody d_term_from.st) (defScope d_term_from.st) .none kV11 dc11 pm11 an11 cd11 ct11), sl11⟩) (c11 : PySem.W.codeIn K cd11 "term_from" = true) (k11 : PySem.W.keepIn K (.ref f11) = true)
    (a12 : PySem.W.nsIn K mainGlobals "args_from" = some (some (.ref f12))) (l12 : K.lookup f12 = some ⟨oc12, od12, .func (PySem.W.fnOf "args_from" "args_from" (defArgs d_args_from.st) (defBody d_args_from.st) (defScope d_args_from.st) .none kV12 dc12 pm12 an12 cd12 ct12), sl12⟩) (c12 : PySem.W.codeIn K cd12 "args_from" = true) (k12 : PySem.W.keepIn K (.ref f12) = true)
    (a13 : PySem.W.nsIn K mainGlobals "term_in_text" = some (some (.ref f13))) (l13 : K.lookup f13 = some ⟨oc13, od13, .func (PySem.W.fnOf "term_in_text" "term_in_text" (defArgs d_term_in_text.st) (defBody d_term_in_text.st) (defScope d_term_in_text.st) .none kV13 dc13 pm13 an13 cd13 ct13), sl13⟩) (c13 : PySem.W.codeIn K cd13 "term_in_text" = true) (k13 : PySem.W.keepIn K (.ref f13) = true)
    (a14 : PySem.W.nsIn K mainGlobals "parse_term" = some (some (.ref f14))) (l14 : K.lookup f14 = some ⟨oc14, od14, .func (PySem.W.fnOf "parse_term" "parse_term" (defArgs d_parse_term.st) (defBody d_parse_term.st) (defScope d_parse_term.st) .none kV14 dc14 pm14 an14 cd14 ct14), sl14⟩) (c14 : PySem.W.codeIn K cd14 "parse_term" = true) (k14 : PySem.W.keepIn K (.ref f14) = true)
    (a15 : PySem.W.nsIn K mainGlobals "_law_pool" = some (some (.ref f15))) (l15 : K.lookup f15 = some ⟨oc15, od15, .func (PySem.W.fnOf "_law_pool" "_law_pool" (defArgs d_law_pool.st) (defBody d_law_pool.st) (defScope d_law_pool.st) .none kV15 dc15 pm15 an15 cd15 ct15), sl15⟩) (c15 : PySem.W.codeIn K cd15 "_law_pool" = true) (k15 : PySem.W.keepIn K (.ref f15) = true)
    (a16 : PySem.W.nsIn K mainGlobals "_law_draw" = some (some (.ref f16))) (l16 : K.lookup f16 = some ⟨oc16, od16, .func (PySem.W.fnOf "_law_draw" "_law_draw" (defArgs d_law_draw.st) (defBody d_law_draw.st) (defScope d_law_draw.st) .none kV16 dc16 pm16 an16 cd16 ct16), sl16⟩) (c16 : PySem.W.codeIn K cd16 "_law_draw" = true) (k16 : PySem.W.keepIn K (.ref f16) = true)
    (a17 : PySem.W.nsIn K mainGlobals "_law_term" = some (some (.ref f17))) (l17 : K.lookup f17 = some ⟨oc17, od17, .func (PySem.W.fnOf "_law_term" "_law_term" (defArgs d_law_term.st) (defBody d_law_term.st) (defScope d_law_term.st) .none kV17 dc17 pm17 an17 cd17 ct17), sl17⟩) (c17 : PySem.W.codeIn K cd17 "_law_term" = true) (k17 : PySem.W.keepIn K (.ref f17) = true)
    (a18 : PySem.W.nsIn K mainGlobals "_law_atom" = some (some (.ref f18))) (l18 : K.lookup f18 = some ⟨oc18, od18, .func (PySem.W.fnOf "_law_atom" "_law_atom" (defArgs d_law_atom.st) (defBody d_law_atom.st) (defScope d_law_atom.st) .none kV18 dc18 pm18 an18 cd18 ct18), sl18⟩) (c18 : PySem.W.codeIn K cd18 "_law_atom" = true) (k18 : PySem.W.keepIn K (.ref f18) = true)
    (a19 : PySem.W.nsIn K mainGlobals "_law_show" = some (some (.ref f19))) (l19 : K.lookup f19 = some ⟨oc19, od19, .func (PySem.W.fnOf "_law_show" "_law_show" (defArgs d_law_show.st) (defBody d_law_show.st) (defScope d_law_show.st) .none kV19 dc19 pm19 an19 cd19 ct19), sl19⟩) (c19 : PySem.W.codeIn K cd19 "_law_show" = true) (k19 : PySem.W.keepIn K (.ref f19) = true)
    (a20 : PySem.W.nsIn K mainGlobals "_law_word" = some (some (.ref f20))) (l20 : K.lookup f20 = some ⟨oc20, od20, .func (PySem.W.fnOf "_law_word" "_law_word" (defArgs d_law_word.st) (defBody d_law_word.st) (defScope d_law_word.st) .none kV20 dc20 pm20 an20 cd20 ct20), sl20⟩) (c20 : PySem.W.codeIn K cd20 "_law_word" = true) (k20 : PySem.W.keepIn K (.ref f20) = true)
    (a21 : PySem.W.nsIn K mainGlobals "_law_parsed" = some (some (.ref f21))) (l21 : K.lookup f21 = some ⟨oc21, od21, .func (PySem.W.fnOf "_law_parsed" "_law_parsed" (defArgs d_law_parsed.st) (defBody d_law_parsed.st) (defScope d_law_parsed.st) .none kV21 dc21 pm21 an21 cd21 ct21), sl21⟩) (c21 : PySem.W.codeIn K cd21 "_law_parsed" = true) (k21 : PySem.W.keepIn K (.ref f21) = true)
    (a22 : PySem.W.nsIn K mainGlobals "_law_read_term" = some (some (.ref f22))) (l22 : K.lookup f22 = some ⟨oc22, od22, .func (PySem.W.fnOf "_law_read_term" "_law_read_term" (defArgs d_law_read_term.st) (defBody d_law_read_term.st) (defScope d_law_read_term.st) .none kV22 dc22 pm22 an22 cd22 ct22), sl22⟩) (c22 : PySem.W.codeIn K cd22 "_law_read_term" = true) (k22 : PySem.W.keepIn K (.ref f22) = true)
    (a23 : PySem.W.nsIn K mainGlobals "_law_bent" = some (some (.ref f23))) (l23 : K.lookup f23 = some ⟨oc23, od23, .func (PySem.W.fnOf "_law_bent" "_law_bent" (defArgs d_law_bent.st) (defBody d_law_bent.st) (defScope d_law_bent.st) .none kV23 dc23 pm23 an23 cd23 ct23), sl23⟩) (c23 : PySem.W.codeIn K cd23 "_law_bent" = true) (k23 : PySem.W.keepIn K (.ref f23) = true)
    (a24 : PySem.W.nsIn K mainGlobals "_law_error" = some (some (.ref f24))) (l24 : K.lookup f24 = some ⟨oc24, od24, .func (PySem.W.fnOf "_law_error" "_law_error" (defArgs d_law_error.st) (defBody d_law_error.st) (defScope d_law_error.st) .none kV24 dc24 pm24 an24 cd24 ct24), sl24⟩) (c24 : PySem.W.codeIn K cd24 "_law_error" = true) (k24 : PySem.W.keepIn K (.ref f24) = true)
    (a25 : PySem.W.nsIn K mainGlobals "law" = some (some (.ref f25))) (l25 : K.lookup f25 = some ⟨oc25, od25, .func (PySem.W.fnOf "law" "law" (defArgs d_law.st) (defBody d_law.st) (defScope d_law.st) .none kV25 dc25 pm25 an25 cd25 ct25), sl25⟩) (c25 : PySem.W.codeIn K cd25 "law" = true) (k25 : PySem.W.keepIn K (.ref f25) = true)
    (z0 : PySem.W.nsIn K mainGlobals "len" = some none)
    (z1 : PySem.W.nsIn K mainGlobals "sum" = some none)
    (z2 : PySem.W.nsIn K mainGlobals "max" = some none)
    (z3 : PySem.W.nsIn K mainGlobals "min" = some none)
    (z4 : PySem.W.nsIn K mainGlobals "abs" = some none)
    (z5 : PySem.W.nsIn K mainGlobals "int" = some none)
    (z6 : PySem.W.nsIn K mainGlobals "list" = some none)
    (z7 : PySem.W.nsIn K mainGlobals "tuple" = some none)
    (z8 : PySem.W.nsIn K mainGlobals "all" = some none)
    (z9 : PySem.W.nsIn K mainGlobals "any" = some none)
    (z10 : PySem.W.nsIn K mainGlobals "isinstance" = some none)
    (z11 : PySem.W.nsIn K mainGlobals "range" = some none)
    (z12 : PySem.W.nsIn K mainGlobals "str" = some none)
    (z13 : PySem.W.nsIn K mainGlobals "bool" = some none)
    (z14 : PySem.W.nsIn K mainGlobals "dict" = some none)
    (gL : PySem.W.nsIn K mainGlobals "LETTERS" = some (some (.str "abcdefghijklmnopqrstuvwxyz" tL))) (gW : PySem.W.nsIn K mainGlobals "WORDS" = some (some (.ref wa)))
    (lW : K.lookup wa = some ⟨.type "tuple", odW, .seq #[.str "if" t1, .str "else" t2, .str "end" t3, .str "proc" t4, .str "main" t5, .str "stop" t6] nW, slW⟩)
    (m0 : PySem.W.nsIn K mainGlobals "MAX_NAME" = some (some (.int 8 u0)))
    (m1 : PySem.W.nsIn K mainGlobals "MAX_ARGS" = some (some (.int 8 u1)))
    (m2 : PySem.W.nsIn K mainGlobals "MAX_SIZE" = some (some (.int 200 u2)))
    (m3 : PySem.W.nsIn K mainGlobals "MAX_DEPTH" = some (some (.int 30 u3)))
    (m4 : PySem.W.nsIn K mainGlobals "DEEPEST" = some (some (.int 100 u4)))
    (gC : PySem.W.nsIn K mainGlobals "InvalidTerm" = some (some (.ref C))) (gH : PySem.W.nsIn K mainGlobals "HandError" = some (some (.ref HE))) (gV : PySem.W.nsIn K mainGlobals "ValueError" = some none)
    (T : PySem.SupX.SupTxt l.prog K mg "InvalidTerm" "value" C fI) (EC : ExcC K C) (XC : XfC K C)
    (xC : PySem.W.exmOne K (.ref C) (.ref C) = some true) (xH : PySem.W.exmOne K (.ref C) (.ref HE) = some true) (xV : PySem.W.exmOne K (.ref C) (.type "ValueError") = some true)
    (yC : PySem.W.kitOne K (.ref C) (.ref C) = some true) (yH : PySem.W.kitOne K (.ref C) (.ref HE) = some true) (yV : PySem.W.kitOne K (.ref C) (.type "ValueError") = some true) :
    ∃ fd : FuncData, (∀ (s : Shared) (v : Value), BindsTo s fd ⟨[v], []⟩ [("_law_script", v)]) ∧ ∀ base : Heap, K.In base → base.Ns mainGlobals mg → FnOk l.prog w K mg base (L2.CX l.prog w) 211 fa fd ["_law_script"] (spLaw K) := by
  have D : AllD (cm K wa C HE) mg defsL := by
    unfold defsL
    refine .cons (def_mk (c := cm K wa C HE) (d := d_is_name) X G k_is_name s_is_name b_is_name a0 l0 c0 k0) ?_
    refine .cons (def_mk (c := cm K wa C HE) (d := d_parts_of) X G k_parts_of s_parts_of b_parts_of a1 l1 c1 k1) ?_
    refine .cons (def_mk (c := cm K wa C HE) (d := d_are_args) X G k_are_args s_are_args b_are_args a2 l2 c2 k2) ?_
    refine .cons (def_mk (c := cm K wa C HE) (d := d_has_form) X G k_has_form s_has_form b_has_form a3 l3 c3 k3) ?_
    refine .cons (def_mk (c := cm K wa C HE) (d := d_is_term_within) X G k_is_term_within s_is_term_within b_is_term_within a4 l4 c4 k4) ?_
    refine .cons (def_mk (c := cm K wa C HE) (d := d_is_atom_within) X G k_is_atom_within s_is_atom_within b_is_atom_within a5 l5 c5 k5) ?_
    refine .cons (def_mk (c := cm K wa C HE) (d := d_is_term) X G k_is_term s_is_term b_is_term a6 l6 c6 k6) ?_
    refine .cons (def_mk (c := cm K wa C HE) (d := d_is_atom) X G k_is_atom s_is_atom b_is_atom a7 l7 c7 k7) ?_
    refine .cons (def_mk (c := cm K wa C HE) (d := d_text_of) X G k_text_of s_text_of b_text_of a8 l8 c8 k8) ?_
    refine .cons (def_mk (c := cm K wa C HE) (d := d_show) X G k_show s_show b_show a9 l9 c9 k9) ?_
    refine .cons (def_mk (c := cm K wa C HE) (d := d_letters_from) X G k_letters_from s_letters_from b_letters_from a10 l10 c10 k10) ?_
    refine .cons (def_mk (c := cm K wa C HE) (d := d_term_from) X G k_term_from s_term_from b_term_from a11 l11 c11 k11) ?_
    refine .cons (def_mk (c := cm K wa C HE) (d := d_args_from) X G k_args_from s_args_from b_args_from a12 l12 c12 k12) ?_
    refine .cons (def_mk (c := cm K wa C HE) (d := d_term_in_text) X G k_term_in_text s_term_in_text b_term_in_text a13 l13 c13 k13) ?_
    refine .cons (def_mk (c := cm K wa C HE) (d := d_parse_term) X G k_parse_term s_parse_term b_parse_term a14 l14 c14 k14) ?_
    refine .cons (def_mk (c := cm K wa C HE) (d := d_law_pool) X G k_law_pool s_law_pool b_law_pool a15 l15 c15 k15) ?_
    refine .cons (def_mk (c := cm K wa C HE) (d := d_law_draw) X G k_law_draw s_law_draw b_law_draw a16 l16 c16 k16) ?_
    refine .cons (def_mk (c := cm K wa C HE) (d := d_law_term) X G k_law_term s_law_term b_law_term a17 l17 c17 k17) ?_
    refine .cons (def_mk (c := cm K wa C HE) (d := d_law_atom) X G k_law_atom s_law_atom b_law_atom a18 l18 c18 k18) ?_
    refine .cons (def_mk (c := cm K wa C HE) (d := d_law_show) X G k_law_show s_law_show b_law_show a19 l19 c19 k19) ?_
    refine .cons (def_mk (c := cm K wa C HE) (d := d_law_word) X G k_law_word s_law_word b_law_word a20 l20 c20 k20) ?_
    refine .cons (def_mk (c := cm K wa C HE) (d := d_law_parsed) X G k_law_parsed s_law_parsed b_law_parsed a21 l21 c21 k21) ?_
    refine .cons (def_mk (c := cm K wa C HE) (d := d_law_read_term) X G k_law_read_term s_law_read_term b_law_read_term a22 l22 c22 k22) ?_
    refine .cons (def_mk (c := cm K wa C HE) (d := d_law_bent) X G k_law_bent s_law_bent b_law_bent a23 l23 c23 k23) ?_
    refine .cons (def_mk (c := cm K wa C HE) (d := d_law_error) X G k_law_error s_law_error b_law_error a24 l24 c24 k24) ?_
    refine .cons (def_mk (c := cm K wa C HE) (d := d_law) X G k_law s_law b_law a25 l25 c25 k25) ?_
    exact .nil
  have gls : ∀ x v d, (cm K wa C HE).gl x = some (v, d) → (∃ u, mg x = some u ∧ RelV v u) ∧ ∀ H, Rp K H v d := by
    have hW : ∀ H, Rp K H (.ref wa) g_WORDS := fun H => .tup (us := [.str "if", .str "else", .str "end", .str "proc", .str "main", .str "stop"]) (Or.inr ⟨_, _, _, lW, rfl, rfl, (by show 6 ≤ sizeLine; decide), .cons ⟨t1, rfl⟩ (.cons ⟨t2, rfl⟩ (.cons ⟨t3, rfl⟩ (.cons ⟨t4, rfl⟩ (.cons ⟨t5, rfl⟩ (.cons ⟨t6, rfl⟩ .nil)))))⟩)
      (.cons (.str _) (.cons (.str _) (.cons (.str _) (.cons (.str _) (.cons (.str _) (.cons (.str _) .nil))))))
    intro x v d hx
    have hx' : (glL wa).lookup x = some (v, d) := hx
    unfold glL at hx'
    simp only [List.lookup_cons] at hx'
    split at hx'
    · next e => cases hx'; rw [beq_iff_eq.mp e]; exact ⟨⟨_, PySem.W.mg_of X G gL, ⟨tL, rfl⟩⟩, fun H => .str _⟩
    split at hx'
    · next e => cases hx'; rw [beq_iff_eq.mp e]; exact ⟨⟨_, PySem.W.mg_of X G gW, rfl⟩, hW⟩
    split at hx'
    · next e => cases hx'; rw [beq_iff_eq.mp e]; exact ⟨⟨_, PySem.W.mg_of X G m0, ⟨u0, rfl⟩⟩, fun H => .int _⟩
    split at hx'
    · next e => cases hx'; rw [beq_iff_eq.mp e]; exact ⟨⟨_, PySem.W.mg_of X G m1, ⟨u1, rfl⟩⟩, fun H => .int _⟩
    split at hx'
    · next e => cases hx'; rw [beq_iff_eq.mp e]; exact ⟨⟨_, PySem.W.mg_of X G m2, ⟨u2, rfl⟩⟩, fun H => .int _⟩
    split at hx'
    · next e => cases hx'; rw [beq_iff_eq.mp e]; exact ⟨⟨_, PySem.W.mg_of X G m3, ⟨u3, rfl⟩⟩, fun H => .int _⟩
    split at hx'
    · next e => cases hx'; rw [beq_iff_eq.mp e]; exact ⟨⟨_, PySem.W.mg_of X G m4, ⟨u4, rfl⟩⟩, fun H => .int _⟩
    simp at hx'
  have cls : ∀ y C' ns, (cm K wa C HE).cl y = some (C', ns) → y = "InvalidTerm" ∧ C' = C ∧ ns = [("value" : Str)] := by
    intro y C' ns hy
    have hy' : (if y = "InvalidTerm" then some (C, [("value" : Str)]) else none) = some (C', ns) := hy
    split at hy'
    · next e => cases hy'; exact ⟨e, rfl, rfl⟩
    · cases hy'
  have bl : ∀ x : Str, (isB x = true ∨ x = "isinstance" ∨ x = "range" ∨ (tyOf? x).isSome = true) → mg x = none := by
    intro x hx
    have n : ∀ y : Str, PySem.W.nsIn K mainGlobals y = some none → mg y = none := fun y e => PySem.W.mg_none_of X G e
    unfold isB tyOf? at hx
    simp only [Bool.or_eq_true, decide_eq_true_eq] at hx
    rcases hx with (((((((((h | h) | h) | h) | h) | h) | h) | h) | h) | h) | h | h | h
    · rw [h]; exact n _ z0
    · rw [h]; exact n _ z1
    · rw [h]; exact n _ z2
    · rw [h]; exact n _ z3
    · rw [h]; exact n _ z4
    · rw [h]; exact n _ z5
    · rw [h]; exact n _ z6
    · rw [h]; exact n _ z7
    · rw [h]; exact n _ z8
    · rw [h]; exact n _ z9
    · rw [h]; exact n _ z10
    · rw [h]; exact n _ z11
    · split at h
      · next e => rw [e]; exact n _ z5
      split at h
      · next e => rw [e]; exact n _ z12
      split at h
      · next e => rw [e]; exact n _ z13
      split at h
      · next e => rw [e]; exact n _ z7
      split at h
      · next e => rw [e]; exact n _ z6
      split at h
      · next e => rw [e]; exact n _ z14
      · cases h
  have xcs : ∀ T v, (cm K wa C HE).xc T = some v → NmV mg T v := by
    intro T v hT
    have hT' : (if T = "InvalidTerm" then some (V.ref C) else if T = "HandError" then some (V.ref HE) else if T = "ValueError" then some (V.ty "ValueError") else none) = some v := hT
    split at hT'
    · next e => cases hT'; rw [e]; exact ⟨_, rfl, .inl (PySem.W.mg_of X G gC)⟩
    split at hT'
    · next e => cases hT'; rw [e]; exact ⟨_, rfl, .inl (PySem.W.mg_of X G gH)⟩
    split at hT'
    · next e => cases hT'; rw [e]; exact ⟨_, rfl, .inr ⟨PySem.W.mg_none_of X G gV, PyProof.Rows.Boot.«ValueError», by decide⟩⟩
    · cases hT'
  have TH : ∀ base : Heap, TabH l.prog w mg base (cm K wa C HE) (pg C) := fun base =>
    ⟨rfl, rfl, (fun x v d hx => (gls x v d hx).1), (fun x v d hx => (gls x v d hx).2), bl, (fun x C' ns hx _ k => by obtain ⟨rfl, rfl, rfl⟩ := cls x C' ns hx; exact exok_sup T), xcs,
      (fun y C' ns hy => by obtain ⟨rfl, rfl, rfl⟩ := cls y C' ns hy; exact ⟨EC, fun _ => ⟨XC, fun f hf => by rw [List.mem_singleton.mp hf]; exact T.noN⟩⟩),
      (fun y T' C' ns b v u hy hb hv hu => by
        obtain ⟨rfl, rfl, rfl⟩ := cls y C' ns hy
        have hb' : (if ("InvalidTerm" : Str) = "InvalidTerm" ∧ (T' = "InvalidTerm" ∨ T' = "HandError" ∨ T' = "ValueError") then some true else none) = some b := hb
        have hv' : (if T' = "InvalidTerm" then some (V.ref C') else if T' = "HandError" then some (V.ref HE) else if T' = "ValueError" then some (V.ty "ValueError") else none) = some v := hv
        split at hb'
        · cases hb'
          split at hv'
          · cases hv'; cases hu; exact ⟨xC, yC⟩
          split at hv'
          · cases hv'; cases hu; exact ⟨xH, yH⟩
          split at hv'
          · cases hv'; cases hu; exact ⟨xV, yV⟩
          · cases hv'
        · cases hb'),
      (fun x i hx => D.get hx)⟩
  have e := hfa.symm.trans (PySem.W.mg_of X G a25)
  cases e
  refine ⟨PySem.W.fnOf "law" "law" (defArgs d_law.st) (defBody d_law.st) (defScope d_law.st) .none kV25 dc25 pm25 an25 cd25 ct25, fun s v => .of_eq rfl, fun base _ _ => ?_⟩
  have q := (TH base).one ((TH base).all 210) k_law (fun_mk (st := d_law.st) l25 c25 k25) s_law
  exact fn_weak q (law_sp (math C))
end K1
open PySem PySem.W PyProof.Rows
set_option maxRecDepth 100000 in
set_option maxHeartbeats 0 in
theorem PySem.Challenge.cw_handedacross_k03_whole_texts_of_terms_holds : PySem.Challenge.rw_handedacross_k03_whole_texts_of_terms.Holds := by
  w_on; o_law; k_head; (case hw => w_witness2)
  k_fill
  refine PD.law_walk (l := PySem.Challenge.rw_handedacross_k03_whole_texts_of_terms) (k := 211) ⟨rfl, by decide, by decide⟩ rfl rfl (fun w h Y => PySem.W.kIn_of Y) ?F
  case F =>
    intro w mg fa h KX G hmg
    refine' K1.all_mk KX G hmg ?a0 ?l0 ?c0 ?k0 ?a1 ?l1 ?c1 ?k1 ?a2 ?l2 ?c2 ?k2 ?a3 ?l3 ?c3 ?k3 ?a4 ?l4 ?c4 ?k4 ?a5 ?l5 ?c5 ?k5 ?a6 ?l6 ?c6 ?k6 ?a7 ?l7 ?c7 ?k7 ?a8 ?l8 ?c8 ?k8 ?a9 ?l9 ?c9 ?k9 ?a10 ?l10 ?c10 ?k10 ?a11 ?l11 ?c11 ?k11 ?a12 ?l12 ?c12 ?k12 ?a13 ?l13 ?c13 ?k13 ?a14 ?l14 ?c14 ?k14 ?a15 ?l15 ?c15 ?k15 ?a16 ?l16 ?c16 ?k16 ?a17 ?l17 ?c17 ?k17 ?a18 ?l18 ?c18 ?k18 ?a19 ?l19 ?c19 ?k19 ?a20 ?l20 ?c20 ?k20 ?a21 ?l21 ?c21 ?k21 ?a22 ?l22 ?c22 ?k22 ?a23 ?l23 ?c23 ?k23 ?a24 ?l24 ?c24 ?k24 ?a25 ?l25 ?c25 ?k25 ?z0 ?z1 ?z2 ?z3 ?z4 ?z5 ?z6 ?z7 ?z8 ?z9 ?z10 ?z11 ?z12 ?z13 ?z14 ?gL ?gW ?lW ?m0 ?m1 ?m2 ?m3 ?m4 ?gC ?gH ?gV ?T ?EC ?XC ?xC ?xH ?xV ?yC ?yH ?yV
    (case a0 => k_is)
    (case l0 => k_is)
    (case c0 => k_is)
    (case k0 => k_is)
    (case a1 => k_is)
    (case l1 => k_is)
    (case c1 => k_is)
    (case k1 => k_is)
    (case a2 => k_is)
    (case l2 => k_is)
    (case c2 => k_is)
    (case k2 => k_is)
    (case a3 => k_is)
    (case l3 => k_is)
    (case c3 => k_is)
    (case k3 => k_is)
    (case a4 => k_is)
    (case l4 => k_is)
    (case c4 => k_is)
    (case k4 => k_is)
    (case a5 => k_is)
    (case l5 => k_is)
    (case c5 => k_is)
    (case k5 => k_is)
    (case a6 => k_is)
    (case l6 => k_is)
    (case c6 => k_is)
    (case k6 => k_is)
    (case a7 => k_is)
    (case l7 => k_is)
    (case c7 => k_is)
    (case k7 => k_is)
    (case a8 => k_is)
    (case l8 => k_is)
    (case c8 => k_is)
    (case k8 => k_is)
    (case a9 => k_is)
    (case l9 => k_is)
    (case c9 => k_is)
    (case k9 => k_is)
    (case a10 => k_is)
    (case l10 => k_is)
    (case c10 => k_is)
    (case k10 => k_is)
    (case a11 => k_is)
    (case l11 => k_is)
    (case c11 => k_is)
    (case k11 => k_is)
    (case a12 => k_is)
    (case l12 => k_is)
    (case c12 => k_is)
    (case k12 => k_is)
    (case a13 => k_is)
    (case l13 => k_is)
    (case c13 => k_is)
    (case k13 => k_is)
    (case a14 => k_is)
    (case l14 => k_is)
    (case c14 => k_is)
    (case k14 => k_is)
    (case a15 => k_is)
    (case l15 => k_is)
    (case c15 => k_is)
    (case k15 => k_is)
    (case a16 => k_is)
    (case l16 => k_is)
    (case c16 => k_is)
    (case k16 => k_is)
    (case a17 => k_is)
    (case l17 => k_is)
    (case c17 => k_is)
    (case k17 => k_is)
    (case a18 => k_is)
    (case l18 => k_is)
    (case c18 => k_is)
    (case k18 => k_is)
    (case a19 => k_is)
    (case l19 => k_is)
    (case c19 => k_is)
    (case k19 => k_is)
    (case a20 => k_is)
    (case l20 => k_is)
    (case c20 => k_is)
    (case k20 => k_is)
    (case a21 => k_is)
    (case l21 => k_is)
    (case c21 => k_is)
    (case k21 => k_is)
    (case a22 => k_is)
    (case l22 => k_is)
    (case c22 => k_is)
    (case k22 => k_is)
    (case a23 => k_is)
    (case l23 => k_is)
    (case c23 => k_is)
    (case k23 => k_is)
    (case a24 => k_is)
    (case l24 => k_is)
    (case c24 => k_is)
    (case k24 => k_is)
    (case a25 => k_is)
    (case l25 => k_is)
    (case c25 => k_is)
    (case k25 => k_is)
    (case z0 => k_is)
    (case z1 => k_is)
    (case z2 => k_is)
    (case z3 => k_is)
    (case z4 => k_is)
    (case z5 => k_is)
    (case z6 => k_is)
    (case z7 => k_is)
    (case z8 => k_is)
    (case z9 => k_is)
    (case z10 => k_is)
    (case z11 => k_is)
    (case z12 => k_is)
    (case z13 => k_is)
    (case z14 => k_is)
    (case gL => k_is)
    (case gW => k_is)
    (case lW => k_is)
    (case m0 => k_is)
    (case m1 => k_is)
    (case m2 => k_is)
    (case m3 => k_is)
    (case m4 => k_is)
    (case gC => k_is)
    (case gH => k_is)
    (case gV => k_is)
    (case T =>
      refine' PD.sup_mk (PySem.W.mg_of KX G ?gC2) (by decide) ?xL ?hbm ?sa ?noN ?iC ?tC ?kC ?exC ?veC ?tyC ?mr (PySem.W.mg_none_of KX G ?sup) ?opq ?sIn ?top ?lI ?cI ?lD ?lV ?lF ?lC ?hb ?hp ?har ?s1 ?s2 ?s3 ?s4 ?s5 ?s6 ?s7 ?s8 ?s9 ?s10 ?hev
      (case gC2 => k_is)
      (case xL => k_is)
      (case hbm => first | rfl | decide +kernel)
      (case sa => k_is)
      (case noN => k_is)
      (case iC => k_is)
      (case tC => k_is)
      (case kC => k_is)
      (case exC => k_is)
      (case veC => k_is)
      (case tyC => k_is)
      (case mr => k_is)
      (case sup => k_is)
      (case opq => k_is)
      (case sIn => ks_is)
      (case top => first | rfl | decide +kernel)
      (case lI => k_is)
      (case cI => k_is)
      (case lD => k_is)
      (case lV => rfl); (case lF => first | rfl | decide +kernel); (case lC => k_is)
      (case hb => exact fun s u v => .of_eq rfl); (case hp => rfl); (case har => rfl); (case s1 => rfl); (case s2 => rfl); (case s3 => rfl); (case s4 => rfl); (case s5 => rfl); (case s6 => rfl); (case s7 => rfl); (case s8 => decide); (case s9 => decide); (case s10 => decide)
      (case hev => exact fun env => ⟨_, rfl⟩)
      all_goals exact none)
    (case EC => refine' ⟨?e1, ?e2, ?e3, ?e4, ?e5, ?e6, ?e7, ?e8⟩ <;> k_is)
    (case XC => refine' ⟨?e1, ?e2, ?e3, ?e4⟩ <;> k_is)
    (case xC => first | rfl | k_is | kit_is | kernel_rfl)
    (case xH => first | rfl | k_is | kit_is | kernel_rfl)
    (case xV => first | rfl | k_is | kit_is | kernel_rfl)
    (case yC => first | rfl | k_is | kit_is | kernel_rfl)
    (case yH => first | rfl | k_is | kit_is | kernel_rfl)
    (case yV => first | rfl | k_is | kit_is | kernel_rfl)
