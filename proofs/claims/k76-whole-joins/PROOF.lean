import PyProof.Rows.All
import Wide.All
import OpenK.AllK
import Wide.FinOn
import HandS.ForMost
import HandS.Wide
import HandS.IsInst
import HandS.Walk
import HandS.Exc
import HandS.Flow
import HandS.Style
import HandS.Conv
import HandS.Zip
import HandS.TupAny
import HandS.TupMul
import HandS.WordsExc
import KE.DataEq
import KE.DataFind
import KE.DataMinMax
import KE.SortData
import KE.DataCmp
import KE.GoesNew
import KE.GoesMore
import KE.GoesEnum
import KE.GoesZip
import HandS.TryOnly
import PyProof.FactsAll.tuple_2
import KE.KTupSum
import HandS.Strs
import HandS.ReCall
import PyProof.FactsAll.tuple_0
import HandS.Star
import PyProof.ListOps
import PyProof.SumAny
import PySem.Challenge.RW_noclicks_k76_whole_joins
set_option Elab.async false
set_option linter.all false
set_option maxRecDepth 100000
set_option maxHeartbeats 4000000
/-! Py, part A: data, slots, outcomes; how data lie on the abstract heap; a frame's relation; steps. -/
namespace Py
open PySem L2

abbrev D := PyData
/-- what a name holds: nothing known, a value, a list or dict that this name alone holds, one that a caller lends -/
inductive Slot where
  | un | val (d : D) | own (d : D) | io (d : D)
  /-- the script, as it was handed in -/
  | scr (ns : List Int)
  /-- a tuple that the program made by tuple(..): its object is known -/
  | fz (d : D)
abbrev Rho := List Slot
inductive Out where
  | val (d : D) (r : Rho) | vals (ds : List D) (r : Rho)
  | nxt (r : Rho) | ret (d : D) (r : Rho) | brk (r : Rho) | cnt (r : Rho)
  | exc (n : Nat) (d : D) | bad
  /-- a tuple made by tuple(..) goes back -/
  | retF (d : D) (r : Rho)
def Slot.excl : Slot → Bool
  | .own _ => true
  | .io _ => true
  | _ => false

/-- b: what no value may hold; m: of these, what the frame may change -/
structure Av where
  b : Addr → Prop
  m : Addr → Prop
structure Step (B : Av) (H : Hp) (B' : Av) (H' : Hp) : Prop where
  stay : ∀ a o, ¬ B.m a → H a = some o → H' a = some o
  keep : ∀ a o, B.b a → ¬ B.m a → H a = some o → B'.b a
  dom : ∀ a o, H a = some o → ∃ o', H' a = some o'
  sub : ∀ a, B'.b a → B.b a ∨ H a = none
  subm : ∀ a, B'.m a → B.m a ∨ H a = none
theorem Step.refl (B : Av) (H : Hp) : Step B H B H := ⟨fun _ o _ e => e, fun _ o b _ e => b, fun _ o e => ⟨o, e⟩, fun _ h => .inl h, fun _ h => .inl h⟩
theorem Step.back {B B' : Av} {H H' : Hp} (s : Step B H B' H') {a : Addr} (h : H' a = Option.none) : H a = Option.none := by
  cases q : H a with
  | none => rfl
  | some o => obtain ⟨o1, e1⟩ := s.dom a o q; rw [h] at e1; cases e1
theorem Step.trans {B B1 B2 : Av} {H H1 H2 : Hp} (s : Step B H B1 H1) (t : Step B1 H1 B2 H2) : Step B H B2 H2 where
  stay a o nb e := by
    have nb1 : ¬ B1.m a := fun h => (s.subm a h).elim nb (fun z => by rw [e] at z; cases z)
    exact t.stay a o nb1 (s.stay a o nb e)
  keep a o b nm e := by
    have nm1 : ¬ B1.m a := fun h => (s.subm a h).elim nm (fun z => by rw [e] at z; cases z)
    exact t.keep a o (s.keep a o b nm e) nm1 (s.stay a o nm e)
  dom a o e := by
    obtain ⟨o1, e1⟩ := s.dom a o e
    exact t.dom a o1 e1
  sub a h := (t.sub a h).elim (s.sub a) fun h1 => .inr (s.back h1)
  subm a h := (t.subm a h).elim (s.subm a) fun h1 => .inr (s.back h1)
def Ext (H H' : Hp) : Prop := ∀ a o, H a = some o → H' a = some o
theorem Ext.refl (H : Hp) : Ext H H := fun _ _ h => h
theorem Ext.trans {H H1 H2 : Hp} (a : Ext H H1) (b : Ext H1 H2) : Ext H H2 := fun x o h => b x o (a x o h)
theorem Ext.new {H : Hp} {p : Addr} {o : HO} (h : H p = none) : Ext H (upd H p o) := fun a u e => by
  rw [upd_ne (ne_of_none e h)]; exact e
theorem Ext.step {B : Av} {H H' : Hp} (e : Ext H H') : Step B H B H' := ⟨fun a o _ q => e a o q, fun a o b _ q => b, fun a o q => ⟨o, e a o q⟩, fun _ h => .inl h, fun _ h => .inl h⟩

/-! ### data on the abstract heap -/
def kD : Key → D
  | .inl i => .int i
  | .inr s => .str s
mutual
inductive Rep (K : PySem.W.Frag) (B : Av) (H : Hp) : D → V → Prop
  | non : Rep K B H .none .non
  | bl (b : Bool) : Rep K B H (.bool b) (.bl b)
  | int (i : Int) : Rep K B H (.int i) (.int i)
  | str (x : Str) : Rep K B H (.str x) (.str x)
  | tup {a : Addr} {xs : List V} {ds : List D} : ¬ B.b a → Rd H a (.tup xs) → Reps K B H ds xs → Rep K B H (.tuple ds) (.ref a)
  | ctup {a : Addr} {xs : List V} {ds : List D} : (∃ (o : Obj) (its : Array Value) (n : Nat), K.lookup a = some o ∧ o.cls = .type "tuple" ∧ o.data = .seq its n ∧ its.size ≤ sizeLine ∧ Vals xs its.toList) → Reps K B H ds xs → Rep K B H (.tuple ds) (.ref a)
  | lst {a : Addr} {xs : List V} {ds : List D} : ¬ B.b a → H a = some (.lst xs) → Reps K B H ds xs → Rep K B H (.list ds) (.ref a)
  | dK {a : Addr} {ks : List (Key × V)} {kvs : List (D × D)} : ¬ B.b a → Rd H a (.dK ks) → RepKV K B H kvs ks → Rep K B H (.dict kvs) (.ref a)
  | dT {a : Addr} {ks : List (List Key × V)} {kvs : List (D × D)} : ¬ B.b a → Rd H a (.dT ks) → RepKT K B H kvs ks → Rep K B H (.dict kvs) (.ref a)
inductive Reps (K : PySem.W.Frag) (B : Av) (H : Hp) : List D → List V → Prop
  | nil : Reps K B H [] []
  | cons {d : D} {v : V} {ds : List D} {vs : List V} : Rep K B H d v → Reps K B H ds vs → Reps K B H (d :: ds) (v :: vs)
inductive RepKV (K : PySem.W.Frag) (B : Av) (H : Hp) : List (D × D) → List (Key × V) → Prop
  | nil : RepKV K B H [] []
  | cons {k : Key} {d : D} {v : V} {ds : List (D × D)} {vs : List (Key × V)} : Rep K B H d v → RepKV K B H ds vs → RepKV K B H ((kD k, d) :: ds) ((k, v) :: vs)
inductive RepKT (K : PySem.W.Frag) (B : Av) (H : Hp) : List (D × D) → List (List Key × V) → Prop
  | nil : RepKT K B H [] []
  | cons {k : List Key} {d : D} {v : V} {ds : List (D × D)} {vs : List (List Key × V)} : Rep K B H d v → RepKT K B H ds vs → RepKT K B H ((.tuple (k.map kD), d) :: ds) ((k, v) :: vs)
end
section
variable {K : PySem.W.Frag} {B B' : Av} {H H' : Hp}
/-- what values lean on: the wishes of a step without its own things -/
structure Vst (B : Av) (H : Hp) (B' : Av) (H' : Hp) : Prop where
  stay : ∀ a o, ¬ B.b a → H a = some o → H' a = some o
  sub : ∀ a, B'.b a → B.b a ∨ H a = none
theorem Step.v (s : Step B H B' H') (mb : ∀ a, B.m a → B.b a) : Vst B H B' H' := ⟨fun a o nb e => s.stay a o (fun h => nb (mb a h)) e, s.sub⟩
theorem Ext.v {B : Av} (e : Ext H H') : Vst B H B H' := ⟨fun a o _ q => e a o q, fun _ h => .inl h⟩
theorem Vst.nb (s : Vst B H B' H') {a : Addr} {o : HO} (nb : ¬ B.b a) (e : H a = some o) : ¬ B'.b a := fun h => (s.sub a h).elim nb fun z => by rw [e] at z; cases z
theorem Vst.rd (s : Vst B H B' H') {a : Addr} {u : HO} (nb : ¬ B.b a) (r : Rd H a u) : ¬ B'.b a ∧ Rd H' a u := by
  rcases r with e | ⟨b, e⟩
  · exact ⟨s.nb nb e, .inl (s.stay a _ nb e)⟩
  · exact ⟨s.nb nb e, .inr ⟨b, s.stay a _ nb e⟩⟩
mutual
theorem Rep.step (s : Vst B H B' H') : ∀ {d : D} {v : V}, Rep K B H d v → Rep K B' H' d v
  | _, _, .non => .non
  | _, _, .bl b => .bl b
  | _, _, .int i => .int i
  | _, _, .str x => .str x
  | _, _, .tup nb r rs => .tup (s.rd nb r).1 (s.rd nb r).2 (Reps.step s rs)
  | _, _, .ctup c rs => .ctup c (Reps.step s rs)
  | _, _, .lst nb e rs => .lst (s.nb nb e) (s.stay _ _ nb e) (Reps.step s rs)
  | _, _, .dK nb r rs => .dK (s.rd nb r).1 (s.rd nb r).2 (RepKV.step s rs)
  | _, _, .dT nb r rs => .dT (s.rd nb r).1 (s.rd nb r).2 (RepKT.step s rs)
theorem Reps.step (s : Vst B H B' H') : ∀ {ds : List D} {vs : List V}, Reps K B H ds vs → Reps K B' H' ds vs
  | _, _, .nil => .nil
  | _, _, .cons r rs => .cons (Rep.step s r) (Reps.step s rs)
theorem RepKV.step (s : Vst B H B' H') : ∀ {ds : List (D × D)} {vs : List (Key × V)}, RepKV K B H ds vs → RepKV K B' H' ds vs
  | _, _, .nil => .nil
  | _, _, .cons r rs => .cons (Rep.step s r) (RepKV.step s rs)
theorem RepKT.step (s : Vst B H B' H') : ∀ {ds : List (D × D)} {vs : List (List Key × V)}, RepKT K B H ds vs → RepKT K B' H' ds vs
  | _, _, .nil => .nil
  | _, _, .cons r rs => .cons (Rep.step s r) (RepKT.step s rs)
end
mutual
theorem Rep.dp : ∀ {d : D} {v : V}, Rep K B H d v → d.plain = true → Dp K H v d
  | _, _, .non, _ => .non
  | _, _, .bl b, _ => .bl b
  | _, _, .int i, _ => .int i
  | _, _, .str x, _ => .str x
  | _, _, .tup _ r rs, h => .tup (.inl r) (Reps.dp rs (by simpa [PyData.plain] using h))
  | _, _, .ctup c rs, h => .tup (.inr c) (Reps.dp rs (by simpa [PyData.plain] using h))
  | _, _, .lst _ r rs, h => .lst (.inl (.inl r)) (Reps.dp rs (by simpa [PyData.plain] using h))
  | _, _, .dK _ _ _, h => by simp [PyData.plain] at h
  | _, _, .dT _ _ _, h => by simp [PyData.plain] at h
theorem Reps.dp : ∀ {ds : List D} {vs : List V}, Reps K B H ds vs → PyData.plainAll ds = true → DpAll K H vs ds
  | _, _, .nil, _ => .nil
  | _, _, .cons r rs, h => by
    rw [PyData.plainAll, Bool.and_eq_true] at h
    exact .cons (Rep.dp r h.1) (Reps.dp rs h.2)
end
theorem Reps.length : ∀ {ds : List D} {vs : List V}, Reps K B H ds vs → ds.length = vs.length
  | _, _, .nil => rfl
  | _, _, .cons _ rs => by simp [Reps.length rs]
theorem Reps.get : ∀ {ds : List D} {vs : List V} {i : Nat} {d : D}, Reps K B H ds vs → ds[i]? = some d → ∃ v, vs[i]? = some v ∧ Rep K B H d v
  | _, _, _, _, .nil, h => by simp at h
  | _, _, 0, _, .cons r _, h => by simp at h; subst h; exact ⟨_, rfl, r⟩
  | _, _, i + 1, _, .cons _ rs, h => by
    obtain ⟨v, e, r⟩ := Reps.get (i := i) rs (by simpa using h)
    exact ⟨v, by simpa using e, r⟩
theorem Reps.get' : ∀ {ds : List D} {vs : List V} {i : Nat} {v : V}, Reps K B H ds vs → vs[i]? = some v → ∃ d, ds[i]? = some d ∧ Rep K B H d v
  | _, _, _, _, .nil, h => by simp at h
  | _, _, 0, _, .cons r _, h => by simp at h; subst h; exact ⟨_, rfl, r⟩
  | _, _, i + 1, _, .cons _ rs, h => by
    obtain ⟨v, e, r⟩ := Reps.get' (i := i) rs (by simpa using h)
    exact ⟨v, by simpa using e, r⟩
theorem Reps.app : ∀ {ds es : List D} {vs us : List V}, Reps K B H ds vs → Reps K B H es us → Reps K B H (ds ++ es) (vs ++ us)
  | _, _, _, _, .nil, t => t
  | _, _, _, _, .cons r rs, t => .cons r (Reps.app rs t)
theorem Reps.take : ∀ {ds : List D} {vs : List V} (n : Nat), Reps K B H ds vs → Reps K B H (ds.take n) (vs.take n)
  | _, _, 0, _ => .nil
  | _, _, _ + 1, .nil => .nil
  | _, _, n + 1, .cons r rs => .cons r (Reps.take n rs)
theorem Reps.drop : ∀ {ds : List D} {vs : List V} (n : Nat), Reps K B H ds vs → Reps K B H (ds.drop n) (vs.drop n)
  | _, _, 0, h => h
  | _, _, _ + 1, .nil => .nil
  | _, _, n + 1, .cons _ rs => Reps.drop n rs
theorem Reps.set {d : D} {v : V} (r : Rep K B H d v) : ∀ {ds : List D} {vs : List V} (n : Nat), Reps K B H ds vs → Reps K B H (ds.set n d) (vs.set n v)
  | _, _, _, .nil => .nil
  | _, _, 0, .cons _ rs => .cons r rs
  | _, _, n + 1, .cons q rs => .cons q (Reps.set r n rs)
theorem Reps.one {d : D} {v : V} (r : Rep K B H d v) : Reps K B H [d] [v] := .cons r .nil
theorem Reps.two {d e : D} {v u : V} (r : Rep K B H d v) (q : Rep K B H e u) : Reps K B H [d, e] [v, u] := .cons r (.cons q .nil)
theorem Reps.ints : ∀ {ns : List Int} {vs : List V}, Reps K B H (ns.map .int) vs → vs = ns.map V.int
  | [], _, .nil => rfl
  | _ :: _, _, .cons r rs => by cases r; rw [Reps.ints rs]; rfl
theorem Reps.bls : ∀ {bs : List Bool} {vs : List V}, Reps K B H (bs.map .bool) vs → vs = bs.map V.bl
  | [], _, .nil => rfl
  | _ :: _, _, .cons r rs => by cases r; rw [Reps.bls rs]; rfl
/-- a tuple, a list by its address -/
theorem Rep.tupI {ds : List D} {v : V} (h : Rep K B H (.tuple ds) v) : ∃ a xs, v = .ref a ∧ SqT K H a xs ∧ Reps K B H ds xs := by
  cases h with
  | tup nb r rs => exact ⟨_, _, rfl, .inl r, rs⟩
  | ctup c rs => exact ⟨_, _, rfl, .inr c, rs⟩
theorem Rep.lstI {ds : List D} {v : V} (h : Rep K B H (.list ds) v) : ∃ a xs, v = .ref a ∧ ¬ B.b a ∧ H a = some (.lst xs) ∧ Reps K B H ds xs := by
  cases h with
  | lst nb r rs => exact ⟨_, _, rfl, nb, r, rs⟩
end

/-! ### a frame: slots, exclusive addresses, the heap -/
structure Cfg where
  K : PySem.W.Frag
  /-- lent by the caller -/
  I : Addr → Prop
  /-- exclusive to the callers, the lent ones among them -/
  B0 : Addr → Prop
  H0 : Hp
  /-- where what is lent in a slot stands -/
  ad : Nat → Addr
  /-- the classes of errors, by numbers -/
  cls : Nat → Addr
/-- what stands at an address of one's own -/
inductive Cont (K : PySem.W.Frag) (B : Av) (H : Hp) : D → Addr → Prop
  | lst {a : Addr} {xs : List V} {ds : List D} : H a = some (.lst xs) → Reps K B H ds xs → Cont K B H (.list ds) a
  | dK {a : Addr} {ks : List (Key × V)} {kvs : List (D × D)} : H a = some (.dK ks) → RepKV K B H kvs ks → Cont K B H (.dict kvs) a
  | dT {a : Addr} {ks : List (List Key × V)} {kvs : List (D × D)} : H a = some (.dT ks) → RepKT K B H kvs ks → Cont K B H (.dict kvs) a
def FzT (K : PySem.W.Frag) (B : Av) (H : Hp) (d : D) (v : V) : Prop := ∃ a xs ob ds, v = .ref a ∧ d = .tuple ds ∧ ¬ B.b a ∧ H a = some (.frz ob (.tup xs)) ∧ ob.dict = none ∧ Reps K B H ds xs
theorem FzT.step {K : PySem.W.Frag} {B B' : Av} {H H' : Hp} {d : D} {v : V} (s : Vst B H B' H') (h : FzT K B H d v) : FzT K B' H' d v := by
  obtain ⟨a, xs, ob, ds, e1, e2, nb, e3, e4, r⟩ := h
  exact ⟨a, xs, ob, ds, e1, e2, s.nb nb e3, s.stay a _ nb e3, e4, r.step s⟩
theorem FzT.rep {K : PySem.W.Frag} {B : Av} {H : Hp} {d : D} {v : V} (h : FzT K B H d v) : Rep K B H d v := by
  obtain ⟨a, xs, ob, ds, rfl, rfl, nb, e3, e4, r⟩ := h
  exact .tup nb (.inr ⟨ob, e3⟩) r
def ScrAt (K : PySem.W.Frag) (B : Av) (H : Hp) (a : Addr) (xs : List V) : Prop := (¬ B.b a ∧ Rd H a (.lst xs)) ∨
  ∃ (o : Obj) (its : Array Value) (n : Nat), K.lookup a = some o ∧ o.cls = .type "list" ∧ o.dict = none ∧ o.data = .seq its n ∧ its.size ≤ sizeLine ∧ Vals xs its.toList
theorem ScrAt.step {K : PySem.W.Frag} {B B' : Av} {H H' : Hp} {a : Addr} {xs : List V} (s : Vst B H B' H') (h : ScrAt K B H a xs) : ScrAt K B' H' a xs := by
  rcases h with ⟨b, r⟩ | h
  · exact .inl (s.rd b r)
  · exact .inr h
theorem ScrAt.sq {K : PySem.W.Frag} {B : Av} {H : Hp} {a : Addr} {xs : List V} (h : ScrAt K B H a xs) : SqL K H a xs := by
  rcases h with ⟨b, r⟩ | h
  · exact .inl r
  · exact .inr h
def SlotOk (c : Cfg) (B : Av) (H : Hp) (i : Nat) : Slot → Option V → Prop
  | .un, _ => True
  | .val d, o => ∃ v, o = some v ∧ Rep c.K B H d v
  | .own d, o => ∃ a, o = some (.ref a) ∧ B.m a ∧ c.H0 a = none ∧ Cont c.K B H d a
  | .io d, o => o = some (.ref (c.ad i)) ∧ B.m (c.ad i) ∧ c.I (c.ad i) ∧ Cont c.K B H d (c.ad i)
  | .fz d, o => ∃ v, o = some v ∧ FzT c.K B H d v
  | .scr ns, o => ∃ a, o = some (.ref a) ∧ ScrAt c.K B H a (ns.map V.int)
structure Rel (c : Cfg) (r : Rho) (B : Av) (σ : St) (H : Hp) : Prop where
  len : r.length = σ.length
  slot : ∀ (i : Nat) s o, r[i]? = some s → σ[i]? = some o → SlotOk c B H i s o
  apart : ∀ (i j : Nat) s t a, i ≠ j → r[i]? = some s → r[j]? = some t → s.excl = true → t.excl = true → σ[i]? = some (some (.ref a)) → σ[j]? ≠ some (some (.ref a))
  mb : ∀ a, B.m a → B.b a
  bk : ∀ a, B.b a → ∃ o, H a = some o
  b0 : ∀ a, c.B0 a → B.b a
  b0h : ∀ a, c.B0 a → ∃ o, c.H0 a = some o
  bsub : ∀ a, B.b a → c.B0 a ∨ c.H0 a = none
  msub : ∀ a, B.m a → c.I a ∨ c.H0 a = none
  i0 : ∀ a, c.I a → c.B0 a
  fr : ∀ a o, ¬ c.I a → c.H0 a = some o → H a = some o
  dom : ∀ a o, c.H0 a = some o → ∃ o', H a = some o'
section
variable {c : Cfg} {r : Rho} {B B' : Av} {σ : St} {H H' : Hp}
theorem Rel.v (R : Rel c r B σ H) (s : Step B H B' H') : Vst B H B' H' := s.v R.mb
/-- an exclusive thing that the step keeps -/
theorem Cont.step {K : PySem.W.Frag} {d : D} {a : Addr} (h : Cont K B H d a) (s : Vst B H B' H') (e : ∀ o, H a = some o → H' a = some o) : Cont K B' H' d a := by
  cases h with
  | lst q rs => exact .lst (e _ q) (rs.step s)
  | dK q rs => exact .dK (e _ q) (rs.step s)
  | dT q rs => exact .dT (e _ q) (rs.step s)
theorem Cont.ext {K : PySem.W.Frag} {d : D} {a : Addr} (h : Cont K B H d a) (e : Ext H H') : Cont K B H' d a := h.step e.v (e a)
theorem Cont.there {K : PySem.W.Frag} {d : D} {a : Addr} (h : Cont K B H d a) : ∃ o, H a = some o := by
  cases h with
  | lst q rs => exact ⟨_, q⟩
  | dK q rs => exact ⟨_, q⟩
  | dT q rs => exact ⟨_, q⟩
theorem SlotOk.ext {i : Nat} {s : Slot} {o : Option V} (h : SlotOk c B H i s o) (e : Ext H H') : SlotOk c B H' i s o := by
  cases s with
  | un => trivial
  | val d => obtain ⟨v, e1, q⟩ := h; exact ⟨v, e1, q.step e.v⟩
  | own d => obtain ⟨a, e1, b, n, q⟩ := h; exact ⟨a, e1, b, n, q.ext e⟩
  | io d => obtain ⟨e1, b, n, q⟩ := h; exact ⟨e1, b, n, q.ext e⟩
  | fz d => obtain ⟨v, e1, q⟩ := h; exact ⟨v, e1, q.step e.v⟩
  | scr ns => obtain ⟨a, e1, q⟩ := h; exact ⟨a, e1, q.step e.v⟩
/-- new objects alone -/
theorem Rel.ext (R : Rel c r B σ H) (e : Ext H H') : Rel c r B σ H' where
  len := R.len
  slot i s o h1 h2 := (R.slot i s o h1 h2).ext e
  apart := R.apart
  mb := R.mb
  bk a b := by obtain ⟨o, q⟩ := R.bk a b; exact ⟨o, e _ _ q⟩
  b0 := R.b0
  b0h := R.b0h
  bsub := R.bsub
  msub := R.msub
  i0 := R.i0
  fr a o n q := e _ _ (R.fr a o n q)
  dom a o q := by obtain ⟨o', q'⟩ := R.dom a o q; exact ⟨o', e _ _ q'⟩
theorem Rel.fresh (R : Rel c r B σ H) {p : Addr} (h : H p = none) : ¬ B.b p := fun b => by obtain ⟨o, e⟩ := R.bk p b; rw [h] at e; cases e
theorem Rel.fresh0 (R : Rel c r B σ H) {p : Addr} (h : H p = none) : c.H0 p = none := by
  cases q : c.H0 p with
  | none => rfl
  | some o => obtain ⟨o', e⟩ := R.dom p o q; rw [h] at e; cases e
end
/-- a new tuple, a new list -/
theorem Rep.newT {K : PySem.W.Frag} {B : Av} {H : Hp} {ds : List D} {xs : List V} {p : Addr} (nb : ¬ B.b p) (h : H p = none) (rs : Reps K B H ds xs) : Rep K B (upd H p (.tup xs)) (.tuple ds) (.ref p) :=
  .tup nb (.inl upd_same) (rs.step (Ext.new h).v)
theorem Rep.newL {K : PySem.W.Frag} {B : Av} {H : Hp} {ds : List D} {xs : List V} {p : Addr} (nb : ¬ B.b p) (h : H p = none) (rs : Reps K B H ds xs) : Rep K B (upd H p (.lst xs)) (.list ds) (.ref p) :=
  .lst nb upd_same (rs.step (Ext.new h).v)
end Py

/-! Py, part B: what is wanted of an outcome; readings; names, constants, operators, tests, displays. -/
namespace Py
open PySem L2

abbrev O1 := Rho → Out
def Out.bnd (o : Out) (k : D → Rho → Out) : Out := match o with
  | .val d r => k d r
  | .exc n d => .exc n d
  | _ => .bad
def Out.bnds (o : Out) (k : List D → Rho → Out) : Out := match o with
  | .vals d r => k d r
  | .exc n d => .exc n d
  | _ => .bad
def optO (o : Option D) (r : Rho) : Out := match o with
  | some d => .val d r
  | none => .bad

/-- what the caller is told of the heap -/
structure Fr (c : Cfg) (H : Hp) : Prop where
  fr : ∀ a o, ¬ c.I a → c.H0 a = some o → H a = some o
  dom : ∀ a o, c.H0 a = some o → ∃ o', H a = some o'
theorem Rel.toFr {c : Cfg} {r : Rho} {B : Av} {σ : St} {H : Hp} (R : Rel c r B σ H) : Fr c H := ⟨R.fr, R.dom⟩
/-- what is wished of an exception: its class by number, what it carries -/
abbrev EX := Nat → D → Hp → Prop
def PostE (c : Cfg) (E : EX) (σ : St) (B : Av) (H : Hp) (Q : VK) : Out → Prop
  | .val d r => ∀ v H' B', Rel c r B' σ H' → Step B H B' H' → Rep c.K B' H' d v → Q v H'
  | .exc n d => ∀ H', Fr c H' → E n d H'
  | _ => False
def PostA (c : Cfg) (E : EX) (σ : St) (B : Av) (H : Hp) (Q : List V → Hp → Prop) : Out → Prop
  | .vals ds r => ∀ vs H' B', Rel c r B' σ H' → Step B H B' H' → Reps c.K B' H' ds vs → Q vs H'
  | .exc n d => ∀ H', Fr c H' → E n d H'
  | _ => False
def PostT (c : Cfg) (E : EX) (σ : St) (B : Av) (H : Hp) (Q : Bool → Hp → Prop) : Out → Prop
  | .val (.bool b) r => ∀ H' B', Rel c r B' σ H' → Step B H B' H' → Q b H'
  | .exc n d => ∀ H', Fr c H' → E n d H'
  | _ => False
/-- a family of wishes over the state from which one goes -/
structure PP (c : Cfg) (E : EX) (P : Av → Hp → Out → Prop) : Prop where
  exc : ∀ B H n d, P B H (.exc n d) → ∀ H', Fr c H' → E n d H'
  bad : ∀ B H, ¬ P B H .bad
  frm : ∀ B H B1 H1 o, Step B H B1 H1 → P B H o → P B1 H1 o
section
variable {c : Cfg} {E : EX} {σ : St}
theorem ppE {Q : VK} : PP c E (fun B H o => PostE c E σ B H Q o) where
  exc _ _ _ _ h := h
  bad _ _ h := h
  frm B H B1 H1 o S h := by
    cases o with
    | val d r => exact fun v H' B' R S' q => h v H' B' R (S.trans S') q
    | exc n d => exact h
    | _ => exact h.elim
theorem ppA {Q : List V → Hp → Prop} : PP c E (fun B H o => PostA c E σ B H Q o) where
  exc _ _ _ _ h := h
  bad _ _ h := h
  frm B H B1 H1 o S h := by
    cases o with
    | vals d r => exact fun v H' B' R S' q => h v H' B' R (S.trans S') q
    | exc n d => exact h
    | _ => exact h.elim
theorem ppT {Q : Bool → Hp → Prop} : PP c E (fun B H o => PostT c E σ B H Q o) where
  exc _ _ _ _ h := h
  bad _ _ h := h
  frm B H B1 H1 o S h := by
    cases o with
    | val d r =>
      cases d with
      | bool b => exact fun H' B' R S' => h H' B' R (S.trans S')
      | _ => exact h.elim
    | exc n d => exact h
    | _ => exact h.elim
variable {P : Av → Hp → Out → Prop} {B : Av} {H : Hp} {o : Out}
theorem bndE (pp : PP c E P) {k : D → Rho → Out} (h : P B H (o.bnd k)) {Q : VK}
    (hk : ∀ d r v H1 B1, o = .val d r → Rel c r B1 σ H1 → Step B H B1 H1 → Rep c.K B1 H1 d v → P B1 H1 (k d r) → Q v H1) : PostE c E σ B H Q o := by
  cases o with
  | val d r => exact fun v H' B' R S q => hk d r v H' B' rfl R S q (pp.frm _ _ _ _ _ S h)
  | exc n d => exact pp.exc _ _ _ _ h
  | _ => exact (pp.bad _ _ h).elim
theorem bndA (pp : PP c E P) {k : List D → Rho → Out} (h : P B H (o.bnds k)) {Q : List V → Hp → Prop}
    (hk : ∀ d r v H1 B1, o = .vals d r → Rel c r B1 σ H1 → Step B H B1 H1 → Reps c.K B1 H1 d v → P B1 H1 (k d r) → Q v H1) : PostA c E σ B H Q o := by
  cases o with
  | vals d r => exact fun v H' B' R S q => hk d r v H' B' rfl R S q (pp.frm _ _ _ _ _ S h)
  | exc n d => exact pp.exc _ _ _ _ h
  | _ => exact (pp.bad _ _ h).elim
def Out.bndb (o : Out) (k : Bool → Rho → Out) : Out := match o with
  | .val (.bool b) r => k b r
  | .exc n d => .exc n d
  | _ => .bad
theorem bndT (pp : PP c E P) {k : Bool → Rho → Out} (h : P B H (o.bndb k)) {Q : Bool → Hp → Prop}
    (hk : ∀ b r H1 B1, o = .val (.bool b) r → Rel c r B1 σ H1 → Step B H B1 H1 → P B1 H1 (k b r) → Q b H1) : PostT c E σ B H Q o := by
  cases o with
  | val d r =>
    cases d with
    | bool b => exact fun H' B' R S => hk b r H' B' rfl R S (pp.frm _ _ _ _ _ S h)
    | _ => exact (pp.bad _ _ h).elim
  | exc n d => exact pp.exc _ _ _ _ h
  | _ => exact (pp.bad _ _ h).elim
/-- the same, read as a value -/
theorem bndTE (pp : PP c E P) {k : Bool → Rho → Out} (h : P B H (o.bndb k)) {Q : VK}
    (hk : ∀ b r H1 B1, o = .val (.bool b) r → Rel c r B1 σ H1 → Step B H B1 H1 → P B1 H1 (k b r) → Q (.bl b) H1) : PostE c E σ B H Q o := by
  cases o with
  | val d r =>
    cases d with
    | bool b => exact fun v H' B' R S q => by cases q; exact hk b r H' B' rfl R S (pp.frm _ _ _ _ _ S h)
    | _ => exact (pp.bad _ _ h).elim
  | exc n d => exact pp.exc _ _ _ _ h
  | _ => exact (pp.bad _ _ h).elim
end
def denE (c : Cfg) (E : EX) (o : O1) : TE := fun σ H Q => ∃ r B, Rel c r B σ H ∧ PostE c E σ B H Q (o r)
def denT (c : Cfg) (E : EX) (o : O1) : TT := fun σ H Q => ∃ r B, Rel c r B σ H ∧ PostT c E σ B H Q (o r)
def denA (c : Cfg) (E : EX) (o : O1) : TA := fun σ H Q => ∃ r B, Rel c r B σ H ∧ PostA c E σ B H Q (o r)
section
variable {X : Cx} {e : Expr} {es : List Expr}
theorem pe_mono {t t' : TE} (h : PE X e t) (m : ∀ σ H Q, t' σ H Q → t σ H Q) : PE X e t' := ⟨fun pins s σ H Q I q => h.run pins s σ H Q I (m σ H Q q)⟩
theorem pt_mono {t t' : TT} (h : PT X e t) (m : ∀ σ H Q, t' σ H Q → t σ H Q) : PT X e t' := ⟨fun pins s σ H Q I q => h.run pins s σ H Q I (m σ H Q q)⟩
theorem pw_mono {t t' : TT} (h : PW X e t) (m : ∀ σ H Q, t' σ H Q → t σ H Q) : PW X e t' := ⟨fun wh pins s σ H Q I q => h.run wh pins s σ H Q I (m σ H Q q)⟩
theorem pa_mono {t t' : TA} (h : PA X es t) (m : ∀ σ H Q, t' σ H Q → t σ H Q) : PA X es t' := ⟨fun pos pins s σ H Q I q => h.run pos pins s σ H Q I (m σ H Q q)⟩
end

/-! ### names -/
def oVar (i : Nat) : O1 := fun r => match r[i]? with
  | some (.val d) => .val d r
  | some (.own d) => .val d (r.set i (.val d))
  | some (.fz d) => .val d r
  | _ => .bad
section
variable {c : Cfg} {E : EX} {r : Rho} {B : Av} {σ : St} {H : Hp}
theorem Rel.at (R : Rel c r B σ H) {i : Nat} {s : Slot} (h : r[i]? = some s) : ∃ o, σ[i]? = some o ∧ SlotOk c B H i s o := by
  have hi : i < r.length := (List.getElem?_eq_some_iff.mp h).1
  have hs : i < σ.length := by rw [← R.len]; exact hi
  exact ⟨σ[i], by simp [hs], R.slot i s σ[i] h (by simp [hs])⟩
theorem subV {B B' : Av} {H : Hp} (s : ∀ a, B'.b a → B.b a) : Vst B H B' H := ⟨fun _ o _ e => e, fun a b => .inl (s a b)⟩
theorem Cont.sub {K : PySem.W.Frag} {B B' : Av} {H : Hp} (s : ∀ a, B'.b a → B.b a) {d : D} {a : Addr} (h : Cont K B H d a) : Cont K B' H d a := h.step (subV s) fun _ e => e
def Av.less (B : Av) (a : Addr) : Av := ⟨fun x => B.b x ∧ x ≠ a, fun x => B.m x ∧ x ≠ a⟩
/-- what one held alone is now a value -/
theorem Rel.freeze (R : Rel c r B σ H) {i : Nat} {d : D} (h : r[i]? = some (.own d)) :
    ∃ B' v, σ[i]? = some (some v) ∧ Rel c (r.set i (.val d)) B' σ H ∧ Step B H B' H ∧ Rep c.K B' H d v := by
  obtain ⟨o, ho, a, rfl, ba, h0, ct⟩ := R.at h
  have s : ∀ x, (B.less a).b x → B.b x := fun x h => h.1
  have hi : i < r.length := (List.getElem?_eq_some_iff.mp h).1
  have rep : Rep c.K (B.less a) H d (.ref a) := by
    cases ct with
    | lst e rs => exact .lst (fun z => z.2 rfl) e (rs.step (subV s))
    | dK e rs => exact .dK (fun z => z.2 rfl) (.inl e) (rs.step (subV s))
    | dT e rs => exact .dT (fun z => z.2 rfl) (.inl e) (rs.step (subV s))
  have nb0 : ∀ x, c.B0 x → x ≠ a := fun x b e => by
    obtain ⟨o, q⟩ := R.b0h x b
    rw [e, h0] at q; cases q
  have st : Step B H (B.less a) H := ⟨fun _ o _ e => e, fun x o b nm e => ⟨b, fun z => nm (by rw [z]; exact ba)⟩, fun _ o e => ⟨o, e⟩, fun x b => .inl b.1, fun x b => .inl b.1⟩
  refine ⟨B.less a, .ref a, ho, ⟨by simpa using R.len, ?_, ?_, fun x b => ⟨R.mb x b.1, b.2⟩, fun x b => R.bk x b.1, fun x b => ⟨R.b0 x b, nb0 x b⟩, R.b0h, fun x b => R.bsub x b.1, fun x b => R.msub x b.1, R.i0, R.fr, R.dom⟩, st, rep⟩
  · intro j t u hj hu
    by_cases e : j = i
    · subst e
      rw [List.getElem?_set_self hi] at hj; cases hj
      rw [ho] at hu; cases hu
      exact ⟨_, rfl, rep⟩
    · rw [List.getElem?_set_ne (Ne.symm e)] at hj
      have q := R.slot j t u hj hu
      cases t with
      | un => trivial
      | val d' => obtain ⟨v, e1, q⟩ := q; exact ⟨v, e1, q.step (subV s)⟩
      | own d' =>
        obtain ⟨b, e1, q1, q2, q3⟩ := q
        subst e1
        refine ⟨b, rfl, ⟨q1, fun z => ?_⟩, q2, q3.sub s⟩
        rw [z] at hu
        exact R.apart i j _ _ a (Ne.symm e) h hj rfl rfl ho hu
      | io d' =>
        obtain ⟨e1, q1, q2, q3⟩ := q
        subst e1
        refine ⟨rfl, ⟨q1, fun z => ?_⟩, q2, q3.sub s⟩
        rw [z] at hu
        exact R.apart i j _ _ a (Ne.symm e) h hj rfl rfl ho hu
      | fz d => obtain ⟨v, e1, q1⟩ := q; exact ⟨v, e1, q1.step ⟨fun _ _ _ e => e, fun _ z => .inl z.1⟩⟩
      | scr ns => obtain ⟨b, e1, q1⟩ := q; exact ⟨b, e1, q1.step ⟨fun _ _ _ e => e, fun _ z => .inl z.1⟩⟩
  · intro j k t u b hne hj hk ht hu
    by_cases e : j = i
    · subst e; rw [List.getElem?_set_self hi] at hj; cases hj; cases ht
    · by_cases e2 : k = i
      · subst e2; rw [List.getElem?_set_self hi] at hk; cases hk; cases hu
      · rw [List.getElem?_set_ne (Ne.symm e)] at hj
        rw [List.getElem?_set_ne (Ne.symm e2)] at hk
        exact R.apart j k t u b hne hj hk ht hu
end
section
variable {X : Cx} {c : Cfg} {E : EX}
theorem snd_var {i : Nat} {x : Str} {pos : Pos} (hN : X.N[i]? = some x) (hv : Vis X.env.scope x) (hd : (x == ("__debug__" : Str)) = false) (hcd : (x == ("__classdict__" : Str)) = false) :
    PE X (.Name x pos) (denE c E (oVar i)) := by
  refine pe_mono (pe_var hN hv hd hcd) fun σ H Q ⟨r, B, R, h⟩ => ?_
  unfold oVar at h
  split at h
  · rename_i d e
    obtain ⟨o, ho, v, rfl, q⟩ := R.at e
    exact ⟨v, ho, h v H B R (Step.refl _ _) q⟩
  · rename_i d e
    obtain ⟨B', v, ho, R', s, q⟩ := R.freeze e
    exact ⟨v, ho, h v H B' R' s q⟩
  · rename_i d e
    obtain ⟨o, ho, v, rfl, q⟩ := R.at e
    exact ⟨v, ho, h v H B R (Step.refl _ _) q.rep⟩
  · exact h.elim
def oC (d : D) : O1 := fun r => .val d r
theorem snd_c {e : Expr} {d : D} {v : V} (h : PE X e (tC v)) (hr : ∀ K B H, Rep K B H d v) : PE X e (denE c E (oC d)) :=
  pe_mono h fun σ H Q ⟨r, B, R, h⟩ => h v H B R (Step.refl _ _) (hr _ _ _)

/-! ### operators -/
def oOp2 (f : D → D → Option D) (a b : O1) : O1 := fun r => (a r).bnd fun x r1 => (b r1).bnd fun y r2 => optO (f x y) r2
/-- by values: what is asked of a two-place operation -/
def Op2 (c : Cfg) (q : R2) (f : D → D → Option D) : Prop := ∀ (B : Av) (H : Hp) (x y : V) (d e g : D) (Q : VK), (∀ p, H p = none → ¬ B.b p) → Rep c.K B H d x → Rep c.K B H e y → f d e = some g →
  (∀ v H', Ext H H' → Rep c.K B H' g v → Q v H') → q x y H Q
theorem op2_end {q : R2} {f : D → D → Option D} (h2 : Op2 c q f) {r : Rho} {B : Av} {σ : St} {H : Hp} {x y : V} {d e : D} {Q : VK} (R : Rel c r B σ H) (rx : Rep c.K B H d x) (ry : Rep c.K B H e y)
    (h : PostE c E σ B H Q (optO (f d e) r)) : q x y H Q := by
  unfold optO at h
  split at h
  · rename_i g eg
    exact h2 B H x y d e g Q (fun p hp => R.fresh hp) rx ry eg fun v H' ex rv => h v H' B (R.ext ex) ex.step rv
  · exact h.elim
theorem den2 {ta tb : O1} {q : R2} {f : D → D → Option D} (h2 : Op2 c q f) {σ : St} {H : Hp} {Q : VK} (h : denE c E (oOp2 f ta tb) σ H Q) : tOp q (denE c E ta) (denE c E tb) σ H Q := by
  obtain ⟨r, B, R, h⟩ := h
  refine ⟨r, B, R, bndE ppE h fun d1 r1 v1 H1 B1 _ R1 S1 q1 h1 => ?_⟩
  refine ⟨r1, B1, R1, bndE ppE h1 fun d2 r2 v2 H2 B2 _ R2 S2 q2 h2' => ?_⟩
  exact op2_end h2 R2 (q1.step (R1.v S2)) q2 h2'
theorem snd_bin {op : Operator} {a b : Expr} {oa ob : O1} {pos : Pos} {q : R2} {f : D → D → Option D} (ho : OpR X (binaryOp op) q) (h2 : Op2 c q f) (ha : PE X a (denE c E oa)) (hb : PE X b (denE c E ob)) :
    PE X (.BinOp a op b pos) (denE c E (oOp2 f oa ob)) := pe_mono (pe_op ho ha hb) fun σ H Q h => den2 h2 h
theorem snd_cmp {op : CmpOp} {a b : Expr} {oa ob : O1} {pos : Pos} {q : R2} {f : D → D → Option D} (ho : OpR X (compareOp op) q) (h2 : Op2 c q f) (ha : PE X a (denE c E oa)) (hb : PE X b (denE c E ob)) (hm : behindInMarks op b = false) :
    PE X (.Compare a [op] [b] pos) (denE c E (oOp2 f oa ob)) := pe_mono (pe_cmpR ho ha hb hm) fun σ H Q h => den2 h2 h
theorem PostT.toE {σ : St} {B : Av} {H : Hp} {Q : Bool → Hp → Prop} {o : Out} (h : PostT c E σ B H Q o) : PostE c E σ B H (fun x H' => ∃ k, x = .bl k ∧ Q k H') o := by
  cases o with
  | val d r =>
    cases d with
    | bool b => exact fun v H' B' R S q => by cases q; exact ⟨b, rfl, h H' B' R S⟩
    | _ => exact h.elim
  | exc n d => exact h
  | _ => exact h.elim
theorem snd_cmpT {op : CmpOp} {a b : Expr} {oa ob : O1} {pos : Pos} {q : R2} {f : D → D → Option D} (ho : OpR X (compareOp op) q) (h2 : Op2 c q f) (ha : PE X a (denE c E oa)) (hb : PE X b (denE c E ob)) (hm : behindInMarks op b = false) :
    PT X (.Compare a [op] [b] pos) (denT c E (oOp2 f oa ob)) := pt_mono (pt_cmpR ho ha hb hm) fun σ H Q ⟨r, B, R, h⟩ => den2 h2 ⟨r, B, R, h.toE⟩
/-- a test of an expression that is read as a value -/
theorem snd_tv {e : Expr} {o : O1} (h : PE X e (denE c E o)) (he : ∀ whole, isTrue e X.env whole = (do let v ← whole; standAt e.pos; holding [v] (truthy v))) : PT X e (denT c E o) :=
  pt_mono (pt_val h he) fun σ H Q ⟨r, B, R, h⟩ => ⟨r, B, R, h.toE⟩
def oOp1 (f : D → Option D) (a : O1) : O1 := fun r => (a r).bnd fun x r1 => optO (f x) r1
def Op1 (c : Cfg) (q : V → Hp → VK → Prop) (f : D → Option D) : Prop := ∀ (B : Av) (H : Hp) (x : V) (d g : D) (Q : VK), (∀ p, H p = none → ¬ B.b p) → Rep c.K B H d x → f d = some g →
  (∀ v H', Ext H H' → Rep c.K B H' g v → Q v H') → q x H Q
theorem op1_end {q : V → Hp → VK → Prop} {f : D → Option D} (h2 : Op1 c q f) {r : Rho} {B : Av} {σ : St} {H : Hp} {x : V} {d : D} {Q : VK} (R : Rel c r B σ H) (rx : Rep c.K B H d x)
    (h : PostE c E σ B H Q (optO (f d) r)) : q x H Q := by
  unfold optO at h
  split at h
  · rename_i g eg
    exact h2 B H x d g Q (fun p hp => R.fresh hp) rx eg fun v H' ex rv => h v H' B (R.ext ex) ex.step rv
  · exact h.elim
theorem snd_un {op : UnaryOp} {a : Expr} {oa : O1} {pos : Pos} {q : V → Hp → VK → Prop} {f : D → Option D} (ho : UnR X (unaryOp op) q) (h1 : Op1 c q f) (ha : PE X a (denE c E oa)) :
    PE X (.UnaryOp op a pos) (denE c E (oOp1 f oa)) := pe_mono (pe_un ho ha) fun σ H Q ⟨r, B, R, h⟩ =>
  ⟨r, B, R, bndE ppE h fun d1 r1 v1 H1 B1 _ R1 S1 q1 h' => op1_end h1 R1 q1 h'⟩
/-- a call of a built-in by values -/
def oCall (f : List D → Option D) (a : O1) : O1 := fun r => (a r).bnds fun xs r1 => optO (f xs) r1
def OpN (c : Cfg) (q : List V → Hp → VK → Prop) (f : List D → Option D) : Prop := ∀ (B : Av) (H : Hp) (xs : List V) (ds : List D) (g : D) (Q : VK), (∀ p, H p = none → ¬ B.b p) → Reps c.K B H ds xs → f ds = some g →
  (∀ v H', Ext H H' → Rep c.K B H' g v → Q v H') → q xs H Q
theorem opN_end {q : List V → Hp → VK → Prop} {f : List D → Option D} (h2 : OpN c q f) {r : Rho} {B : Av} {σ : St} {H : Hp} {x : List V} {d : List D} {Q : VK} (R : Rel c r B σ H) (rx : Reps c.K B H d x)
    (h : PostE c E σ B H Q (optO (f d) r)) : q x H Q := by
  unfold optO at h
  split at h
  · rename_i g eg
    exact h2 B H x d g Q (fun p hp => R.fresh hp) rx eg fun v H' ex rv => h v H' B (R.ext ex) ex.step rv
  · exact h.elim
theorem denCB {q : List V → Hp → VK → Prop} {f : List D → Option D} {oa : O1} (h2 : OpN c q f) {σ : St} {H : Hp} {Q : VK} (h : denE c E (oCall f oa) σ H Q) : tCB q (denA c E oa) σ H Q := by
  obtain ⟨r, B, R, h⟩ := h
  exact ⟨r, B, R, bndA ppE h fun d1 r1 v1 H1 B1 _ R1 S1 q1 h' => opN_end h2 R1 q1 h'⟩
theorem snd_callB {id : String} {x : Str} {e : Expr} {es : List Expr} {oa : O1} {p pos : Pos} {q : List V → Hp → VK → Prop} {f : List D → Option D} (hc : CallR X (.builtin id) q) (h2 : OpN c q f) (hg : Gl X x) (hm : X.mg x = none) (hv : bootBuiltins x = some (.builtin id))
    (ha : PA X (e :: es) (denA c E oa)) (hn : x ≠ "__name__") (hdb : (x == ("__debug__" : Str)) = false) (he : starEach (e :: es) X.env = (false, eval e X.env) :: starEach es X.env) (hpl : (backTo pos (starEach es X.env)).any (·.1) = false) :
    PE X (.Call (.Name x p) (e :: es) [] pos) (denE c E (oCall f oa)) := pe_mono (pe_callB hc hg hm hv ha hn hdb he hpl) fun σ H Q h => denCB h2 h
theorem snd_callTy {T : String} {x : Str} {e : Expr} {es : List Expr} {oa : O1} {p pos : Pos} {q : List V → Hp → VK → Prop} {f : List D → Option D} (hc : CallR X (.type T) q) (h2 : OpN c q f) (hg : Gl X x) (hm : X.mg x = none) (hv : bootBuiltins x = some (.type T))
    (ha : PA X (e :: es) (denA c E oa)) (hn : x ≠ "__name__") (hdb : (x == ("__debug__" : Str)) = false) (he : starEach (e :: es) X.env = (false, eval e X.env) :: starEach es X.env) (hpl : (backTo pos (starEach es X.env)).any (·.1) = false) :
    PE X (.Call (.Name x p) (e :: es) [] pos) (denE c E (oCall f oa)) := pe_mono (pe_callTy hc hg hm hv ha hn hdb he hpl) fun σ H Q h => denCB h2 h

/-! ### argument lists, displays -/
def oNil : O1 := fun r => .vals [] r
def oCons (a t : O1) : O1 := fun r => (a r).bnd fun x r1 => (t r1).bnds fun xs r2 => .vals (x :: xs) r2
theorem snd_nil : PA X [] (denA c E oNil) := pa_mono pa_nil fun σ H Q ⟨r, B, R, h⟩ => h [] H B R (Step.refl _ _) .nil
theorem snd_cons {e : Expr} {es : List Expr} {oa ot : O1} (ha : PE X e (denE c E oa)) (ht : PA X es (denA c E ot)) (hs : starEach (e :: es) X.env = (false, eval e X.env) :: starEach es X.env) :
    PA X (e :: es) (denA c E (oCons oa ot)) := pa_mono (pa_cons ha ht hs) fun σ H Q ⟨r, B, R, h⟩ =>
  ⟨r, B, R, bndE ppA h fun d1 r1 v1 H1 B1 _ R1 S1 q1 h1 => ⟨r1, B1, R1, bndA ppA h1 fun d2 r2 v2 H2 B2 _ R2 S2 q2 h2 => h2 (v1 :: v2) H2 B2 R2 (Step.refl _ _) (.cons (q1.step (R1.v S2)) q2)⟩⟩
def lim : Nat := 1000000
theorem lim_line {n : Nat} (h : n ≤ lim) : n ≤ sizeLine := Nat.le_trans h (by decide)
def fTup (xs : List D) : Option D := if xs.length ≤ lim then some (.tuple xs) else none
def fLst (xs : List D) : Option D := if xs.length ≤ lim then some (.list xs) else none
theorem snd_tup {es : List Expr} {k : Nat} {pos : Pos} {ot : O1} (h : PA X es (denA c E ot)) : PE X (.Tuple es k pos) (denE c E (oCall fTup ot)) := by
  refine pe_mono (pe_tup h) fun σ H Q ⟨r, B, R, h⟩ => ⟨r, B, R, bndA ppE h fun ds r1 vs H1 B1 _ R1 S1 q1 h1 => ?_⟩
  unfold fTup optO at h1
  by_cases hl : ds.length ≤ lim
  · rw [if_pos hl] at h1
    refine ⟨by rw [← q1.length]; exact lim_line hl, fun p hp => ?_⟩
    exact h1 _ _ B1 (R1.ext (Ext.new hp)) (Ext.new hp).step (Rep.newT (R1.fresh hp) hp q1)
  · rw [if_neg hl] at h1; exact h1.elim
theorem snd_lst {es : List Expr} {pos : Pos} {ot : O1} (h : PA X es (denA c E ot)) : PE X (.List es pos) (denE c E (oCall fLst ot)) := by
  refine pe_mono (pe_lst h) fun σ H Q ⟨r, B, R, h⟩ => ⟨r, B, R, bndA ppE h fun ds r1 vs H1 B1 _ R1 S1 q1 h1 => ?_⟩
  unfold fLst optO at h1
  by_cases hl : ds.length ≤ lim
  · rw [if_pos hl] at h1
    refine ⟨by rw [← q1.length]; exact lim_line hl, fun p hp => ?_⟩
    exact h1 _ _ B1 (R1.ext (Ext.new hp)) (Ext.new hp).step (Rep.newL (R1.fresh hp) hp q1)
  · rw [if_neg hl] at h1; exact h1.elim

/-! ### and, or, not, if .. else, chains -/
def oAnd (a b : O1) : O1 := fun r => (a r).bndb fun k r1 => if k = true then b r1 else .val (.bool false) r1
def oOr (a b : O1) : O1 := fun r => (a r).bndb fun k r1 => if k = true then .val (.bool true) r1 else b r1
def oNot (a : O1) : O1 := fun r => (a r).bndb fun k r1 => .val (.bool (!k)) r1
def oIf (t a b : O1) : O1 := fun r => (t r).bndb fun k r1 => if k = true then a r1 else b r1
theorem snd_one {op : BoolOp} {a : Expr} {oa : O1} {pos : Pos} (ha : PE X a (denE c E oa)) : PE X (.BoolOp op [a] pos) (denE c E oa) := pe_one ha
theorem snd_and {a b : Expr} {rest : List Expr} {oa ob : O1} {pos : Pos} (ha : PE X a (denE c E oa)) (hb : PE X (.BoolOp .And (b :: rest) pos) (denE c E ob)) : PE X (.BoolOp .And (a :: b :: rest) pos) (denE c E (oAnd oa ob)) := by
  refine pe_mono (pe_and ha hb) fun σ H Q ⟨r, B, R, h⟩ => ⟨r, B, R, bndTE ppE h fun k r1 H1 B1 _ R1 S1 h1 => ⟨k, rfl, ?_⟩⟩
  cases k with
  | true => exact ⟨r1, B1, R1, h1⟩
  | false => exact h1 _ H1 B1 R1 (Step.refl _ _) (.bl false)
theorem snd_or {a b : Expr} {rest : List Expr} {oa ob : O1} {pos : Pos} (ha : PE X a (denE c E oa)) (hb : PE X (.BoolOp .Or (b :: rest) pos) (denE c E ob)) : PE X (.BoolOp .Or (a :: b :: rest) pos) (denE c E (oOr oa ob)) := by
  refine pe_mono (pe_or ha hb) fun σ H Q ⟨r, B, R, h⟩ => ⟨r, B, R, bndTE ppE h fun k r1 H1 B1 _ R1 S1 h1 => ⟨k, rfl, ?_⟩⟩
  cases k with
  | true => exact h1 _ H1 B1 R1 (Step.refl _ _) (.bl true)
  | false => exact ⟨r1, B1, R1, h1⟩
theorem snd_not {a : Expr} {oa : O1} {pos : Pos} (ha : PE X a (denE c E oa)) : PE X (.UnaryOp .Not a pos) (denE c E (oNot oa)) :=
  pe_mono (pe_not ha) fun σ H Q ⟨r, B, R, h⟩ => ⟨r, B, R, bndTE ppE h fun k r1 H1 B1 _ R1 S1 h1 => ⟨k, rfl, h1 _ H1 B1 R1 (Step.refl _ _) (.bl _)⟩⟩
theorem snd_and1T {a : Expr} {oa : O1} {pos : Pos} (ha : PT X a (denT c E oa)) : PW X (.BoolOp .And [a] pos) (denT c E oa) := pw_and1 ha
theorem snd_or1T {a : Expr} {oa : O1} {pos : Pos} (ha : PT X a (denT c E oa)) : PW X (.BoolOp .Or [a] pos) (denT c E oa) := pw_or1 ha
theorem snd_andT {a b : Expr} {rest : List Expr} {oa ob : O1} {pos : Pos} (ha : PT X a (denT c E oa)) (hb : PW X (.BoolOp .And (b :: rest) pos) (denT c E ob)) : PW X (.BoolOp .And (a :: b :: rest) pos) (denT c E (oAnd oa ob)) := by
  refine pw_mono (pw_and ha hb) fun σ H Q ⟨r, B, R, h⟩ => ⟨r, B, R, bndT ppT h fun k r1 H1 B1 _ R1 S1 h1 => ?_⟩
  cases k with
  | true => exact ⟨r1, B1, R1, h1⟩
  | false => exact h1 H1 B1 R1 (Step.refl _ _)
theorem snd_orT {a b : Expr} {rest : List Expr} {oa ob : O1} {pos : Pos} (ha : PT X a (denT c E oa)) (hb : PW X (.BoolOp .Or (b :: rest) pos) (denT c E ob)) : PW X (.BoolOp .Or (a :: b :: rest) pos) (denT c E (oOr oa ob)) := by
  refine pw_mono (pw_or ha hb) fun σ H Q ⟨r, B, R, h⟩ => ⟨r, B, R, bndT ppT h fun k r1 H1 B1 _ R1 S1 h1 => ?_⟩
  cases k with
  | true => exact h1 H1 B1 R1 (Step.refl _ _)
  | false => exact ⟨r1, B1, R1, h1⟩
theorem snd_notT {a : Expr} {oa : O1} {pos : Pos} (ha : PT X a (denT c E oa)) : PT X (.UnaryOp .Not a pos) (denT c E (oNot oa)) :=
  pt_mono (pt_not ha) fun σ H Q ⟨r, B, R, h⟩ => ⟨r, B, R, bndT ppT h fun k r1 H1 B1 _ R1 S1 h1 => h1 H1 B1 R1 (Step.refl _ _)⟩
theorem snd_if {t a b : Expr} {ot oa ob : O1} {pos : Pos} (ht : PT X t (denT c E ot)) (ha : PE X a (denE c E oa)) (hb : PE X b (denE c E ob)) : PE X (.IfExp t a b pos) (denE c E (oIf ot oa ob)) := by
  refine pe_mono (pe_ifExp ht ha hb) fun σ H Q ⟨r, B, R, h⟩ => ⟨r, B, R, bndT ppE h fun k r1 H1 B1 _ R1 S1 h1 => ?_⟩
  cases k with
  | true => exact ⟨r1, B1, R1, h1⟩
  | false => exact ⟨r1, B1, R1, h1⟩
def oChain (f g : D → D → Option D) (a b k : O1) : O1 := fun r => (a r).bnd fun x r1 => (b r1).bnd fun y r2 => (optO (f x y) r2).bndb fun t r3 => if t = true then (k r3).bnd fun z r4 => optO (g y z) r4 else .val (.bool false) r3
theorem chain_go {q q' : R2} {f g : D → D → Option D} {oa ob oc : O1} (h2 : Op2 c q f) (h3 : Op2 c q' g) {σ : St} {H : Hp} {Q : VK} (h : denE c E (oChain f g oa ob oc) σ H Q) :
    tChain q q' (denE c E oa) (denE c E ob) (denE c E oc) σ H Q := by
  obtain ⟨r, B, R, h⟩ := h
  refine ⟨r, B, R, bndE ppE h fun d1 r1 v1 H1 B1 _ R1 S1 q1 h1 => ⟨r1, B1, R1, bndE ppE h1 fun d2 r2 v2 H2 B2 _ R2 S2 q2 h4 => ?_⟩⟩
  refine op2_end (E := E) (σ := σ) (r := r2) (B := B2) (d := d1) (e := d2) h2 R2 (q1.step (R1.v S2)) q2 ?_
  refine bndTE ppE h4 fun k r3 H3 B3 _ R3 S3 h5 => ⟨k, rfl, ?_⟩
  cases k with
  | true =>
    refine ⟨r3, B3, R3, bndE ppE h5 fun d4 r4 v4 H4 B4 _ R4 S4 q4 h6 => ?_⟩
    exact op2_end h3 R4 (q2.step (R2.v (S3.trans S4))) q4 h6
  | false => exact h5 _ H3 B3 R3 (Step.refl _ _) (.bl false)
theorem snd_chain {op op' : CmpOp} {q q' : R2} {f g : D → D → Option D} {a b k : Expr} {oa ob oc : O1} {pos : Pos} (ho : OpR X (compareOp op) q) (ho' : OpR X (compareOp op') q') (h2 : Op2 c q f) (h3 : Op2 c q' g)
    (ha : PE X a (denE c E oa)) (hb : PE X b (denE c E ob)) (hc : PE X k (denE c E oc)) (h : PE X (.Compare a [op, op'] [b, k] pos) (tChain q q' (denE c E oa) (denE c E ob) (denE c E oc))) :
    PE X (.Compare a [op, op'] [b, k] pos) (denE c E (oChain f g oa ob oc)) := pe_mono h fun σ H Q h => chain_go h2 h3 h
end
end Py

/-! Py, part C: statements, names of one's own, targets, loops. -/
namespace Py
open PySem L2

def PostS (c : Cfg) (E : EX) (B : Av) (H : Hp) (G : Ends) : Out → Prop
  | .nxt r => ∀ σ' H' B', Rel c r B' σ' H' → Step B H B' H' → G.nx σ' H'
  | .brk r => ∀ σ' H' B', Rel c r B' σ' H' → Step B H B' H' → G.bk σ' H'
  | .cnt r => ∀ σ' H' B', Rel c r B' σ' H' → Step B H B' H' → G.ct σ' H'
  | .ret d r => ∀ v σ' H' B', Rel c r B' σ' H' → Step B H B' H' → Rep c.K B' H' d v → G.rt v H'
  | .retF d r => ∀ v σ' H' B', Rel c r B' σ' H' → Step B H B' H' → FzT c.K B' H' d v → G.rt v H'
  | .exc n d => ∀ H', Fr c H' → E n d H'
  | _ => False
theorem ppS {c : Cfg} {E : EX} {G : Ends} : PP c E (fun B H o => PostS c E B H G o) where
  exc _ _ _ _ h := h
  bad _ _ h := h
  frm B H B1 H1 o S h := by
    cases o with
    | nxt r => exact fun σ' H' B' R S' => h σ' H' B' R (S.trans S')
    | brk r => exact fun σ' H' B' R S' => h σ' H' B' R (S.trans S')
    | cnt r => exact fun σ' H' B' R S' => h σ' H' B' R (S.trans S')
    | ret d r => exact fun v σ' H' B' R S' q => h v σ' H' B' R (S.trans S') q
    | retF d r => exact fun v σ' H' B' R S' q => h v σ' H' B' R (S.trans S') q
    | exc n d => exact h
    | _ => exact h.elim
def denS (c : Cfg) (E : EX) (o : O1) : TS := fun G σ H => ∃ r B, Rel c r B σ H ∧ PostS c E B H G (o r)
theorem ps_mono {X : Cx} {st : Stmt} {t t' : TS} (h : PS X st t) (m : ∀ G σ H, t' G σ H → t G σ H) : PS X st t' := ⟨fun pins s σ H G I q => h.run pins s σ H G I (m G σ H q)⟩
theorem pss_mono {X : Cx} {st : List Stmt} {t t' : TS} (h : PSs X st t) (m : ∀ G σ H, t' G σ H → t G σ H) : PSs X st t' := ⟨fun pins s σ H G I q => h.run pins s σ H G I (m G σ H q)⟩

/-! ### slots are stored -/
section
variable {c : Cfg} {E : EX} {r : Rho} {B : Av} {σ : St} {H : Hp}
theorem Rel.exm (R : Rel c r B σ H) {j : Nat} {t : Slot} {a : Addr} (hj : r[j]? = some t) (ht : t.excl = true) (hu : σ[j]? = some (some (.ref a))) : B.m a := by
  have q := R.slot j t _ hj hu
  cases t with
  | own d => obtain ⟨b, e1, q1, _⟩ := q; cases e1; exact q1
  | io d => obtain ⟨e1, q1, _⟩ := q; cases e1; exact q1
  | _ => cases ht
theorem Rel.set (R : Rel c r B σ H) {i : Nat} {s : Slot} {v : V} (ok : SlotOk c B H i s (some v)) (ap : s.excl = true → ∀ (j : Nat) t, j ≠ i → r[j]? = some t → t.excl = true → σ[j]? ≠ some (some v)) :
    Rel c (r.set i s) B (σ.set i (some v)) H := by
  refine ⟨by simpa using R.len, ?_, ?_, R.mb, R.bk, R.b0, R.b0h, R.bsub, R.msub, R.i0, R.fr, R.dom⟩
  · intro j t u hj hu
    by_cases e : j = i
    · subst e
      have hl : j < r.length := by
        have := (List.getElem?_eq_some_iff.mp hj).1
        simpa using this
      rw [List.getElem?_set_self hl] at hj; cases hj
      rw [List.getElem?_set_self (by rw [← R.len]; exact hl)] at hu; cases hu
      exact ok
    · rw [List.getElem?_set_ne (Ne.symm e)] at hj
      rw [List.getElem?_set_ne (Ne.symm e)] at hu
      exact R.slot j t u hj hu
  · intro j k t u a hne hj hk ht hu e1 e2
    by_cases e : j = i
    · subst e
      have hl : j < r.length := by
        have := (List.getElem?_eq_some_iff.mp hj).1
        simpa using this
      rw [List.getElem?_set_self hl] at hj; cases hj
      rw [List.getElem?_set_self (by rw [← R.len]; exact hl)] at e1; cases e1
      rw [List.getElem?_set_ne hne] at hk e2
      exact ap ht k u (Ne.symm hne) hk hu e2
    · rw [List.getElem?_set_ne (Ne.symm e)] at hj e1
      by_cases e3 : k = i
      · subst e3
        have hl : k < r.length := by
          have := (List.getElem?_eq_some_iff.mp hk).1
          simpa using this
        rw [List.getElem?_set_self hl] at hk; cases hk
        rw [List.getElem?_set_self (by rw [← R.len]; exact hl)] at e2; cases e2
        exact ap hu j t e hj ht e1
      · rw [List.getElem?_set_ne (Ne.symm e3)] at hk e2
        exact R.apart j k t u a hne hj hk ht hu e1 e2
theorem Rel.setV (R : Rel c r B σ H) {i : Nat} {d : D} {v : V} (q : Rep c.K B H d v) : Rel c (r.set i (.val d)) B (σ.set i (some v)) H :=
  R.set ⟨v, rfl, q⟩ fun h => by cases h
def Av.plus (B : Av) (p : Addr) : Av := ⟨B.b, fun x => B.m x ∨ x = p⟩
def Av.priv (B : Av) (p : Addr) : Av := ⟨fun x => B.b x ∨ x = p, B.m⟩
theorem Rel.plus (R : Rel c r B σ H) {p : Addr} (hb : B.b p) (h0 : c.H0 p = none) : Rel c r (B.plus p) σ H := by
  refine ⟨R.len, ?_, R.apart, fun a h => h.elim (R.mb a) (fun e => by rw [e]; exact hb), R.bk, R.b0, R.b0h, R.bsub, fun a h => h.elim (R.msub a) (fun e => .inr (by rw [e]; exact h0)), R.i0, R.fr, R.dom⟩
  intro j t u hj hu
  have q := R.slot j t u hj hu
  have st : Vst B H (B.plus p) H := ⟨fun _ o _ e => e, fun _ h => .inl h⟩
  cases t with
  | un => trivial
  | val d => obtain ⟨v, e1, q⟩ := q; exact ⟨v, e1, q.step st⟩
  | own d => obtain ⟨b, e1, q1, q2, q3⟩ := q; exact ⟨b, e1, .inl q1, q2, q3.step st fun _ e => e⟩
  | io d => obtain ⟨e1, q1, q2, q3⟩ := q; exact ⟨e1, .inl q1, q2, q3.step st fun _ e => e⟩
  | fz d => obtain ⟨v, e1, q⟩ := q; exact ⟨v, e1, q.step st⟩
  | scr ns => exact q
theorem Rel.setOwn (R : Rel c r B σ H) {i : Nat} {d : D} {p : Addr} (hb : B.b p) (hm : ¬ B.m p) (h0 : c.H0 p = none) (q : Cont c.K B H d p) : Rel c (r.set i (.own d)) (B.plus p) (σ.set i (some (.ref p))) H := by
  have st : Vst B H (B.plus p) H := ⟨fun _ o _ e => e, fun _ h => .inl h⟩
  refine (R.plus hb h0).set (i := i) (s := .own d) ⟨p, rfl, .inr rfl, h0, q.step st fun _ e => e⟩ fun _ j t hj ht hx hu => ?_
  exact hm (R.exm ht hx hu)
/-- a new private object -/
theorem Rel.alloc (R : Rel c r B σ H) {p : Addr} {o : HO} (hp : H p = none) : Rel c r (B.priv p) σ (upd H p o) := by
  have R' := R.ext (Ext.new (o := o) hp)
  have st : Vst B (upd H p o) (B.priv p) (upd H p o) → True := fun _ => trivial
  refine ⟨R'.len, ?_, R'.apart, fun a h => .inl (R.mb a h), fun a h => h.elim (R'.bk a) (fun e => by rw [e]; exact ⟨o, upd_same⟩), fun a h => .inl (R.b0 a h), R.b0h, fun a h => h.elim (R.bsub a) (fun e => .inr (by rw [e]; exact R.fresh0 hp)), R.msub, R.i0, R'.fr, R'.dom⟩
  intro j t u hj hu
  have q := R.slot j t u hj hu
  have st : Vst B H (B.priv p) (upd H p o) := ⟨fun a o' _ e => Ext.new hp a o' e, fun a h => h.elim .inl (fun e => .inr (by rw [e]; exact hp))⟩
  cases t with
  | un => trivial
  | val d => obtain ⟨v, e1, q⟩ := q; exact ⟨v, e1, q.step st⟩
  | own d => obtain ⟨b, e1, q1, q2, q3⟩ := q; exact ⟨b, e1, q1, q2, q3.step st (Ext.new hp b)⟩
  | io d => obtain ⟨e1, q1, q2, q3⟩ := q; exact ⟨e1, q1, q2, q3.step st (Ext.new hp _)⟩
  | fz d => obtain ⟨v, e1, q⟩ := q; exact ⟨v, e1, q.step st⟩
  | scr ns =>
    obtain ⟨b, e1, q1⟩ := q
    exact ⟨b, e1, q1.step st⟩
theorem privStep {p : Addr} {o : HO} (hp : H p = none) : Step B H (B.priv p) (upd H p o) :=
  ⟨fun a o' _ e => Ext.new hp a o' e, fun a o' b _ e => .inl b, fun a o' e => ⟨o', Ext.new hp a o' e⟩, fun a h => h.elim .inl (fun e => .inr (by rw [e]; exact hp)), fun a h => .inl h⟩
theorem Step.plus {B' : Av} {H' : Hp} (S : Step B H B' H') {p : Addr} (hp : H p = none) : Step B H (B'.plus p) H' :=
  ⟨S.stay, S.keep, S.dom, S.sub, fun a h => h.elim (S.subm a) fun e => .inr (by rw [e]; exact hp)⟩
/-- the thing in slot i is changed -/
theorem Rel.mut (R : Rel c r B σ H) {i : Nat} {s s' : Slot} {a : Addr} {o o' : HO} {d : D} (hi : r[i]? = some s) (hs : s.excl = true) (ha : σ[i]? = some (some (.ref a))) (he : H a = some o)
    (hs' : (∃ d0, s = .own d0 ∧ s' = .own d) ∨ ∃ d0, s = .io d0 ∧ s' = .io d) (ct : Cont c.K B (upd H a o') d a) : Rel c (r.set i s') B σ (upd H a o') ∧ Step B H B (upd H a o') := by
  have hil : i < r.length := (List.getElem?_eq_some_iff.mp hi).1
  have ba := R.exm hi hs ha
  have st : Step B H B (upd H a o') := by
    refine ⟨fun x u nm e => ?_, fun x u b nm e => b, fun x u e => ?_, fun x h => .inl h, fun x h => .inl h⟩
    · rw [upd_ne (fun z => nm (by rw [z]; exact ba))]; exact e
    · by_cases z : x = a
      · rw [z]; exact ⟨o', upd_same⟩
      · rw [upd_ne z]; exact ⟨u, e⟩
  have vs := R.v st
  have h0 : c.I a ∨ c.H0 a = none := R.msub a ba
  refine ⟨⟨by simpa using R.len, ?_, ?_, R.mb, fun x b => ?_, R.b0, R.b0h, R.bsub, R.msub, R.i0, fun x u n e => ?_, fun x u e => ?_⟩, st⟩
  · intro j t u hj hu
    by_cases e : j = i
    · subst e
      rw [List.getElem?_set_self hil] at hj; cases hj
      rw [ha] at hu; cases hu
      have q := R.slot j s _ hi ha
      rcases hs' with ⟨d0, rfl, rfl⟩ | ⟨d0, rfl, rfl⟩
      · obtain ⟨b, e1, q1, q2, q3⟩ := q
        cases e1
        exact ⟨a, rfl, ba, q2, ct⟩
      · obtain ⟨e1, q1, q2, q3⟩ := q
        cases e1
        exact ⟨rfl, ba, q2, ct⟩
    · rw [List.getElem?_set_ne (Ne.symm e)] at hj
      have q := R.slot j t u hj hu
      cases t with
      | un => trivial
      | val d => obtain ⟨v, e1, q⟩ := q; exact ⟨v, e1, q.step vs⟩
      | own d =>
        obtain ⟨b, e1, q1, q2, q3⟩ := q
        subst e1
        have hne : b ≠ a := fun z => by rw [z] at hu; exact R.apart i j _ _ a (Ne.symm e) hi hj hs rfl ha hu
        exact ⟨b, rfl, q1, q2, q3.step vs fun _ e => by rw [upd_ne hne]; exact e⟩
      | io d =>
        obtain ⟨e1, q1, q2, q3⟩ := q
        subst e1
        have hne : c.ad j ≠ a := fun z => by rw [z] at hu; exact R.apart i j _ _ a (Ne.symm e) hi hj hs rfl ha hu
        exact ⟨rfl, q1, q2, q3.step vs fun _ e => by rw [upd_ne hne]; exact e⟩
      | fz d => obtain ⟨v, e1, q1⟩ := q; exact ⟨v, e1, q1.step vs⟩
      | scr ns => obtain ⟨b, e1, q1⟩ := q; exact ⟨b, e1, q1.step vs⟩
  · intro j k t u b hne hj hk ht hu
    have sx : s'.excl = true := by rcases hs' with ⟨d0, rfl, rfl⟩ | ⟨d0, rfl, rfl⟩ <;> rfl
    by_cases e : j = i
    · subst e
      rw [List.getElem?_set_ne hne] at hk
      exact R.apart j k s u b hne hi hk hs hu
    · rw [List.getElem?_set_ne (Ne.symm e)] at hj
      by_cases e2 : k = i
      · subst e2
        exact R.apart j k t s b hne hj hi ht hs
      · rw [List.getElem?_set_ne (Ne.symm e2)] at hk
        exact R.apart j k t u b hne hj hk ht hu
  · by_cases z : x = a
    · rw [z]; exact ⟨o', upd_same⟩
    · rw [upd_ne z]; exact R.bk x b
  · rw [upd_ne]
    · exact R.fr x u n e
    · intro w
      rw [w] at n e
      rcases h0 with h | h
      · exact n h
      · rw [h] at e; cases e
  · obtain ⟨u', q⟩ := R.dom x u e
    by_cases z : x = a
    · rw [z]; exact ⟨o', upd_same⟩
    · rw [upd_ne z]; exact ⟨u', q⟩
end

/-! ### a new thing for a name of one's own -/
def PostF (c : Cfg) (E : EX) (σ : St) (B : Av) (H : Hp) (Q : VK) : Out → Prop
  | .val d r => ∀ p H' B', Rel c r B' σ H' → Step B H B' H' → B'.b p → ¬ B'.m p → H p = none → Cont c.K B' H' d p → Q (.ref p) H'
  | .exc n d => ∀ H', Fr c H' → E n d H'
  | _ => False
def denF (c : Cfg) (E : EX) (o : O1) : TE := fun σ H Q => ∃ r B, Rel c r B σ H ∧ PostF c E σ B H Q (o r)
theorem ppF {c : Cfg} {E : EX} {σ : St} {Q : VK} : PP c E (fun B H o => PostF c E σ B H Q o) where
  exc _ _ _ _ h := h
  bad _ _ h := h
  frm B H B1 H1 o S h := by
    cases o with
    | val d r => exact fun p H' B' R S' b m n q => h p H' B' R (S.trans S') b m (S.back n) q
    | exc n d => exact h
    | _ => exact h.elim
section
variable {X : Cx} {c : Cfg} {E : EX}
theorem snd_lstF {es : List Expr} {pos : Pos} {ot : O1} (h : PA X es (denA c E ot)) : PE X (.List es pos) (denF c E (oCall fLst ot)) := by
  refine pe_mono (pe_lst h) fun σ H Q ⟨r, B, R, h⟩ => ⟨r, B, R, bndA ppF h fun ds r1 vs H1 B1 _ R1 S1 q1 h1 => ?_⟩
  unfold fLst optO at h1
  by_cases hl : ds.length ≤ lim
  · rw [if_pos hl] at h1
    refine ⟨by rw [← q1.length]; exact lim_line hl, fun p hp => ?_⟩
    have st := privStep (B := B1) (o := .lst vs) hp
    exact h1 p _ (B1.priv p) (R1.alloc hp) st (.inr rfl) (fun z => R1.fresh hp (R1.mb p z)) hp (.lst upd_same (q1.step (st.v R1.mb)))
  · rw [if_neg hl] at h1; exact h1.elim

/-! ### plain statements -/
def oSeq (a b : O1) : O1 := fun r => match a r with
  | .nxt r1 => b r1
  | o => o
def oNxt : O1 := fun r => .nxt r
theorem snd_snil : PSs X [] (denS c E oNxt) := pss_mono pss_nil fun G σ H ⟨r, B, R, h⟩ => h σ H B R (Step.refl _ _)
theorem seq_go {a b : O1} {r : Rho} {B : Av} {H : Hp} {G : Ends} (h : PostS c E B H G (oSeq a b r)) : PostS c E B H { G with nx := denS c E b G } (a r) := by
  unfold oSeq at h
  cases e : a r with
  | nxt r1 => rw [e] at h; exact fun σ' H' B' R S => ⟨r1, B', R, ppS.frm _ _ _ _ _ S h⟩
  | val d r => rw [e] at h; exact h.elim
  | vals d r => rw [e] at h; exact h.elim
  | brk r => rw [e] at h; exact h
  | cnt r => rw [e] at h; exact h
  | ret d r => rw [e] at h; exact h
  | retF d r => rw [e] at h; exact h
  | exc n d => rw [e] at h; exact h
  | bad => rw [e] at h; exact h.elim
theorem snd_scons {s : Stmt} {ss : List Stmt} {a b : O1} (ha : PS X s (denS c E a)) (hb : PSs X ss (denS c E b)) : PSs X (s :: ss) (denS c E (oSeq a b)) :=
  pss_mono (pss_cons ha hb) fun G σ H ⟨r, B, R, h⟩ => ⟨r, B, R, seq_go h⟩
theorem snd_sone {s : Stmt} {a : O1} (ha : PS X s (denS c E a)) : PSs X [s] (denS c E a) := pss_one ha
def oRet (a : O1) : O1 := fun r => (a r).bnd fun d r1 => .ret d r1
theorem snd_ret {e : Expr} {o : O1} {pos : Pos} (h : PE X e (denE c E o)) : PS X (.Return (some e) pos) (denS c E (oRet o)) :=
  ps_mono (ps_ret h) fun G σ H ⟨r, B, R, h⟩ => ⟨r, B, R, bndE ppS h fun d r1 v H1 B1 _ R1 S1 q1 h1 => h1 v σ H1 B1 R1 (Step.refl _ _) q1⟩
def oRetN : O1 := fun r => .ret .none r
theorem snd_retN {pos : Pos} : PS X (.Return none pos) (denS c E oRetN) := ps_mono ps_retN fun G σ H ⟨r, B, R, h⟩ => h .non σ H B R (Step.refl _ _) .non
def oBrk : O1 := fun r => .brk r
def oCnt : O1 := fun r => .cnt r
theorem snd_brk {pos : Pos} : PS X (.Break pos) (denS c E oBrk) := ps_mono ps_break fun G σ H ⟨r, B, R, h⟩ => h σ H B R (Step.refl _ _)
theorem snd_cnt {pos : Pos} : PS X (.Continue pos) (denS c E oCnt) := ps_mono ps_continue fun G σ H ⟨r, B, R, h⟩ => h σ H B R (Step.refl _ _)
theorem snd_pass {pos : Pos} : PS X (.Pass pos) (denS c E oNxt) := ps_mono ps_pass fun G σ H ⟨r, B, R, h⟩ => h σ H B R (Step.refl _ _)
def oBad : O1 := fun _ => .bad
theorem snd_never {s : Stmt} : PS X s (denS c E oBad) := ps_mono ps_never fun G σ H ⟨r, B, R, h⟩ => h.elim
def oIfS (t a b : O1) : O1 := fun r => (t r).bndb fun k r1 => if k = true then a r1 else b r1
theorem snd_ifS {t : Expr} {a b : List Stmt} {ot oa ob : O1} {pos : Pos} (ht : PT X t (denT c E ot)) (ha : PSs X a (denS c E oa)) (hb : PSs X b (denS c E ob)) : PS X (.If t a b pos) (denS c E (oIfS ot oa ob)) := by
  refine ps_mono (ps_if ht ha hb) fun G σ H ⟨r, B, R, h⟩ => ⟨r, B, R, bndT ppS h fun k r1 H1 B1 _ R1 S1 h1 => ?_⟩
  cases k with
  | true => exact ⟨r1, B1, R1, h1⟩
  | false => exact ⟨r1, B1, R1, h1⟩
def oDrop (a : O1) : O1 := fun r => (a r).bnd fun _ r1 => .nxt r1
theorem snd_drop {e : Expr} {o : O1} {pos : Pos} (h : PE X e (denE c E o)) (hs : swapsWith e none pos.line X.env = pure false) : PS X (.Expr e pos) (denS c E (oDrop o)) :=
  ps_mono (ps_expr h hs) fun G σ H ⟨r, B, R, h⟩ => ⟨r, B, R, bndE ppS h fun d r1 v H1 B1 _ R1 S1 q1 h1 => h1 σ H1 B1 R1 (Step.refl _ _)⟩
theorem snd_doc {x j pos pos'} : PS X (.Expr (.Constant (.str x) j pos) pos') (denS c E oNxt) := ps_mono ps_doc fun G σ H ⟨r, B, R, h⟩ => h σ H B R (Step.refl _ _)
/-- a name that is stored -/
structure Stor (X : Cx) (i : Nat) (x : Str) : Prop where
  nd : X.N.Nodup
  at' : X.N[i]? = some x
  loc : Loc X.env.scope x
  fn : X.fn x = true ∨ X.env.scope.names.lookup x = some .local
def oSet (i : Nat) (a : O1) : O1 := fun r => (a r).bnd fun d r1 => .nxt (r1.set i (.val d))
theorem snd_set {i : Nat} {x : Str} {e : Expr} {o : O1} {pos pos' : Pos} (n : Stor X i x) (h : PE X e (denE c E o)) (hs : swapsWith e (some (.Name x pos')) pos.line X.env = pure false) (hw : swappedStores [.Name x pos'] e X.env = pure none) :
    PS X (.Assign [.Name x pos'] e pos) (denS c E (oSet i o)) :=
  ps_mono (ps_asg h (pg_name n.nd n.at' n.loc n.fn) hs hw rfl) fun G σ H ⟨r, B, R, h⟩ => ⟨r, B, R, bndE ppS h fun d r1 v H1 B1 _ R1 S1 q1 h1 => h1 _ H1 B1 (R1.setV q1) (Step.refl _ _)⟩
def oSetO (i : Nat) (a : O1) : O1 := fun r => (a r).bnd fun d r1 => .nxt (r1.set i (.own d))
theorem setO_go {i : Nat} {o : Out} {σ : St} {B : Av} {H : Hp} {G : Ends} {k : O1} (R0 : ∀ p, H p = none → c.H0 p = none) (h : PostS c E B H G (o.bnd fun d r1 => .nxt (r1.set i (.own d)))) : PostF c E σ B H (fun x H1 => G.nx (σ.set i (some x)) H1) o := by
  cases o with
  | val d r1 => exact fun p H' B' R S hb hm hn q => h _ H' (B'.plus p) (R.setOwn hb hm (R0 p hn) q) (S.plus hn)
  | exc n d => exact h
  | _ => exact h.elim
theorem snd_setO {i : Nat} {x : Str} {e : Expr} {o : O1} {pos pos' : Pos} (n : Stor X i x) (h : PE X e (denF c E o)) (hs : swapsWith e (some (.Name x pos')) pos.line X.env = pure false) (hw : swappedStores [.Name x pos'] e X.env = pure none) :
    PS X (.Assign [.Name x pos'] e pos) (denS c E (oSetO i o)) :=
  ps_mono (ps_asg h (pg_name n.nd n.at' n.loc n.fn) hs hw rfl) fun G σ H ⟨r, B, R, h⟩ => ⟨r, B, R, setO_go (k := oBad) (fun p hp => R.fresh0 hp) h⟩
/-- name op= e -/
def oAug (i : Nat) (f : D → D → Option D) (a : O1) : O1 := fun r => match r[i]? with
  | some (.val d) => (a r).bnd fun e r1 => (optO (f d e) r1).bnd fun g r2 => .nxt (r2.set i (.val g))
  | _ => .bad
theorem snd_aug {i : Nat} {x : Str} {e : Expr} {o : O1} {op : Operator} {ti : TIp} {f : D → D → Option D} {pos pos' : Pos} (n : Stor X i x) (h : PE X e (denE c E o)) (ho : PIp X op ti) (h2 : Op2 c ti f) :
    PS X (.AugAssign (.Name x pos') op e pos) (denS c E (oAug i f o)) := by
  refine ps_mono (ps_aug n.nd n.at' n.loc h ho n.fn) fun G σ H ⟨r, B, R, h⟩ => ?_
  unfold oAug at h
  split at h
  · rename_i d e1
    obtain ⟨u, hu, v, rfl, q⟩ := R.at e1
    refine ⟨v, hu, r, B, R, bndE ppS h fun d2 r1 v2 H1 B1 _ R1 S1 q1 h1 => ?_⟩
    refine op2_end (E := E) (σ := σ) (d := d) (e := d2) h2 R1 (q.step (R.v S1)) q1 (bndE ppS h1 fun g r2 z H2 B2 _ R2 S2 q2 h3 => ?_)
    exact h3 _ H2 B2 (R2.setV q2) (Step.refl _ _)
  · exact h.elim
/-- x.append(e), x a list of one's own -/
def Slot.app (d : D) : Slot → Option Slot
  | .own (.list ds) => if ds.length < lim then some (.own (.list (ds ++ [d]))) else none
  | .io (.list ds) => if ds.length < lim then some (.io (.list (ds ++ [d]))) else none
  | _ => none
def Slot.isL : Slot → Bool
  | .own (.list _) => true
  | .io (.list _) => true
  | _ => false
def oApp (i : Nat) (a : O1) : O1 := fun r => match r[i]? with
  | some s => if s.isL = true then (a r).bnd fun d r1 => match r1[i]?.bind (Slot.app d) with
    | some s' => .nxt (r1.set i s')
    | none => .bad
    else .bad
  | none => .bad
theorem Rel.lst {r : Rho} {B : Av} {σ : St} {H : Hp} (R : Rel c r B σ H) {i : Nat} {s : Slot} (h : r[i]? = some s) (hl : s.isL = true) :
    ∃ a xs ds, σ[i]? = some (some (.ref a)) ∧ H a = some (.lst xs) ∧ Reps c.K B H ds xs ∧ (s = .own (.list ds) ∨ s = .io (.list ds)) := by
  obtain ⟨u, hu, q⟩ := R.at h
  cases s with
  | own d =>
    cases d with
    | list ds =>
      obtain ⟨a, rfl, _, _, q⟩ := q
      cases q with
      | lst e rs => exact ⟨a, _, ds, hu, e, rs, .inl rfl⟩
    | _ => cases hl
  | io d =>
    cases d with
    | list ds =>
      obtain ⟨rfl, _, _, q⟩ := q
      cases q with
      | lst e rs => exact ⟨_, _, ds, hu, e, rs, .inr rfl⟩
    | _ => cases hl
  | _ => cases hl
theorem snd_app {i : Nat} {x : Str} {e : Expr} {o : O1} {p apos cpos pos : Pos} (hN : X.N[i]? = some x) (hv : Vis X.env.scope x) (hd : (x == ("__debug__" : Str)) = false) (hcd : (x == ("__classdict__" : Str)) = false) (h : PE X e (denE c E o)) (hK : X.K = c.K)
    (hs : swapsWith (.Call (.Attribute (.Name x p) "append" apos) [e] [] cpos) none pos.line X.env = pure false)
    (hp : PE X (.Call (.Attribute (.Name x p) "append" apos) [e] [] cpos) (tBM X.K "list" rAppend (tVar i) (tCons (denE c E o) tNil))) :
    PS X (.Expr (.Call (.Attribute (.Name x p) "append" apos) [e] [] cpos) pos) (denS c E (oApp i o)) := by
  refine ps_mono (ps_expr hp hs) fun G σ H ⟨r, B, R, h⟩ => ?_
  unfold oApp at h
  split at h
  · rename_i s e1
    split at h
    · rename_i hl
      obtain ⟨a, xs, ds, hu, ha, rs, hsl⟩ := R.lst e1 hl
      refine ⟨.ref a, hu, .inl ⟨rfl, _, SqL.of ha⟩, r, B, R, bndE ppS h fun d r1 v H1 B1 _ R1 S1 q1 h1 => ?_⟩
      cases e2 : r1[i]? with
      | none => rw [e2] at h1; exact h1.elim
      | some s1 =>
        rw [e2] at h1
        by_cases hl1 : s1.isL = true
        · obtain ⟨a1, xs1, ds1, hu1, ha1, rs1, hs1⟩ := R1.lst e2 hl1
          rw [hu] at hu1; cases hu1
          have fin : ∀ s', s1.app d = some s' → ds1.length < lim ∧ ((∃ d0, s1 = .own d0 ∧ s' = .own (.list (ds1 ++ [d]))) ∨ ∃ d0, s1 = .io d0 ∧ s' = .io (.list (ds1 ++ [d]))) := fun s' e => by
            rcases hs1 with rfl | rfl
            · simp only [Slot.app] at e
              split at e
              · rename_i hz; cases e; exact ⟨hz, .inl ⟨_, rfl, rfl⟩⟩
              · cases e
            · simp only [Slot.app] at e
              split at e
              · rename_i hz; cases e; exact ⟨hz, .inr ⟨_, rfl, rfl⟩⟩
              · cases e
          cases e3 : s1.app d with
          | none => simp only [Option.bind, e3] at h1; exact h1.elim
          | some s' =>
            simp only [Option.bind, e3] at h1
            obtain ⟨hz, hk⟩ := fin s' e3
            have hx : s1.excl = true := by rcases hs1 with rfl | rfl <;> rfl
            have hv1 : Vst B1 H1 B1 (upd H1 a (.lst (xs1 ++ [v]))) := by
              have ba := R1.exm e2 hx hu
              exact ⟨fun y o nb e => by rw [upd_ne (fun z => nb (by rw [z]; exact R1.mb a ba))]; exact e, fun _ h => .inl h⟩
            obtain ⟨R2, S2⟩ := R1.mut (d := .list (ds1 ++ [d])) e2 hx hu ha1 hk (.lst upd_same ((rs1.app (.one q1)).step hv1))
            refine ⟨a, xs1, v, rfl, rfl, ha1, Nat.lt_of_lt_of_le (by rw [← rs1.length]; exact hz) (by decide), ?_⟩
            exact h1 σ _ B1 R2 S2
        · have : s1.app d = none := by
            cases s1 with
            | own d1 => cases d1 <;> first | rfl | exact absurd rfl hl1
            | io d1 => cases d1 <;> first | rfl | exact absurd rfl hl1
            | _ => rfl
          simp only [Option.bind, this] at h1
          exact h1.elim
    · exact h.elim
  · exact h.elim
end
end Py

/-! Py, part D: what is walked: enumerate and zip over lists and tuples in any mix. -/
namespace Py
open PySem L2

inductive SK where
  | l | t
  deriving DecidableEq
def Sq (K : PySem.W.Frag) (H : Hp) : SK → Addr → List V → Prop
  | .l => SqL K H
  | .t => SqT K H
def SIt (h : Heap) : SK → Addr → Addr → Nat → Prop
  | .l, it, a, i => h.IsListIter it a i
  | .t, it, a, i => h.IsTupleIter it a i
def SIs (h : Heap) : SK → Addr → Array Value → Prop
  | .l => h.IsList
  | .t => h.IsTuple
def SO : SK → Addr → Obj
  | .l, a => { cls := .type "list_iterator", data := .fields #[.ref a, .int 0 0] }
  | .t, a => { cls := .type "tuple_iterator", data := .fields #[.ref a, .int 0 0] }
section
variable {prog : Program} {w : World} {A : Around}
theorem drawsS (k : SK) (hh : A.handled = none) (it a : Addr) (hne : a ≠ it) (items : Array Value) :
    Draws prog w A it [it, a] items.size (fun i v => items[i]? = some v) (fun i h => SIt h k it a i ∧ SIs h k a items) := by
  cases k with
  | l => exact Draws.list hh it a hne items
  | t => exact Draws.tuple hh it a hne items
theorem beginsS (k : SK) (a : Addr) (items : Array Value) : Begins (.ref a) (SO k a) fun h => SIs h k a items := by
  cases k with
  | l => exact begins_list a items
  | t => exact begins_tuple a items
theorem SIt.start {h : Heap} {k : SK} {it a : Addr} (e : h.get? it = some (SO k a)) : SIt h k it a 0 := by
  cases k with
  | l => exact ⟨_, e, rfl, rfl⟩
  | t => exact ⟨_, e, rfl, rfl⟩
theorem SIt.at' {h h' : Heap} {k : SK} {it a : Addr} {i : Nat} (x : SIt h k it a i) (e : ∀ o, h.get? it = some o → h'.get? it = some o) : SIt h' k it a i := by
  cases k with
  | l => obtain ⟨o, q, r⟩ := x; exact ⟨o, e o q, r⟩
  | t => obtain ⟨o, q, r⟩ := x; exact ⟨o, e o q, r⟩
theorem SIt.obj {h : Heap} {k : SK} {it a : Addr} {i : Nat} (x : SIt h k it a i) : ∃ o, h.get? it = some o ∧ ∀ v, o.data ≠ .cell v := by
  cases k with
  | l => obtain ⟨o, q, _, r⟩ := x; exact ⟨o, q, fun v z => by rw [r] at z; cases z⟩
  | t => obtain ⟨o, q, _, r⟩ := x; exact ⟨o, q, fun v z => by rw [r] at z; cases z⟩
theorem SIs.lt {h : Heap} {k : SK} {a : Addr} {its : Array Value} (x : SIs h k a its) : a < h.objs.size := by
  cases k with
  | l => obtain ⟨o, q, _⟩ := x; exact Heap.lt_size q
  | t => obtain ⟨o, q, _⟩ := x; exact Heap.lt_size q
end
section
variable {X : Cx} {pins : List (Addr × Obj)} {σ : St} {H : Hp} {s : Shared} {a : Addr} {xs ys : List V} {k : SK}
theorem Sq.items (I : Inv X pins σ H s) (h : Sq X.K H k a xs) : ∃ its : List Value, Vals xs its ∧ SIs s.heap k a its.toArray := by
  cases k with
  | l => obtain ⟨its, r, p, _⟩ := I.list h; exact ⟨its, r, p.isList⟩
  | t => obtain ⟨its, r, p, _⟩ := I.tuple h; exact ⟨its, r, p⟩
theorem Sq.inj (I : Inv X pins σ H s) (h : Sq X.K H k a xs) (h' : Sq X.K H k a ys) : xs = ys := by
  cases k with
  | l => exact I.list_inj h h'
  | t => exact I.tuple_inj h h'
end
/-! ### zip -/
def ItZ (K : PySem.W.Frag) (k1 k2 : SK) (a b : Addr) : It :=
  ⟨fun i H => ∃ (xs ys : List V) (x y : V), Sq K H k1 a xs ∧ Sq K H k2 b ys ∧ xs[i]? = some x ∧ ys[i]? = some y,
    fun i H v H' => ∃ T x y, v = .ref T ∧ H T = none ∧ H' = upd H T (.tup [x, y]) ∧ (∀ xs, Sq K H k1 a xs → xs[i]? = some x) ∧ ∀ ys, Sq K H k2 b ys → ys[i]? = some y,
    fun i H => ∃ xs ys : List V, Sq K H k1 a xs ∧ Sq K H k2 b ys ∧ i = min xs.length ys.length⟩
theorem turn_zipG {P : Program} {w : World} {K : PySem.W.Frag} {elts : List Expr} {kk : Nat} {tpos : Pos} {k1 k2 : SK} {a b z TI TO i1 i2 : Addr} (S : ZipSep2 z TI TO i1 i2 [i1, a] [i2, b]) (n1 : a ≠ i1) (n2 : b ≠ i2) :
    Turn P w K (.Tuple elts kk tpos) (ItZ K k1 k2 a b) [z, TI, TO, i1, i2] z (fun i h => IsZip h z TI TO .none ∧ IsTupOf2 h TI (.ref i1) (.ref i2) ∧ (∃ x y, IsTupOf2 h TO x y) ∧ SIt h k1 i1 a i ∧ SIt h k2 i2 b i) where
  mem := by simp
  obj i h st c hc := by
    obtain ⟨hz, hTI, ⟨x, y, hTO⟩, h1, h2⟩ := st
    have e' : c = z ∨ c = TI ∨ c = TO ∨ c = i1 ∨ c = i2 := by simpa using hc
    rcases e' with q | q | q | q | q
    · rw [q]; exact ⟨_, hz, fun v q => nomatch q⟩
    · rw [q]; exact ⟨_, hTI, fun v q => nomatch q⟩
    · rw [q]; exact ⟨_, hTO, fun v q => nomatch q⟩
    · rw [q]; exact h1.obj
    · rw [q]; exact h2.obj
  keep i h h' st kp := by
    obtain ⟨hz, hTI, ⟨x, y, hTO⟩, h1, h2⟩ := st
    exact ⟨kp z (by simp) _ hz, kp TI (by simp) _ hTI, ⟨x, y, kp TO (by simp) _ hTO⟩, h1.at' (kp i1 (by simp)), h2.at' (kp i2 (by simp))⟩
  item := by
    intro X hP hw hK hc i pins s σ H E I hf st hg
    subst hP hw hK
    obtain ⟨xs, ys, x, y, hqx, hqy, hx, hy⟩ := hg
    obtain ⟨its, rv, p1⟩ := hqx.items I
    obtain ⟨its2, rv2, p2⟩ := hqy.items I
    obtain ⟨u, hu, ru⟩ := rv.get hx
    obtain ⟨u2, hu2, ru2⟩ := rv2.get hy
    have D1 := drawsS (prog := X.prog) (w := X.w) (A := X.A.in1) k1 (I.ok.hd hc) i1 a n1 its.toArray
    have D2 := drawsS (prog := X.prog) (w := X.w) (A := X.A.in1) k2 (I.ok.hd hc) i2 b n2 its2.toArray
    obtain ⟨hz, hTI, hTO, h1, h2⟩ := st
    have l1 : i < its.toArray.size := by simpa using (List.getElem?_eq_some_iff.mp hu).1
    have l2 : i < its2.toArray.size := by simpa using (List.getElem?_eq_some_iff.mp hu2).1
    refine (GoesN.zip2 (elts := elts) (x1 := kk) (pos := tpos) S D1 D2).goes i s _ E (by omega) ⟨hz, hTI, hTO, ⟨h1, p1⟩, h2, p2⟩ fun v h' tk hY st' hk _ => ?_
    obtain ⟨T, v1, v2, rfl, hTn, e1, e2, hT⟩ := hY
    have e1' : v1 = u := by
      have q : its[i]? = some v1 := by simpa using e1
      rw [hu] at q; exact (Option.some.inj q).symm
    have e2' : v2 = u2 := by
      have q : its2[i]? = some v2 := by simpa using e2
      rw [hu2] at q; exact (Option.some.inj q).symm
    subst e1' e2'
    have new : ObjOk X.prog X.w (upd H T (.tup [x, y])) h' T (.tup [x, y]) :=
      ⟨by show 2 ≤ sizeLine; decide, [v1, v2], .cons ru (.cons ru2 .nil), hT⟩
    have I1 : Inv X pins σ (upd H T (.tup [x, y])) { s with heap := h', toks := tk } :=
      I.turnedNew (ch := [z, TI, TO, i1, i2]) (fun c o hb q => hk c o (fun m => hb (by
        have : c = z ∨ c = TO ∨ c = i1 ∨ c = i2 := by simpa using m
        rcases this with e | e | e | e <;> simp [e])) q) hf hTn new
    refine ⟨.ref T, _, I1, rfl, ⟨T, x, y, rfl, I.hok.fresh hTn, rfl, fun l hl => by rw [hl.inj I hqx]; exact hx, fun l hl => by rw [hl.inj I hqy]; exact hy⟩, ⟨st'.1, st'.2.1, st'.2.2.1, st'.2.2.2.1.1, st'.2.2.2.2.1⟩, fun c hcm => ?_⟩
    have hlt : c < s.heap.objs.size := by
      have e' : c = z ∨ c = TI ∨ c = TO ∨ c = i1 ∨ c = i2 := by simpa using hcm
      rcases e' with q | q | q | q | q
      · rw [q]; exact Heap.lt_size hz
      · rw [q]; exact Heap.lt_size hTI
      · rw [q]; obtain ⟨_, _, hTO⟩ := hTO; exact Heap.lt_size hTO
      · rw [q]; obtain ⟨_, e, _⟩ := h1.obj; exact Heap.lt_size e
      · rw [q]; obtain ⟨_, e, _⟩ := h2.obj; exact Heap.lt_size e
    rw [upd_ne (Nat.ne_of_lt (Nat.lt_of_lt_of_le hlt hTn))]
    exact (hf c hcm).1
  done := by
    intro X hP hw hK hc i pins s σ H E I hf st hg
    subst hP hw hK
    obtain ⟨xs, ys, hqx, hqy, hend⟩ := hg
    obtain ⟨its, rv, p1⟩ := hqx.items I
    obtain ⟨its2, rv2, p2⟩ := hqy.items I
    have D1 := drawsS (prog := X.prog) (w := X.w) (A := X.A.in1) k1 (I.ok.hd hc) i1 a n1 its.toArray
    have D2 := drawsS (prog := X.prog) (w := X.w) (A := X.A.in1) k2 (I.ok.hd hc) i2 b n2 its2.toArray
    obtain ⟨hz, hTI, hTO, h1, h2⟩ := st
    have l1 := rv.length
    have l2 := rv2.length
    have en : i = min its.toArray.size its2.toArray.size := by simp; omega
    subst en
    refine (GoesN.zip2 (elts := elts) (x1 := kk) (pos := tpos) S D1 D2).stops s _ E ⟨hz, hTI, hTO, ⟨h1, p1⟩, h2, p2⟩ fun h' tk hk _ => ?_
    exact I.turnedL (ch := [z, TI, TO, i1, i2]) (fun c o hb q => hk c o (fun m => hb (by
        have : c = z ∨ c = TO ∨ c = i1 ∨ c = i2 := by simpa using m
        rcases this with e | e | e | e <;> simp [e])) q) hf
  self A i s Q E st h := wpAny_pyIter_zip st.1 h
def kOf : D → Option (SK × List D)
  | .list ds => some (.l, ds)
  | .tuple ds => some (.t, ds)
  | _ => none
theorem Rep.sq {K : PySem.W.Frag} {B : Av} {H : Hp} {d : D} {v : V} {k : SK} {ds : List D} (h : Rep K B H d v) (e : kOf d = some (k, ds)) : ∃ a xs, v = .ref a ∧ Sq K H k a xs ∧ Reps K B H ds xs ∧
    (∀ B' H', Vst B H B' H' → Sq K H' k a xs) := by
  cases h with
  | lst nb r rs => cases e; exact ⟨_, _, rfl, .inl (.inl r), rs, fun B' H' s => .inl (s.rd nb (.inl r)).2⟩
  | tup nb r rs => cases e; exact ⟨_, _, rfl, .inl r, rs, fun B' H' s => .inl (s.rd nb r).2⟩
  | ctup c rs => cases e; exact ⟨_, _, rfl, .inr c, rs, fun B' H' s => .inr c⟩
  | _ => cases e
def iZipG (K : PySem.W.Frag) (ta : TA) : TI := fun σ H R => ta σ H fun vs H1 => ∃ a b xs ys k1 k2, vs = [.ref a, .ref b] ∧ Sq K H1 k1 a xs ∧ Sq K H1 k2 b ys ∧ R (ItZ K k1 k2 a b) H1
theorem pi_zipG {X : Cx} {e e2 : Expr} {ta : TA} {p pos tpos : Pos} {elts : List Expr} {kk : Nat} (hg : Gl X "zip") (hm : X.mg "zip" = none) (ha : PA X [e, e2] ta)
    (hs : starEach [e, e2] X.env = (false, eval e X.env) :: starEach [e2] X.env) (hpl : (backTo pos (starEach [e2] X.env)).any (·.1) = false) :
    PI X (.Tuple elts kk tpos) (.Call (.Name "zip" p) [e, e2] [] pos) (iZipG X.K ta) := by
  refine ⟨fun pins s σ H R I h => ?_⟩
  refine PyProof.Rows.Call_ (ld_blt I hg hm PyProof.Rows.boot_zip (PyProof.Rows.callWith_type1 (thn (ha.run pos pins s σ H _ I h) fun us s1 ⟨vs, H1, I1, r1, q1⟩ => ?_) hs hpl))
  obtain ⟨a, b, xs, ys, k1, k2, ex, hqx, hqy, q⟩ := q1
  subst ex
  cases r1 with
  | cons r rr =>
    cases rr with
    | cons r' rr =>
      cases rr
      cases r
      cases r'
      obtain ⟨its, rv, p1⟩ := hqx.items I1
      obtain ⟨its2, rv2, p2⟩ := hqy.items I1
      have la := p1.lt
      have lb := p2.lt
      refine zip_begins2 (beginsS k1 a its.toArray) (beginsS k2 b its2.toArray) p1 p2 fun h' hz hTI hTO h1 h2 hsz hk => wpAny_pyIter_zip hz ?_
      have I2 : Inv X pins σ H1 { s1 with heap := h' } := I1.kept (t' := s1.toks) hk
      have fresh5 : ∀ c, c ∈ [s1.heap.objs.size + 4, s1.heap.objs.size + 2, s1.heap.objs.size + 3, s1.heap.objs.size, s1.heap.objs.size + 1] → FpOk X pins H1 c := fun c hcm => by
        have e' : c = s1.heap.objs.size + 4 ∨ c = s1.heap.objs.size + 2 ∨ c = s1.heap.objs.size + 3 ∨ c = s1.heap.objs.size ∨ c = s1.heap.objs.size + 1 := by simpa using hcm
        have hle : s1.heap.objs.size ≤ c := by
          rcases e' with z | z | z | z | z
          · rw [z]; exact Nat.le_add_right _ _
          · rw [z]; exact Nat.le_add_right _ _
          · rw [z]; exact Nat.le_add_right _ _
          · rw [z]; exact Nat.le_refl _
          · rw [z]; exact Nat.le_add_right _ _
        exact I1.fpOk hle (I1.hok.fresh hle)
      refine ⟨s1.heap.objs.size + 4, [s1.heap.objs.size + 4, s1.heap.objs.size + 2, s1.heap.objs.size + 3, s1.heap.objs.size, s1.heap.objs.size + 1], _, _, H1, rfl, I2,
        turn_zipG (k1 := k1) (k2 := k2) (zip_sep2 (fun c hcm => ?_) (fun c hcm => ?_)) (Nat.ne_of_lt la) (Nat.ne_of_lt (Nat.lt_succ_of_lt lb)), ⟨hz, hTI, ⟨_, _, hTO⟩, SIt.start h1, SIt.start h2⟩, fresh5, q⟩
      · have : c = a := by simpa using hcm
        rw [this]; exact la
      · have : c = b := by simpa using hcm
        rw [this]; exact lb

/-! ### enumerate -/
theorem meets_enum1 {v : Value} {o : Obj} {G : Heap → Prop} (B : Begins v o G) :
    Meets (Builtin.«enumerate.__new__» ⟨[.type "enumerate", v], []⟩) (fun _ R s => G s.heap ∧
      R (.ok (.ret (.ref (s.heap.push o).objs.size))) { s with heap := (s.heap.push o).push { cls := .type "enumerate", data := .fields #[.none, .bool false, .ref s.heap.objs.size, rawInt 0, .none, .none] } }) :=
  .of_wp fun prog w A R s h => by
    obtain ⟨hp, g, d, tk, os⟩ := s; obtain ⟨h1, h⟩ := h
    have hsub := sub_enumerate
    have q1 : ∀ {A' : Around} {E : Value → Shared → Prop} {Q : Value → Shared → Prop}, Q (.ref hp.objs.size) ⟨hp.push o, g, d, tk, os⟩ → wpAny (model prog w) A' (pyIter v) Q E ⟨hp, g, d, tk, os⟩ :=
      fun q => B.iter prog w _ _ ⟨hp, g, d, tk, os⟩ _ h1 q
    wp_walk using q1
    refine wpAny_stack_any fun st => wpAny_pure ?_
    split
    · rename_i c _ _ _ _ _
      cases (c == Value.type "enumerate") <;> (wp_walk using q1; exact ⟨_, rfl, h⟩)
    · wp_walk using q1
      exact ⟨_, rfl, h⟩
theorem call_enum1 {prog : Program} {w : World} {A : Around} {E : Value → Shared → Prop} {s : Shared} {v : Value} {o : Obj} {G : Heap → Prop} {Q : Value → Shared → Prop} (B : Begins v o G) (h1 : G s.heap)
    (h : ∀ h', IsEnum h' (s.heap.objs.size + 1) s.heap.objs.size 0 .none → h'.get? s.heap.objs.size = some o → h'.objs.size = s.heap.objs.size + 2 →
      (∀ b o, s.heap.get? b = some o → h'.get? b = some o) → Q (.ref (s.heap.objs.size + 1)) { s with heap := h' }) :
    wpAny (model prog w) A (call (.type "enumerate") [v]) Q E s := by
  refine callType_new F.called_enumerate (by decide) (F.typeCall_enumerate_1 _) (F.newCall_enumerate_1 _) (fun obj => F.args_object_init_2 obj _) F.entry_enumerate_new (meets_enum1 B) ⟨h1, ?_⟩
  have hz : (s.heap.push o).objs.size = s.heap.objs.size + 1 := Heap.size_push ..
  show _ ∧ _
  rw [hz]
  have he : IsEnum ((s.heap.push o).push { cls := .type "enumerate", data := .fields #[.none, .bool false, .ref s.heap.objs.size, rawInt 0, .none, .none] }) (s.heap.objs.size + 1) s.heap.objs.size 0 .none := by
    have q := Heap.get?_push_size (s.heap.push o) (o := { cls := .type "enumerate", data := .fields #[.none, .bool false, .ref s.heap.objs.size, rawInt 0, .none, .none] }) rfl
    rw [hz] at q; exact q
  exact ⟨⟨_, he, rfl⟩, h _ he (Heap.get?_push_of_some _ (Heap.get?_push_size _ B.free)) (by rw [Heap.size_push, hz]) fun b o x => Heap.get?_push_of_some _ (Heap.get?_push_of_some _ x)⟩
def ItE (K : PySem.W.Frag) (k : SK) (a : Addr) : It :=
  ⟨fun i H => ∃ (xs : List V) (x : V), Sq K H k a xs ∧ xs[i]? = some x,
    fun i H v H' => ∃ T x, v = .ref T ∧ H T = none ∧ H' = upd H T (.tup [.int (i : Nat), x]) ∧ ∀ xs, Sq K H k a xs → xs[i]? = some x,
    fun i H => ∃ xs : List V, Sq K H k a xs ∧ i = xs.length⟩
theorem turn_enumG {P : Program} {w : World} {K : PySem.W.Frag} {elts : List Expr} {kk : Nat} {tpos : Pos} {k : SK} {a e it : Addr} (n1 : a ≠ it) (n2 : e ≠ it) (n3 : e ≠ a) :
    Turn P w K (.Tuple elts kk tpos) (ItE K k a) [e, it] e (fun i h => (∃ old, IsEnum h e it ((i : Nat) : Int) old) ∧ SIt h k it a i) where
  mem := by simp
  obj i h st c hc := by
    obtain ⟨⟨old, he⟩, h1⟩ := st
    have e' : c = e ∨ c = it := by simpa using hc
    rcases e' with q | q
    · rw [q]; exact ⟨_, he, fun v q => nomatch q⟩
    · rw [q]; exact h1.obj
  keep i h h' st kp := by
    obtain ⟨⟨old, he⟩, h1⟩ := st
    exact ⟨⟨old, kp e (by simp) _ he⟩, h1.at' (kp it (by simp))⟩
  item := by
    intro X hP hw hK hc i pins s σ H E I hf st hg
    subst hP hw hK
    obtain ⟨xs, x, hqx, hx⟩ := hg
    obtain ⟨its, rv, p1⟩ := hqx.items I
    obtain ⟨u, hu, ru⟩ := rv.get hx
    have D1 := drawsS (prog := X.prog) (w := X.w) (A := X.A.in1) k (I.ok.hd hc) it a n1 its.toArray
    obtain ⟨he, h1⟩ := st
    have l1 : i < its.toArray.size := by simpa using (List.getElem?_eq_some_iff.mp hu).1
    have G := GoesN.enumFrom (elts := elts) (x1 := kk) (pos := tpos) 0 D1 e n2 (by simp [n2, n3]) (by simp)
    refine G.goes i s _ E l1 ⟨by simpa using he, h1, p1⟩ fun v h' tk hY st' hk _ => ?_
    obtain ⟨T, t, v1, rfl, hTn, e1, hT⟩ := hY
    have e1' : v1 = u := by
      have q : its[i]? = some v1 := by simpa using e1
      rw [hu] at q; exact (Option.some.inj q).symm
    subst e1'
    have hT' : h'.IsTuple T #[.int (i : Nat) t, v1] := by simpa using hT
    have new : ObjOk X.prog X.w (upd H T (.tup [.int (i : Nat), x])) h' T (.tup [.int (i : Nat), x]) :=
      ⟨by show 2 ≤ sizeLine; decide, [.int (i : Nat) t, v1], .cons ⟨_, rfl⟩ (.cons ru .nil), hT'⟩
    have I1 : Inv X pins σ (upd H T (.tup [.int (i : Nat), x])) { s with heap := h', toks := tk } :=
      I.turnedNew (ch := [e, it]) (fun c o hb q => hk c o hb q) hf hTn new
    refine ⟨.ref T, _, I1, rfl, ⟨T, x, rfl, I.hok.fresh hTn, rfl, fun l hl => by rw [hl.inj I hqx]; exact hx⟩, ⟨by simpa using st'.1, st'.2.1⟩, fun c hcm => ?_⟩
    have hlt : c < s.heap.objs.size := by
      have e' : c = e ∨ c = it := by simpa using hcm
      rcases e' with q | q
      · rw [q]; obtain ⟨_, he⟩ := he; exact Heap.lt_size he
      · rw [q]; obtain ⟨_, e, _⟩ := h1.obj; exact Heap.lt_size e
    rw [upd_ne (Nat.ne_of_lt (Nat.lt_of_lt_of_le hlt hTn))]
    exact (hf c hcm).1
  done := by
    intro X hP hw hK hc i pins s σ H E I hf st hg
    subst hP hw hK
    obtain ⟨xs, hqx, hend⟩ := hg
    obtain ⟨its, rv, p1⟩ := hqx.items I
    have D1 := drawsS (prog := X.prog) (w := X.w) (A := X.A.in1) k (I.ok.hd hc) it a n1 its.toArray
    obtain ⟨he, h1⟩ := st
    have l1 := rv.length
    have en : i = its.toArray.size := by simp; omega
    subst en
    have G := GoesN.enumFrom (elts := elts) (x1 := kk) (pos := tpos) 0 D1 e n2 (by simp [n2, n3]) (by simp)
    refine G.stops s _ E ⟨by simpa using he, h1, p1⟩ fun h' tk hk _ => ?_
    exact I.turnedL (ch := [e, it]) (fun c o hb q => hk c o hb q) hf
  self A i s Q E st h := by
    obtain ⟨⟨_, he⟩, _⟩ := st
    exact wpAny_pyIter_enum he h
def iEnumG (K : PySem.W.Frag) (ta : TA) : TI := fun σ H R => ta σ H fun vs H1 => ∃ a xs k, vs = [.ref a] ∧ Sq K H1 k a xs ∧ R (ItE K k a) H1
theorem pi_enumG {X : Cx} {e : Expr} {ta : TA} {p pos tpos : Pos} {elts : List Expr} {kk : Nat} (hg : Gl X "enumerate") (hm : X.mg "enumerate" = none) (ha : PA X [e] ta) (hs : starEach [e] X.env = [(false, eval e X.env)]) :
    PI X (.Tuple elts kk tpos) (.Call (.Name "enumerate" p) [e] [] pos) (iEnumG X.K ta) := by
  refine ⟨fun pins s σ H R I h => ?_⟩
  refine PyProof.Rows.Call_ (ld_blt I hg hm PyProof.Rows.boot_enumerate (PyProof.Rows.callWith_type1 (thn (ha.run pos pins s σ H _ I h) fun us s1 ⟨vs, H1, I1, r1, q1⟩ => ?_) hs rfl))
  obtain ⟨a, xs, k, ex, hq, q⟩ := q1
  subst ex
  cases r1 with
  | cons r rr =>
    cases rr
    cases r
    obtain ⟨its, rv, p1⟩ := hq.items I1
    have la := p1.lt
    refine call_enum1 (beginsS k a its.toArray) p1 fun h' he h1 hsz hk => wpAny_pyIter_enum he ?_
    have I2 : Inv X pins σ H1 { s1 with heap := h' } := I1.kept (t' := s1.toks) hk
    refine ⟨s1.heap.objs.size + 1, [s1.heap.objs.size + 1, s1.heap.objs.size], _, _, H1, rfl, I2, turn_enumG (k := k) (Nat.ne_of_lt la) (Nat.succ_ne_self _) (Nat.ne_of_gt (Nat.lt_succ_of_lt la)), ⟨⟨.none, he⟩, SIt.start h1⟩, fun b hb => ?_, q⟩
    have e' : b = s1.heap.objs.size + 1 ∨ b = s1.heap.objs.size := by simpa using hb
    have hle : s1.heap.objs.size ≤ b := by
      rcases e' with z | z
      · rw [z]; exact Nat.le_add_right _ _
      · rw [z]; exact Nat.le_refl _
    exact I1.fpOk hle (I1.hok.fresh hle)
end Py

/-! Py, part E: targets, walks, for, while, list comprehensions. -/
namespace Py
open PySem L2

/-! ### targets -/
abbrev Bd := D → Rho → Option Rho
abbrev Bds := List D → Rho → Option Rho
/-- the slots stay but those at T -/
def Kp (T : List Nat) (σ σ' : St) : Prop := σ'.length = σ.length ∧ ∀ i, i ∉ T → σ'[i]? = σ[i]?
theorem Kp.refl (T : List Nat) (σ : St) : Kp T σ σ := ⟨rfl, fun _ _ => rfl⟩
theorem Kp.trans {T U : List Nat} {σ σ1 σ2 : St} (a : Kp T σ σ1) (b : Kp U σ1 σ2) : Kp (T ++ U) σ σ2 := ⟨b.1.trans a.1, fun i h =>
  (b.2 i fun z => h (List.mem_append_right _ z)).trans (a.2 i fun z => h (List.mem_append_left _ z))⟩
def PostG (c : Cfg) (T : List Nat) (σ : St) (B : Av) (H : Hp) (Q : St → Hp → Prop) : Option Rho → Prop
  | some r => ∀ σ' H' B', Rel c r B' σ' H' → Step B H B' H' → Kp T σ σ' → Q σ' H'
  | none => False
def denG (c : Cfg) (T : List Nat) (f : Bd) : TG := fun v σ H Q => ∃ r B d, Rel c r B σ H ∧ Rep c.K B H d v ∧ PostG c T σ B H Q (f d r)
def denGs (c : Cfg) (T : List Nat) (f : Bds) : TGs := fun vs σ H Q => ∃ r B ds, Rel c r B σ H ∧ Reps c.K B H ds vs ∧ PostG c T σ B H Q (f ds r)
theorem pg_mono {X : Cx} {e : Expr} {t t' : TG} (h : PG X e t) (m : ∀ v σ H Q, t' v σ H Q → t v σ H Q) : PG X e t' := ⟨fun pins s σ H v u Q I r q => h.run pins s σ H v u Q I r (m v σ H Q q)⟩
theorem pgs_mono {X : Cx} {e : List Expr} {t t' : TGs} (h : PGs X e t) (m : ∀ v σ H Q, t' v σ H Q → t v σ H Q) : PGs X e t' := ⟨fun pins s σ H v u Q I r q => h.run pins s σ H v u Q I r (m v σ H Q q)⟩
def gNm (i : Nat) : Bd := fun d r => some (r.set i (.val d))
def gNilF : Bds := fun ds r => if ds = [] then some r else none
def gNil0 : Bds := fun ds r => match ds with
  | [] => some r
  | _ => none
def gCons0 (f : Bd) (g : Bds) : Bds := fun ds r => match ds with
  | d :: ds => (f d r).bind (g ds)
  | [] => none
def gTup0 (n : Nat) (g : Bds) : Bd := fun d r => match kOf d with
  | some (_, ds) => if ds.length = n then g ds r else none
  | none => none
section
variable {X : Cx} {c : Cfg} {E : EX}
theorem snd_gnm {i : Nat} {x : Str} {pos : Pos} (n : Stor X i x) : PG X (.Name x pos) (denG c [i] (gNm i)) :=
  pg_mono (pg_name n.nd n.at' n.loc n.fn) fun v σ H Q ⟨r, B, d, R, q, h⟩ => h _ H B (R.setV q) (Step.refl _ _) ⟨List.length_set .., fun j hj => List.getElem?_set_ne fun z => hj (by simp [z])⟩
theorem snd_gnil : PGs X [] (denGs c [] gNil0) := by
  refine pgs_mono pgs_nil fun vs σ H Q ⟨r, B, ds, R, q, h⟩ => ?_
  cases q with
  | nil => exact ⟨rfl, h σ H B R (Step.refl _ _) (Kp.refl _ _)⟩
  | cons _ _ => exact h.elim
theorem snd_gcons {e : Expr} {es : List Expr} {f : Bd} {g : Bds} {T U : List Nat} (h1 : PG X e (denG c T f)) (h2 : PGs X es (denGs c U g)) (hs : (assignEach (e :: es) X.env).map (·.2) = assign e X.env :: (assignEach es X.env).map (·.2)) :
    PGs X (e :: es) (denGs c (T ++ U) (gCons0 f g)) := by
  refine pgs_mono (pgs_cons h1 h2 hs) fun vs σ H Q ⟨r, B, ds, R, q, h⟩ => ?_
  cases q with
  | nil => exact h.elim
  | @cons d v ds vs q qs =>
    refine ⟨v, vs, rfl, r, B, d, R, q, ?_⟩
    have h' : PostG c (T ++ U) σ B H Q ((f d r).bind (g ds)) := h
    cases e : f d r with
    | none => rw [e] at h'; exact h'.elim
    | some r1 =>
      rw [e] at h'
      refine fun σ' H' B' R' S' k => ⟨r1, B', ds, R', qs.step (R.v S'), ?_⟩
      have h3 : PostG c (T ++ U) σ B H Q (g ds r1) := h'
      cases e2 : g ds r1 with
      | none => rw [e2] at h3; exact h3.elim
      | some r2 => rw [e2] at h3; exact fun σ2 H2 B2 R2 S2 k2 => h3 σ2 H2 B2 R2 (S'.trans S2) (k.trans k2)
theorem snd_gtup {es : List Expr} {k : Nat} {pos : Pos} {n : Nat} {g : Bds} {T : List Nat} (hK : X.K = c.K) (hc : X.calm = true) (h : PGs X es (denGs c T g)) (hn : (assignEach es X.env).length = n) (hst : (assignEach es X.env).findIdx? (·.1) = none) :
    PG X (.Tuple es k pos) (denG c T (gTup0 n g)) := by
  refine ⟨fun pins s σ H v u Q I rv ⟨r, B, d, R, q, h'⟩ => ?_⟩
  unfold gTup0 at h'
  cases ek : kOf d with
  | none => rw [ek] at h'; exact h'.elim
  | some kd =>
    obtain ⟨sk, ds⟩ := kd
    rw [ek] at h'
    by_cases hl : ds.length = n
    · simp only [hl, if_true] at h'
      obtain ⟨a, xs, rfl, hq, rs, _⟩ := q.sq ek
      have go : denGs c T g xs σ H Q := ⟨r, B, ds, R, rs, h'⟩
      have ln : xs.length = n := by rw [← rs.length]; exact hl
      cases sk with
      | l => exact (pg_lst hc h hn hst).run pins s σ H _ u Q I rv ⟨a, xs, rfl, by rw [hK]; exact hq, ln, go⟩
      | t => exact (pg_tup hc h hn hst).run pins s σ H _ u Q I rv ⟨a, xs, rfl, by rw [hK]; exact hq, ln, go⟩
    · simp only [hl, if_false] at h'; exact h'.elim
end

/-! ### walks -/
structure Wk (K : PySem.W.Frag) (B0 : Av) (H0 : Hp) (J : It) (ds : List D) : Prop where
  goes : ∀ B H i, Vst B0 H0 B H → i < ds.length → J.go i H
  stops : ∀ B H, Vst B0 H0 B H → J.stop ds.length H
  yields : ∀ B H i x H1, Vst B0 H0 B H → (∀ p, H p = none → ¬ B.b p) → i < ds.length → J.yld i H x H1 → ∃ d, ds[i]? = some d ∧ Ext H H1 ∧ Rep K B H1 d x
def PostI (c : Cfg) (E : EX) (σ : St) (B : Av) (H : Hp) (Q : It → Hp → Prop) : Out → Prop
  | .vals ds r => ∀ J H' B', Rel c r B' σ H' → Step B H B' H' → Wk c.K B' H' J ds → Q J H'
  | .exc n d => ∀ H', Fr c H' → E n d H'
  | _ => False
def denI (c : Cfg) (E : EX) (o : O1) : TI := fun σ H Q => ∃ r B, Rel c r B σ H ∧ PostI c E σ B H Q (o r)
theorem pi_mono {X : Cx} {tg e : Expr} {t t' : TI} (h : PI X tg e t) (m : ∀ σ H Q, t' σ H Q → t σ H Q) : PI X tg e t' := ⟨fun pins s σ H R I q => h.run pins s σ H R I (m σ H R q)⟩
theorem ppI {c : Cfg} {E : EX} {σ : St} {Q : It → Hp → Prop} : PP c E (fun B H o => PostI c E σ B H Q o) where
  exc _ _ _ _ h := h
  bad _ _ h := h
  frm B H B1 H1 o S h := by
    cases o with
    | vals d r => exact fun J H' B' R S' w => h J H' B' R (S.trans S') w
    | exc n d => exact h
    | _ => exact h.elim
theorem at_some {α : Type} {l : List α} {i : Nat} (h : i < l.length) : ∃ x, l[i]? = some x := ⟨l[i], by simp [h]⟩
section
variable {K : PySem.W.Frag} {B : Av} {H : Hp} {a b : Addr} {xs ys : List V} {ds es : List D}
theorem Reps.at {i : Nat} (rs : Reps K B H ds xs) (h : i < ds.length) : ∃ d x, ds[i]? = some d ∧ xs[i]? = some x ∧ Rep K B H d x := by
  obtain ⟨d, e⟩ := at_some h
  obtain ⟨x, e2, r⟩ := rs.get e
  exact ⟨d, x, e, e2, r⟩
theorem Wk.list (hq : ∀ B' H', Vst B H B' H' → SqL K H' a xs) (rs : Reps K B H ds xs) : Wk K B H (Itl K a) ds where
  goes B' H' i s hi := by obtain ⟨d, x, _, e, _⟩ := rs.at hi; exact ⟨xs, x, hq _ _ s, e⟩
  stops B' H' s := ⟨xs, hq _ _ s, by rw [rs.length]; exact Nat.le_refl _⟩
  yields B' H' i x H1 s _ hi y := by
    obtain ⟨rfl, y⟩ := y
    obtain ⟨d, x', e1, e2, r⟩ := rs.at hi
    have q := y xs (hq _ _ s)
    rw [e2] at q; cases q
    exact ⟨d, e1, Ext.refl _, r.step s⟩
theorem Wk.tup (hq : ∀ B' H', Vst B H B' H' → SqT K H' a xs) (rs : Reps K B H ds xs) : Wk K B H (Itt K a) ds where
  goes B' H' i s hi := by obtain ⟨d, x, _, e, _⟩ := rs.at hi; exact ⟨xs, x, hq _ _ s, e⟩
  stops B' H' s := ⟨xs, hq _ _ s, by rw [rs.length]; exact Nat.le_refl _⟩
  yields B' H' i x H1 s _ hi y := by
    obtain ⟨rfl, y⟩ := y
    obtain ⟨d, x', e1, e2, r⟩ := rs.at hi
    have q := y xs (hq _ _ s)
    rw [e2] at q; cases q
    exact ⟨d, e1, Ext.refl _, r.step s⟩
def rngD (lo : Int) (n : Nat) : List D := (List.range n).map fun (i : Nat) => .int (lo + i)
def rngC (lo k : Int) (n : Nat) : List D := (List.range n).map fun (i : Nat) => .int (lo + i * k)
theorem Wk.rng {lo : Int} {n : Nat} : Wk K B H (Itr lo n) (rngD lo n) where
  goes B' H' i s hi := by simpa [rngD, Itr] using hi
  stops B' H' s := by simp [rngD, Itr]
  yields B' H' i x H1 s _ hi y := by
    obtain ⟨rfl, rfl⟩ := y
    have hi' : i < n := by simpa [rngD] using hi
    exact ⟨.int (lo + i), by simp [rngD, hi'], Ext.refl _, .int _⟩
theorem Wk.rngC {lo k : Int} {n : Nat} : Wk K B H (Itc lo k n) (rngC lo k n) where
  goes B' H' i s hi := by simpa [Py.rngC, Itc] using hi
  stops B' H' s := by simp [Py.rngC, Itc]
  yields B' H' i x H1 s _ hi y := by
    obtain ⟨rfl, rfl⟩ := y
    have hi' : i < n := by simpa [Py.rngC] using hi
    exact ⟨.int (lo + i * k), by simp [Py.rngC, hi'], Ext.refl _, .int _⟩
def zipD (xs ys : List D) : List D := (xs.zip ys).map fun p => .tuple [p.1, p.2]
def enumD (n : Nat) (xs : List D) : List D := match xs with
  | [] => []
  | x :: xs => .tuple [.int n, x] :: enumD (n + 1) xs
theorem enumD_length : ∀ (xs : List D) (n : Nat), (enumD n xs).length = xs.length
  | [], _ => rfl
  | _ :: xs, n => by simp [enumD, enumD_length xs (n + 1)]
theorem enumD_at : ∀ (xs : List D) (n i : Nat) (d : D), xs[i]? = some d → (enumD n xs)[i]? = some (.tuple [.int (n + i : Nat), d])
  | [], _, _, _, h => by simp at h
  | x :: xs, n, 0, d, h => by simp at h; subst h; simp [enumD]
  | x :: xs, n, i + 1, d, h => by
    have q := enumD_at xs (n + 1) i d (by simpa using h)
    have e : n + 1 + i = n + (i + 1) := by omega
    rw [e] at q
    simpa [enumD] using q
theorem Wk.zip {k1 k2 : SK} (h1 : ∀ B' H', Vst B H B' H' → Sq K H' k1 a xs) (h2 : ∀ B' H', Vst B H B' H' → Sq K H' k2 b ys) (r1 : Reps K B H ds xs) (r2 : Reps K B H es ys) : Wk K B H (ItZ K k1 k2 a b) (zipD ds es) where
  goes B' H' i s hi := by
    have hi' : i < min ds.length es.length := by simpa [zipD] using hi
    obtain ⟨d, x, _, e, _⟩ := r1.at (i := i) (by omega)
    obtain ⟨d2, y, _, e2, _⟩ := r2.at (i := i) (by omega)
    exact ⟨xs, ys, x, y, h1 _ _ s, h2 _ _ s, e, e2⟩
  stops B' H' s := ⟨xs, ys, h1 _ _ s, h2 _ _ s, by simp [zipD, r1.length, r2.length]⟩
  yields B' H' i x H1 s fr hi y := by
    have hi' : i < min ds.length es.length := by simpa [zipD] using hi
    obtain ⟨T, x1, y1, rfl, hT, rfl, f1, f2⟩ := y
    obtain ⟨d, x', e1, e2, q1⟩ := r1.at (i := i) (by omega)
    obtain ⟨d2, y', e3, e4, q2⟩ := r2.at (i := i) (by omega)
    have w1 := f1 xs (h1 _ _ s)
    have w2 := f2 ys (h2 _ _ s)
    rw [e2] at w1; cases w1
    rw [e4] at w2; cases w2
    refine ⟨.tuple [d, d2], ?_, Ext.new hT, Rep.newT (fr T hT) hT (.two (q1.step s) (q2.step s))⟩
    simp only [zipD, List.getElem?_map]
    rw [(List.getElem?_zip_eq_some (z := (d, d2))).mpr ⟨e1, e3⟩]
    rfl
theorem Wk.enum {k : SK} (h1 : ∀ B' H', Vst B H B' H' → Sq K H' k a xs) (r1 : Reps K B H ds xs) : Wk K B H (ItE K k a) (enumD 0 ds) where
  goes B' H' i s hi := by
    obtain ⟨d, x, _, e, _⟩ := r1.at (i := i) (by simpa [enumD_length] using hi)
    exact ⟨xs, x, h1 _ _ s, e⟩
  stops B' H' s := ⟨xs, h1 _ _ s, by simp [enumD_length, r1.length]⟩
  yields B' H' i x H1 s fr hi y := by
    obtain ⟨T, x1, rfl, hT, rfl, f1⟩ := y
    obtain ⟨d, x', e1, e2, q1⟩ := r1.at (i := i) (by simpa [enumD_length] using hi)
    have w1 := f1 xs (h1 _ _ s)
    rw [e2] at w1; cases w1
    refine ⟨.tuple [.int (i : Nat), d], ?_, Ext.new hT, Rep.newT (fr T hT) hT (.two (.int _) (q1.step s))⟩
    have q := enumD_at ds 0 i d e1
    simpa using q
end
/-- what is walked, by the value -/
def oIt (a : O1) : O1 := fun r => (a r).bnd fun d r1 => match kOf d with
  | some (_, ds) => .vals ds r1
  | none => .bad
def oRng1 (a : O1) : O1 := fun r => (a r).bnds fun ds r1 => match ds with
  | [.int n] => if -(2 ^ 62) ≤ n ∧ n < 2 ^ 62 then .vals (rngD 0 n.toNat) r1 else .bad
  | _ => .bad
def oRng2 (a : O1) : O1 := fun r => (a r).bnds fun ds r1 => match ds with
  | [.int m, .int n] => if (-(2 ^ 62) ≤ m ∧ m < 2 ^ 62) ∧ -(2 ^ 62) ≤ n ∧ n < 2 ^ 62 then .vals (rngD m (n - m).toNat) r1 else .bad
  | _ => .bad
def oZip (a : O1) : O1 := fun r => (a r).bnds fun ds r1 => match ds with
  | [d, e] => match kOf d, kOf e with
    | some (_, xs), some (_, ys) => .vals (zipD xs ys) r1
    | _, _ => .bad
  | _ => .bad
def oEnum (a : O1) : O1 := fun r => (a r).bnds fun ds r1 => match ds with
  | [d] => match kOf d with
    | some (_, xs) => .vals (enumD 0 xs) r1
    | none => .bad
  | _ => .bad
section
variable {X : Cx} {c : Cfg} {E : EX} {tg : Expr}
theorem snd_it {e : Expr} {o : O1} (hK : X.K = c.K) (h : PE X e (denE c E o)) : PI X tg e (denI c E (oIt o)) := by
  refine ⟨fun pins s σ H Q I ⟨r, B, R, h'⟩ => ?_⟩
  have kl := (pi_list (tg := tg) h).run pins s σ H Q I
  have kt := (pi_tup (tg := tg) h).run pins s σ H Q I
  unfold oIt at h'
  cases e0 : o r with
  | val d r1 =>
    rw [e0] at h'
    have h2 : PostI c E σ B H Q (match kOf d with
      | some (_, ds) => .vals ds r1
      | none => .bad) := h'
    cases ek : kOf d with
    | none => rw [ek] at h2; exact h2.elim
    | some kd =>
      obtain ⟨sk, ds⟩ := kd
      rw [ek] at h2
      cases sk with
      | l =>
        refine kl ⟨r, B, R, ?_⟩
        rw [e0]
        intro v H' B' R' S q
        obtain ⟨a, xs, rfl, hq, rs, hs⟩ := q.sq ek
        refine ⟨a, rfl, ⟨xs, by rw [hK]; exact hq⟩, ?_⟩
        rw [hK]
        exact h2 _ H' B' R' S (.list hs rs)
      | t =>
        refine kt ⟨r, B, R, ?_⟩
        rw [e0]
        intro v H' B' R' S q
        obtain ⟨a, xs, rfl, hq, rs, hs⟩ := q.sq ek
        refine ⟨a, rfl, ⟨xs, by rw [hK]; exact hq⟩, ?_⟩
        rw [hK]
        exact h2 _ H' B' R' S (.tup hs rs)
  | exc n d => rw [e0] at h'; exact kl ⟨r, B, R, by rw [e0]; exact h'⟩
  | vals _ _ => rw [e0] at h'; exact h'.elim
  | nxt _ => rw [e0] at h'; exact h'.elim
  | ret _ _ => rw [e0] at h'; exact h'.elim
  | retF _ _ => rw [e0] at h'; exact h'.elim
  | brk _ => rw [e0] at h'; exact h'.elim
  | cnt _ => rw [e0] at h'; exact h'.elim
  | bad => rw [e0] at h'; exact h'.elim
theorem snd_rng1 {a : Expr} {oa : O1} {p pos : Pos} (hg : Gl X "range") (hm : X.mg "range" = none) (ha : PA X [a] (denA c E oa)) (hs : starEach [a] X.env = [(false, eval a X.env)]) :
    PI X tg (.Call (.Name "range" p) [a] [] pos) (denI c E (oRng1 oa)) := by
  refine pi_mono (pi_range1 hg hm ha hs) fun σ H Q ⟨r, B, R, h⟩ => ⟨r, B, R, bndA ppI h fun ds r1 vs H1 B1 er R1 S1 q1 h1 => ?_⟩
  clear er
  split at h1
  · rename_i n
    split at h1
    · rename_i hb
      cases q1 with
      | cons q qs => cases q; cases qs; exact ⟨n, rfl, hb.1, hb.2, h1 _ H1 B1 R1 (Step.refl _ _) .rng⟩
    · exact h1.elim
  · exact h1.elim
theorem snd_rng2 {a b : Expr} {oa : O1} {p pos : Pos} (hg : Gl X "range") (hm : X.mg "range" = none) (ha : PA X [a, b] (denA c E oa)) (hs : starEach [a, b] X.env = [(false, eval a X.env), (false, eval b X.env)]) (hs2 : starEach [b] X.env = [(false, eval b X.env)]) :
    PI X tg (.Call (.Name "range" p) [a, b] [] pos) (denI c E (oRng2 oa)) := by
  refine pi_mono (pi_range2 hg hm ha hs hs2) fun σ H Q ⟨r, B, R, h⟩ => ⟨r, B, R, bndA ppI h fun ds r1 vs H1 B1 er R1 S1 q1 h1 => ?_⟩
  clear er
  split at h1
  · rename_i m n
    split at h1
    · rename_i hb
      cases q1 with
      | cons q qs =>
        cases q
        cases qs with
        | cons q qs => cases q; cases qs; exact ⟨m, n, rfl, ⟨hb.1.1, hb.1.2, hb.2.1, hb.2.2⟩, h1 _ H1 B1 R1 (Step.refl _ _) .rng⟩
    · exact h1.elim
  · exact h1.elim
theorem snd_zip {a b : Expr} {elts : List Expr} {kk : Nat} {oa : O1} {p pos tpos : Pos} (hK : X.K = c.K) (hg : Gl X "zip") (hm : X.mg "zip" = none) (ha : PA X [a, b] (denA c E oa)) (hs : starEach [a, b] X.env = (false, eval a X.env) :: starEach [b] X.env)
    (hpl : (backTo pos (starEach [b] X.env)).any (·.1) = false) : PI X (.Tuple elts kk tpos) (.Call (.Name "zip" p) [a, b] [] pos) (denI c E (oZip oa)) := by
  refine pi_mono (pi_zipG hg hm ha hs hpl) fun σ H Q ⟨r, B, R, h⟩ => ⟨r, B, R, bndA ppI h fun ds r1 vs H1 B1 er R1 S1 q1 h1 => ?_⟩
  clear er
  split at h1
  · rename_i d e
    split at h1
    · rename_i k1 xs k2 ys e1 e2
      cases q1 with
      | cons q qs =>
        cases qs with
        | cons q' qs =>
          cases qs
          obtain ⟨a, ax, rfl, hq, rs, hs⟩ := q.sq e1
          obtain ⟨b, bx, rfl, hq2, rs2, hs2⟩ := q'.sq e2
          rw [hK]
          exact ⟨a, b, ax, bx, k1, k2, rfl, hq, hq2, h1 _ H1 B1 R1 (Step.refl _ _) (.zip hs hs2 rs rs2)⟩
    · exact h1.elim
  · exact h1.elim
theorem snd_enum {a : Expr} {elts : List Expr} {kk : Nat} {oa : O1} {p pos tpos : Pos} (hK : X.K = c.K) (hg : Gl X "enumerate") (hm : X.mg "enumerate" = none) (ha : PA X [a] (denA c E oa)) (hs : starEach [a] X.env = [(false, eval a X.env)]) :
    PI X (.Tuple elts kk tpos) (.Call (.Name "enumerate" p) [a] [] pos) (denI c E (oEnum oa)) := by
  refine pi_mono (pi_enumG hg hm ha hs) fun σ H Q ⟨r, B, R, h⟩ => ⟨r, B, R, bndA ppI h fun ds r1 vs H1 B1 er R1 S1 q1 h1 => ?_⟩
  clear er
  split at h1
  · rename_i d
    split at h1
    · rename_i k1 xs e1
      cases q1 with
      | cons q qs =>
        cases qs
        obtain ⟨a, ax, rfl, hq, rs, hs⟩ := q.sq e1
        rw [hK]
        exact ⟨a, ax, k1, rfl, hq, h1 _ H1 B1 R1 (Step.refl _ _) (.enum hs rs)⟩
    · exact h1.elim
  · exact h1.elim

/-! ### for, while -/
def forGo (f : Bd) (b : O1) : List D → O1
  | [] => fun r => .nxt r
  | d :: ds => fun r => match f d r with
    | none => .bad
    | some r1 => match b r1 with
      | .nxt r2 => forGo f b ds r2
      | .cnt r2 => forGo f b ds r2
      | .brk r2 => .nxt r2
      | .ret e r2 => .ret e r2
      | .retF e r2 => .retF e r2
      | .exc n e => .exc n e
      | _ => .bad
def oFor (it : O1) (f : Bd) (b : O1) : O1 := fun r => (it r).bnds fun ds r1 => forGo f b ds r1
theorem for_step {f : Bd} {b : O1} {d : D} {ds : List D} {r : Rho} {B : Av} {H : Hp} {G : Ends} (h : PostS c E B H G (forGo f b (d :: ds) r)) :
    ∃ r1, f d r = some r1 ∧ PostS c E B H { G with nx := denS c E (forGo f b ds) G, ct := denS c E (forGo f b ds) G, bk := G.nx } (b r1) := by
  unfold forGo at h
  cases e : f d r with
  | none => rw [e] at h; exact h.elim
  | some r1 =>
    rw [e] at h
    refine ⟨r1, rfl, ?_⟩
    dsimp only at h
    cases e2 : b r1 with
    | nxt r2 => rw [e2] at h; exact fun σ' H' B' R' S' => ⟨r2, B', R', ppS.frm _ _ _ _ _ S' h⟩
    | cnt r2 => rw [e2] at h; exact fun σ' H' B' R' S' => ⟨r2, B', R', ppS.frm _ _ _ _ _ S' h⟩
    | brk r2 => rw [e2] at h; exact h
    | ret _ _ => rw [e2] at h; exact h
    | retF _ _ => rw [e2] at h; exact h
    | exc _ _ => rw [e2] at h; exact h
    | val _ _ => rw [e2] at h; exact h.elim
    | vals _ _ => rw [e2] at h; exact h.elim
    | bad => rw [e2] at h; exact h.elim
theorem snd_for {iter : Expr} {body : List Stmt} {it b : O1} {f : Bd} {T : List Nat} {pos : Pos} (hp : PassesOwn (model X.prog X.w) X.A X.env X.xe) (hc : X.calm = true) (hi : PI X tg iter (denI c E it)) (hg : PG X tg (denG c T f)) (hb : PSs X body (denS c E b))
    (hs : ∀ x, foldedSetIterable iter X.env x = pure x) : PS X (.For tg iter body [] pos) (denS c E (oFor it f b)) := by
  refine ps_mono (ps_for hp hc hi hg hb hs) fun G σ H ⟨r, B, R, h⟩ => ?_
  refine ⟨r, B, R, ?_⟩
  unfold oFor at h
  cases e0 : it r with
  | exc n d => rw [e0] at h; exact h
  | vals ds r1 =>
    rw [e0] at h
    have h : PostS c E B H G (forGo f b ds r1) := h
    intro J H1 B1 R1 S1 w
    refine ⟨fun i m σ' H' => m = ds.length - i ∧ i ≤ ds.length ∧ ∃ r' B', Rel c r' B' σ' H' ∧ Step B1 H1 B' H' ∧ PostS c E B' H' G (forGo f b (ds.drop i) r'),
      ⟨ds.length, by simp, Nat.zero_le _, r1, B1, R1, Step.refl _ _, ppS.frm _ _ _ _ _ S1 h⟩, ?_⟩
    rintro i m σ' H' ⟨rfl, hi, r', B', R', S', h'⟩
    have vs := R1.v S'
    by_cases hlt : i < ds.length
    · refine .inr ⟨w.goes _ _ i vs hlt, fun σ'' H'' => ∃ r'' B'', Rel c r'' B'' σ'' H'' ∧ Step B1 H1 B'' H'' ∧ PostS c E B'' H'' G (forGo f b (ds.drop (i + 1)) r''), fun σ'' H'' q => ⟨ds.length - (i + 1), by omega, rfl, hlt, q⟩, fun x H2 y => ?_⟩
      obtain ⟨d, ed, ex, q⟩ := w.yields _ _ i x H2 vs (fun p hp => R'.fresh hp) hlt y
      have dr : ds.drop i = d :: ds.drop (i + 1) := by
        have hd : ds[i] = d := by
          have := ed
          rw [List.getElem?_eq_getElem hlt] at this
          exact Option.some.inj this
        rw [← hd]; exact List.drop_eq_getElem_cons hlt
      rw [dr] at h'
      obtain ⟨r2, ef, h2⟩ := for_step h'
      refine ⟨r', B', d, R'.ext ex, q, ?_⟩
      rw [ef]
      intro σ3 H3 B3 R3 S3 _
      have S13 : Step B1 H1 B3 H3 := S'.trans (ex.step.trans S3)
      refine ⟨r2, B3, R3, ?_⟩
      have h3 := ppS.frm _ _ _ _ _ (ex.step.trans S3) h2
      cases e4 : b r2 with
      | nxt r4 => rw [e4] at h3; exact fun σ4 H4 B4 R4 S4 => ⟨r4, B4, R4, S13.trans S4, by
          have h5 : PostS c E B' H' { G with nx := denS c E (forGo f b (ds.drop (i + 1))) G, ct := denS c E (forGo f b (ds.drop (i + 1))) G, bk := G.nx } (b r2) := h2
          unfold forGo at h'
          rw [ef] at h'
          dsimp only at h'
          rw [e4] at h'
          exact ppS.frm _ _ _ _ _ ((ex.step.trans S3).trans S4) h'⟩
      | cnt r4 => rw [e4] at h3; exact fun σ4 H4 B4 R4 S4 => ⟨r4, B4, R4, S13.trans S4, by
          unfold forGo at h'
          rw [ef] at h'
          dsimp only at h'
          rw [e4] at h'
          exact ppS.frm _ _ _ _ _ ((ex.step.trans S3).trans S4) h'⟩
      | brk r4 => rw [e4] at h3; exact h3
      | ret _ _ => rw [e4] at h3; exact h3
      | retF _ _ => rw [e4] at h3; exact h3
      | exc _ _ => rw [e4] at h3; exact h3
      | val _ _ => rw [e4] at h3; exact h3.elim
      | vals _ _ => rw [e4] at h3; exact h3.elim
      | bad => rw [e4] at h3; exact h3.elim
    · have e : i = ds.length := by omega
      subst e
      rw [List.drop_length] at h'
      exact .inl ⟨w.stops _ _ vs, h' σ' H' B' R' (Step.refl _ _)⟩
  | _ => rw [e0] at h; exact h.elim
def whGo (t b : O1) : Nat → O1
  | 0 => fun _ => .bad
  | n + 1 => fun r => (t r).bndb fun k r1 => if k = true then (match b r1 with
      | .nxt r2 => whGo t b n r2
      | .cnt r2 => whGo t b n r2
      | .brk r2 => .nxt r2
      | .ret e r2 => .ret e r2
      | .retF e r2 => .retF e r2
      | .exc n e => .exc n e
      | _ => .bad) else .nxt r1
theorem snd_while {t : Expr} {body : List Stmt} {ot ob : O1} {n : Nat} {pos : Pos} (hp : PassesOwn (model X.prog X.w) X.A X.env X.xe) (ht : PT X t (denT c E ot)) (hb : PSs X body (denS c E ob)) :
    PS X (.While t body [] pos) (denS c E (whGo ot ob n)) := by
  refine ps_mono (ps_while hp ht hb) fun G σ H ⟨r, B, R, h⟩ => ?_
  refine ⟨fun m σ' H' => ∃ r' B', Rel c r' B' σ' H' ∧ PostS c E B' H' G (whGo ot ob m r'), ⟨n, r, B, R, h⟩, ?_⟩
  rintro m σ' H' ⟨r', B', R', h'⟩
  cases m with
  | zero => exact h'.elim
  | succ m =>
    refine ⟨r', B', R', bndT ppS h' fun k r1 H1 B1 _ R1 S1 h1 => ?_⟩
    cases k with
    | false => exact h1 σ' H1 B1 R1 (Step.refl _ _)
    | true =>
      refine ⟨fun σ'' H'' => ∃ r'' B'', Rel c r'' B'' σ'' H'' ∧ PostS c E B'' H'' G (whGo ot ob m r''), fun σ'' H'' q => ⟨m, Nat.lt_succ_self _, q⟩, r1, B1, R1, ?_⟩
      simp only [if_true] at h1
      cases e : ob r1 with
      | nxt r2 => rw [e] at h1; exact fun σ2 H2 B2 R2 S2 => ⟨r2, B2, R2, ppS.frm _ _ _ _ _ S2 h1⟩
      | cnt r2 => rw [e] at h1; exact fun σ2 H2 B2 R2 S2 => ⟨r2, B2, R2, ppS.frm _ _ _ _ _ S2 h1⟩
      | brk r2 => rw [e] at h1; exact h1
      | ret _ _ => rw [e] at h1; exact h1
      | retF _ _ => rw [e] at h1; exact h1
      | exc _ _ => rw [e] at h1; exact h1
      | val _ _ => rw [e] at h1; exact h1.elim
      | vals _ _ => rw [e] at h1; exact h1.elim
      | bad => rw [e] at h1; exact h1.elim
end
end Py

/-! Py, part F: list comprehensions, one clause and two. -/
namespace Py
open PySem L2

def wipeR (r : Rho) : List Nat → Rho
  | [] => r
  | v :: vs => (wipeR r vs).set v .un
def restR (r0 : Rho) (r : Rho) : List Nat → Rho
  | [] => r
  | v :: vs => match r0[v]? with
    | some s => (restR r0 r vs).set v s
    | none => restR r0 r vs
def okV (r : Rho) (vs : List Nat) : Bool := vs.all fun v => match r[v]? with
  | some s => !s.excl
  | none => true
abbrev EN : EX := fun _ _ _ => False
theorem wipe_in {σ : St} : ∀ {vs : List Nat} {i : Nat}, i ∈ vs → i < σ.length → (wipe σ vs)[i]? = some none
  | [], _, h, _ => by simp at h
  | v :: vs, i, h, hl => by
    unfold wipe
    by_cases e : v = i
    · subst e; rw [List.getElem?_set_self (by rw [wipe_length]; exact hl)]
    · rw [List.getElem?_set_ne e]
      exact wipe_in ((List.mem_cons.mp h).elim (fun z => absurd z.symm e) id) hl
theorem wipe_ext {σ σ' : St} {vs : List Nat} (hl : σ'.length = σ.length) (h : ∀ i, i ∉ vs → σ'[i]? = σ[i]?) : wipe σ' vs = wipe σ vs := by
  apply List.ext_getElem?
  intro i
  by_cases hi : i ∈ vs
  · by_cases hlt : i < σ.length
    · rw [wipe_in hi hlt, wipe_in hi (by rw [hl]; exact hlt)]
    · rw [List.getElem?_eq_none (by rw [wipe_length]; omega), List.getElem?_eq_none (by rw [wipe_length]; omega)]
  · rw [wipe_out hi, wipe_out hi, h i hi]
theorem wipeR_length (r : Rho) : ∀ vs, (wipeR r vs).length = r.length
  | [] => rfl
  | v :: vs => by unfold wipeR; rw [List.length_set, wipeR_length r vs]
theorem wipeR_some {r : Rho} {i : Nat} {s : Slot} : ∀ {vs : List Nat}, (wipeR r vs)[i]? = some s → s = .un ∨ (r[i]? = some s ∧ i ∉ vs)
  | [], h => .inr ⟨h, by simp⟩
  | v :: vs, h => by
    unfold wipeR at h
    by_cases e : v = i
    · subst e
      by_cases hl : v < (wipeR r vs).length
      · rw [List.getElem?_set_self hl] at h; cases h; exact .inl rfl
      · rw [List.getElem?_eq_none (by simpa using hl)] at h; cases h
    · rw [List.getElem?_set_ne e] at h
      rcases wipeR_some h with z | ⟨z, n⟩
      · exact .inl z
      · exact .inr ⟨z, by simp only [List.mem_cons, not_or]; exact ⟨fun q => e q.symm, n⟩⟩
theorem restR_length (r0 r : Rho) : ∀ vs, (restR r0 r vs).length = r.length
  | [] => rfl
  | v :: vs => by
    unfold restR
    split
    · rw [List.length_set, restR_length r0 r vs]
    · exact restR_length r0 r vs
theorem restR_some {r0 r : Rho} {i : Nat} {s : Slot} : ∀ {vs : List Nat}, (restR r0 r vs)[i]? = some s → (i ∈ vs ∧ r0[i]? = some s) ∨ (r[i]? = some s ∧ (i ∉ vs ∨ r0[i]? = none))
  | [], h => .inr ⟨h, .inl (by simp)⟩
  | v :: vs, h => by
    unfold restR at h
    split at h
    · rename_i s0 e0
      by_cases e : v = i
      · subst e
        by_cases hl : v < (restR r0 r vs).length
        · rw [List.getElem?_set_self hl] at h; cases h; exact .inl ⟨by simp, e0⟩
        · rw [List.getElem?_eq_none (by simpa using hl)] at h; cases h
      · rw [List.getElem?_set_ne e] at h
        rcases restR_some h with ⟨m, z⟩ | ⟨z, n⟩
        · exact .inl ⟨List.mem_cons_of_mem _ m, z⟩
        · refine .inr ⟨z, n.imp (fun n => ?_) id⟩
          simp only [List.mem_cons, not_or]; exact ⟨fun q => e q.symm, n⟩
    · rename_i e0
      rcases restR_some h with ⟨m, z⟩ | ⟨z, n⟩
      · exact .inl ⟨List.mem_cons_of_mem _ m, z⟩
      · by_cases e : i = v
        · subst e; exact .inr ⟨z, .inr e0⟩
        · exact .inr ⟨z, n.imp (fun n => by simp only [List.mem_cons, not_or]; exact ⟨e, n⟩) id⟩
section
variable {c : Cfg} {r : Rho} {B : Av} {σ : St} {H : Hp}
theorem Rel.wipe (R : Rel c r B σ H) (vs : List Nat) : Rel c (wipeR r vs) B (L2.wipe σ vs) H := by
  refine ⟨by rw [wipeR_length, wipe_length]; exact R.len, ?_, ?_, R.mb, R.bk, R.b0, R.b0h, R.bsub, R.msub, R.i0, R.fr, R.dom⟩
  · intro i s o h1 h2
    rcases wipeR_some h1 with z | ⟨z, n⟩
    · subst z; trivial
    · rw [wipe_out n] at h2; exact R.slot i s o z h2
  · intro i j s t a hne h1 h2 e1 e2 h3 h4
    rcases wipeR_some h1 with z | ⟨z, n⟩
    · subst z; cases e1
    · rcases wipeR_some h2 with y | ⟨y, m⟩
      · subst y; cases e2
      · rw [wipe_out n] at h3
        rw [wipe_out m] at h4
        exact R.apart i j s t a hne z y e1 e2 h3 h4
/-- behind the block the names of the block are what they were -/
theorem Rel.rest {r0 : Rho} {B0 : Av} {H0 : Hp} {vs : List Nat} (R0 : Rel c r0 B0 σ H0) (ok : okV r0 vs = true) (R : Rel c r B (L2.wipe σ vs) H) (S : Step B0 H0 B H) : Rel c (restR r0 r vs) B σ H := by
  have ln : r.length = σ.length := by have := R.len; rw [wipe_length] at this; exact this
  have nx : ∀ i s, i ∈ vs → r0[i]? = some s → s.excl = false := fun i s hm e => by
    have q := List.all_eq_true.mp ok i hm
    rw [e] at q
    simpa using q
  refine ⟨by rw [restR_length]; exact ln, ?_, ?_, R.mb, R.bk, R.b0, R.b0h, R.bsub, R.msub, R.i0, R.fr, R.dom⟩
  · intro i s o h1 h2
    rcases restR_some h1 with ⟨m, z⟩ | ⟨z, n⟩
    · have q := R0.slot i s o z h2
      have ex := nx i s m z
      cases s with
      | un => trivial
      | val d => obtain ⟨v, e1, q⟩ := q; exact ⟨v, e1, q.step (R0.v S)⟩
      | own d => cases ex
      | io d => cases ex
      | fz d => obtain ⟨v, e1, q1⟩ := q; exact ⟨v, e1, q1.step (R0.v S)⟩
      | scr ns => obtain ⟨b, e1, q1⟩ := q; exact ⟨b, e1, q1.step (R0.v S)⟩
    · rcases n with n | n
      · exact R.slot i s o z (by rw [wipe_out n]; exact h2)
      · have hi : i < σ.length := (List.getElem?_eq_some_iff.mp h2).1
        have : i < r0.length := by rw [R0.len]; exact hi
        rw [List.getElem?_eq_getElem this] at n; cases n
  · intro i j s t a hne h1 h2 e1 e2 h3 h4
    rcases restR_some h1 with ⟨m, z⟩ | ⟨z, n⟩
    · have := nx i s m z; rw [e1] at this; cases this
    · rcases restR_some h2 with ⟨m', z'⟩ | ⟨z', n'⟩
      · have := nx j t m' z'; rw [e2] at this; cases this
      · have li : i ∉ vs := n.elim id fun n => absurd n (by
          have hi : i < σ.length := (List.getElem?_eq_some_iff.mp h3).1
          rw [List.getElem?_eq_getElem (by rw [R0.len]; exact hi)]; simp)
        have lj : j ∉ vs := n'.elim id fun n => absurd n (by
          have hi : j < σ.length := (List.getElem?_eq_some_iff.mp h4).1
          rw [List.getElem?_eq_getElem (by rw [R0.len]; exact hi)]; simp)
        exact R.apart i j s t a hne z z' e1 e2 (by rw [wipe_out li]; exact h3) (by rw [wipe_out lj]; exact h4)
/-- a private thing is changed -/
theorem Rel.updP (R : Rel c r B σ H) {p : Addr} {o : HO} (hb : B.b p) (hm : ¬ B.m p) (h0 : c.H0 p = none) : Rel c r B σ (upd H p o) := by
  have st : Vst B H B (upd H p o) := ⟨fun a u nb e => by rw [upd_ne (fun z => nb (by rw [z]; exact hb))]; exact e, fun _ h => .inl h⟩
  refine ⟨R.len, ?_, R.apart, R.mb, fun a b => ?_, R.b0, R.b0h, R.bsub, R.msub, R.i0, fun a u n e => ?_, fun a u e => ?_⟩
  · intro i s u h1 h2
    have q := R.slot i s u h1 h2
    cases s with
    | un => trivial
    | val d => obtain ⟨v, e1, q⟩ := q; exact ⟨v, e1, q.step st⟩
    | own d => obtain ⟨a, e1, q1, q2, q3⟩ := q; exact ⟨a, e1, q1, q2, q3.step st fun u e => by rw [upd_ne (fun z => hm (by rw [← z]; exact q1))]; exact e⟩
    | io d => obtain ⟨e1, q1, q2, q3⟩ := q; exact ⟨e1, q1, q2, q3.step st fun u e => by rw [upd_ne (fun z => hm (by rw [← z]; exact q1))]; exact e⟩
    | fz d => obtain ⟨v, e1, q1⟩ := q; exact ⟨v, e1, q1.step st⟩
    | scr ns => obtain ⟨a, e1, q1⟩ := q; exact ⟨a, e1, q1.step st⟩
  · by_cases z : a = p
    · rw [z]; exact ⟨o, upd_same⟩
    · rw [upd_ne z]; exact R.bk a b
  · rw [upd_ne (fun z => by rw [z, h0] at e; cases e)]; exact R.fr a u n e
  · rw [upd_ne (fun z => by rw [z, h0] at e; cases e)]; exact R.dom a u e
/-- what was private is a value -/
theorem unpriv {E : EX} {Q : VK} {o : Out} {B0 : Av} {H0 : Hp} {r0 : Rho} (R0 : Rel c r0 B0 σ H0) (h : PostE c E σ B0 H0 Q o) : PostF c E σ B0 H0 Q o := by
  cases o with
  | val d r =>
    intro p H' B' R S hb hm hn ct
    have s : ∀ x, (B'.less p).b x → B'.b x := fun x h => h.1
    have st : Step B0 H0 (B'.less p) H' := ⟨S.stay, fun a o b nm e => ⟨S.keep a o b nm e, fun z => by rw [z, hn] at e; cases e⟩, S.dom, fun a h => S.sub a h.1, fun a h => S.subm a h.1⟩
    refine h _ H' (B'.less p) ⟨R.len, ?_, R.apart, fun x b => ⟨R.mb x b.1, b.2⟩, fun x b => R.bk x b.1, fun x b => ⟨R.b0 x b, fun z => ?_⟩, R.b0h, fun x b => R.bsub x b.1, fun x b => R.msub x b.1, R.i0, R.fr, R.dom⟩ st ?_
    · intro i t u h1 h2
      have q := R.slot i t u h1 h2
      cases t with
      | un => trivial
      | val d => obtain ⟨v, e1, q⟩ := q; exact ⟨v, e1, q.step (subV s)⟩
      | own d => obtain ⟨a, e1, q1, q2, q3⟩ := q; exact ⟨a, e1, ⟨q1, fun z => hm (by rw [← z]; exact q1)⟩, q2, q3.sub s⟩
      | io d => obtain ⟨e1, q1, q2, q3⟩ := q; exact ⟨e1, ⟨q1, fun z => hm (by rw [← z]; exact q1)⟩, q2, q3.sub s⟩
      | fz d => obtain ⟨v, e1, q1⟩ := q; exact ⟨v, e1, q1.step ⟨fun _ _ _ e => e, fun _ z => .inl z.1⟩⟩
      | scr ns => obtain ⟨a, e1, q1⟩ := q; exact ⟨a, e1, q1.step ⟨fun _ _ _ e => e, fun _ z => .inl z.1⟩⟩
    · obtain ⟨o, q⟩ := R.b0h x b
      rw [z, R0.fresh0 hn] at q; cases q
    · cases ct with
      | lst e rs => exact .lst (fun z => z.2 rfl) e (rs.step (subV s))
      | dK e rs => exact .dK (fun z => z.2 rfl) (.inl e) (rs.step (subV s))
      | dT e rs => exact .dT (fun z => z.2 rfl) (.inl e) (rs.step (subV s))
  | exc n d => exact h
  | _ => exact h.elim
end
theorem snd_ofF {X : Cx} {c : Cfg} {E : EX} {e : Expr} {o : O1} (h : PE X e (denF c E o)) : PE X e (denE c E o) := pe_mono h fun σ H Q ⟨r, B, R, h⟩ => ⟨r, B, R, unpriv R h⟩

def lcIn (vs : List Nat) (f : Bd) (t e : O1) : List D → List D → Rho → Option (List D × Rho)
  | [], acc, r => some (acc, r)
  | d :: ds, acc, r => match f d r with
    | none => none
    | some r1 => match t r1 with
      | .val (.bool true) r2 => match e r2 with
        | .val y r3 => if acc.length < lim then lcIn vs f t e ds (acc ++ [y]) (wipeR r3 vs) else none
        | _ => none
      | .val (.bool false) r2 => lcIn vs f t e ds acc (wipeR r2 vs)
      | _ => none
def lcEnd (r0 : Rho) (vs : List Nat) (o : Option (List D × Rho)) : Out := match o with
  | some (acc, r) => .val (.list acc) (restR r0 r vs)
  | none => .bad
def oLc (vs : List Nat) (it : O1) (f : Bd) (t e : O1) : O1 := fun r => (it r).bnds fun ds r1 => if okV r1 vs = true then lcEnd r1 vs (lcIn vs f t e ds [] (wipeR r1 vs)) else .bad
theorem Vst.go {B0 B B' : Av} {H0 H H' : Hp} (v : Vst B0 H0 B H) (S : Step B H B' H') (mb : ∀ a, B.m a → B.b a) : Vst B0 H0 B' H' where
  stay a o nb e := S.stay a o (fun z => v.nb nb e (mb a z)) (v.stay a o nb e)
  sub a h := by
    rcases S.sub a h with q | q
    · exact v.sub a q
    · by_cases hb : B0.b a
      · exact .inl hb
      · right
        cases z : H0 a with
        | none => rfl
        | some o => rw [v.stay a o hb z] at q; cases q
/-- the state within a comprehension whose list stands at p, made behind (B1, H1); (Bw, Hw): where the walk began -/
structure LS (c : Cfg) (p : Addr) (B1 : Av) (H1 : Hp) (Bw : Av) (Hw : Hp) (σ : St) (r : Rho) (B : Av) (H : Hp) (acc : List D) : Prop where
  R : Rel c r B σ H
  ct : ∃ xs, H p = some (.lst xs) ∧ Reps c.K B H acc xs
  hb : B.b p
  hm : ¬ B.m p
  h0 : c.H0 p = none
  h1 : H1 p = none
  S : Step B1 H1 B H
  hw : Bw.b p ∨ Hw p = none
  vw : Vst Bw Hw B H
section
variable {X : Cx} {c : Cfg} {p : Addr} {B1 Bw B B' : Av} {H1 Hw H H' : Hp} {σ σ' : St} {r r' : Rho} {acc : List D}
theorem LS.go (h : LS c p B1 H1 Bw Hw σ r B H acc) (R : Rel c r' B' σ' H') (S : Step B H B' H') : LS c p B1 H1 Bw Hw σ' r' B' H' acc := by
  obtain ⟨R0, ⟨xs, e, rs⟩, hb, hm, h0, h1, S0, hw, V⟩ := h
  exact ⟨R, ⟨xs, S.stay _ _ hm e, rs.step (R0.v S)⟩, S.keep _ _ hb hm e, fun z => (S.subm _ z).elim hm (fun z => by rw [e] at z; cases z), h0, h1, S0.trans S, hw, V.go S R0.mb⟩
theorem LS.app {y : D} {v : V} (h : LS c p B1 H1 Bw Hw σ r B H acc) (q : Rep c.K B H y v) (hz : acc.length < lim) :
    ∃ xs, H p = some (.lst xs) ∧ xs.length < sizeLine ∧ LS c p B1 H1 Bw Hw σ r B (upd H p (.lst (xs ++ [v]))) (acc ++ [y]) := by
  obtain ⟨R, ⟨xs, e, rs⟩, hb, hm, h0, h1, S, hw, V⟩ := h
  have st : Vst B H B (upd H p (.lst (xs ++ [v]))) := ⟨fun a u nb e => by rw [upd_ne (fun z => nb (by rw [z]; exact hb))]; exact e, fun _ h => .inl h⟩
  refine ⟨xs, e, Nat.lt_of_lt_of_le (by rw [← rs.length]; exact hz) (by decide), R.updP hb hm h0, ⟨_, upd_same, (rs.app (.one q)).step st⟩, hb, hm, h0, h1, ⟨fun a o nm e => ?_, S.keep, fun a o e => ?_, S.sub, S.subm⟩, hw, ⟨fun a o nb e => ?_, V.sub⟩⟩
  · rw [upd_ne (fun z => by rw [z, h1] at e; cases e)]; exact S.stay a o nm e
  · rw [upd_ne (fun z => by rw [z, h1] at e; cases e)]; exact S.dom a o e
  · rw [upd_ne (fun z => by rw [z] at nb e; rcases hw with q | q; exact nb q; rw [q] at e; cases e)]; exact V.stay a o nb e
/-- what is wanted between two turns -/
def NX (c : Cfg) (p : Addr) (B1 : Av) (H1 : Hp) (Bw : Av) (Hw : Hp) (σw : St) (vs : List Nat) (f : Bd) (t e : O1) (res : List D × Rho) (ds : List D) (H : Hp) : Prop :=
  ∃ r B acc, LS c p B1 H1 Bw Hw σw r B H acc ∧ lcIn vs f t e ds acc r = some res
theorem wipe_idem (σ : St) (vs : List Nat) : L2.wipe (L2.wipe σ vs) vs = L2.wipe σ vs := wipe_ext (wipe_length σ vs) fun i h => wipe_out h
theorem lc_turn {vs T : List Nat} {f : Bd} {t e : O1} {g : TG} {tt : TT} {te : TE} {d : D} {ds : List D} {res : List D × Rho} {x : V} {σ0 : St}
    (hg : ∀ v σ H Q, denG c T f v σ H Q → g v σ H Q) (ht : ∀ σ H Q, denT c EN t σ H Q → tt σ H Q) (he : ∀ σ H Q, denE c EN e σ H Q → te σ H Q) (hT : ∀ i ∈ T, i ∈ vs)
    (ls : LS c p B1 H1 Bw Hw (L2.wipe σ0 vs) r B H acc) (hr : lcIn vs f t e (d :: ds) acc r = some res) (ex : Ext H H') (q : Rep c.K B H' d x) :
    g x (L2.wipe σ0 vs) H' fun σ2 H2 => L2.wipe σ2 vs = L2.wipe σ0 vs ∧ tt σ2 H2 fun b H3 => if b = true then te σ2 H3 fun y H4 => ∃ acc, H4 p = some (.lst acc) ∧ acc.length < sizeLine ∧ NX c p B1 H1 Bw Hw (L2.wipe σ0 vs) vs f t e res ds (upd H4 p (.lst (acc ++ [y])))
      else NX c p B1 H1 Bw Hw (L2.wipe σ0 vs) vs f t e res ds H3 := by
  unfold lcIn at hr
  refine hg _ _ _ _ ⟨r, B, d, ls.R.ext ex, q, ?_⟩
  cases ef : f d r with
  | none => rw [ef] at hr; cases hr
  | some r1 =>
    rw [ef] at hr
    dsimp only at hr
    intro σ2 H2 B2 R2 S2 kp
    have l2 : LS c p B1 H1 Bw Hw σ2 r1 B2 H2 acc := ls.go R2 (ex.step.trans S2)
    have hw2 : L2.wipe σ2 vs = L2.wipe σ0 vs := (wipe_ext kp.1 fun i hi => kp.2 i fun z => hi (hT i z)).trans (wipe_idem σ0 vs)
    refine ⟨hw2, ht _ _ _ ⟨r1, B2, R2, ?_⟩⟩
    cases et : t r1 with
    | val dt r2 =>
      rw [et] at hr
      cases dt with
      | bool b =>
        intro H3 B3 R3 S3
        have l3 := l2.go R3 S3
        cases b with
        | false =>
          rw [if_neg (by decide)]
          refine ⟨_, _, _, l3.go (by rw [← hw2]; exact R3.wipe vs) (Step.refl _ _), hr⟩
        | true =>
          rw [if_pos rfl]
          dsimp only at hr
          refine he _ _ _ ⟨r2, B3, R3, ?_⟩
          cases ee : e r2 with
          | val y r3 =>
            rw [ee] at hr
            dsimp only at hr
            intro v H4 B4 R4 S4 q4
            have l4 := l3.go R4 S4
            by_cases hz : acc.length < lim
            · rw [if_pos hz] at hr
              obtain ⟨xs, e1, e2, l5⟩ := l4.app q4 hz
              exact ⟨xs, e1, e2, _, _, _, l5.go (by rw [← hw2]; exact l5.R.wipe vs) (Step.refl _ _), hr⟩
            · rw [if_neg hz] at hr; cases hr
          | _ => rw [ee] at hr; cases hr
      | _ => cases hr
    | _ => rw [et] at hr; cases hr
/-- all turns of one clause -/
theorem lc_turns {vs T : List Nat} {f : Bd} {t e : O1} {g : TG} {tt : TT} {te : TE} {J : It} {ds : List D} {res : List D × Rho} {σ0 : St} {Qd : Hp → Prop}
    (hg : ∀ v σ H Q, denG c T f v σ H Q → g v σ H Q) (ht : ∀ σ H Q, denT c EN t σ H Q → tt σ H Q) (he : ∀ σ H Q, denE c EN e σ H Q → te σ H Q) (hT : ∀ i ∈ T, i ∈ vs)
    (w : Wk c.K Bw Hw J ds) (ls : LS c p B1 H1 Bw Hw (L2.wipe σ0 vs) r B H acc) (hr : lcIn vs f t e ds acc r = some res)
    (hd : ∀ B H, LS c p B1 H1 Bw Hw (L2.wipe σ0 vs) res.2 B H res.1 → Qd H) :
    ∃ W : Nat → Nat → Hp → Prop, (∃ m, W 0 m H) ∧ ∀ i m H, W i m H →
      (J.stop i H ∧ Qd H) ∨ (J.go i H ∧ ∃ Nx : Hp → Prop, (∀ H', Nx H' → ∃ m', m' < m ∧ W (i + 1) m' H') ∧ ∀ x H', J.yld i H x H' → g x (L2.wipe σ0 vs) H' fun σ2 H2 => L2.wipe σ2 vs = L2.wipe σ0 vs ∧ tt σ2 H2 fun b H3 =>
        if b = true then te σ2 H3 fun y H4 => ∃ acc, H4 p = some (.lst acc) ∧ acc.length < sizeLine ∧ Nx (upd H4 p (.lst (acc ++ [y]))) else Nx H3) := by
  refine ⟨fun i m H => m = ds.length - i ∧ i ≤ ds.length ∧ NX c p B1 H1 Bw Hw (L2.wipe σ0 vs) vs f t e res (ds.drop i) H, ⟨ds.length, by simp, Nat.zero_le _, r, B, acc, ls, hr⟩, ?_⟩
  rintro i m H ⟨rfl, hi, r', B', acc', ls', hr'⟩
  by_cases hlt : i < ds.length
  · refine .inr ⟨w.goes _ _ i ls'.vw hlt, NX c p B1 H1 Bw Hw (L2.wipe σ0 vs) vs f t e res (ds.drop (i + 1)), fun H' q => ⟨ds.length - (i + 1), by omega, rfl, hlt, q⟩, fun x H' y => ?_⟩
    obtain ⟨d, ed, ex, q⟩ := w.yields _ _ i x H' ls'.vw (fun p hp => ls'.R.fresh hp) hlt y
    have dr : ds.drop i = d :: ds.drop (i + 1) := by
      have hd : ds[i] = d := by
        rw [List.getElem?_eq_getElem hlt] at ed
        exact Option.some.inj ed
      rw [← hd]; exact List.drop_eq_getElem_cons hlt
    rw [dr] at hr'
    exact lc_turn hg ht he hT ls' hr' ex q
  · have e : i = ds.length := by omega
    subst e
    rw [List.drop_length] at hr'
    cases hr'
    exact .inl ⟨w.stops _ _ ls'.vw, hd _ _ ls'⟩
end
section
variable {X : Cx} {c : Cfg} {E : EX}
theorem lc_go {own : List Nat} {T : List Nat} {it : O1} {f : Bd} {t e : O1} {g : TG} {tt : TT} {te : TE} (hg : ∀ v σ H Q, denG c T f v σ H Q → g v σ H Q) (ht : ∀ σ H Q, denT c EN t σ H Q → tt σ H Q) (he : ∀ σ H Q, denE c EN e σ H Q → te σ H Q) (hT : ∀ i ∈ T, i ∈ own)
    {σ : St} {H : Hp} {Q : VK} (h : denF c E (oLc own it f t e) σ H Q) : tLc (denI c E it) g tt te own σ H Q := by
  obtain ⟨r, B, R, h⟩ := h
  refine ⟨r, B, R, ?_⟩
  unfold oLc at h
  cases e0 : it r with
  | exc n d => rw [e0] at h; exact h
  | vals ds r1 =>
    rw [e0] at h
    intro J H1 B1 R1 S1 w
    have h : PostF c E σ B H Q (if okV r1 own = true then lcEnd r1 own (lcIn own f t e ds [] (wipeR r1 own)) else .bad) := h
    by_cases ok : okV r1 own = true
    · rw [if_pos ok] at h
      cases er : lcIn own f t e ds [] (wipeR r1 own) with
      | none => rw [er] at h; exact h.elim
      | some res =>
        rw [er] at h
        intro p hp
        have R2 := (R1.wipe own).alloc (o := .lst []) hp
        have S2 := privStep (B := B1) (o := .lst []) hp
        refine lc_turns hg ht he hT w (B1 := B1) (H1 := H1) (Bw := B1) (Hw := H1) (r := wipeR r1 own) (B := B1.priv p) (acc := [])
          ⟨R2, ⟨[], upd_same, .nil⟩, .inr rfl, fun z => R1.fresh hp (R1.mb p z), R1.fresh0 hp, hp, S2, .inr hp, S2.v R1.mb⟩ er fun B3 H3 l3 => ?_
        obtain ⟨xs, e3, rs⟩ := l3.ct
        exact h p H3 B3 (R1.rest ok l3.R l3.S) (S1.trans l3.S) l3.hb l3.hm (S1.back hp) (.lst e3 rs)
    · rw [if_neg ok] at h; exact h.elim
  | _ => rw [e0] at h; exact h.elim
/-- what a comprehension's block asks -/
structure Blk (X : Cx) (own : List (Str × Nat)) (scope : Scope) : Prop where
  calm : X.calm = true
  nd : X.N.Nodup
  ok : BlkOk X.N X.env.scope scope own
abbrev Cx.inB (X : Cx) (scope : Scope) (P : Cx → Prop) : Prop := ∀ (s : Shared) (H : Hp) (C : Addr) (cl : List (Str × Addr)) (fp : List Addr), P (X.blk s H scope (PySem.compEnvC scope cl C X.env) fp)
theorem pts_mono {X : Cx} {ifs : List Expr} {t t' : TT} (h : PTs X ifs t) (m : ∀ σ H Q, t' σ H Q → t σ H Q) : PTs X ifs t' := ⟨fun pins s σ H Q I q => h.run pins s σ H Q I (m σ H Q q)⟩
def oYes : O1 := fun r => .val (.bool true) r
theorem snd_tyes : PTs X [] (denT c E oYes) := pts_mono pts_nil fun σ H Q ⟨r, B, R, h⟩ => h H B R (Step.refl _ _)
theorem snd_lcF {elt tg iter : Expr} {ifs : List Expr} {scope : Scope} {own : List (Str × Nat)} {pos : Pos} {it t e : O1} {f : Bd} {T : List Nat} (k : Blk X own scope) (hi : PI X tg iter (denI c E it))
    (hg : Cx.inB X scope fun Y => PG Y tg (denG c T f)) (ht : Cx.inB X scope fun Y => PTs Y ifs (denT c EN t)) (he : Cx.inB X scope fun Y => PE Y elt (denE c EN e)) (hT : ∀ i ∈ T, i ∈ own.map (·.2)) (hs : ∀ x, foldedSetIterable iter X.env x = pure x) :
    PE X (.ListComp elt [⟨tg, iter, ifs, 0⟩] scope pos) (denF c E (oLc (own.map (·.2)) it f t e)) :=
  pe_mono (pe_lc k.calm k.nd hi k.ok hg ht he hs) fun σ H Q h => lc_go (fun _ _ _ _ q => q) (fun _ _ _ q => q) (fun _ _ _ q => q) hT h
/-- y = [..] of the block's own form: stored within the block -/
theorem snd_setLcF {i : Nat} {y : Str} {py : Pos} {elt tg iter : Expr} {ifs : List Expr} {scope : Scope} {own : List (Str × Nat)} {pos spos : Pos} {it t e : O1} {f : Bd} {T : List Nat} (k : Blk X own scope) (hy : X.N[i]? = some y) (hyl : X.env.scope.names.lookup y = some .local)
    (hsw : swapsWith (.ListComp elt [⟨tg, iter, ifs, 0⟩] scope pos) (some (.Name y py)) spos.line X.env = pure true) (hi : PI X tg iter (denI c E it))
    (hg : Cx.inB X scope fun Y => PG Y tg (denG c T f)) (ht : Cx.inB X scope fun Y => PTs Y ifs (denT c EN t)) (he : Cx.inB X scope fun Y => PE Y elt (denE c EN e)) (hT : ∀ i ∈ T, i ∈ own.map (·.2)) (hs : ∀ x, foldedSetIterable iter X.env x = pure x) :
    PS X (.Assign [.Name y py] (.ListComp elt [⟨tg, iter, ifs, 0⟩] scope pos) spos) (denS c E (oSetO i (oLc (own.map (·.2)) it f t e))) :=
  ps_mono (ps_setLc k.calm k.nd hy hyl hsw hi k.ok hg ht he hs) fun G σ H ⟨r, B, R, h⟩ =>
    lc_go (c := c) (E := E) (fun _ _ _ _ q => q) (fun _ _ _ q => q) (fun _ _ _ q => q) hT ⟨r, B, R, setO_go (k := oBad) (fun p hp => R.fresh0 hp) h⟩
theorem snd_setLc {i : Nat} {y : Str} {py : Pos} {elt tg iter : Expr} {ifs : List Expr} {scope : Scope} {own : List (Str × Nat)} {pos spos : Pos} {it t e : O1} {f : Bd} {T : List Nat} (k : Blk X own scope) (hy : X.N[i]? = some y) (hyl : X.env.scope.names.lookup y = some .local)
    (hsw : swapsWith (.ListComp elt [⟨tg, iter, ifs, 0⟩] scope pos) (some (.Name y py)) spos.line X.env = pure true) (hi : PI X tg iter (denI c E it))
    (hg : Cx.inB X scope fun Y => PG Y tg (denG c T f)) (ht : Cx.inB X scope fun Y => PTs Y ifs (denT c EN t)) (he : Cx.inB X scope fun Y => PE Y elt (denE c EN e)) (hT : ∀ i ∈ T, i ∈ own.map (·.2)) (hs : ∀ x, foldedSetIterable iter X.env x = pure x) :
    PS X (.Assign [.Name y py] (.ListComp elt [⟨tg, iter, ifs, 0⟩] scope pos) spos) (denS c E (oSet i (oLc (own.map (·.2)) it f t e))) :=
  ps_mono (ps_setLc k.calm k.nd hy hyl hsw hi k.ok hg ht he hs) fun G σ H ⟨r, B, R, h⟩ =>
    lc_go (c := c) (E := E) (fun _ _ _ _ q => q) (fun _ _ _ q => q) (fun _ _ _ q => q) hT ⟨r, B, R, unpriv R (bndE ppS h fun d r1 v H1 B1 _ R1 S1 q1 h1 => h1 _ H1 B1 (R1.setV q1) (Step.refl _ _))⟩

/-! ### two clauses -/
def lcOut (vs vs1 : List Nat) (f : Bd) (t it1 : O1) (f1 : Bd) (t1 e : O1) : List D → List D → Rho → Option (List D × Rho)
  | [], acc, r => some (acc, r)
  | d :: ds, acc, r => match f d r with
    | none => none
    | some r1 => match t r1 with
      | .val (.bool true) r2 => match it1 r2 with
        | .vals es r3 => match lcIn vs1 f1 t1 e es acc (wipeR r3 vs1) with
          | some (acc', r4) => lcOut vs vs1 f t it1 f1 t1 e ds acc' (wipeR r4 vs)
          | none => none
        | _ => none
      | .val (.bool false) r2 => lcOut vs vs1 f t it1 f1 t1 e ds acc (wipeR r2 vs)
      | _ => none
def oLc2 (vs vs1 : List Nat) (it : O1) (f : Bd) (t it1 : O1) (f1 : Bd) (t1 e : O1) : O1 := fun r => (it r).bnds fun ds r1 => if okV r1 vs = true then lcEnd r1 vs (lcOut vs vs1 f t it1 f1 t1 e ds [] (wipeR r1 vs)) else .bad
theorem wipe_wipe {σ : St} {vs vs1 : List Nat} (h : ∀ i ∈ vs1, i ∈ vs) : L2.wipe (L2.wipe σ vs1) vs = L2.wipe σ vs := wipe_ext (wipe_length σ vs1) fun i hi => wipe_out fun z => hi (h i z)
theorem lc2_go {own vs1 : List Nat} {T T1 : List Nat} {it it1 : O1} {f f1 : Bd} {t t1 e : O1} {g g1 : TG} {tt tt1 : TT} {te : TE} {wi1 : TI} (hg : ∀ v σ H Q, denG c T f v σ H Q → g v σ H Q) (ht : ∀ σ H Q, denT c EN t σ H Q → tt σ H Q)
    (hi1 : ∀ σ H Q, denI c EN it1 σ H Q → wi1 σ H Q) (hg1 : ∀ v σ H Q, denG c T1 f1 v σ H Q → g1 v σ H Q) (ht1 : ∀ σ H Q, denT c EN t1 σ H Q → tt1 σ H Q)
    (he : ∀ σ H Q, denE c EN e σ H Q → te σ H Q) (hT : ∀ i ∈ T, i ∈ own) (hT1 : ∀ i ∈ T1, i ∈ vs1) (hv : ∀ i ∈ vs1, i ∈ own)
    {σ : St} {H : Hp} {Q : VK} (h : denF c E (oLc2 own vs1 it f t it1 f1 t1 e) σ H Q) : tLc2 (denI c E it) g tt wi1 g1 tt1 te own vs1 σ H Q := by
  obtain ⟨r, B, R, h⟩ := h
  refine ⟨r, B, R, ?_⟩
  unfold oLc2 at h
  cases e0 : it r with
  | exc n d => rw [e0] at h; exact h
  | vals ds r1 =>
    rw [e0] at h
    intro J H1 B1 R1 S1 w
    have h : PostF c E σ B H Q (if okV r1 own = true then lcEnd r1 own (lcOut own vs1 f t it1 f1 t1 e ds [] (wipeR r1 own)) else .bad) := h
    by_cases ok : okV r1 own = true
    · rw [if_pos ok] at h
      cases er : lcOut own vs1 f t it1 f1 t1 e ds [] (wipeR r1 own) with
      | none => rw [er] at h; exact h.elim
      | some res =>
        rw [er] at h
        intro p hp
        have R2 := (R1.wipe own).alloc (o := .lst []) hp
        have S2 := privStep (B := B1) (o := .lst []) hp
        have l0 : LS c p B1 H1 B1 H1 (L2.wipe σ own) (wipeR r1 own) (B1.priv p) (upd H1 p (.lst [])) [] :=
          ⟨R2, ⟨[], upd_same, .nil⟩, .inr rfl, fun z => R1.fresh hp (R1.mb p z), R1.fresh0 hp, hp, S2, .inr hp, S2.v R1.mb⟩
        refine ⟨fun i m H => m = ds.length - i ∧ i ≤ ds.length ∧ ∃ r B acc, LS c p B1 H1 B1 H1 (L2.wipe σ own) r B H acc ∧ lcOut own vs1 f t it1 f1 t1 e (ds.drop i) acc r = some res, ⟨ds.length, by simp, Nat.zero_le _, _, _, _, l0, er⟩, ?_⟩
        rintro i m H ⟨rfl, hi, r', B', acc', ls', hr'⟩
        by_cases hlt : i < ds.length
        · refine .inr ⟨w.goes _ _ i ls'.vw hlt, fun H => ∃ r B acc, LS c p B1 H1 B1 H1 (L2.wipe σ own) r B H acc ∧ lcOut own vs1 f t it1 f1 t1 e (ds.drop (i + 1)) acc r = some res, fun H' q => ⟨ds.length - (i + 1), by omega, rfl, hlt, q⟩, fun x H' y => ?_⟩
          obtain ⟨d, ed, ex, q⟩ := w.yields _ _ i x H' ls'.vw (fun p hp => ls'.R.fresh hp) hlt y
          have dr : ds.drop i = d :: ds.drop (i + 1) := by
            have hd : ds[i] = d := by
              rw [List.getElem?_eq_getElem hlt] at ed
              exact Option.some.inj ed
            rw [← hd]; exact List.drop_eq_getElem_cons hlt
          rw [dr] at hr'
          unfold lcOut at hr'
          refine hg _ _ _ _ ⟨r', B', d, ls'.R.ext ex, q, ?_⟩
          cases ef : f d r' with
          | none => rw [ef] at hr'; cases hr'
          | some ra =>
            rw [ef] at hr'
            dsimp only at hr'
            intro σ2 H2 B2 R2 S2 kp
            have l2 : LS c p B1 H1 B1 H1 σ2 ra B2 H2 acc' := ls'.go R2 (ex.step.trans S2)
            have hw2 : L2.wipe σ2 own = L2.wipe σ own := (wipe_ext kp.1 fun i hi => kp.2 i fun z => hi (hT i z)).trans (wipe_idem σ own)
            refine ⟨hw2, ht _ _ _ ⟨ra, B2, R2, ?_⟩⟩
            cases et : t ra with
            | val dt rb =>
              rw [et] at hr'
              cases dt with
              | bool b =>
                intro H3 B3 R3 S3
                have l3 := l2.go R3 S3
                cases b with
                | false =>
                  rw [if_neg (by decide)]
                  exact ⟨_, _, _, l3.go (by rw [← hw2]; exact R3.wipe own) (Step.refl _ _), hr'⟩
                | true =>
                  rw [if_pos rfl]
                  dsimp only at hr'
                  refine hi1 _ _ _ ⟨rb, B3, R3, ?_⟩
                  cases ei : it1 rb with
                  | vals es rc =>
                    rw [ei] at hr'
                    dsimp only at hr'
                    intro J1 H4 B4 R4 S4 w1
                    have l4 := l3.go R4 S4
                    cases el : lcIn vs1 f1 t1 e es acc' (wipeR rc vs1) with
                    | none => rw [el] at hr'; cases hr'
                    | some pr =>
                      obtain ⟨acc2, rd⟩ := pr
                      rw [el] at hr'
                      dsimp only at hr'
                      have l5 : LS c p B1 H1 B4 H4 (L2.wipe σ2 vs1) (wipeR rc vs1) B4 H4 acc' :=
                        ⟨R4.wipe vs1, l4.ct, l4.hb, l4.hm, l4.h0, l4.h1, l4.S, .inl l4.hb, ⟨fun _ _ _ e => e, fun _ h => .inl h⟩⟩
                      refine lc_turns hg1 ht1 he hT1 w1 l5 el fun B6 H6 l6 => ?_
                      refine ⟨_, _, _, ⟨?_, l6.ct, l6.hb, l6.hm, l6.h0, l6.h1, l6.S, .inr hp, ?_⟩, hr'⟩
                      · have q6 := l6.R.wipe own
                        rw [wipe_wipe hv, hw2] at q6
                        exact q6
                      · exact ⟨fun a o nb e => l6.vw.stay a o (l4.vw.nb nb e) (l4.vw.stay a o nb e), fun a hb => by
                          rcases l6.vw.sub a hb with z | z
                          · exact l4.vw.sub a z
                          · by_cases hb1 : B1.b a
                            · exact .inl hb1
                            · right
                              cases y : H1 a with
                              | none => rfl
                              | some o => rw [l4.vw.stay a o hb1 y] at z; cases z⟩
                  | exc n d => rw [ei] at hr'; cases hr'
                  | _ => rw [ei] at hr'; cases hr'
              | _ => cases hr'
            | _ => rw [et] at hr'; cases hr'
        · have e : i = ds.length := by omega
          subst e
          rw [List.drop_length] at hr'
          cases hr'
          obtain ⟨xs, e3, rs⟩ := ls'.ct
          exact .inl ⟨w.stops _ _ ls'.vw, h p H _ (R1.rest ok ls'.R ls'.S) (S1.trans ls'.S) ls'.hb ls'.hm (S1.back hp) (.lst e3 rs)⟩
    · rw [if_neg ok] at h; exact h.elim
  | _ => rw [e0] at h; exact h.elim
theorem snd_lc2F {elt tg iter tg1 iter1 : Expr} {ifs ifs1 : List Expr} {scope : Scope} {own : List (Str × Nat)} {vs1 : List Nat} {pos : Pos} {it it1 t t1 e : O1} {f f1 : Bd} {T T1 : List Nat} (k : Blk X own scope) (hv : ∀ i ∈ vs1, i ∈ own.map (·.2)) (hi : PI X tg iter (denI c E it))
    (hg : Cx.inB X scope fun Y => PG Y tg (denG c T f)) (ht : Cx.inB X scope fun Y => PTs Y ifs (denT c EN t)) (hi1 : Cx.inB X scope fun Y => PI Y tg1 iter1 (denI c EN it1)) (hg1 : Cx.inB X scope fun Y => PG Y tg1 (denG c T1 f1)) (ht1 : Cx.inB X scope fun Y => PTs Y ifs1 (denT c EN t1))
    (he : Cx.inB X scope fun Y => PE Y elt (denE c EN e)) (hT : ∀ i ∈ T, i ∈ own.map (·.2)) (hT1 : ∀ i ∈ T1, i ∈ vs1) (hs : ∀ x, foldedSetIterable iter X.env x = pure x) (hs1 : ∀ env x, foldedSetIterable iter1 env x = pure x) :
    PE X (.ListComp elt [⟨tg, iter, ifs, 0⟩, ⟨tg1, iter1, ifs1, 0⟩] scope pos) (denF c E (oLc2 (own.map (·.2)) vs1 it f t it1 f1 t1 e)) :=
  pe_mono (pe_lc2 k.calm k.nd hi k.ok hv hg ht hi1 hg1 ht1 he hs hs1) fun σ H Q h => lc2_go (fun _ _ _ _ q => q) (fun _ _ _ q => q) (fun _ _ _ q => q) (fun _ _ _ _ q => q) (fun _ _ _ q => q) (fun _ _ _ q => q) hT hT1 hv h
/-- y = [..] of two clauses, of the block's own form -/
theorem snd_setLc2F {i : Nat} {y : Str} {py : Pos} {elt tg iter tg1 iter1 : Expr} {ifs ifs1 : List Expr} {scope : Scope} {own : List (Str × Nat)} {vs1 : List Nat} {pos spos : Pos} {it it1 t t1 e : O1} {f f1 : Bd} {T T1 : List Nat} (k : Blk X own scope) (hy : X.N[i]? = some y) (hyl : X.env.scope.names.lookup y = some .local)
    (hsw : swapsWith (.ListComp elt [⟨tg, iter, ifs, 0⟩, ⟨tg1, iter1, ifs1, 0⟩] scope pos) (some (.Name y py)) spos.line X.env = pure true) (hv : ∀ i ∈ vs1, i ∈ own.map (·.2)) (hi : PI X tg iter (denI c E it))
    (hg : Cx.inB X scope fun Y => PG Y tg (denG c T f)) (ht : Cx.inB X scope fun Y => PTs Y ifs (denT c EN t)) (hi1 : Cx.inB X scope fun Y => PI Y tg1 iter1 (denI c EN it1)) (hg1 : Cx.inB X scope fun Y => PG Y tg1 (denG c T1 f1)) (ht1 : Cx.inB X scope fun Y => PTs Y ifs1 (denT c EN t1))
    (he : Cx.inB X scope fun Y => PE Y elt (denE c EN e)) (hT : ∀ i ∈ T, i ∈ own.map (·.2)) (hT1 : ∀ i ∈ T1, i ∈ vs1) (hs : ∀ x, foldedSetIterable iter X.env x = pure x) (hs1 : ∀ env x, foldedSetIterable iter1 env x = pure x) :
    PS X (.Assign [.Name y py] (.ListComp elt [⟨tg, iter, ifs, 0⟩, ⟨tg1, iter1, ifs1, 0⟩] scope pos) spos) (denS c E (oSetO i (oLc2 (own.map (·.2)) vs1 it f t it1 f1 t1 e))) :=
  ps_mono (ps_setLc2 k.calm k.nd hy hyl hsw hi k.ok hv hg ht hi1 hg1 ht1 he hs hs1) fun G σ H ⟨r, B, R, h⟩ =>
    lc2_go (c := c) (E := E) (fun _ _ _ _ q => q) (fun _ _ _ q => q) (fun _ _ _ q => q) (fun _ _ _ _ q => q) (fun _ _ _ q => q) (fun _ _ _ q => q) hT hT1 hv ⟨r, B, R, setO_go (k := oBad) (fun p hp => R.fresh0 hp) h⟩
theorem snd_setLc2 {i : Nat} {y : Str} {py : Pos} {elt tg iter tg1 iter1 : Expr} {ifs ifs1 : List Expr} {scope : Scope} {own : List (Str × Nat)} {vs1 : List Nat} {pos spos : Pos} {it it1 t t1 e : O1} {f f1 : Bd} {T T1 : List Nat} (k : Blk X own scope) (hy : X.N[i]? = some y) (hyl : X.env.scope.names.lookup y = some .local)
    (hsw : swapsWith (.ListComp elt [⟨tg, iter, ifs, 0⟩, ⟨tg1, iter1, ifs1, 0⟩] scope pos) (some (.Name y py)) spos.line X.env = pure true) (hv : ∀ i ∈ vs1, i ∈ own.map (·.2)) (hi : PI X tg iter (denI c E it))
    (hg : Cx.inB X scope fun Y => PG Y tg (denG c T f)) (ht : Cx.inB X scope fun Y => PTs Y ifs (denT c EN t)) (hi1 : Cx.inB X scope fun Y => PI Y tg1 iter1 (denI c EN it1)) (hg1 : Cx.inB X scope fun Y => PG Y tg1 (denG c T1 f1)) (ht1 : Cx.inB X scope fun Y => PTs Y ifs1 (denT c EN t1))
    (he : Cx.inB X scope fun Y => PE Y elt (denE c EN e)) (hT : ∀ i ∈ T, i ∈ own.map (·.2)) (hT1 : ∀ i ∈ T1, i ∈ vs1) (hs : ∀ x, foldedSetIterable iter X.env x = pure x) (hs1 : ∀ env x, foldedSetIterable iter1 env x = pure x) :
    PS X (.Assign [.Name y py] (.ListComp elt [⟨tg, iter, ifs, 0⟩, ⟨tg1, iter1, ifs1, 0⟩] scope pos) spos) (denS c E (oSet i (oLc2 (own.map (·.2)) vs1 it f t it1 f1 t1 e))) :=
  ps_mono (ps_setLc2 k.calm k.nd hy hyl hsw hi k.ok hv hg ht hi1 hg1 ht1 he hs hs1) fun G σ H ⟨r, B, R, h⟩ =>
    lc2_go (c := c) (E := E) (fun _ _ _ _ q => q) (fun _ _ _ q => q) (fun _ _ _ q => q) (fun _ _ _ _ q => q) (fun _ _ _ q => q) (fun _ _ _ q => q) hT hT1 hv ⟨r, B, R, unpriv R (bndE ppS h fun d r1 v H1 B1 _ R1 S1 q1 h1 => h1 _ H1 B1 (R1.setV q1) (Step.refl _ _))⟩
end
end Py

/-! Py, part G: calls of defs: what is lent, what comes back, what is raised. -/
namespace Py
open PySem L2

/-- the wish of an exception's class, its dict and the heap, by what it carries -/
def exOf (K : PySem.W.Frag) (B : Addr → Prop) (cls : Nat → Addr) (E : XK) : EX := fun n d H => ∀ H' dx v, Ext H H' → H' dx = some (.xd [("thing", v)]) → Rep K ⟨B, fun _ => False⟩ H' d v → E (.ref (cls n)) (some dx) H'
/-- arguments: values, and what is lent, by the slot in which it stands -/
inductive RepsA (K : PySem.W.Frag) (B : Av) (H : Hp) (σ : St) : List (Option Nat) → List D → List V → Prop
  | nil : RepsA K B H σ [] [] []
  | val {fl : List (Option Nat)} {d : D} {v : V} {ds : List D} {vs : List V} : Rep K B H d v → RepsA K B H σ fl ds vs → RepsA K B H σ (none :: fl) (d :: ds) (v :: vs)
  | ref {fl : List (Option Nat)} {d : D} {v : V} {ds : List D} {vs : List V} {i : Nat} : σ[i]? = some (some v) → RepsA K B H σ fl ds vs → RepsA K B H σ (some i :: fl) (d :: ds) (v :: vs)
theorem RepsA.step {K : PySem.W.Frag} {B B' : Av} {H H' : Hp} {σ : St} (s : Vst B H B' H') : ∀ {fl : List (Option Nat)} {ds : List D} {vs : List V}, RepsA K B H σ fl ds vs → RepsA K B' H' σ fl ds vs
  | _, _, _, .nil => .nil
  | _, _, _, .val r rs => .val (r.step s) (RepsA.step s rs)
  | _, _, _, .ref r rs => .ref r (RepsA.step s rs)
def PostB (c : Cfg) (E : EX) (σ : St) (fl : List (Option Nat)) (B : Av) (H : Hp) (Q : List V → Hp → Prop) : Out → Prop
  | .vals ds r => ∀ vs H' B', Rel c r B' σ H' → Step B H B' H' → RepsA c.K B' H' σ fl ds vs → Q vs H'
  | .exc n d => ∀ H', Fr c H' → E n d H'
  | _ => False
def denB (c : Cfg) (E : EX) (fl : List (Option Nat)) (o : O1) : TA := fun σ H Q => ∃ r B, Rel c r B σ H ∧ PostB c E σ fl B H Q (o r)
theorem ppB {c : Cfg} {E : EX} {σ : St} {fl : List (Option Nat)} {Q : List V → Hp → Prop} : PP c E (fun B H o => PostB c E σ fl B H Q o) where
  exc _ _ _ _ h := h
  bad _ _ h := h
  frm B H B1 H1 o S h := by
    cases o with
    | vals d r => exact fun v H' B' R S' q => h v H' B' R (S.trans S') q
    | exc n d => exact h
    | _ => exact h.elim
section
variable {c : Cfg} {E : EX} {σ : St} {P : Av → Hp → Out → Prop} {B : Av} {H : Hp} {o : Out}
theorem bndB (pp : PP c E P) {fl : List (Option Nat)} {k : List D → Rho → Out} (h : P B H (o.bnds k)) {Q : List V → Hp → Prop}
    (hk : ∀ d r v H1 B1, o = .vals d r → Rel c r B1 σ H1 → Step B H B1 H1 → RepsA c.K B1 H1 σ fl d v → P B1 H1 (k d r) → Q v H1) : PostB c E σ fl B H Q o := by
  cases o with
  | vals d r => exact fun v H' B' R S q => hk d r v H' B' rfl R S q (pp.frm _ _ _ _ _ S h)
  | exc n d => exact pp.exc _ _ _ _ h
  | _ => exact (pp.bad _ _ h).elim
end
def oRef (i : Nat) (t : O1) : O1 := fun r => match r[i]? with
  | some s => if s.excl = true then (t r).bnds fun xs r2 => .vals (.none :: xs) r2 else .bad
  | none => .bad
section
variable {X : Cx} {c : Cfg} {E : EX}
theorem snd_bnil : PA X [] (denB c E [] oNil) := pa_mono pa_nil fun σ H Q ⟨r, B, R, h⟩ => h [] H B R (Step.refl _ _) .nil
theorem snd_bcons {e : Expr} {es : List Expr} {fl : List (Option Nat)} {oa ot : O1} (ha : PE X e (denE c E oa)) (ht : PA X es (denB c E fl ot)) (hs : starEach (e :: es) X.env = (false, eval e X.env) :: starEach es X.env) :
    PA X (e :: es) (denB c E (none :: fl) (oCons oa ot)) := pa_mono (pa_cons ha ht hs) fun σ H Q ⟨r, B, R, h⟩ =>
  ⟨r, B, R, bndE ppB h fun d1 r1 v1 H1 B1 _ R1 S1 q1 h1 => ⟨r1, B1, R1, bndB ppB h1 fun d2 r2 v2 H2 B2 _ R2 S2 q2 h2 => h2 (v1 :: v2) H2 B2 R2 (Step.refl _ _) (.val (q1.step (R1.v S2)) q2)⟩⟩
theorem Rel.exA {r : Rho} {B : Av} {H : Hp} {σ : St} (R : Rel c r B σ H) {i : Nat} {s : Slot} (h : r[i]? = some s) (hx : s.excl = true) : ∃ a d, σ[i]? = some (some (.ref a)) ∧ B.m a ∧ Cont c.K B H d a ∧ (s = .own d ∨ (s = .io d ∧ a = c.ad i ∧ c.I a)) := by
  obtain ⟨u, hu, q⟩ := R.at h
  cases s with
  | own d => obtain ⟨a, rfl, q1, q2, q3⟩ := q; exact ⟨a, d, hu, q1, q3, .inl rfl⟩
  | io d => obtain ⟨rfl, q1, q2, q3⟩ := q; exact ⟨_, d, hu, q1, q3, .inr ⟨rfl, rfl, q2⟩⟩
  | _ => cases hx
theorem snd_bref {i : Nat} {x : Str} {pos : Pos} {es : List Expr} {fl : List (Option Nat)} {ot : O1} (hN : X.N[i]? = some x) (hv : Vis X.env.scope x) (hd : (x == ("__debug__" : Str)) = false) (hcd : (x == ("__classdict__" : Str)) = false)
    (ht : PA X es (denB c E fl ot)) (hs : starEach (.Name x pos :: es) X.env = (false, eval (.Name x pos) X.env) :: starEach es X.env) :
    PA X (.Name x pos :: es) (denB c E (some i :: fl) (oRef i ot)) := by
  refine pa_mono (pa_cons (pe_var hN hv hd hcd) ht hs) fun σ H Q ⟨r, B, R, h⟩ => ?_
  unfold oRef at h
  cases e : r[i]? with
  | none => rw [e] at h; exact h.elim
  | some s =>
    rw [e] at h
    dsimp only at h
    by_cases hx : s.excl = true
    · rw [if_pos hx] at h
      obtain ⟨a, d, hu, _⟩ := R.exA e hx
      refine ⟨.ref a, hu, r, B, R, bndB ppB h fun d2 r2 v2 H2 B2 _ R2 S2 q2 h2 => ?_⟩
      exact h2 (.ref a :: v2) H2 B2 R2 (Step.refl _ _) (.ref hu q2)
    · rw [if_neg hx] at h; exact h.elim
end

/-! ### what a def does, from the slots of its arguments -/
def mkArgs (r : Rho) : List (Option Nat) → List D → Option Rho
  | [], [] => some []
  | none :: fl, d :: ds => (mkArgs r fl ds).map fun as => .val d :: as
  | some i :: fl, _ :: ds => match r[i]? with
    | some (.own d) => (mkArgs r fl ds).map fun as => .io d :: as
    | some (.io d) => (mkArgs r fl ds).map fun as => .io d :: as
    | _ => none
  | _, _ => none
def putBack (r' : Rho) : Nat → List (Option Nat) → Rho → Option Rho
  | _, [], r => some r
  | p, none :: fl, r => putBack r' (p + 1) fl r
  | p, some i :: fl, r => match r'[p]?, r[i]? with
    | some (.io d), some (.own _) => putBack r' (p + 1) fl (r.set i (.own d))
    | some (.io d), some (.io _) => putBack r' (p + 1) fl (r.set i (.io d))
    | _, _ => none
def refs (fl : List (Option Nat)) : List Nat := fl.filterMap id
def oCallF (g : O1) (fl : List (Option Nat)) (a : O1) : O1 := fun r => (a r).bnds fun ds r1 => if (refs fl).Nodup then match mkArgs r1 fl ds with
  | some as => match g as with
    | .ret d r' => match putBack r' 0 fl r1 with
      | some r2 => .val d r2
      | none => .bad
    | .retF d r' => match putBack r' 0 fl r1 with
      | some r2 => .val d r2
      | none => .bad
    | .nxt r' => match putBack r' 0 fl r1 with
      | some r2 => .val .none r2
      | none => .bad
    | .exc n d => if refs fl = [] then .exc n d else .bad
    | _ => .bad
  | none => .bad
  else .bad
/-- what a def's run from H is to bring -/
def PostR (c : Cfg) (E : XK) (Q : VK) : Out → Prop
  | .ret d r => ∀ v σ' H' B', Rel c r B' σ' H' → Rep c.K B' H' d v → Q v H'
  | .retF d r => ∀ v σ' H' B', Rel c r B' σ' H' → FzT c.K B' H' d v → Q v H'
  | .nxt r => ∀ σ' H' B', Rel c r B' σ' H' → Q .non H'
  | .exc n d => ∀ H', Fr c H' → exOf c.K c.B0 c.cls E n d H'
  | _ => False
def spG (K : PySem.W.Frag) (cls : Nat → Addr) (n : Nat) (g : O1) : Sp := fun vs H Q E => ∃ (c : Cfg) (as : Rho) (B : Av), c.K = K ∧ c.cls = cls ∧ c.H0 = H ∧ vs.length = n ∧ Rel c as B (vs.map some) H ∧ PostR c E Q (g as)
theorem nodup_get {l : List Nat} (h : l.Nodup) {i j : Nat} {x : Nat} (hi : l[i]? = some x) (hj : l[j]? = some x) : i = j := (List.getElem?_inj (List.getElem?_eq_some_iff.mp hi).1 h).mp (hi.trans hj.symm)
theorem putBack_ok {r' : Rho} : ∀ {fl : List (Option Nat)} {p : Nat} {r r2 : Rho}, putBack r' p fl r = some r2 → (refs fl).Nodup → r2.length = r.length ∧ ∀ (j : Nat) s2, r2[j]? = some s2 →
    (∃ (q : Nat) (d : D), fl[q]? = some (some j) ∧ r'[p + q]? = some (.io d) ∧ ((∃ d0, r[j]? = some (.own d0) ∧ s2 = .own d) ∨ ∃ d0, r[j]? = some (.io d0) ∧ s2 = .io d)) ∨ ((∀ q : Nat, fl[q]? ≠ some (some j)) ∧ r[j]? = some s2)
  | [], p, r, r2, h, _ => by
    cases h
    exact ⟨rfl, fun j s2 e => .inr ⟨fun q => by simp, e⟩⟩
  | none :: fl, p, r, r2, h, nd => by
    have h' : putBack r' (p + 1) fl r = some r2 := h
    obtain ⟨hl, k⟩ := putBack_ok h' (by simpa [refs] using nd)
    refine ⟨hl, fun j s2 e => ?_⟩
    rcases k j s2 e with ⟨q, d, h1, h2, h3⟩ | ⟨h1, h2⟩
    · exact .inl ⟨q + 1, d, by simpa using h1, by rw [← h2]; congr 1; omega, h3⟩
    · refine .inr ⟨fun q => ?_, h2⟩
      cases q with
      | zero => simp
      | succ q => simpa using h1 q
  | some i :: fl, p, r, r2, h, nd => by
    have nd' : i ∉ refs fl ∧ (refs fl).Nodup := by simpa [refs] using nd
    have nin : ∀ q : Nat, fl[q]? ≠ some (some i) := fun q e => nd'.1 (List.mem_filterMap.mpr ⟨some i, List.mem_of_getElem? e, rfl⟩)
    have fin : ∀ {s1 : Slot} {d : D}, r'[p]? = some (.io d) → ((∃ d0, r[i]? = some (.own d0) ∧ s1 = .own d) ∨ ∃ d0, r[i]? = some (.io d0) ∧ s1 = .io d) → putBack r' (p + 1) fl (r.set i s1) = some r2 → r2.length = r.length ∧ ∀ (j : Nat) s2, r2[j]? = some s2 →
        (∃ (q : Nat) (d : D), (some i :: fl)[q]? = some (some j) ∧ r'[p + q]? = some (.io d) ∧ ((∃ d0, r[j]? = some (.own d0) ∧ s2 = .own d) ∨ ∃ d0, r[j]? = some (.io d0) ∧ s2 = .io d)) ∨ ((∀ q : Nat, (some i :: fl)[q]? ≠ some (some j)) ∧ r[j]? = some s2) := fun {s1 d} ep hs h' => by
      obtain ⟨hl, k⟩ := putBack_ok h' nd'.2
      refine ⟨by simpa using hl, fun j s2 e => ?_⟩
      have il : i < r.length := by rcases hs with ⟨_, e, _⟩ | ⟨_, e, _⟩ <;> exact (List.getElem?_eq_some_iff.mp e).1
      rcases k j s2 e with ⟨q, d', h1, h2, h3⟩ | ⟨h1, h2⟩
      · have hne : i ≠ j := fun z => nin q (by rw [z]; exact h1)
        rw [List.getElem?_set_ne hne] at h3
        exact .inl ⟨q + 1, d', by simpa using h1, by rw [← h2]; congr 1; omega, h3⟩
      · by_cases z : i = j
        · subst z
          rw [List.getElem?_set_self il] at h2
          cases h2
          exact .inl ⟨0, d, by simp, by simpa using ep, hs⟩
        · rw [List.getElem?_set_ne z] at h2
          refine .inr ⟨fun q => ?_, h2⟩
          cases q with
          | zero => simp [z]
          | succ q => simpa using h1 q
    unfold putBack at h
    split at h
    · rename_i d d0 e1 e2
      exact fin e1 (.inl ⟨d0, e2, rfl⟩) h
    · rename_i d d0 e1 e2
      exact fin e1 (.inr ⟨d0, e2, rfl⟩) h
    · cases h
theorem mkArgs_ok {c : Cfg} {r : Rho} {B : Av} {σ : St} {H : Hp} (R : Rel c r B σ H) : ∀ {fl : List (Option Nat)} {ds : List D} {vs : List V} {as : Rho}, RepsA c.K B H σ fl ds vs → mkArgs r fl ds = some as →
    as.length = vs.length ∧ ∀ (p : Nat) s v, as[p]? = some s → vs[p]? = some v → (fl[p]? = some none ∧ ∃ d, s = .val d ∧ Rep c.K B H d v) ∨ ∃ (i : Nat) (a : Addr) (d : D) (t : Slot), fl[p]? = some (some i) ∧ s = .io d ∧ v = .ref a ∧ σ[i]? = some (some (.ref a)) ∧ r[i]? = some t ∧ t.excl = true ∧ B.m a ∧ Cont c.K B H d a
  | _, _, _, _, .nil, h => by cases h; exact ⟨rfl, fun p s v e => by simp at e⟩
  | _, _, _, as, .val (d := d) (v := v0) q qs, h => by
    unfold mkArgs at h
    obtain ⟨as', e, rfl⟩ := Option.map_eq_some_iff.mp h
    obtain ⟨hl, k⟩ := mkArgs_ok R qs e
    refine ⟨by simp [hl], fun p s v e1 e2 => ?_⟩
    cases p with
    | zero => simp at e1 e2; subst e1; subst e2; exact .inl ⟨by simp, d, rfl, q⟩
    | succ p => simpa using k p s v (by simpa using e1) (by simpa using e2)
  | _, _, _, as, .ref (i := i) (v := v0) q qs, h => by
    unfold mkArgs at h
    split at h
    · rename_i d e0
      obtain ⟨as', e, rfl⟩ := Option.map_eq_some_iff.mp h
      obtain ⟨hl, k⟩ := mkArgs_ok R qs e
      refine ⟨by simp [hl], fun p s v e1 e2 => ?_⟩
      cases p with
      | zero =>
        simp at e1 e2; subst e1; subst e2
        obtain ⟨a, d', hu, ma, ct, hk⟩ := R.exA e0 rfl
        rw [q] at hu; cases hu
        have : d' = d := by rcases hk with z | ⟨z, _⟩ <;> cases z; rfl
        subst this
        exact .inr ⟨i, a, d', _, by simp, rfl, rfl, q, e0, rfl, ma, ct⟩
      | succ p => simpa using k p s v (by simpa using e1) (by simpa using e2)
    · rename_i d e0
      obtain ⟨as', e, rfl⟩ := Option.map_eq_some_iff.mp h
      obtain ⟨hl, k⟩ := mkArgs_ok R qs e
      refine ⟨by simp [hl], fun p s v e1 e2 => ?_⟩
      cases p with
      | zero =>
        simp at e1 e2; subst e1; subst e2
        obtain ⟨a, d', hu, ma, ct, hk⟩ := R.exA e0 rfl
        rw [q] at hu; cases hu
        have : d' = d := by rcases hk with z | ⟨z, _⟩ <;> cases z; rfl
        subst this
        exact .inr ⟨i, a, d', _, by simp, rfl, rfl, q, e0, rfl, ma, ct⟩
      | succ p => simpa using k p s v (by simpa using e1) (by simpa using e2)
    · cases h
section
variable {X : Cx} {c : Cfg} {E : EX}
/-- the callee's frame and what comes behind it -/
theorem call_core {fl : List (Option Nat)} {σ : St} {B : Av} {H : Hp} {r as : Rho} {ds : List D} {vs : List V} (R : Rel c r B σ H) (q : RepsA c.K B H σ fl ds vs) (nd : (refs fl).Nodup) (em : mkArgs r fl ds = some as) :
    ∃ (c' : Cfg) (B' : Av), c'.K = c.K ∧ c'.cls = c.cls ∧ c'.H0 = H ∧ c'.B0 = B.b ∧ Rel c' as B' (vs.map some) H ∧ (∀ {r' r2 : Rho} {σ' : St} {H' : Hp} {B2 : Av}, putBack r' 0 fl r = some r2 → Rel c' r' B2 σ' H' → Rel c r2 B σ H' ∧ Step B H B H') ∧ (refs fl = [] → ∀ a, ¬ c'.I a) := by
  obtain ⟨hl, ka⟩ := mkArgs_ok R q em
  let I' : Addr → Prop := fun a => ∃ (p i : Nat), fl[p]? = some (some i) ∧ σ[i]? = some (some (.ref a)) ∧ ∃ t, r[i]? = some t ∧ t.excl = true
  let ad' : Nat → Addr := fun p => match vs[p]? with
    | some (.ref a) => a
    | _ => 0
  let c' : Cfg := ⟨c.K, I', B.b, H, ad', c.cls⟩
  have I'm : ∀ a, I' a → B.m a := fun a ⟨p, i, h1, h2, t, h3, h4⟩ => R.exm h3 h4 h2
  let B' : Av := ⟨B.b, I'⟩
  have bb : Vst B H B' H := ⟨fun _ _ _ e => e, fun _ h => .inl h⟩
  have nl : (vs.map some).length = as.length := by simp [hl]
  have slotV : ∀ (p : Nat) s o, as[p]? = some s → (vs.map some)[p]? = some o → ∃ v, o = some v ∧ vs[p]? = some v := fun p s o h1 h2 => by
    rw [List.getElem?_map] at h2
    cases e : vs[p]? with
    | none => rw [e] at h2; cases h2
    | some v => rw [e] at h2; cases h2; exact ⟨v, rfl, rfl⟩
  have R' : Rel c' as B' (vs.map some) H := by
    refine ⟨nl.symm, ?_, ?_, fun a h => R.mb a (I'm a h), R.bk, fun a h => h, R.bk, fun a h => .inl h, fun a h => .inl h, fun a h => R.mb a (I'm a h), fun a o _ e => e, fun a o e => ⟨o, e⟩⟩
    · intro p s o h1 h2
      obtain ⟨v, rfl, hv⟩ := slotV p s o h1 h2
      rcases ka p s v h1 hv with ⟨_, d, rfl, rv⟩ | ⟨i, a, d, t, e1, rfl, rfl, e2, e3, e4, ma, ct⟩
      · exact ⟨v, rfl, rv.step bb⟩
      · have ea : ad' p = a := by show (match vs[p]? with | some (.ref a) => a | _ => 0) = a; rw [hv]
        have ia : I' a := ⟨p, i, e1, e2, t, e3, e4⟩
        have ia' : I' (ad' p) := by rw [ea]; exact ia
        have ct' : Cont c.K B' H d (ad' p) := by rw [ea]; exact ct.step bb fun _ e => e
        exact ⟨by rw [← ea], ia', ia', ct'⟩
    · intro p p2 s t a hne h1 h2 x1 x2 e1 e2
      obtain ⟨v, ev, hv⟩ := slotV p s _ h1 e1
      obtain ⟨v2, ev2, hv2⟩ := slotV p2 t _ h2 e2
      cases ev; cases ev2
      rcases ka p s _ h1 hv with ⟨_, d, rfl, _⟩ | ⟨i, a1, d, t1, f1, rfl, z1, g1, k1, m1, _⟩
      · cases x1
      · rcases ka p2 t _ h2 hv2 with ⟨_, d, rfl, _⟩ | ⟨j, a2, d2, t2, f2, rfl, z2, g2, k2, m2, _⟩
        · cases x2
        · cases z1; cases z2
          refine R.apart i j t1 t2 a (fun z => hne ?_) k1 k2 m1 m2 g1 g2
          subst z
          -- the same slot lent twice
          have aux : ∀ (l : List (Option Nat)) (u v : Nat) (x : Nat), (refs l).Nodup → l[u]? = some (some x) → l[v]? = some (some x) → u = v := by
            intro l
            induction l with
            | nil => intro u v x _ hu; simp at hu
            | cons a l ih =>
              intro u v x nd hu hv
              cases a with
              | none =>
                cases u with
                | zero => simp at hu
                | succ u =>
                  cases v with
                  | zero => simp at hv
                  | succ v => rw [ih u v x (by simpa [refs] using nd) (by simpa using hu) (by simpa using hv)]
              | some y =>
                have nd' : y ∉ refs l ∧ (refs l).Nodup := by simpa [refs] using nd
                cases u with
                | zero =>
                  cases v with
                  | zero => rfl
                  | succ v =>
                    simp at hu hv; subst hu
                    exact absurd (show y ∈ refs l from List.mem_filterMap.mpr ⟨some y, List.mem_of_getElem? hv, rfl⟩) nd'.1
                | succ u =>
                  cases v with
                  | zero =>
                    simp at hu hv; subst hv
                    exact absurd (show y ∈ refs l from List.mem_filterMap.mpr ⟨some y, List.mem_of_getElem? hu, rfl⟩) nd'.1
                  | succ v => rw [ih u v x nd'.2 (by simpa using hu) (by simpa using hv)]
          exact aux fl p p2 i nd f1 f2
  -- behind the callee
  have back : ∀ {r' r2 : Rho} {σ' : St} {H' : Hp} {B2 : Av}, putBack r' 0 fl r = some r2 → Rel c' r' B2 σ' H' → Rel c r2 B σ H' ∧ Step B H B H' := fun {r' r2 σ' H' B2} ep R2 => by
    obtain ⟨hl2, kp⟩ := putBack_ok ep nd
    have st : Step B H B H' := ⟨fun a o nm e => R2.fr a o (fun z => nm (I'm a z)) e, fun _ _ b _ _ => b, fun a o e => R2.dom a o e, fun _ h => .inl h, fun _ h => .inl h⟩
    have vs' := R.v st
    have down : Vst B2 H' B H' := ⟨fun _ _ _ e => e, fun a h => .inl (R2.b0 a h)⟩
    refine ⟨⟨by rw [hl2]; exact R.len, ?_, ?_, R.mb, fun a b => ?_, R.b0, R.b0h, R.bsub, R.msub, R.i0, fun a o n e => ?_, fun a o e => ?_⟩, st⟩
    · intro j s2 o h1 h2
      rcases kp j s2 h1 with ⟨p, d, e1, e2, e3⟩ | ⟨e1, e2⟩
      · have e2 : r'[p]? = some (.io d) := by simpa using e2
        obtain ⟨u, hu, eu, m2, _, ct⟩ := R2.at e2
        -- the lent address is the caller's
        have hp : p < fl.length := (List.getElem?_eq_some_iff.mp e1).1
        obtain ⟨s0, x0, z0⟩ : ∃ s0, r[j]? = some s0 ∧ s0.excl = true := by
          rcases e3 with ⟨d0, e, _⟩ | ⟨d0, e, _⟩
          · exact ⟨_, e, rfl⟩
          · exact ⟨_, e, rfl⟩
        obtain ⟨a, d1, ha, ma, _, hk⟩ := R.exA x0 z0
        rw [ha] at h2; cases h2
        have lens : ∀ {fl : List (Option Nat)} {ds : List D} {vs : List V}, RepsA c.K B H σ fl ds vs → ∀ (p i : Nat), fl[p]? = some (some i) → ∃ v, vs[p]? = some v ∧ σ[i]? = some (some v) := by
          intro fl ds vs q
          induction q with
          | nil => intro p i h; simp at h
          | val _ _ ih =>
            intro p i h
            cases p with
            | zero => simp at h
            | succ p => obtain ⟨v, h1, h2⟩ := ih p i (by simpa using h); exact ⟨v, by simpa using h1, h2⟩
          | ref q0 _ ih =>
            intro p i h
            cases p with
            | zero => simp at h; subst h; exact ⟨_, by simp, q0⟩
            | succ p => obtain ⟨v, h1, h2⟩ := ih p i (by simpa using h); exact ⟨v, by simpa using h1, h2⟩
        obtain ⟨v, hv, hσ⟩ := lens q p j e1
        rw [ha] at hσ; cases hσ
        have ea : ad' p = a := by show (match vs[p]? with | some (.ref a) => a | _ => 0) = a; rw [hv]
        have ct' : Cont c.K B H' d a := by
          have : Cont c.K B2 H' d (ad' p) := ct
          rw [ea] at this
          exact this.step down fun _ e => e
        rcases e3 with ⟨d0, e, rfl⟩ | ⟨d0, e, rfl⟩
        · have q0 := R.slot j _ _ e ha
          obtain ⟨a', z, y1, y2, _⟩ := q0
          cases z
          exact ⟨a, rfl, ma, y2, ct'⟩
        · have q0 := R.slot j _ _ e ha
          obtain ⟨z, y1, y2, _⟩ := q0
          have z' : a = c.ad j := by cases z; rfl
          subst z'
          exact ⟨rfl, ma, y2, ct'⟩
      · have q0 := R.slot j s2 o e2 h2
        cases s2 with
        | un => trivial
        | val d => obtain ⟨v, z, y⟩ := q0; exact ⟨v, z, y.step vs'⟩
        | own d =>
          obtain ⟨a, z, y1, y2, y3⟩ := q0
          subst z
          have nI : ¬ I' a := fun ⟨p, i, h1, h3, t, h4, h5⟩ => R.apart j i _ t a (fun z => e1 p (by rw [z]; exact h1)) e2 h4 rfl h5 h2 h3
          exact ⟨a, rfl, y1, y2, y3.step vs' fun o e => R2.fr a o nI e⟩
        | io d =>
          obtain ⟨z, y1, y2, y3⟩ := q0
          subst z
          have nI : ¬ I' (c.ad j) := fun ⟨p, i, h1, h3, t, h4, h5⟩ => R.apart j i _ t _ (fun z => e1 p (by rw [z]; exact h1)) e2 h4 rfl h5 h2 h3
          exact ⟨rfl, y1, y2, y3.step vs' fun o e => R2.fr _ o nI e⟩
        | fz d => obtain ⟨v, z, y1⟩ := q0; exact ⟨v, z, y1.step vs'⟩
        | scr ns => obtain ⟨a, z, y1⟩ := q0; exact ⟨a, z, y1.step vs'⟩
    · intro j k s t a hne h1 h2 x1 x2
      have ex : ∀ (j : Nat) s, r2[j]? = some s → s.excl = true → ∃ s0, r[j]? = some s0 ∧ s0.excl = true := fun j s h x => by
        rcases kp j s h with ⟨p, d, _, _, e3⟩ | ⟨_, e2⟩
        · rcases e3 with ⟨d0, e, _⟩ | ⟨d0, e, _⟩
          · exact ⟨_, e, rfl⟩
          · exact ⟨_, e, rfl⟩
        · exact ⟨s, e2, x⟩
      obtain ⟨s0, a1, a2⟩ := ex j s h1 x1
      obtain ⟨t0, b1, b2⟩ := ex k t h2 x2
      exact R.apart j k s0 t0 a hne a1 b1 a2 b2
    · obtain ⟨o, e⟩ := R.bk a b; exact R2.dom a o e
    · have h1 := R.fr a o n e
      refine R2.fr a o (fun z => ?_) h1
      rcases R.msub a (I'm a z) with y | y
      · exact n y
      · rw [y] at e; cases e
    · obtain ⟨o', e'⟩ := R.dom a o e; exact R2.dom a o' e'
  refine ⟨c', B', rfl, rfl, rfl, rfl, R', @back, fun hr a ⟨p, i, h1, _⟩ => ?_⟩
  have : i ∈ refs fl := List.mem_filterMap.mpr ⟨some i, List.mem_of_getElem? h1, rfl⟩
  rw [hr] at this; cases this
theorem Rel.dn {c' : Cfg} {B B2 : Av} {H' : Hp} {r' : Rho} {σ' : St} (h0 : c'.B0 = B.b) (R2 : Rel c' r' B2 σ' H') : Vst B2 H' B H' := ⟨fun _ _ _ e => e, fun a h => .inl (R2.b0 a (by rw [h0]; exact h))⟩
theorem call_exc {c c' : Cfg} {E : EX} {Ex : XK} {σ : St} {B : Av} {H : Hp} {r : Rho} {n : Nat} {d : D} (hE : ∀ n d H', E n d H' → exOf c.K c.B0 c.cls Ex n d H') (R : Rel c r B σ H) (e1 : c'.K = c.K) (e2 : c'.cls = c.cls) (e3 : c'.H0 = H) (e4 : c'.B0 = B.b) (nI : ∀ a, ¬ c'.I a)
    (h : ∀ H', Fr c H' → E n d H') : ∀ H', Fr c' H' → exOf c'.K c'.B0 c'.cls Ex n d H' := by
  intro H' F' H'' dx v ex ed rv
  have Fc : Fr c H' := ⟨fun a o n e => F'.fr a o (nI a) (by rw [e3]; exact R.fr a o n e), fun a o e => by obtain ⟨o', e'⟩ := R.dom a o e; exact F'.dom a o' (by rw [e3]; exact e')⟩
  rw [e1, e4] at rv
  rw [e2]
  exact hE n d H' (h H' Fc) H'' dx v ex ed (Rep.step (B := ⟨B.b, fun _ => False⟩) (B' := ⟨c.B0, fun _ => False⟩) ⟨fun _ _ _ e => e, fun a h => .inl (R.b0 a h)⟩ rv)
theorem call_go {g : O1} {fl : List (Option Nat)} {Ex : XK} {σ : St} {B : Av} {H : Hp} {Q : VK} {r : Rho} {ds : List D} {vs : List V} (hE : ∀ n d H', E n d H' → exOf c.K c.B0 c.cls Ex n d H') (R : Rel c r B σ H) (q : RepsA c.K B H σ fl ds vs)
    (h : PostE c E σ B H Q (if (refs fl).Nodup then match mkArgs r fl ds with
      | some as => match g as with
        | .ret d r' => match putBack r' 0 fl r with
          | some r2 => .val d r2
          | none => .bad
        | .retF d r' => match putBack r' 0 fl r with
          | some r2 => .val d r2
          | none => .bad
        | .nxt r' => match putBack r' 0 fl r with
          | some r2 => .val .none r2
          | none => .bad
        | .exc n d => if refs fl = [] then .exc n d else .bad
        | _ => .bad
      | none => .bad
      else .bad)) : spG c.K c.cls vs.length g vs H Q Ex := by
  by_cases nd : (refs fl).Nodup
  · rw [if_pos nd] at h
    cases em : mkArgs r fl ds with
    | none => rw [em] at h; exact h.elim
    | some as =>
      rw [em] at h
      dsimp only at h
      obtain ⟨c', B', e1, e2, e3, e4, R', back, nI⟩ := call_core R q nd em
      refine ⟨c', as, B', e1, e2, e3, rfl, R', ?_⟩
      cases eg : g as with
      | ret d r' =>
        rw [eg] at h
        dsimp only at h
        cases ep : putBack r' 0 fl r with
        | none => rw [ep] at h; exact h.elim
        | some r2 =>
          rw [ep] at h
          intro v σ' H' B2 R2 q2
          obtain ⟨R3, S3⟩ := back ep R2
          rw [e1] at q2
          exact h v H' B R3 S3 (q2.step (R2.dn e4))
      | retF d r' =>
        rw [eg] at h
        dsimp only at h
        cases ep : putBack r' 0 fl r with
        | none => rw [ep] at h; exact h.elim
        | some r2 =>
          rw [ep] at h
          intro v σ' H' B2 R2 q2
          obtain ⟨R3, S3⟩ := back ep R2
          rw [e1] at q2
          exact h v H' B R3 S3 (q2.rep.step (R2.dn e4))
      | nxt r' =>
        rw [eg] at h
        dsimp only at h
        cases ep : putBack r' 0 fl r with
        | none => rw [ep] at h; exact h.elim
        | some r2 =>
          rw [ep] at h
          intro σ' H' B2 R2
          obtain ⟨R3, S3⟩ := back ep R2
          exact h .non H' B R3 S3 .non
      | exc n d =>
        rw [eg] at h
        dsimp only at h
        by_cases hr : refs fl = []
        · rw [if_pos hr] at h
          exact call_exc hE R e1 e2 e3 e4 (nI hr) h
        · rw [if_neg hr] at h; exact h.elim
      | val _ _ => rw [eg] at h; exact h.elim
      | vals _ _ => rw [eg] at h; exact h.elim
      | brk _ => rw [eg] at h; exact h.elim
      | cnt _ => rw [eg] at h; exact h.elim
      | bad => rw [eg] at h; exact h.elim
  · rw [if_neg nd] at h; exact h.elim
/-- x = f(..), a tuple made by tuple(..) comes back -/
def oStz (i : Nat) (g : O1) (fl : List (Option Nat)) (a : O1) : O1 := fun r => (a r).bnds fun ds r1 => if refs fl = [] then match mkArgs r1 fl ds with
  | some as => match g as with
    | .retF d r' => match putBack r' 0 fl r1 with
      | some r2 => .nxt (r2.set i (.fz d))
      | none => .bad
    | .exc n d => .exc n d
    | _ => .bad
  | none => .bad
  else .bad
theorem Rel.setZ {r : Rho} {B : Av} {σ : St} {H : Hp} (R : Rel c r B σ H) {i : Nat} {d : D} {v : V} (q : FzT c.K B H d v) : Rel c (r.set i (.fz d)) B (σ.set i (some v)) H :=
  R.set ⟨v, rfl, q⟩ fun h => by cases h
theorem call_goZ {g : O1} {fl : List (Option Nat)} {Ex : XK} {σ : St} {B : Av} {H : Hp} {G : Ends} {i : Nat} {r : Rho} {ds : List D} {vs : List V} (hE : ∀ n d H', E n d H' → exOf c.K c.B0 c.cls Ex n d H') (R : Rel c r B σ H) (q : RepsA c.K B H σ fl ds vs)
    (h : PostS c E B H G (if refs fl = [] then match mkArgs r fl ds with
      | some as => match g as with
        | .retF d r' => match putBack r' 0 fl r with
          | some r2 => .nxt (r2.set i (.fz d))
          | none => .bad
        | .exc n d => .exc n d
        | _ => .bad
      | none => .bad
      else .bad)) : spG c.K c.cls vs.length g vs H (fun x H1 => G.nx (σ.set i (some x)) H1) Ex := by
  by_cases hr : refs fl = []
  · rw [if_pos hr] at h
    cases em : mkArgs r fl ds with
    | none => rw [em] at h; exact h.elim
    | some as =>
      rw [em] at h
      dsimp only at h
      obtain ⟨c', B', e1, e2, e3, e4, R', back, nI⟩ := call_core R q (by rw [hr]; exact List.nodup_nil) em
      refine ⟨c', as, B', e1, e2, e3, rfl, R', ?_⟩
      cases eg : g as with
      | retF d r' =>
        rw [eg] at h
        dsimp only at h
        cases ep : putBack r' 0 fl r with
        | none => rw [ep] at h; exact h.elim
        | some r2 =>
          rw [ep] at h
          intro v σ' H' B2 R2 q2
          obtain ⟨R3, S3⟩ := back ep R2
          rw [e1] at q2
          exact h _ H' B (R3.setZ (q2.step (R2.dn e4))) S3
      | exc n d =>
        rw [eg] at h
        exact call_exc hE R e1 e2 e3 e4 (nI hr) h
      | ret d r' => rw [eg] at h; exact h.elim
      | nxt r' => rw [eg] at h; exact h.elim
      | val _ _ => rw [eg] at h; exact h.elim
      | vals _ _ => rw [eg] at h; exact h.elim
      | brk _ => rw [eg] at h; exact h.elim
      | cnt _ => rw [eg] at h; exact h.elim
      | bad => rw [eg] at h; exact h.elim
  · rw [if_neg hr] at h; exact h.elim
end
end Py

/-! Py, part H: calls of defs and their promises. -/
namespace Py
open PySem L2

theorem RepsA.len {K : PySem.W.Frag} {B : Av} {H : Hp} {σ : St} : ∀ {fl : List (Option Nat)} {ds : List D} {vs : List V}, RepsA K B H σ fl ds vs → vs.length = fl.length
  | _, _, _, .nil => rfl
  | _, _, _, .val _ rs => by simp [RepsA.len rs]
  | _, _, _, .ref _ rs => by simp [RepsA.len rs]
theorem sw_plain0 {X : Cx} {n : Nat} {t : Expr} (e : Expr) (h : (match e with | .ListComp .. => true | .SetComp .. => true | .DictComp .. => true | _ => false) = false := by rfl) : swapsWithSole [t] e n X.env = pure false := by
  cases e with
  | ListComp => cases h
  | SetComp => cases h
  | DictComp => cases h
  | _ => rfl
theorem wap_v0 {X : Cx} {t : Expr} (f : Expr) (es : List Expr) (kw : List Keyword) (pos : Pos) : swappedStores [t] (.Call f es kw pos) X.env = pure none := by
  unfold swappedStores
  split
  · rename_i h1
    split at h1 <;> first | (rename_i e; cases e) | cases h1
  · rfl
section
variable {X : Cx} {c : Cfg} {E : EX}
theorem snd_call {k : Nat} {f : Addr} {fd : FuncData} {ps : List Str} {g ob : O1} {fl : List (Option Nat)} {Ex : XK} {x : Str} {p pos : Pos} {e : Expr} {es : List Expr}
    (F : FnOk X.prog X.w X.K X.mg X.base (L2.CX X.prog X.w) k f fd ps (spG c.K c.cls ps.length g)) (hr : Room k X.A) (hg : Gl X x) (hm : X.mg x = some (.ref f)) (hk : PySem.W.keepIn X.K (.ref f) = true) (hb : Binds X.K fd ps [])
    (hx : Passes (L2.CX X.prog X.w) X Ex) (hE : ∀ n d H', E n d H' → exOf c.K c.B0 c.cls Ex n d H') (hfl : fl.length = ps.length) (ha : PA X (e :: es) (denB c E fl ob))
    (hdb : (x == ("__debug__" : Str)) = false) (he : starEach (e :: es) X.env = (false, eval e X.env) :: starEach es X.env) (hpl : (backTo pos (starEach es X.env)).any (·.1) = false) :
    PE X (.Call (.Name x p) (e :: es) [] pos) (denE c E (oCallF g fl ob)) := by
  refine pe_mono (pe_call F hr hg hm hk hb .nil hx ha hdb he hpl) fun σ H Q ⟨r, B, R, h⟩ => ⟨r, B, R, bndB ppE h fun ds r1 vs H1 B1 _ R1 S1 q1 h1 => ?_⟩
  rw [List.append_nil, ← hfl, ← q1.len]
  exact call_go hE R1 q1 h1
/-- x = f(..), f gives back a tuple that it made -/
theorem snd_stz {k : Nat} {f : Addr} {fd : FuncData} {ps : List Str} {g ob : O1} {fl : List (Option Nat)} {Ex : XK} {x y : Str} {i : Nat} {p pos apos pos' : Pos} {e : Expr} {es : List Expr} (n : Stor X i y)
    (F : FnOk X.prog X.w X.K X.mg X.base (L2.CX X.prog X.w) k f fd ps (spG c.K c.cls ps.length g)) (hr : Room k X.A) (hg : Gl X x) (hm : X.mg x = some (.ref f)) (hk : PySem.W.keepIn X.K (.ref f) = true) (hb : Binds X.K fd ps [])
    (hx : Passes (L2.CX X.prog X.w) X Ex) (hE : ∀ n d H', E n d H' → exOf c.K c.B0 c.cls Ex n d H') (hfl : fl.length = ps.length) (ha : PA X (e :: es) (denB c E fl ob))
    (hdb : (x == ("__debug__" : Str)) = false) (he : starEach (e :: es) X.env = (false, eval e X.env) :: starEach es X.env) (hpl : (backTo pos (starEach es X.env)).any (·.1) = false) :
    PS X (.Assign [.Name y pos'] (.Call (.Name x p) (e :: es) [] pos) apos) (denS c E (oStz i g fl ob)) := by
  refine ps_mono (ps_asg (pe_call F hr hg hm hk hb .nil hx ha hdb he hpl) (pg_name n.nd n.at' n.loc n.fn) (sw_plain0 (.Call (.Name x p) (e :: es) [] pos)) (wap_v0 _ _ _ _) rfl) fun G σ H ⟨r, B, R, h⟩ => ⟨r, B, R, bndB ppS h fun ds r1 vs H1 B1 _ R1 S1 q1 h1 => ?_⟩
  rw [List.append_nil, ← hfl, ← q1.len]
  exact call_goZ hE R1 q1 h1
theorem snd_call0 {k : Nat} {f : Addr} {fd : FuncData} {ps : List Str} {g : O1} {Ex : XK} {x : Str} {p pos : Pos}
    (F : FnOk X.prog X.w X.K X.mg X.base (L2.CX X.prog X.w) k f fd ps (spG c.K c.cls ps.length g)) (hr : Room k X.A) (hg : Gl X x) (hm : X.mg x = some (.ref f)) (hk : PySem.W.keepIn X.K (.ref f) = true) (hb : Binds X.K fd ps [])
    (hx : Passes (L2.CX X.prog X.w) X Ex) (hE : ∀ n d H', E n d H' → exOf c.K c.B0 c.cls Ex n d H') (hfl : ps.length = 0) (hdb : (x == ("__debug__" : Str)) = false) :
    PE X (.Call (.Name x p) [] [] pos) (denE c E (oCallF g [] oNil)) := by
  refine pe_mono (pe_call0 F hr hg hm hk hb .nil hx hdb) fun σ H Q ⟨r, B, R, h⟩ => ?_
  show spG c.K c.cls ps.length g ([] ++ []) H Q Ex
  rw [hfl]
  exact call_go (vs := []) (ds := []) (fl := []) hE R .nil h
end

/-- names that nothing is kept in yet -/
theorem Rel.pad {c : Cfg} {r : Rho} {B : Av} {σ : St} {H : Hp} (R : Rel c r B σ H) (n : Nat) : Rel c (r ++ List.replicate n .un) B (σ ++ List.replicate n none) H := by
  have cut : ∀ {i : Nat} {s : Slot}, (r ++ List.replicate n .un)[i]? = some s → s ≠ .un → r[i]? = some s := fun {i s} h hs => by
    by_cases hi : i < r.length
    · rwa [List.getElem?_append_left hi] at h
    · rw [List.getElem?_append_right (by omega), List.getElem?_replicate] at h
      split at h
      · cases h; exact absurd rfl hs
      · cases h
  have cutE : ∀ {i : Nat} {s : Slot} {o : Option V}, r[i]? = some s → (σ ++ List.replicate n none)[i]? = some o → σ[i]? = some o := fun {i s o} h h2 => by
    have := (List.getElem?_eq_some_iff.mp h).1
    rwa [List.getElem?_append_left (by rw [← R.len]; exact this)] at h2
  refine ⟨by simp [R.len], ?_, ?_, R.mb, R.bk, R.b0, R.b0h, R.bsub, R.msub, R.i0, R.fr, R.dom⟩
  · intro i s o h1 h2
    by_cases hs : s = .un
    · subst hs; trivial
    · have h3 := cut h1 hs
      exact R.slot i s o h3 (cutE h3 h2)
  · intro i j s t a hne h1 h2 x1 x2 e1 e2
    have h3 := cut h1 (fun z => by subst z; cases x1)
    have h4 := cut h2 (fun z => by subst z; cases x2)
    exact R.apart i j s t a hne h3 h4 x1 x2 (cutE h3 e1) (cutE h4 e2)
/-- a def keeps its promise, by its body -/
theorem fn_okG {P : Program} {w : World} {K : PySem.W.Frag} {mg : Str → Option Value} {base : Heap} {x qual : Str} {st : Stmt} {f : Addr} {fd : FuncData} {N ps : List Str} {k : Nat} {cls : Nat → Addr} {ob : O1}
    (F : Fun K x qual st f fd) (S : FnScope N ps (defScope st))
    (hb : ∀ (cdv : Value) (A : Around) (outer : List Env) (s : Shared) (H : Hp) (E : XK) (c : Cfg), c.K = K → c.cls = cls → Room k (A.deeper (PyProof.Rows.envOfC qual (defScope st) s.heap.objs.size f cdv)) →
      PSs (cxOf (L2.CX P w) P w K mg base N qual (defScope st) f cdv A outer s H E) (defBody st) (denS c (exOf c.K c.B0 c.cls E) ob)) :
    FnOk P w K mg base (L2.CX P w) (k + 1) f fd ps (spG K cls ps.length fun as => ob (as ++ List.replicate (N.length - as.length) .un)) := by
  refine Fun.okX F S (fun vs H Q E ⟨c, as, B, _, _, _, hl, _⟩ => hl) fun cdv A outer s H vs Q E hr ⟨c, as, B, hK, hcl, hH, hl, R, h⟩ => ?_
  refine ⟨_, hb cdv A outer s H E c hK hcl hr, as ++ List.replicate (N.length - as.length) .un, B, ?_, ?_⟩
  · have e : as.length = vs.length := by simpa using R.len
    have := R.pad (N.length - as.length)
    rw [e] at this ⊢
    exact this
  · replace h : PostR c E Q (ob (as ++ List.replicate (N.length - as.length) .un)) := h
    revert h
    generalize ob (as ++ List.replicate (N.length - as.length) .un) = o
    intro h
    cases o with
    | ret d r => exact fun v σ' H' B' R _ q => h v σ' H' B' R q
    | retF d r => exact fun v σ' H' B' R _ q => h v σ' H' B' R q
    | nxt r => exact fun σ' H' B' R _ => h σ' H' B' R
    | exc n d => exact h
    | _ => exact h.elim
end Py

/-! Py, part I: a tuple times any int. -/
namespace Py
open PySem L2

theorem tup_mul_one (l : Addr) (items : Array Value) (n : Nat) (sl : Array (Option Value)) (dd : Option Addr) (x : Int) (u : Tok) (c0 : (decide (x < -(2 ^ 63)) || decide (x ≥ 2 ^ 63)) = false) (c1 : (items.isEmpty || x == 1) = true) :
    Meets (Builtin.«tuple.__mul__» ⟨[.ref l, .int x u], []⟩) (fun _ R s => s.heap.get? l = some { cls := .type "tuple", dict := dd, data := .seq items n, slots := sl } ∧ R (.ok (.ret (.ref l))) s) :=
  .of_wp fun prog w A R s h => by
    obtain ⟨hp, g, d, tk, os⟩ := s
    obtain ⟨hl, h⟩ := h
    have f1 := AutoSeq1.idx_int
    wp_walk using wpAny_loadPart' hl
    repeat (first
      | (refine wpAny_ite_false (decide_eq_false (by rw [c0]; exact Bool.false_ne_true)) ?_; wp_walk using wpAny_loadPart' hl)
      | (refine wpAny_ite_true (decide_eq_true c1) ?_; wp_walk using wpAny_loadPart' hl))
    exact ⟨_, rfl, h⟩
theorem tup_mul_neg (l : Addr) (items : Array Value) (n : Nat) (sl : Array (Option Value)) (dd : Option Addr) (x : Int) (u : Tok) (c0 : (decide (x < -(2 ^ 63)) || decide (x ≥ 2 ^ 63)) = false) (c1 : (items.isEmpty || x == 1) = false) (c2 : x ≤ 0) :
    Meets (Builtin.«tuple.__mul__» ⟨[.ref l, .int x u], []⟩) (fun _ R s => s.heap.get? l = some { cls := .type "tuple", dict := dd, data := .seq items n, slots := sl } ∧
      R (.ok (.ret (Value.ref s.heap.objs.size))) { s with heap := s.heap.push { cls := Value.type "tuple", data := Data.seq #[] }, toks := s.toks }) :=
  .of_wp fun prog w A R s h => by
    obtain ⟨hp, g, d, tk, os⟩ := s
    obtain ⟨hl, h⟩ := h
    have f1 := AutoSeq1.idx_int
    wp_walk using wpAny_loadPart' hl
    repeat (first
      | (refine wpAny_ite_false (decide_eq_false (by rw [c0]; exact Bool.false_ne_true)) ?_; wp_walk using wpAny_loadPart' hl)
      | (refine wpAny_ite_false (decide_eq_false (by rw [c1]; exact Bool.false_ne_true)) ?_; wp_walk using wpAny_loadPart' hl)
      | (refine wpAny_ite_true (decide_eq_true (by rw [decide_eq_true c2]; rfl)) ?_; wp_walk using wpAny_loadPart' hl))
    exact ⟨_, rfl, h⟩
/-- a tuple times an int, all cases -/
def rRepA (K : PySem.W.Frag) : R2 := fun x y H Q => ∃ l k xs, x = .ref l ∧ y = .int k ∧ SqT K H l xs ∧ -1000000 ≤ k ∧ k ≤ 1000 ∧ xs.length ≤ 1000 ∧ (xs = [] ∨ k = 1 → Q (.ref l) H) ∧
  (xs ≠ [] → k ≠ 1 → ∀ p, H p = none → Q (.ref p) (upd H p (.tup (List.replicate k.toNat xs).flatten)))
theorem op_repA {X : Cx} : OpR X (binaryOp .Mult) (rRepA X.K) := by
  intro pins s σ H x y v u Q I rx ry h
  obtain ⟨l, k, xs, rfl, rfl, hT, h0, h1, hz, q1, q2⟩ := h
  by_cases hb : xs ≠ [] ∧ 2 ≤ k
  · exact op_repT pins s σ H _ _ v u Q I rx ry ⟨l, k, xs, rfl, rfl, hT, hb.1, hb.2, h1, hz, q2 hb.1 (by omega)⟩
  cases rx
  obtain ⟨t, rfl⟩ := ry
  obtain ⟨its, r, ⟨⟨cls, dd, data, sl⟩, ho, hc, n, hd⟩, hs⟩ := I.tuple hT
  simp only at hc hd
  subst hc hd
  have hle : its.length = xs.length := r.length.symm
  have c0 : (decide (k < -(2 ^ 63)) || decide (k ≥ 2 ^ 63)) = false := by
    rw [decide_eq_false (by omega), decide_eq_false (by omega)] <;> rfl
  refine PySem.wpAny_binaryOp_repeat_ref (T := "tuple") (U := "int") (by decide) ⟨_, ho, rfl⟩ (fun s' => typeIs_int s' k t) noFill_tuple_mul F.fills_int_mul F.slot_int_rmul repeat_tuple F.slot_int_index.lookup
    (call_meets F.slot_int_rmul (typeIs_int s k t) F.entry_int_rmul (F.args_int_rmul_2 _ _) (int_rmul_tuple k t l its.toArray n dd sl) ⟨ho, rfl, ⟨_, ho, rfl⟩, ?_⟩)
  by_cases hx : xs = [] ∨ k = 1
  · have c1 : (its.toArray.isEmpty || k == 1) = true := by
      rcases hx with e | e
      · rw [e] at hle
        have : its = [] := List.eq_nil_of_length_eq_zero hle
        subst this
        rfl
      · subst e; simp
    exact call_meets F.slot_tuple_mul ⟨_, ho, rfl⟩ F.entry_tuple_mul (F.args_tuple_mul_2 _ _) (tup_mul_one l its.toArray n sl dd k t c0 c1) ⟨ho, ⟨.ref l, H, I, rfl, q1 hx⟩⟩
  · have hx1 : xs ≠ [] := fun e => hx (.inl e)
    have hx2 : k ≠ 1 := fun e => hx (.inr e)
    have hk : k ≤ 0 := by
      have : ¬ 2 ≤ k := fun z => hb ⟨hx1, z⟩
      omega
    have hi : its.toArray.isEmpty = false := by
      cases its with
      | nil => exact absurd (List.eq_nil_of_length_eq_zero hle.symm) hx1
      | cons a b => rfl
    have c1 : (its.toArray.isEmpty || k == 1) = false := by
      rw [hi, Bool.false_or]
      exact beq_eq_false_iff_ne.mpr hx2
    refine call_meets F.slot_tuple_mul ⟨_, ho, rfl⟩ F.entry_tuple_mul (F.args_tuple_mul_2 _ _) (tup_mul_neg l its.toArray n sl dd k t c0 c1 hk) ⟨ho, ?_⟩
    have e0 : (List.replicate k.toNat xs).flatten = [] := by rw [show k.toNat = 0 by omega]; rfl
    have q := q2 hx1 hx2
    rw [e0] at q
    refine ⟨.ref s.heap.objs.size, _, I.laid (t' := s.toks) (o := .tup []) (fun b ob q => Heap.get?_push_of_some _ q) (Nat.le_refl _) ?_, rfl, q _ (I.hok.fresh (Nat.le_refl _))⟩
    exact ⟨Nat.zero_le _, _, .nil, PyProof.Rows.IsTup.new _ _⟩
end Py

/-! Py, part J: the operators on data. -/
namespace Py
open PySem L2

/-! ### bools of data, at any depth -/
def rD2 (K : PySem.W.Frag) (f : D → D → Option Bool) : R2 := fun x y H Q => ∃ d e b, Dp K H x d ∧ Dp K H y e ∧ f d e = some b ∧ Q (.bl b) H
def okD (d : D) : Bool := d.plain && decide (d.depth ≤ 60)
theorem okD_and {d : D} (h : okD d = true) : d.plain = true ∧ d.depth ≤ 60 := by
  unfold okD at h
  rw [Bool.and_eq_true, decide_eq_true_eq] at h
  exact h
def bEq (d e : D) : Option Bool := if okD d = true ∧ okD e = true then some (PyData.eqv d e) else none
def bNe (d e : D) : Option Bool := if okD d = true ∧ okD e = true then some (!PyData.eqv d e) else none
def cmpOk (d e : D) : Prop := okD d = true ∧ okD e = true ∧ PySem.W.alike d e = true ∧ d ≠ .none
def nnD : D → Bool
  | .none => false
  | _ => true
theorem nnD_ne {d : D} (h : nnD d = true) : d ≠ .none := fun e => by subst e; cases h
def cmpB (d e : D) : Bool := okD d && okD e && PySem.W.alike d e && nnD d
def bLt (d e : D) : Option Bool := if cmpB d e = true then some (PySem.W.dataLt d e) else none
def bGt (d e : D) : Option Bool := if cmpB d e = true then some (PySem.W.dataLt e d) else none
def bLe (d e : D) : Option Bool := if cmpB d e = true then some (!PySem.W.dataLt e d) else none
def bGe (d e : D) : Option Bool := if cmpB d e = true then some (!PySem.W.dataLt d e) else none
theorem cmpB_and {d e : D} (h : cmpB d e = true) : okD d = true ∧ okD e = true ∧ PySem.W.alike d e = true ∧ d ≠ .none := by
  unfold cmpB at h
  simp only [Bool.and_eq_true] at h
  exact ⟨h.1.1.1, h.1.1.2, h.1.2, nnD_ne h.2⟩
section
variable {X : Cx}
theorem op_D2 {op : CmpOp} {f : D → D → Option Bool} (rule : ∀ (s : Shared) (u v : Value) (d e : D) (as bs : List Addr) (b : Bool) (Q : Value → Shared → Prop), Reads s.heap u d as → Reads s.heap v e bs → f d e = some b → Q (.bool b) s →
    wpAny (model X.prog X.w) X.A (compareOp op u v) Q X.xe s) : OpR X (compareOp op) (rD2 X.K f) := by
  intro pins s σ H x y v u Q I rx ry h
  obtain ⟨d, e, b, hd, he, hb, q⟩ := h
  obtain ⟨as, r1⟩ := Dp.reads I d x v hd rx
  obtain ⟨bs, r2⟩ := Dp.reads I e y u he ry
  exact rule s v u d e as bs b _ r1 r2 hb ⟨.bl b, H, I, rfl, q⟩
variable (hu : X.A.units + 64 < cLine)
include hu
theorem op_eqB : OpR X (compareOp .Eq) (rD2 X.K bEq) := op_D2 fun s u v d e as bs b Q r1 r2 h q => by
  unfold bEq at h
  split at h
  · rename_i c
    cases h
    obtain ⟨p1, d1⟩ := okD_and c.1
    obtain ⟨p2, d2⟩ := okD_and c.2
    exact SeqAt.eq_plain r1 r2 p1 p2 (by omega) q
  · cases h
theorem op_neB : OpR X (compareOp .NotEq) (rD2 X.K bNe) := op_D2 fun s u v d e as bs b Q r1 r2 h q => by
  unfold bNe at h
  split at h
  · rename_i c
    cases h
    obtain ⟨p1, d1⟩ := okD_and c.1
    obtain ⟨p2, d2⟩ := okD_and c.2
    exact SeqAt.ne_plain r1 r2 p1 p2 (by omega) q
  · cases h
theorem op_ltB : OpR X (compareOp .Lt) (rD2 X.K bLt) := op_D2 fun s u v d e as bs b Q r1 r2 h q => by
  unfold bLt at h
  split at h
  · rename_i c
    cases h
    obtain ⟨p1, p2, p3, p4⟩ := cmpB_and c
    have d1 := (okD_and p1).2
    exact PySem.W.lt_data r1 r2 p3 p4 (by omega) q
  · cases h
theorem op_gtB : OpR X (compareOp .Gt) (rD2 X.K bGt) := op_D2 fun s u v d e as bs b Q r1 r2 h q => by
  unfold bGt at h
  split at h
  · rename_i c
    cases h
    obtain ⟨p1, p2, p3, p4⟩ := cmpB_and c
    have d1 := (okD_and p1).2
    exact PySem.W.gt_data r1 r2 p3 p4 (by omega) q
  · cases h
theorem op_leB : OpR X (compareOp .LtE) (rD2 X.K bLe) := op_D2 fun s u v d e as bs b Q r1 r2 h q => by
  unfold bLe at h
  split at h
  · rename_i c
    cases h
    obtain ⟨p1, p2, p3, p4⟩ := cmpB_and c
    have d1 := (okD_and p1).2
    exact PySem.W.le_data r1 r2 p3 p4 (by omega) q
  · cases h
theorem op_geB : OpR X (compareOp .GtE) (rD2 X.K bGe) := op_D2 fun s u v d e as bs b Q r1 r2 h q => by
  unfold bGe at h
  split at h
  · rename_i c
    cases h
    obtain ⟨p1, p2, p3, p4⟩ := cmpB_and c
    have d1 := (okD_and p1).2
    exact PySem.W.ge_data r1 r2 p3 p4 (by omega) q
  · cases h
/-- x in a list, a tuple -/
def bIn (d e : D) : Option Bool := match e with
  | .list xs => if okD d = true ∧ okD e = true then some (xs.any fun y => PyData.eqv y d) else none
  | .tuple xs => if okD d = true ∧ okD e = true then some (xs.any fun y => PyData.eqv y d) else none
  | _ => none
def bNotIn (d e : D) : Option Bool := (bIn d e).map (!·)
theorem op_inB : OpR X (compareOp .In) (rD2 X.K bIn) := op_D2 fun s u v d e as bs b Q r1 r2 h q => by
  unfold bIn at h
  split at h
  · split at h
    · rename_i c
      cases h
      obtain ⟨p1, d1⟩ := okD_and c.1
      obtain ⟨p2, d2⟩ := okD_and c.2
      exact SeqAt.in_list_data r2 r1 (by simpa [PyData.plain] using p2) p1 (by omega) q
    · cases h
  · split at h
    · rename_i c
      cases h
      obtain ⟨p1, d1⟩ := okD_and c.1
      obtain ⟨p2, d2⟩ := okD_and c.2
      exact SeqAt.in_tuple_data r2 r1 (by simpa [PyData.plain] using p2) p1 (by omega) q
    · cases h
  · cases h
theorem op_notInB : OpR X (compareOp .NotIn) (rD2 X.K bNotIn) := op_D2 fun s u v d e as bs b Q r1 r2 h q => by
  unfold bNotIn bIn at h
  split at h
  · split at h
    · rename_i c
      cases h
      obtain ⟨p1, d1⟩ := okD_and c.1
      obtain ⟨p2, d2⟩ := okD_and c.2
      exact SeqAt.notIn_list_data r2 r1 (by simpa [PyData.plain] using p2) p1 (by omega) q
    · cases h
  · split at h
    · rename_i c
      cases h
      obtain ⟨p1, d1⟩ := okD_and c.1
      obtain ⟨p2, d2⟩ := okD_and c.2
      exact SeqAt.notIn_tuple_data r2 r1 (by simpa [PyData.plain] using p2) p1 (by omega) q
    · cases h
  · cases h
end
def ofB (f : D → D → Option Bool) (d e : D) : Option D := (f d e).map .bool
section
variable {c : Cfg}
theorem op2_D2 {f : D → D → Option Bool} (hf : ∀ d e b, f d e = some b → d.plain = true ∧ e.plain = true) : Op2 c (rD2 c.K f) (ofB f) := fun B H x y d e g Q nb rx ry h q => by
  unfold ofB at h
  cases eb : f d e with
  | none => rw [eb] at h; cases h
  | some b =>
    rw [eb] at h; cases h
    obtain ⟨p1, p2⟩ := hf d e b eb
    exact ⟨d, e, b, rx.dp p1, ry.dp p2, eb, q _ H (Ext.refl H) (.bl b)⟩
end
theorem bEq_pl (d e : D) (b : Bool) (h : bEq d e = some b) : d.plain = true ∧ e.plain = true := by
  unfold bEq at h
  split at h
  · rename_i c; exact ⟨(okD_and c.1).1, (okD_and c.2).1⟩
  · cases h
theorem bNe_pl (d e : D) (b : Bool) (h : bNe d e = some b) : d.plain = true ∧ e.plain = true := by
  unfold bNe at h
  split at h
  · rename_i c; exact ⟨(okD_and c.1).1, (okD_and c.2).1⟩
  · cases h
theorem cmp_pl {d e : D} {b k : Bool} (h : (if cmpB d e = true then some b else none) = some k) : d.plain = true ∧ e.plain = true := by
  split at h
  · rename_i c; obtain ⟨p1, p2, _⟩ := cmpB_and c; exact ⟨(okD_and p1).1, (okD_and p2).1⟩
  · cases h
theorem bIn_pl (d e : D) (b : Bool) (h : bIn d e = some b) : d.plain = true ∧ e.plain = true := by
  unfold bIn at h
  split at h
  · split at h
    · rename_i c; exact ⟨(okD_and c.1).1, (okD_and c.2).1⟩
    · cases h
  · split at h
    · rename_i c; exact ⟨(okD_and c.1).1, (okD_and c.2).1⟩
    · cases h
  · cases h
theorem bNotIn_pl (d e : D) (b : Bool) (h : bNotIn d e = some b) : d.plain = true ∧ e.plain = true := by
  unfold bNotIn at h
  cases eb : bIn d e with
  | none => rw [eb] at h; cases h
  | some k => exact bIn_pl d e k eb

/-! ### numbers, joins, times -/
def fAdd : D → D → Option D
  | .int i, .int j => some (.int (i + j))
  | .tuple xs, .tuple ys => if xs.length + ys.length ≤ lim then some (.tuple (xs ++ ys)) else none
  | .list xs, .list ys => if xs.length + ys.length ≤ lim then some (.list (xs ++ ys)) else none
  | .str a, .str b => if a.length + b.length ≤ lim then some (.str (a ++ b)) else none
  | _, _ => none
def fSub : D → D → Option D
  | .int i, .int j => some (.int (i - j))
  | _, _ => none
def W64 (i : Int) : Prop := -(2 ^ 64) < i ∧ i < 2 ^ 64
instance (i : Int) : Decidable (W64 i) := inferInstanceAs (Decidable (_ ∧ _))
def fMul : D → D → Option D
  | .int i, .int j => if W64 i ∨ W64 j then some (.int (i * j)) else none
  | .tuple xs, .int k => if -1000000 ≤ k ∧ k ≤ 1000 ∧ xs.length ≤ 1000 then some (.tuple (List.replicate k.toNat xs).flatten) else none
  | .list xs, .int k => if -1000000 ≤ k ∧ k ≤ 1000 ∧ xs.length ≤ 1000 then some (.list (List.replicate k.toNat xs).flatten) else none
  | _, _ => none
def fDiv : D → D → Option D
  | .int i, .int j => if 0 < j ∧ j < 2 ^ 250 then some (.int (i / j)) else none
  | _, _ => none
def fMod : D → D → Option D
  | .int i, .int j => if 0 < j then some (.int (i % j)) else none
  | _, _ => none
def fPow : D → D → Option D
  | .int i, .int j => if 0 ≤ j ∧ j ≤ 1000 ∧ W64 i then some (.int (i ^ j.toNat)) else none
  | _, _ => none
def qAdd (K : PySem.W.Frag) : R2 := fun x y H Q => rI0 (fun i j => .int (i + j)) x y H Q ∨ rCatA K x y H Q ∨ rCat x y H Q ∨ ∃ i j, x = .str i ∧ y = .str j ∧ i.length + j.length ≤ sizeLine ∧ Q (.str (i ++ j)) H
theorem op_addA {X : Cx} : OpR X (binaryOp .Add) (qAdd X.K) := op_add.or (op_catA.or (op_cat.or op_add_str))
theorem i2_add {c : Cfg} : Op2 c (qAdd c.K) fAdd := fun B H x y d e g Q nb rx ry h q => by
  unfold fAdd at h
  split at h
  · cases h; cases rx; cases ry
    exact .inl ⟨_, _, rfl, rfl, q _ H (Ext.refl H) (.int _)⟩
  · split at h
    · rename_i hl
      cases h
      obtain ⟨a, us, rfl, s1, r1⟩ := rx.tupI
      obtain ⟨b, ws, rfl, s2, r2⟩ := ry.tupI
      have hl' : us.length + ws.length ≤ sizeLine := by rw [← r1.length, ← r2.length]; exact lim_line hl
      refine .inr (.inl ⟨a, b, us, ws, rfl, rfl, s1, s2, hl', fun e => ?_, fun _ e => ?_, fun _ _ p hp => ?_⟩)
      · subst e; cases r1; exact q _ H (Ext.refl H) ry
      · subst e; cases r2; rw [List.append_nil] at q; exact q _ H (Ext.refl H) rx
      · exact q _ _ (Ext.new hp) (Rep.newT (nb p hp) hp (r1.app r2))
    · cases h
  · split at h
    · rename_i hl
      cases h
      obtain ⟨a, us, rfl, _, s1, r1⟩ := rx.lstI
      obtain ⟨b, ws, rfl, _, s2, r2⟩ := ry.lstI
      exact .inr (.inr (.inl ⟨a, b, us, ws, rfl, rfl, s1, s2, by rw [← r1.length, ← r2.length]; exact lim_line hl, fun p hp => q _ _ (Ext.new hp) (Rep.newL (nb p hp) hp (r1.app r2))⟩))
    · cases h
  · split at h
    · rename_i hl
      cases h; cases rx; cases ry
      exact .inr (.inr (.inr ⟨_, _, rfl, rfl, lim_line hl, q _ H (Ext.refl H) (.str _)⟩))
    · cases h
  · cases h
theorem i2_sub {c : Cfg} : Op2 c (rI0 fun i j => .int (i - j)) fSub := fun B H x y d e g Q nb rx ry h q => by
  unfold fSub at h
  split at h
  · cases h; cases rx; cases ry
    exact ⟨_, _, rfl, rfl, q _ H (Ext.refl H) (.int _)⟩
  · cases h
theorem Reps.rep {K : PySem.W.Frag} {B : Av} {H : Hp} {ds : List D} {vs : List V} (r : Reps K B H ds vs) : ∀ n : Nat, Reps K B H (List.replicate n ds).flatten (List.replicate n vs).flatten
  | 0 => .nil
  | n + 1 => by
    rw [List.replicate_succ, List.replicate_succ, List.flatten_cons, List.flatten_cons]
    exact r.app (Reps.rep r n)
theorem rep1 (xs : List D) : (List.replicate (1 : Int).toNat xs).flatten = xs := by show (List.replicate 1 xs).flatten = xs; simp
def qMul (K : PySem.W.Frag) : R2 := fun x y H Q => rI CMul (fun i j => .int (i * j)) x y H Q ∨ rRepA K x y H Q ∨ rRep x y H Q
theorem op_mulA {X : Cx} : OpR X (binaryOp .Mult) (qMul X.K) := op_mul.or (op_repA.or op_rep)
theorem i2_mul {c : Cfg} : Op2 c (qMul c.K) fMul := fun B H x y d e g Q nb rx ry h q => by
  unfold fMul at h
  split at h
  · split at h
    · rename_i hc
      cases h; cases rx; cases ry
      exact .inl ⟨_, _, rfl, rfl, hc, q _ H (Ext.refl H) (.int _)⟩
    · cases h
  · split at h
    · rename_i hl
      cases h; cases ry
      obtain ⟨a, us, rfl, s1, r1⟩ := rx.tupI
      refine .inr (.inl ⟨a, _, us, rfl, rfl, s1, hl.1, hl.2.1, by rw [← r1.length]; exact hl.2.2, fun z => ?_, fun _ _ p hp => ?_⟩)
      · rcases z with z | z
        · subst z; cases r1
          have : ∀ n : Nat, (List.replicate n ([] : List D)).flatten = [] := fun n => by induction n with
            | zero => rfl
            | succ n ih => rw [List.replicate_succ, List.flatten_cons, ih]; rfl
          rw [this] at q
          exact q _ H (Ext.refl H) rx
        · subst z
          rw [rep1] at q
          exact q _ H (Ext.refl H) rx
      · exact q _ _ (Ext.new hp) (Rep.newT (nb p hp) hp (r1.rep _))
    · cases h
  · split at h
    · rename_i hl
      cases h; cases ry
      obtain ⟨a, us, rfl, _, s1, r1⟩ := rx.lstI
      refine .inr (.inr ⟨a, _, us, rfl, rfl, s1, by omega, by omega, ?_, fun p hp => q _ _ (Ext.new hp) (Rep.newL (nb p hp) hp (r1.rep _))⟩)
      rw [← r1.length, sizeLine_eq]
      have := Nat.mul_le_mul hl.2.2 (show Int.toNat _ ≤ 1000 from Int.toNat_le.mpr hl.2.1)
      omega
    · cases h
  · cases h
theorem div_c {j : Int} (h : 0 < j ∧ j < 2 ^ 250) : j.natAbs.log2 < 9000 := by
  have h1 : j.natAbs < 2 ^ 250 := by omega
  have h2 : j.natAbs ≠ 0 := by omega
  have := (Nat.log2_lt h2).mpr h1
  omega
theorem i2_div {c : Cfg} : Op2 c (rI CDivW fun i j => .int (i / j)) fDiv := fun B H x y d e g Q nb rx ry h q => by
  unfold fDiv at h
  split at h
  · split at h
    · rename_i hc
      cases h; cases rx; cases ry
      exact ⟨_, _, rfl, rfl, ⟨hc.1, div_c hc⟩, q _ H (Ext.refl H) (.int _)⟩
    · cases h
  · cases h
theorem i2_mod {c : Cfg} : Op2 c (rI (fun _ j => 0 < j) fun i j => .int (i % j)) fMod := fun B H x y d e g Q nb rx ry h q => by
  unfold fMod at h
  split at h
  · split at h
    · rename_i hc
      cases h; cases rx; cases ry
      exact ⟨_, _, rfl, rfl, hc, q _ H (Ext.refl H) (.int _)⟩
    · cases h
  · cases h
theorem i2_pow {c : Cfg} : Op2 c (rI CPow fun i j => .int (i ^ j.toNat)) fPow := fun B H x y d e g Q nb rx ry h q => by
  unfold fPow at h
  split at h
  · split at h
    · rename_i hc
      cases h; cases rx; cases ry
      obtain ⟨h1, h2, h3, h4⟩ := hc
      exact ⟨_, _, rfl, rfl, ⟨h1, by omega, by omega⟩, q _ H (Ext.refl H) (.int _)⟩
    · cases h
  · cases h
def fNeg : D → Option D
  | .int i => some (.int (-i))
  | _ => none
theorem i1_neg {c : Cfg} : Op1 c (rU fun i => .int (-i)) fNeg := fun B H x d g Q nb rx h q => by
  unfold fNeg at h
  split at h
  · cases h; cases rx
    exact ⟨_, rfl, q _ H (Ext.refl H) (.int _)⟩
  · cases h

/-! ### comparisons -/
def fLt (d e : D) : Option D := match d, e with
  | .int i, .int j => some (.bool (decide (i < j)))
  | _, _ => ofB bLt d e
def fGt (d e : D) : Option D := match d, e with
  | .int i, .int j => some (.bool (decide (j < i)))
  | _, _ => ofB bGt d e
def fLe (d e : D) : Option D := match d, e with
  | .int i, .int j => some (.bool (decide (i ≤ j)))
  | _, _ => ofB bLe d e
def fGe (d e : D) : Option D := match d, e with
  | .int i, .int j => some (.bool (decide (j ≤ i)))
  | _, _ => ofB bGe d e
def qC (K : PySem.W.Frag) (g : Int → Int → Bool) (f : D → D → Option Bool) : R2 := fun x y H Q => rI0 (fun i j => .bl (g i j)) x y H Q ∨ rD2 K f x y H Q
theorem i2_cmp {c : Cfg} {g : Int → Int → Bool} {f : D → D → Option Bool} (hf : ∀ d e b, f d e = some b → d.plain = true ∧ e.plain = true) : Op2 c (qC c.K g f) (fun d e => match d, e with
    | .int i, .int j => some (.bool (g i j))
    | _, _ => ofB f d e) := fun B H x y d e r Q nb rx ry h q => by
  dsimp only at h
  split at h
  · cases h; cases rx; cases ry
    exact .inl ⟨_, _, rfl, rfl, q _ H (Ext.refl H) (.bl _)⟩
  · exact .inr (op2_D2 hf B H x y _ _ r Q nb rx ry h q)
theorem i2_lt {c : Cfg} : Op2 c (qC c.K (fun i j => decide (i < j)) bLt) fLt := i2_cmp fun _ _ _ h => cmp_pl h
theorem i2_gt {c : Cfg} : Op2 c (qC c.K (fun i j => decide (j < i)) bGt) fGt := i2_cmp fun _ _ _ h => cmp_pl h
theorem i2_le {c : Cfg} : Op2 c (qC c.K (fun i j => decide (i ≤ j)) bLe) fLe := i2_cmp fun _ _ _ h => cmp_pl h
theorem i2_ge {c : Cfg} : Op2 c (qC c.K (fun i j => decide (j ≤ i)) bGe) fGe := i2_cmp fun _ _ _ h => cmp_pl h
/-- x is None, also True is True -/
def bIs (d e : D) : Option Bool := match d, e with
  | .bool a, .bool b => some (decide (a = b))
  | d, .none => some (!nnD d)
  | _, _ => none
def fIs (d e : D) : Option D := ofB bIs d e
def bIsNot (d e : D) : Option Bool := match d, e with
  | .bool a, .bool b => some (!decide (a = b))
  | d, .none => some (!(!nnD d))
  | _, _ => none
def fIsNot (d e : D) : Option D := ofB bIsNot d e
def qIs : R2 := fun x y H Q => (y = .non ∧ Q (.bl (decide (x = .non))) H) ∨ rIsB x y H Q
def qIsNot : R2 := fun x y H Q => (y = .non ∧ Q (.bl (!decide (x = .non))) H) ∨ rNotB x y H Q
theorem op_isA {X : Cx} : OpR X (compareOp .Is) qIs := op_isN.or op_isBl
theorem op_isNotA {X : Cx} : OpR X (compareOp .IsNot) qIsNot := op_notN.or op_notBl
theorem Rep.non_iff {K : PySem.W.Frag} {B : Av} {H : Hp} {d : D} {x : V} (r : Rep K B H d x) : decide (x = .non) = !nnD d := by
  cases r <;> rfl
theorem i2_is {c : Cfg} : Op2 c qIs fIs := fun B H x y d e g Q nb rx ry h q => by
  unfold fIs ofB bIs at h
  split at h
  · cases h; cases rx; cases ry
    exact .inr ⟨_, _, rfl, rfl, q _ H (Ext.refl H) (.bl _)⟩
  · cases h; cases ry
    exact .inl ⟨rfl, by rw [rx.non_iff]; exact q _ H (Ext.refl H) (.bl _)⟩
  · cases h
theorem i2_isNot {c : Cfg} : Op2 c qIsNot fIsNot := fun B H x y d e g Q nb rx ry h q => by
  unfold fIsNot ofB bIsNot at h
  split at h
  · cases h; cases rx; cases ry
    exact .inr ⟨_, _, rfl, rfl, q _ H (Ext.refl H) (.bl _)⟩
  · cases h; cases ry
    exact .inl ⟨rfl, by rw [rx.non_iff]; exact q _ H (Ext.refl H) (.bl _)⟩
  · cases h
/-- in: lists, tuples, texts -/
def fIn (d e : D) : Option D := match d, e with
  | .str i, .str j => some (.bool (!(Builtin.Str.occurrences j i 0 j.length 1).isEmpty))
  | _, _ => ofB bIn d e
def fNotIn (d e : D) : Option D := match d, e with
  | .str i, .str j => some (.bool (!(!(Builtin.Str.occurrences j i 0 j.length 1).isEmpty)))
  | _, _ => ofB bNotIn d e
def qIn (K : PySem.W.Frag) : R2 := fun x y H Q => rD2 K bIn x y H Q ∨ ∃ i j, x = .str i ∧ y = .str j ∧ Q (.bl (!(Builtin.Str.occurrences j i 0 j.length 1).isEmpty)) H
def qNotIn (K : PySem.W.Frag) : R2 := fun x y H Q => rD2 K bNotIn x y H Q ∨ ∃ i j, x = .str i ∧ y = .str j ∧ Q (.bl (!(!(Builtin.Str.occurrences j i 0 j.length 1).isEmpty))) H
theorem i2_in {c : Cfg} : Op2 c (qIn c.K) fIn := fun B H x y d e g Q nb rx ry h q => by
  unfold fIn at h
  split at h
  · cases h; cases rx; cases ry
    exact .inr ⟨_, _, rfl, rfl, q _ H (Ext.refl H) (.bl _)⟩
  · exact .inl (op2_D2 bIn_pl B H x y _ _ g Q nb rx ry h q)
theorem i2_notIn {c : Cfg} : Op2 c (qNotIn c.K) fNotIn := fun B H x y d e g Q nb rx ry h q => by
  unfold fNotIn at h
  split at h
  · cases h; cases rx; cases ry
    exact .inr ⟨_, _, rfl, rfl, q _ H (Ext.refl H) (.bl _)⟩
  · exact .inl (op2_D2 bNotIn_pl B H x y _ _ g Q nb rx ry h q)
end Py

/-! Py, part K: subscripts, slices, calls of built-ins. -/
namespace Py
open PySem L2

/-! ### a[i] -/
def fIx : D → D → Option D
  | .list xs, .int i => atI xs i
  | .tuple xs, .int i => atI xs i
  | .str z, .int i => if z.length ≤ lim then (atI z.cps.toList i).map fun c => .str ⟨#[c]⟩ else none
  | _, _ => none
section
variable {K : PySem.W.Frag} {B : Av} {H : Hp}
theorem Reps.atI {ds : List D} {vs : List V} (r : Reps K B H ds vs) {i : Int} {d : D} (h : atI ds i = some d) : ∃ v, atI vs i = some v ∧ Rep K B H d v := by
  unfold L2.atI at h ⊢
  rw [← r.length]
  cases e : ixN ds.length i with
  | none => rw [e] at h; cases h
  | some j => rw [e] at h; exact r.get (show ds[j]? = some d from h)
theorem Rep.sqI {d : D} {ds : List D} {v : V} (e : d = .list ds) (h : Rep K B H d v) : ∃ a xs, v = .ref a ∧ SqL K H a xs ∧ Reps K B H ds xs := by
  subst e
  obtain ⟨a, xs, rfl, _, s, r⟩ := h.lstI
  exact ⟨a, xs, rfl, .inl (.inl s), r⟩
end
theorem i2_ix {c : Cfg} : Op2 c (rIx c.K) fIx := fun B H x y d e g Q nb rx ry h q => by
  unfold fIx at h
  split at h
  · cases ry
    obtain ⟨a, us, rfl, s, r⟩ := rx.sqI rfl
    obtain ⟨v, ev, rv⟩ := r.atI h
    exact .inl ⟨a, us, _, v, rfl, rfl, s, ev, q v H (Ext.refl H) rv⟩
  · cases ry
    obtain ⟨a, us, rfl, s, r⟩ := rx.tupI
    obtain ⟨v, ev, rv⟩ := r.atI h
    exact .inr (.inl ⟨a, us, _, v, rfl, rfl, s, ev, q v H (Ext.refl H) rv⟩)
  · split at h
    · rename_i hl
      cases rx; cases ry
      obtain ⟨c', ec, rfl⟩ := Option.map_eq_some_iff.mp h
      exact .inr (.inr ⟨_, _, c', rfl, rfl, lim_line hl, ec, q _ H (Ext.refl H) (.str _)⟩)
    · cases h
  · cases h
section
variable {X : Cx} {c : Cfg} {E : EX}
theorem snd_ix {a b : Expr} {oa ob : O1} {pos : Pos} (hK : c.K = X.K) (ha : PE X a (denE c E oa)) (hb : PE X b (denE c E ob)) (hs : PlainIx b) : PE X (.Subscript a b pos) (denE c E (oOp2 fIx oa ob)) :=
  pe_mono (pe_ix ix_seq ha hb hs) fun σ H Q h => by rw [← hK]; exact den2 i2_ix h

/-! ### a[lo:hi] -/
def oNoPart : O1 := fun r => .val .none r
def denP (c : Cfg) (E : EX) (o : O1) : TO := fun σ H Q => ∃ r B, Rel c r B σ H ∧ PostE c E σ B H (fun x H' => (x = .non ∧ Q none H') ∨ ∃ i, x = .int i ∧ Q (some i) H') (o r)
theorem snd_none : PO X none (denP c E oNoPart) := ⟨fun pins s σ H Q I ⟨r, B, R, h⟩ => po_none.run pins s σ H Q I (by
  rcases h .non H B R (Step.refl _ _) .non with ⟨_, q⟩ | ⟨i, e, _⟩
  · exact q
  · cases e)⟩
/-- the parts of a slice, an int each or none -/
def oPart (o : O1) : O1 := fun r => (o r).bnd fun d r1 => match d with
  | .int i => .val (.int i) r1
  | _ => .bad
theorem snd_some {e : Expr} {o : O1} (h : PE X e (denE c E o)) : PO X (some e) (denP c E (oPart o)) := ⟨fun pins s σ H Q I ⟨r, B, R, h'⟩ => (po_some h).run pins s σ H Q I (by
  refine ⟨r, B, R, bndE ppE h' fun d1 r1 v1 H1 B1 _ R1 S1 q1 h1 => ?_⟩
  cases d1 with
  | int i =>
    cases q1
    rcases h1 (.int i) H1 B1 R1 (Step.refl _ _) (.int i) with ⟨e, _⟩ | ⟨j, e, q⟩
    · cases e
    · cases e; exact ⟨i, rfl, q⟩
  | _ => exact h1.elim)⟩
def Out.part (d : D) (k : Option Int → Out) : Out := match d with
  | .none => k none
  | .int i => k (some i)
  | _ => .bad
def cutD (xs : List D) (lo hi : Option Int) : List D := (xs.drop (HT.sIx xs.length 0 lo)).take (HT.sIx xs.length xs.length hi - HT.sIx xs.length 0 lo)
def fSl (d : D) (lo hi : Option Int) : Option D := match d with
  | .list xs => some (.list (cutD xs lo hi))
  | .tuple xs => some (.tuple (cutD xs lo hi))
  | .str z => if z.length ≤ lim then some (.str (cutS z lo hi)) else none
  | _ => none
def oSl (a l h : O1) : O1 := fun r => (a r).bnd fun d r1 => (l r1).bnd fun x r2 => Out.part x fun lo => (h r2).bnd fun y r3 => Out.part y fun hi => optO (fSl d lo hi) r3
def qSl (K : PySem.W.Frag) : V → Option Int → Option Int → Hp → VK → Prop := fun x lo hi H Q => rSlL K x lo hi H Q ∨ rSlA K x lo hi H Q ∨ rSlS x lo hi H Q
theorem Reps.cut {K : PySem.W.Frag} {B : Av} {H : Hp} {ds : List D} {vs : List V} (r : Reps K B H ds vs) (lo hi : Option Int) : Reps K B H (cutD ds lo hi) (cutV vs lo hi) := by
  unfold cutD cutV
  rw [← r.length]
  exact (r.drop _).take _
theorem cutD_all {xs : List D} {lo hi : Option Int} (h : HT.sIx xs.length 0 lo = 0 ∧ HT.sIx xs.length xs.length hi = xs.length) : cutD xs lo hi = xs := by
  unfold cutD
  rw [h.1, h.2]
  simp
theorem snd_sl {a : Expr} {lo hi : Option Expr} {oa ol oh : O1} {p2 pos : Pos} (hK : c.K = X.K) (ha : PE X a (denE c E oa)) (hl : PO X lo (denP c E ol)) (hh : PO X hi (denP c E oh)) :
    PE X (.Subscript a (.Slice lo hi none p2) pos) (denE c E (oSl oa ol oh)) := by
  refine pe_mono (pe_slice (sl_list.or (sl_tupA.or sl_str)) ha hl hh) fun σ H Q ⟨r, B, R, h⟩ => ?_
  rw [← hK]
  refine ⟨r, B, R, bndE ppE h fun d1 r1 v1 H1 B1 _ R1 S1 q1 h1 => ⟨r1, B1, R1, bndE ppE h1 fun d2 r2 v2 H2 B2 _ R2 S2 q2 h2 => ?_⟩⟩
  have go : ∀ (o2 : Option Int), PostE c E σ B2 H2 Q ((oh r2).bnd fun y r3 => Out.part y fun hi => optO (fSl d1 o2 hi) r3) → denP c E oh σ H2 (fun u H3 => qSl c.K v1 o2 u H3 Q) := fun o2 h2 => by
    refine ⟨r2, B2, R2, bndE ppE h2 fun d3 r3 v3 H3 B3 _ R3 S3 q3 h3 => ?_⟩
    have q1' := (q1.step (R1.v S2)).step (R2.v S3)
    have go2 : ∀ o3 : Option Int, PostE c E σ B3 H3 Q (optO (fSl d1 o2 o3) r3) → qSl c.K v1 o2 o3 H3 Q := fun o3 h3 => by
      unfold fSl optO at h3
      cases d1 with
      | list xs =>
        obtain ⟨a', us, rfl, s, rr⟩ := q1'.sqI rfl
        exact .inl ⟨a', us, rfl, s, fun p hp => h3 _ _ B3 (R3.ext (Ext.new hp)) (Ext.new hp).step (Rep.newL (R3.fresh hp) hp (rr.cut o2 o3))⟩
      | tuple xs =>
        have q1'' := q1'
        obtain ⟨a', us, rfl, s, rr⟩ := q1'.tupI
        refine .inr (.inl ⟨a', us, rfl, s, fun z => ?_, fun _ p hp => h3 _ _ B3 (R3.ext (Ext.new hp)) (Ext.new hp).step (Rep.newT (R3.fresh hp) hp (rr.cut o2 o3))⟩)
        rw [← rr.length] at z
        have h3' : PostE c E σ B3 H3 Q (.val (.tuple (cutD xs o2 o3)) r3) := h3
        rw [cutD_all z] at h3'
        exact h3' _ H3 B3 R3 (Step.refl _ _) q1''
      | str z =>
        cases q1'
        by_cases hz : z.length ≤ lim
        · have h3' : PostE c E σ B3 H3 Q (match (if z.length ≤ lim then some (PyData.str (cutS z o2 o3)) else none) with
            | some d => Out.val d r3
            | none => .bad) := h3
          rw [if_pos hz] at h3'
          exact .inr (.inr ⟨z, rfl, lim_line hz, h3' _ H3 B3 R3 (Step.refl _ _) (.str _)⟩)
        · have h3' : PostE c E σ B3 H3 Q (match (if z.length ≤ lim then some (PyData.str (cutS z o2 o3)) else none) with
            | some d => Out.val d r3
            | none => .bad) := h3
          rw [if_neg hz] at h3'
          exact h3'.elim
      | _ => exact h3.elim
    cases q3 with
    | non => exact .inl ⟨rfl, go2 none h3⟩
    | int i => exact .inr ⟨i, rfl, go2 (some i) h3⟩
    | _ => exact h3.elim
  cases q2 with
  | non => exact .inl ⟨rfl, go none h2⟩
  | int i => exact .inr ⟨i, rfl, go (some i) h2⟩
  | _ => exact h2.elim

/-- the script's first cells -/
def oScr (i : Nat) : O1 := fun r => match r[i]? with
  | some (.scr ns) => .val (.list (cutD (ns.map .int) none (some 63))) r
  | _ => .bad
theorem Reps.ofInts {K : PySem.W.Frag} {B : Av} {H : Hp} : ∀ ns : List Int, Reps K B H (ns.map .int) (ns.map V.int)
  | [] => .nil
  | n :: ns => .cons (.int n) (Reps.ofInts ns)
theorem snd_scr {i : Nat} {x : Str} {p p1 p2 pos : Pos} {k : Nat} (hK : c.K = X.K) (hN : X.N[i]? = some x) (hv : Vis X.env.scope x) (hd : (x == ("__debug__" : Str)) = false) (hcd : (x == ("__classdict__" : Str)) = false) :
    PE X (.Subscript (.Name x p) (.Slice none (some (.Constant (.int 63) k p1)) none p2) pos) (denE c E (oScr i)) := by
  refine pe_mono (pe_slice sl_list (pe_var hN hv hd hcd) po_none (po_some pe_int)) fun σ H Q ⟨r, B, R, h⟩ => ?_
  unfold oScr at h
  cases e : r[i]? with
  | none => rw [e] at h; exact h.elim
  | some s =>
    rw [e] at h
    cases s with
    | scr ns =>
      obtain ⟨u, hu, a, rfl, sq⟩ := R.at e
      refine ⟨.ref a, hu, 63, rfl, a, ns.map V.int, rfl, by rw [← hK]; exact sq.sq, fun p hp => ?_⟩
      exact h _ _ B (R.ext (Ext.new hp)) (Ext.new hp).step (Rep.newL (R.fresh hp) hp ((Reps.ofInts ns).cut none (some 63)))
    | _ => exact h.elim
end
end Py

/-! Py, part L: calls of built-ins. -/
namespace Py
open PySem L2

def intsOf : List D → Option (List Int)
  | [] => some []
  | .int i :: ds => (intsOf ds).map (i :: ·)
  | _ :: _ => none
theorem intsOf_eq : ∀ {ds : List D} {ns : List Int}, intsOf ds = some ns → ds = ns.map .int
  | [], _, h => by cases h; rfl
  | .int i :: ds, ns, h => by
    unfold intsOf at h
    obtain ⟨ms, e, rfl⟩ := Option.map_eq_some_iff.mp h
    rw [intsOf_eq e]; rfl
  | .none :: _, _, h => by cases h
  | .bool _ :: _, _, h => by cases h
  | .str _ :: _, _, h => by cases h
  | .list _ :: _, _, h => by cases h
  | .tuple _ :: _, _, h => by cases h
  | .dict _ :: _, _, h => by cases h
theorem intsOf_map : ∀ ns : List Int, intsOf (ns.map .int) = some ns
  | [] => rfl
  | n :: ns => by show (intsOf (ns.map .int)).map _ = _; rw [intsOf_map ns]; rfl
def blsOf : List D → Option (List Bool)
  | [] => some []
  | .bool i :: ds => (blsOf ds).map (i :: ·)
  | _ :: _ => none
theorem blsOf_eq : ∀ {ds : List D} {ns : List Bool}, blsOf ds = some ns → ds = ns.map .bool
  | [], _, h => by cases h; rfl
  | .bool i :: ds, ns, h => by
    unfold blsOf at h
    obtain ⟨ms, e, rfl⟩ := Option.map_eq_some_iff.mp h
    rw [blsOf_eq e]; rfl
  | .none :: _, _, h => by cases h
  | .int _ :: _, _, h => by cases h
  | .str _ :: _, _, h => by cases h
  | .list _ :: _, _, h => by cases h
  | .tuple _ :: _, _, h => by cases h
  | .dict _ :: _, _, h => by cases h
theorem blsOf_map : ∀ ns : List Bool, blsOf (ns.map .bool) = some ns
  | [] => rfl
  | n :: ns => by show (blsOf (ns.map .bool)).map _ = _; rw [blsOf_map ns]; rfl

/-! ### len, abs, int, sum, all, any, list, tuple -/
section
variable {c : Cfg} {K : PySem.W.Frag} {B : Av} {H : Hp}
theorem Reps.oneI {ds : List D} {xs : List V} (h : Reps K B H ds xs) {d : D} (e : ds = [d]) : ∃ v, xs = [v] ∧ Rep K B H d v := by
  subst e
  cases h with
  | cons r t => cases t; exact ⟨_, rfl, r⟩
theorem Reps.twoI {ds : List D} {xs : List V} (h : Reps K B H ds xs) {d e : D} (q : ds = [d, e]) : ∃ v u, xs = [v, u] ∧ Rep K B H d v ∧ Rep K B H e u := by
  subst q
  cases h with
  | cons r t =>
    cases t with
    | cons r2 t2 => cases t2; exact ⟨_, _, rfl, r, r2⟩
theorem Rep.tup0 {ds : List D} {v : V} (h : Rep K B H (.tuple ds) v) : ∃ a xs, v = .ref a ∧ SqT K H a xs ∧ Reps K B H ds xs := h.tupI
theorem Rep.lst0 {ds : List D} {v : V} (h : Rep K B H (.list ds) v) : ∃ a xs, v = .ref a ∧ SqL K H a xs ∧ Reps K B H ds xs := h.sqI rfl
end
def fLen : List D → Option D
  | [.list xs] => some (.int xs.length)
  | [.tuple xs] => some (.int xs.length)
  | [.str z] => if z.length ≤ lim then some (.int z.length) else none
  | _ => none
theorem iN_len {c : Cfg} : OpN c (fun xs H Q => ∃ x n, xs = [x] ∧ LenV c.K x H n ∧ Q (.int n) H) fLen := fun B H xs ds g Q nb r h q => by
  unfold fLen at h
  split at h
  · obtain ⟨v, rfl, rv⟩ := r.oneI rfl
    cases h
    obtain ⟨a, us, rfl, s, rr⟩ := rv.lst0
    exact ⟨_, _, rfl, .inl ⟨us, s, rfl⟩, by rw [← rr.length]; exact q _ H (Ext.refl H) (.int _)⟩
  · obtain ⟨v, rfl, rv⟩ := r.oneI rfl
    cases h
    obtain ⟨a, us, rfl, s, rr⟩ := rv.tup0
    exact ⟨_, _, rfl, .inr ⟨us, s, rfl⟩, by rw [← rr.length]; exact q _ H (Ext.refl H) (.int _)⟩
  · split at h
    · rename_i hl
      obtain ⟨v, rfl, rv⟩ := r.oneI rfl
      cases h; cases rv
      exact ⟨_, _, rfl, ⟨lim_line hl, rfl⟩, q _ H (Ext.refl H) (.int _)⟩
    · cases h
  · cases h
def fAbs : List D → Option D
  | [.int i] => some (.int (if i < 0 then -i else i))
  | _ => none
theorem iN_abs {c : Cfg} : OpN c (fun xs H Q => ∃ i, xs = [.int i] ∧ Q (.int (if i < 0 then -i else i)) H) fAbs := fun B H xs ds g Q nb r h q => by
  unfold fAbs at h
  split at h
  · obtain ⟨v, rfl, rv⟩ := r.oneI rfl
    cases h; cases rv
    exact ⟨_, rfl, q _ H (Ext.refl H) (.int _)⟩
  · cases h
def fInt : List D → Option D
  | [.int i] => some (.int i)
  | [.bool k] => some (.int (if k then 1 else 0))
  | _ => none
theorem iN_int {c : Cfg} : OpN c (fun xs H Q => (∃ i, xs = [.int i] ∧ Q (.int i) H) ∨ ∃ k, xs = [.bl k] ∧ Q (.int (if k then 1 else 0)) H) fInt := fun B H xs ds g Q nb r h q => by
  unfold fInt at h
  split at h
  · obtain ⟨v, rfl, rv⟩ := r.oneI rfl
    cases h; cases rv
    exact .inl ⟨_, rfl, q _ H (Ext.refl H) (.int _)⟩
  · obtain ⟨v, rfl, rv⟩ := r.oneI rfl
    cases h; cases rv
    exact .inr ⟨_, rfl, q _ H (Ext.refl H) (.int _)⟩
  · cases h
/-- sum of a tuple of ints -/
def rSumT (K : PySem.W.Frag) : List V → Hp → VK → Prop := fun vs H Q => ∃ (a : Addr) (ns : List Int), vs = [V.ref a] ∧ SqT K H a (ns.map V.int) ∧ Q (.int ns.sum) H
theorem cr_sumT {X : Cx} (hc : X.calm = true) : CallR X (.builtin "sum") (rSumT X.K) := by
  intro pins s σ H vs us Q I r h
  obtain ⟨a, ns, rfl, hs, q⟩ := h
  obtain ⟨its, rv, hl, _⟩ := I.tuple hs
  rw [Vals.ref1 r]
  have hi := rv.ints
  obtain ⟨xs, e⟩ := hi.allInts.items
  have hn : numsOf (intItems xs).toList = ns := by rw [← e]; exact hi.numsOf
  rw [nums_intItems] at hn
  rw [e] at hl
  refine PySem.W.ktm_sumG (I.ok.hd hc) hl fun h' tk t' hk => ?_
  rw [preSum_eq, List.take_of_length_le (by simp), hn]
  exact ⟨.int _, H, I.kept hk, ⟨_, rfl⟩, q⟩
def fSum : List D → Option D
  | [.list xs] => (intsOf xs).map fun ns => .int ns.sum
  | [.tuple xs] => (intsOf xs).map fun ns => .int ns.sum
  | _ => none
def qSum (K : PySem.W.Frag) : List V → Hp → VK → Prop := fun xs H Q => rSum K xs H Q ∨ rSumT K xs H Q
theorem iN_sum {c : Cfg} : OpN c (qSum c.K) fSum := fun B H xs ds g Q nb r h q => by
  unfold fSum at h
  split at h
  · obtain ⟨v, rfl, rv⟩ := r.oneI rfl
    obtain ⟨ns, e, rfl⟩ := Option.map_eq_some_iff.mp h
    obtain ⟨a, us, rfl, s, rr⟩ := rv.lst0
    rw [intsOf_eq e] at rr
    rw [rr.ints] at s
    exact .inl ⟨a, ns, rfl, s, q _ H (Ext.refl H) (.int _)⟩
  · obtain ⟨v, rfl, rv⟩ := r.oneI rfl
    obtain ⟨ns, e, rfl⟩ := Option.map_eq_some_iff.mp h
    obtain ⟨a, us, rfl, s, rr⟩ := rv.tup0
    rw [intsOf_eq e] at rr
    rw [rr.ints] at s
    exact .inr ⟨a, ns, rfl, s, q _ H (Ext.refl H) (.int _)⟩
  · cases h
def fAll : List D → Option D
  | [.list xs] => (blsOf xs).map fun ns => .bool (ns.all id)
  | _ => none
def fAny : List D → Option D
  | [.list xs] => (blsOf xs).map fun ns => .bool (ns.any id)
  | _ => none
theorem iN_all {c : Cfg} : OpN c (rAll c.K) fAll := fun B H xs ds g Q nb r h q => by
  unfold fAll at h
  split at h
  · obtain ⟨v, rfl, rv⟩ := r.oneI rfl
    obtain ⟨ns, e, rfl⟩ := Option.map_eq_some_iff.mp h
    obtain ⟨a, us, rfl, s, rr⟩ := rv.lst0
    rw [blsOf_eq e] at rr
    rw [rr.bls] at s
    exact ⟨a, ns, rfl, s, q _ H (Ext.refl H) (.bl _)⟩
  · cases h
theorem iN_any {c : Cfg} : OpN c (rAny c.K) fAny := fun B H xs ds g Q nb r h q => by
  unfold fAny at h
  split at h
  · obtain ⟨v, rfl, rv⟩ := r.oneI rfl
    obtain ⟨ns, e, rfl⟩ := Option.map_eq_some_iff.mp h
    obtain ⟨a, us, rfl, s, rr⟩ := rv.lst0
    rw [blsOf_eq e] at rr
    rw [rr.bls] at s
    exact ⟨a, ns, rfl, s, q _ H (Ext.refl H) (.bl _)⟩
  · cases h
def fList : List D → Option D
  | [.list xs] => some (.list xs)
  | [.tuple xs] => some (.list xs)
  | _ => none
theorem iN_list {c : Cfg} : OpN c (fun xs H Q => ∃ p ys, xs = [.ref p] ∧ (SqL c.K H p ys ∨ SqT c.K H p ys) ∧ ∀ l, H l = none → Q (.ref l) (upd H l (.lst ys))) fList := fun B H xs ds g Q nb r h q => by
  unfold fList at h
  split at h
  · obtain ⟨v, rfl, rv⟩ := r.oneI rfl
    cases h
    obtain ⟨a, us, rfl, s, rr⟩ := rv.lst0
    exact ⟨a, us, rfl, .inl s, fun p hp => q _ _ (Ext.new hp) (Rep.newL (nb p hp) hp rr)⟩
  · obtain ⟨v, rfl, rv⟩ := r.oneI rfl
    cases h
    obtain ⟨a, us, rfl, s, rr⟩ := rv.tup0
    exact ⟨a, us, rfl, .inr s, fun p hp => q _ _ (Ext.new hp) (Rep.newL (nb p hp) hp rr)⟩
  · cases h
def fTuple : List D → Option D
  | [.list xs] => some (.tuple xs)
  | [.tuple xs] => some (.tuple xs)
  | _ => none
theorem iN_tuple {c : Cfg} : OpN c (fun xs H Q => ∃ p ys, xs = [.ref p] ∧ ((SqL c.K H p ys ∧ ∀ l, H l = none → Q (.ref l) (upd H l (.tup ys))) ∨ (SqT c.K H p ys ∧ Q (.ref p) H))) fTuple := fun B H xs ds g Q nb r h q => by
  unfold fTuple at h
  split at h
  · obtain ⟨v, rfl, rv⟩ := r.oneI rfl
    cases h
    obtain ⟨a, us, rfl, s, rr⟩ := rv.lst0
    exact ⟨a, us, rfl, .inl ⟨s, fun p hp => q _ _ (Ext.new hp) (Rep.newT (nb p hp) hp rr)⟩⟩
  · obtain ⟨v, rfl, rv⟩ := r.oneI rfl
    cases h
    have rv' := rv
    obtain ⟨a, us, rfl, s, rr⟩ := rv.tup0
    exact ⟨a, us, rfl, .inr ⟨s, q _ H (Ext.refl H) rv'⟩⟩
  · cases h

/-! ### max, min of data -/
def alikeB (xs : List D) : Bool := xs.all (fun x => xs.all fun y => PySem.W.alike x y) && xs.all nnD
theorem alikeB_ok {xs : List D} (h : alikeB xs = true) : PySem.W.AlikeAll xs := by
  unfold alikeB at h
  rw [Bool.and_eq_true, List.all_eq_true, List.all_eq_true] at h
  exact ⟨fun x hx y hy => List.all_eq_true.mp (h.1 x hx) y hy, fun x hx => nnD_ne (h.2 x hx)⟩
def okDs (xs : List D) : Bool := PyData.plainAll xs && decide (PyData.depthAll xs ≤ 60) && alikeB xs
theorem okDs_and {xs : List D} (h : okDs xs = true) : PyData.plainAll xs = true ∧ PyData.depthAll xs ≤ 60 ∧ PySem.W.AlikeAll xs := by
  unfold okDs at h
  rw [Bool.and_eq_true, Bool.and_eq_true, decide_eq_true_eq] at h
  exact ⟨h.1.1, h.1.2, alikeB_ok h.2⟩
theorem plainAll_at : ∀ {xs : List D} {i : Nat} {d : D}, PyData.plainAll xs = true → xs[i]? = some d → d.plain = true
  | [], _, _, _, h => by simp at h
  | x :: xs, 0, d, p, h => by
    rw [PyData.plainAll, Bool.and_eq_true] at p
    simp at h; subst h; exact p.1
  | x :: xs, i + 1, d, p, h => by
    rw [PyData.plainAll, Bool.and_eq_true] at p
    exact plainAll_at p.2 (by simpa using h)
theorem DpAll.at {K : PySem.W.Frag} {H : Hp} : ∀ {vs : List V} {ds : List D} {i : Nat} {v : V}, DpAll K H vs ds → vs[i]? = some v → ∃ d, ds[i]? = some d ∧ Dp K H v d
  | _, _, _, _, .nil, h => by simp at h
  | _, _, 0, _, .cons q _, h => by simp at h; subst h; exact ⟨_, rfl, q⟩
  | _, _, i + 1, _, .cons _ qs, h => by
    obtain ⟨d, e, q⟩ := DpAll.at (i := i) qs (by simpa using h)
    exact ⟨d, by simpa using e, q⟩
theorem Vals.at' : ∀ {xs : List V} {us : List Value} {i : Nat} {u : Value}, Vals xs us → us[i]? = some u → ∃ x, xs[i]? = some x ∧ RelV x u
  | _, _, _, _, .nil, h => by simp at h
  | _, _, 0, _, .cons q _, h => by simp at h; subst h; exact ⟨_, rfl, q⟩
  | _, _, i + 1, _, .cons _ qs, h => by
    obtain ⟨d, e, q⟩ := Vals.at' (i := i) qs (by simpa using h)
    exact ⟨d, by simpa using e, q⟩
def rBest (K : PySem.W.Frag) (best : D → List D → D) : List V → Hp → VK → Prop := fun ws H Q => ∃ (a : Addr) (vs : List V) (x : D) (xs : List D), ws = [V.ref a] ∧ (SqL K H a vs ∨ SqT K H a vs) ∧ DpAll K H vs (x :: xs) ∧ okDs (x :: xs) = true ∧
  ∀ (i : Nat) v, vs[i]? = some v → (x :: xs)[i]? = some (best x xs) → Q v H
theorem best_fin {X : Cx} {pins : List (Addr × Obj)} {σ : St} {H : Hp} {s : Shared} {Q : VK} {vs : List V} {its : List Value} {ds : List D} {bd : D} {i : Nat} {v : Value} {h' : Heap} {tk : Nat} {bs : List Addr} (I : Inv X pins σ H s) (rv : Vals vs its) (dp : DpAll X.K H vs ds) (p : PyData.plainAll ds = true)
    (e : its.toArray[i]? = some v) (rd : Reads h' v bd bs) (hk : ∀ b o, s.heap.get? b = some o → h'.get? b = some o) (q : ∀ (i : Nat) v, vs[i]? = some v → ds[i]? = some bd → Q v H) : EP X pins σ Q v { s with heap := h', toks := tk } := by
  have I' : Inv X pins σ H { s with heap := h', toks := tk } := I.kept hk
  obtain ⟨x, ex, rx⟩ := Vals.at' rv (by simpa using e)
  obtain ⟨d, ed, dd⟩ := DpAll.at dp ex
  obtain ⟨as, r2⟩ := Dp.reads I' d x v dd rx
  have hp := plainAll_at p ed
  have : d = bd := SeqAt.plain_unique d bd v as bs hp r2 rd
  subst this
  exact ⟨x, H, I', rx, q i x ex ed⟩
theorem cr_maxB {X : Cx} (hc : X.calm = true) (hu : X.A.units + 64 < cLine) : CallR X (.builtin "max") (rBest X.K PySem.W.maxD) := by
  intro pins s σ H ws us Q I r h
  obtain ⟨a, vs, x, xs, rfl, hs, dp, ok, q⟩ := h
  obtain ⟨p1, p2, p3⟩ := okDs_and ok
  rw [Vals.ref1 r]
  rcases hs with hs | hs
  · obtain ⟨its, rv, hl, _⟩ := I.list hs
    obtain ⟨as, ra⟩ := Dp.readsAll I _ _ _ dp rv
    exact PySem.W.max_list_data (I.ok.hd hc) hl.isList (by simpa using ra) p3 (by omega) fun i v h' tk bs e rd hk => best_fin I rv dp p1 e rd hk q
  · obtain ⟨its, rv, hl, _⟩ := I.tuple hs
    obtain ⟨as, ra⟩ := Dp.readsAll I _ _ _ dp rv
    exact PySem.W.max_tuple_data (I.ok.hd hc) hl (by simpa using ra) p3 (by omega) fun i v h' tk bs e rd hk => best_fin I rv dp p1 e rd hk q
theorem cr_minB {X : Cx} (hc : X.calm = true) (hu : X.A.units + 64 < cLine) : CallR X (.builtin "min") (rBest X.K PySem.W.minD) := by
  intro pins s σ H ws us Q I r h
  obtain ⟨a, vs, x, xs, rfl, hs, dp, ok, q⟩ := h
  obtain ⟨p1, p2, p3⟩ := okDs_and ok
  rw [Vals.ref1 r]
  rcases hs with hs | hs
  · obtain ⟨its, rv, hl, _⟩ := I.list hs
    obtain ⟨as, ra⟩ := Dp.readsAll I _ _ _ dp rv
    exact PySem.W.min_list_data (I.ok.hd hc) hl.isList (by simpa using ra) p3 (by omega) fun i v h' tk bs e rd hk => best_fin I rv dp p1 e rd hk q
  · obtain ⟨its, rv, hl, _⟩ := I.tuple hs
    obtain ⟨as, ra⟩ := Dp.readsAll I _ _ _ dp rv
    exact PySem.W.min_tuple_data (I.ok.hd hc) hl (by simpa using ra) p3 (by omega) fun i v h' tk bs e rd hk => best_fin I rv dp p1 e rd hk q
def bestOf (best : D → List D → D) : List D → Option D
  | [] => none
  | x :: xs => if okDs (x :: xs) = true then some (best x xs) else none
def fMax : List D → Option D
  | [.int i, .int j] => some (.int (if j > i then j else i))
  | [.list xs] => bestOf PySem.W.maxD xs
  | [.tuple xs] => bestOf PySem.W.maxD xs
  | _ => none
def fMin : List D → Option D
  | [.int i, .int j] => some (.int (if j < i then j else i))
  | [.list xs] => bestOf PySem.W.minD xs
  | [.tuple xs] => bestOf PySem.W.minD xs
  | _ => none
theorem best_go {K : PySem.W.Frag} {B : Av} {H : Hp} {best : D → List D → D} {xs : List D} {us : List V} {a : Addr} {g : D} {Q : VK} (h : bestOf best xs = some g) (s : SqL K H a us ∨ SqT K H a us) (rr : Reps K B H xs us)
    (q : ∀ v H', Ext H H' → Rep K B H' g v → Q v H') : rBest K best [.ref a] H Q := by
  cases xs with
  | nil => cases h
  | cons x xs =>
    replace h : (if okDs (x :: xs) = true then some (best x xs) else none) = some g := h
    by_cases ok : okDs (x :: xs) = true
    · rw [if_pos ok] at h
      cases h
      refine ⟨a, us, x, xs, rfl, s, rr.dp (okDs_and ok).1, ok, fun i v e1 e2 => ?_⟩
      obtain ⟨d, ed, rd⟩ := rr.get' e1
      rw [ed] at e2; cases e2
      exact q v H (Ext.refl H) rd
    · rw [if_neg ok] at h; cases h
def qMax (K : PySem.W.Frag) : List V → Hp → VK → Prop := fun xs H Q => (∃ i j, xs = [.int i, .int j] ∧ Q (.int (if j > i then j else i)) H) ∨ rBest K PySem.W.maxD xs H Q
def qMin (K : PySem.W.Frag) : List V → Hp → VK → Prop := fun xs H Q => (∃ i j, xs = [.int i, .int j] ∧ Q (.int (if j < i then j else i)) H) ∨ rBest K PySem.W.minD xs H Q
theorem iN_max {c : Cfg} : OpN c (qMax c.K) fMax := fun B H xs ds g Q nb r h q => by
  unfold fMax at h
  split at h
  · obtain ⟨v, u, rfl, rv, ru⟩ := r.twoI rfl
    cases h; cases rv; cases ru
    exact .inl ⟨_, _, rfl, q _ H (Ext.refl H) (.int _)⟩
  · obtain ⟨v, rfl, rv⟩ := r.oneI rfl
    obtain ⟨a, us, rfl, s, rr⟩ := rv.lst0
    exact .inr (best_go h (.inl s) rr q)
  · obtain ⟨v, rfl, rv⟩ := r.oneI rfl
    obtain ⟨a, us, rfl, s, rr⟩ := rv.tup0
    exact .inr (best_go h (.inr s) rr q)
  · cases h
theorem iN_min {c : Cfg} : OpN c (qMin c.K) fMin := fun B H xs ds g Q nb r h q => by
  unfold fMin at h
  split at h
  · obtain ⟨v, u, rfl, rv, ru⟩ := r.twoI rfl
    cases h; cases rv; cases ru
    exact .inl ⟨_, _, rfl, q _ H (Ext.refl H) (.int _)⟩
  · obtain ⟨v, rfl, rv⟩ := r.oneI rfl
    obtain ⟨a, us, rfl, s, rr⟩ := rv.lst0
    exact .inr (best_go h (.inl s) rr q)
  · obtain ⟨v, rfl, rv⟩ := r.oneI rfl
    obtain ⟨a, us, rfl, s, rr⟩ := rv.tup0
    exact .inr (best_go h (.inr s) rr q)
  · cases h
end Py

/-! Py, part M: list.index, sorted, isinstance. -/
namespace Py
open PySem L2

/-! ### xs.index(x) of a list -/
def rPlace (K : PySem.W.Frag) : V → List V → Hp → VK → Prop := fun x ws H Q => ∃ (a : Addr) (y : V) (d : D) (ds : List D) (j : Nat), x = V.ref a ∧ ws = [y] ∧ Dp K H (V.ref a) (.list ds) ∧ Dp K H y d ∧ okD (.list ds) = true ∧ okD d = true ∧ SeqAt.dataPlace ds d = some j ∧ Q (.int (j : Nat)) H
theorem mt_place {X : Cx} (hu : X.A.units + 64 < cLine) : MtR X "list.index" (rPlace X.K) := by
  intro pins s σ H x ws v us Q I rx rxs h
  obtain ⟨a, y, d, ds, j, rfl, rfl, hl, hy, ol, od, hp, q⟩ := h
  obtain ⟨p1, d1⟩ := okD_and ol
  obtain ⟨p2, d2⟩ := okD_and od
  have pa : PyData.plainAll ds = true := by simpa [PyData.plain] using p1
  have da : PyData.depthAll ds ≤ 60 := by
    have : PyData.depthAll ds + 1 ≤ 60 := by simpa [PyData.depth] using d1
    omega
  cases rx
  obtain ⟨uy, rfl, ry⟩ := vals1 rxs
  obtain ⟨bs, r1⟩ := Dp.reads I d y uy hy ry
  cases hl with
  | lst hs ha =>
    obtain ⟨its, rv, ⟨⟨cls, dd, data, sls⟩, n, ho, hc, hdn, hdt⟩, hlen⟩ := I.list hs
    simp only at hc hdt
    subst hc hdt
    obtain ⟨as, h4⟩ := Dp.readsAll I ds _ its ha rv
    have h4' : ReadsAll s.heap its.toArray.toList ds as := by simpa using h4
    obtain ⟨hj, hit, hno⟩ := SeqAt.hit_at h4' pa hp
    have hvl := rv.length
    have hsl := sizeLine_eq
    have hj2 : j < its.length := by simpa using hj
    exact call_meets PySem.F.slot_list_index ⟨_, ho, rfl⟩ PySem.F.entry_list_index (PySem.F.args_list_index_2 _ _) (SeqAt.list_indexAt a its.toArray n dd sls uy _ j hj (by omega) hit hno)
      ⟨ho, SeqAt.items_plain h4' r1 pa p2 (by omega), ⟨.int (j : Nat), H, I.tok _, ⟨_, rfl⟩, q⟩⟩
def fPlace (ds : List D) (e : D) : Option D := if okD (.list ds) = true ∧ okD e = true then (SeqAt.dataPlace ds e).map fun j => .int (j : Nat) else none
def Out.lst (d : D) (k : List D → Out) : Out := match d with
  | .list xs => k xs
  | _ => .bad
def oPlace (a e : O1) : O1 := fun r => (a r).bnd fun d r1 => Out.lst d fun xs => (e r1).bnd fun y r2 => optO (fPlace xs y) r2
section
variable {X : Cx} {c : Cfg} {E : EX}
theorem snd_place {a e : Expr} {oa oe : O1} {apos cpos : Pos} (hK : c.K = X.K) (hu : X.A.units + 64 < cLine) (ha : PE X a (denE c E oa)) (he : PE X e (denE c E oe))
    (hbase : attributeBase a "index" X.env (eval a X.env) = eval a X.env)
    (hfew : ((backTo cpos (starEach [e] X.env)).all (fun x => !x.1) && (backToKw cpos (keywordEach [] X.env)).all (fun x => x.1.isSome)
      && decide ([e].length + ([] : List Keyword).length + (if ([] : List Keyword).isEmpty then 0 else 1) < 30)) = true)
    (hline : (apos.endLine == cpos.line) = true) (hs : starEach [e] X.env = (false, eval e X.env) :: starEach [] X.env) (hplain : (backTo cpos (starEach [] X.env)).any (·.1) = false) :
    PE X (.Call (.Attribute a "index" apos) [e] [] cpos) (denE c E (oPlace oa oe)) := by
  refine pe_mono (pe_bm PySem.F.plainAttrs_list PySem.F.slot_list_index PySem.F.type_list_index (mt_place hu) ha (pa_cons he pa_nil hs) hbase hfew hline hs hplain) fun σ H Q ⟨r, B, R, h⟩ => ?_
  refine ⟨r, B, R, bndE ppE h fun d1 r1 v1 H1 B1 _ R1 S1 q1 h1 => ?_⟩
  cases d1 with
  | list xs =>
    have q1' := q1
    obtain ⟨a', us, rfl, s, rr⟩ := q1.lst0
    rw [hK] at s
    refine ⟨.inl ⟨rfl, us, s⟩, r1, B1, R1, bndE ppE h1 fun d2 r2 v2 H2 B2 _ R2 S2 q2 h2 => ?_⟩
    have q1'' := q1'.step (R1.v S2)
    unfold fPlace at h2
    by_cases ok : okD (.list xs) = true ∧ okD d2 = true
    · rw [if_pos ok] at h2
      cases ep : SeqAt.dataPlace xs d2 with
      | none => rw [ep] at h2; exact h2.elim
      | some j =>
        rw [ep] at h2
        rw [← hK]
        exact ⟨a', v2, d2, xs, j, rfl, rfl, q1''.dp (okD_and ok.1).1, q2.dp (okD_and ok.2).1, ok.1, ok.2, ep, h2 _ H2 B2 R2 (Step.refl _ _) (.int _)⟩
    · rw [if_neg ok] at h2; exact h2.elim
  | _ => exact h1.elim

/-! ### a tuple that is made by tuple(xs): its object is known; its index -/
theorem call_tupF {X : Cx} : CallR X (.type "tuple") (fun xs H Q => ∃ p ys, xs = [.ref p] ∧ SqL X.K H p ys ∧ ∀ (l : Addr) (ob : Obj), H l = none → ob.dict = none → Q (.ref l) (upd H l (.frz ob (.tup ys)))) := by
  intro pins s σ H xs us Q I r h
  obtain ⟨p, ys, rfl, hq, q⟩ := h
  obtain ⟨u, rfl, rx⟩ := vals1 r
  cases rx
  obtain ⟨its, r', pl, hz⟩ := I.list hq
  have hlen := r'.length
  refine call_tuple_list pl.isList (fun h' kp => ?_) (by simp only [List.size_toArray] <;> omega)
  have I1 : Inv X pins σ H { s with heap := h' } := I.kept (t' := s.toks) kp
  have I2 : Inv X pins σ (upd H h'.objs.size (.frz { cls := .type "tuple", data := .seq its.toArray } (.tup ys))) { s with heap := h'.push { cls := .type "tuple", data := .seq its.toArray } } :=
    I1.laid (t' := s.toks) (fun b o e => Heap.get?_push_of_some _ e) (Nat.le_refl _) (show ObjOk X.prog X.w _ _ _ (.frz _ (.tup ys)) from ⟨Heap.get?_push_size _ rfl, hz, its, r', PyProof.Rows.IsTup.new _ _⟩)
  exact ⟨.ref h'.objs.size, _, I2, rfl, q _ _ (I1.hok.fresh (Nat.le_refl _)) rfl⟩
def oRtz (a : O1) : O1 := fun r => (a r).bnd fun d r1 => match d with
  | .list xs => .retF (.tuple xs) r1
  | _ => .bad
theorem snd_rtz {X : Cx} {c : Cfg} {E : EX} {e : Expr} {o : O1} {p pos pos' : Pos} (hK : c.K = X.K) (hg : Gl X "tuple") (hm : X.mg "tuple" = none) (h : PE X e (denE c E o)) (hs : starEach [e] X.env = (false, eval e X.env) :: starEach [] X.env) :
    PS X (.Return (some (.Call (.Name "tuple" p) [e] [] pos)) pos') (denS c E (oRtz o)) := by
  refine ps_mono (ps_ret (pe_callTy call_tupF hg hm (by decide +kernel) (pa_cons h pa_nil hs) (by decide) (by decide) hs rfl)) fun G σ H ⟨r, B, R, h⟩ => ⟨r, B, R, bndE ppS h fun d r1 v H1 B1 _ R1 S1 q1 h1 => ?_⟩
  cases d with
  | list xs =>
    obtain ⟨a, us, rfl, s, rr⟩ := q1.lst0
    refine ⟨a, us, rfl, by rw [← hK]; exact s, fun l ob hl hd => ?_⟩
    exact h1 _ σ _ B1 (R1.ext (Ext.new hl)) (Ext.new hl).step ⟨l, us, ob, xs, rfl, rfl, R1.fresh hl, upd_same, hd, rr.step (Ext.new hl).v⟩
  | _ => exact h1.elim
def rPlaceT (K : PySem.W.Frag) : V → List V → Hp → VK → Prop := fun x ws H Q => ∃ (a : Addr) (y : V) (d : D) (ds : List D) (j : Nat), x = V.ref a ∧ ws = [y] ∧ Dp K H (V.ref a) (.tuple ds) ∧ Dp K H y d ∧ okD (.tuple ds) = true ∧ okD d = true ∧ SeqAt.dataPlace ds d = some j ∧ Q (.int (j : Nat)) H
theorem mt_placeT {X : Cx} (hu : X.A.units + 64 < cLine) : MtR X "tuple.index" (rPlaceT X.K) := by
  intro pins s σ H x ws v us Q I rx rxs h
  obtain ⟨a, y, d, ds, j, rfl, rfl, hl, hy, ol, od, hp, q⟩ := h
  obtain ⟨p1, d1⟩ := okD_and ol
  obtain ⟨p2, d2⟩ := okD_and od
  have pa : PyData.plainAll ds = true := by simpa [PyData.plain] using p1
  have da : PyData.depthAll ds ≤ 60 := by
    have : PyData.depthAll ds + 1 ≤ 60 := by simpa [PyData.depth] using d1
    omega
  cases rx
  obtain ⟨uy, rfl, ry⟩ := vals1 rxs
  obtain ⟨bs, r1⟩ := Dp.reads I d y uy hy ry
  cases hl with
  | tup hs ha =>
    obtain ⟨its, rv, ⟨⟨cls, dd, data, sls⟩, ho, hc, n, hdt⟩, hlen⟩ := I.tuple hs
    simp only at hc hdt
    subst hc hdt
    obtain ⟨as, h4⟩ := Dp.readsAll I ds _ its ha rv
    have h4' : ReadsAll s.heap its.toArray.toList ds as := by simpa using h4
    obtain ⟨hj, hit, hno⟩ := SeqAt.hit_at h4' pa hp
    exact call_meets PySem.F.slot_tuple_index ⟨_, ho, rfl⟩ PySem.F.entry_tuple_index (PySem.F.args_tuple_index_2 _ _) (TI.tuple_indexAt a its.toArray n dd sls uy _ j hj hit hno)
      ⟨ho, SeqAt.items_plain h4' r1 pa p2 (by omega), ⟨.int (j : Nat), H, I.tok _, ⟨_, rfl⟩, q⟩⟩
def tyFz (x : V) (H : Hp) : Prop := ∃ a xs ob, x = .ref a ∧ H a = some (.frz ob (.tup xs)) ∧ ob.dict = none
theorem ty_fz {X : Cx} : TyOk X "tuple" tyFz := by
  intro pins σ H s x v I r ty
  obtain ⟨a, xs, ob, rfl, e, hd⟩ := ty
  cases r
  obtain ⟨e1, _, its, _, ⟨o, e2, hc, _⟩⟩ := (show ObjOk X.prog X.w H s.heap a (.frz ob (.tup xs)) from I.hok a _ e)
  rw [e1] at e2; cases e2
  refine ⟨⟨ob, e1, hc⟩, fun b eb => ?_⟩
  cases eb
  exact ⟨ob, e1, hd⟩
def fPlaceT (ds : List D) (e : D) : Option D := if okD (.tuple ds) = true ∧ okD e = true then (SeqAt.dataPlace ds e).map fun j => .int (j : Nat) else none
def oPlt (i : Nat) (e : O1) : O1 := fun r => match r[i]? with
  | some (.fz (.tuple ds)) => (e r).bnd fun y r1 => optO (fPlaceT ds y) r1
  | _ => .bad
theorem snd_plt {X : Cx} {c : Cfg} {E : EX} {i : Nat} {x : Str} {e : Expr} {oe : O1} {p apos cpos : Pos} (hK : c.K = X.K) (hu : X.A.units + 64 < cLine) (hN : X.N[i]? = some x) (hv : Vis X.env.scope x) (hd : (x == ("__debug__" : Str)) = false) (hcd : (x == ("__classdict__" : Str)) = false) (he : PE X e (denE c E oe))
    (hfew : ((backTo cpos (starEach [e] X.env)).all (fun x => !x.1) && (backToKw cpos (keywordEach [] X.env)).all (fun x => x.1.isSome)
      && decide ([e].length + ([] : List Keyword).length + (if ([] : List Keyword).isEmpty then 0 else 1) < 30)) = true)
    (hline : (apos.endLine == cpos.line) = true) (hs : starEach [e] X.env = (false, eval e X.env) :: starEach [] X.env) (hplain : (backTo cpos (starEach [] X.env)).any (·.1) = false) :
    PE X (.Call (.Attribute (.Name x p) "index" apos) [e] [] cpos) (denE c E (oPlt i oe)) := by
  refine pe_mono (pe_mG ty_fz PySem.F.plainAttrs_tuple PySem.F.slot_tuple_index PySem.F.type_tuple_index (mt_placeT hu) (pe_var hN hv hd hcd) (pa_cons he pa_nil hs) rfl hfew hline hs hplain) fun σ H Q ⟨r, B, R, h⟩ => ?_
  unfold oPlt at h
  split at h
  · rename_i ds e0
    obtain ⟨u, hu', v, rfl, z⟩ := R.at e0
    have z' := z
    obtain ⟨a, xs, ob, ds', rfl, ed, nb, e3, e4, rr⟩ := z
    cases ed
    refine ⟨.ref a, hu', ⟨a, xs, ob, rfl, e3, e4⟩, r, B, R, bndE ppE h fun d2 r2 v2 H2 B2 _ R2 S2 q2 h2 => ?_⟩
    have zr := (z'.step (R.v S2)).rep
    unfold fPlaceT at h2
    by_cases ok : okD (.tuple ds) = true ∧ okD d2 = true
    · rw [if_pos ok] at h2
      cases ep : SeqAt.dataPlace ds d2 with
      | none => rw [ep] at h2; exact h2.elim
      | some j =>
        rw [ep] at h2
        rw [← hK]
        exact ⟨a, v2, d2, ds, j, rfl, rfl, zr.dp (okD_and ok.1).1, q2.dp (okD_and ok.2).1, ok.1, ok.2, ep, h2 _ H2 B2 R2 (Step.refl _ _) (.int _)⟩
    · rw [if_neg ok] at h2; exact h2.elim
  · exact h.elim

/-! ### isinstance(x, T), T built in -/
def tyD : D → String
  | .none => "NoneType"
  | .bool _ => "bool"
  | .int _ => "int"
  | .str _ => "str"
  | .list _ => "list"
  | .tuple _ => "tuple"
  | .dict _ => "dict"
inductive Ty where
  | int | bool | str | list | tuple | dict
  deriving DecidableEq
def Ty.name : Ty → String
  | .int => "int" | .bool => "bool" | .str => "str" | .list => "list" | .tuple => "tuple" | .dict => "dict"
def isaB : Ty → D → Bool
  | .int, .int _ => true
  | .int, .bool _ => true
  | .bool, .bool _ => true
  | .str, .str _ => true
  | .list, .list _ => true
  | .tuple, .tuple _ => true
  | .dict, .dict _ => true
  | _, _ => false
theorem isa_kit (T : Ty) (d : D) : kitB (tyD d) T.name = some (isaB T d) := by
  cases T <;> cases d <;> (simp only [tyD, Ty.name, isaB]; decide +kernel)
def fIsa (T : Ty) (d : D) : Option D := some (.bool (isaB T d))
theorem Rep.ty {K : PySem.W.Frag} {B : Av} {H : Hp} {d : D} {v : V} (h : Rep K B H d v) : TyX K H v (.type (tyD d)) ∨ ∃ a o ks, v = .ref a ∧ H a = some (.frz o (.dT ks)) ∧ tyD d = "dict" := by
  cases h with
  | non => exact .inl (.base .non)
  | bl b => exact .inl (.base (.bl b))
  | int i => exact .inl (.base (.int i))
  | str x => exact .inl (.base (.str x))
  | tup nb r _ =>
    rcases r with e | ⟨o, e⟩
    · exact .inl (.base (.tup e))
    · exact .inl (.fTuple e)
  | ctup cc _ =>
    obtain ⟨o, its, n, e, h1, _⟩ := cc
    exact .inl (.kTuple e h1)
  | lst nb e _ => exact .inl (.base (.lst e))
  | dK nb r _ =>
    rcases r with e | ⟨o, e⟩
    · exact .inl (.base (.dK e))
    · exact .inl (.fDict e)
  | dT nb r _ =>
    rcases r with e | ⟨o, e⟩
    · exact .inl (.base (.dT e))
    · exact .inr ⟨_, o, _, rfl, e, rfl⟩
def rIsiT2 (K : PySem.W.Frag) : List V → Hp → VK → Prop := fun xs H Q => ∃ a o ks c u b, xs = [.ref a, c] ∧ ClsV c u ∧ H a = some (.frz o (.dT ks)) ∧ PySem.W.kitOne K (.type "dict") u = some b ∧ Q (.bl b) H
theorem call_isiD : CallR X (.builtin "isinstance") (rIsiT2 X.K) := by
  intro pins s σ H xs us Q I r h
  obtain ⟨a, ob, ks, cv, u, b, rfl, k, ea, e, q⟩ := h
  obtain ⟨u1, u2, rfl, r1, r2⟩ := vals2 r
  have e2 := k.eq r2
  subst e2
  cases (show u1 = Value.ref a from r1)
  obtain ⟨_, _, _, vs, _, o, es, ep, h1, h2, _⟩ := (show ObjOk X.prog X.w H s.heap a (.frz ob (.dT ks)) from I.hok a _ ea)
  exact PySem.W.kia_one PySem.W.kitx_dict I.kIn ⟨o, h1, h2.1⟩ e (fun z => nomatch z) fun tk => ⟨.bl b, H, I.tok tk, rfl, q⟩
theorem pe_tyN {T : Str} {Tn : String} {p : Pos} (hg : Gl X T) (hm : X.mg T = none) (hT : bootBuiltins T = some (.type Tn)) (hn : T ≠ "__name__") (hd : (T == ("__debug__" : Str)) = false) : PE X (.Name T p) (tC (.ty Tn)) :=
  ⟨fun _ _ _ H _ I h => ld_blt I hg hm hT ⟨.ty Tn, H, I, rfl, h⟩ hn hd⟩
theorem snd_isa {T : Str} {Tn : Ty} {a : Expr} {oa : O1} {p p2 pos : Pos} (hK : c.K = X.K) (hg : Gl X "isinstance") (hm : X.mg "isinstance" = none) (hgT : Gl X T) (hmT : X.mg T = none) (hT : bootBuiltins T = some (.type Tn.name)) (hTn : T ≠ "__name__") (hTd : (T == ("__debug__" : Str)) = false) (ha : PE X a (denE c E oa))
    (h1 : starEach [a, .Name T p2] X.env = (false, eval a X.env) :: starEach [.Name T p2] X.env) (h2 : starEach [.Name T p2] X.env = (false, eval (.Name T p2) X.env) :: starEach [] X.env) (hpl : (backTo pos (starEach [.Name T p2] X.env)).any (·.1) = false) :
    PE X (.Call (.Name "isinstance" p) [a, .Name T p2] [] pos) (denE c E (oOp1 (fIsa Tn) oa)) := by
  refine pe_mono (pe_callB (call_isi.or call_isiD) hg hm (by decide +kernel) (pa_cons ha (pa_cons (pe_tyN hgT hmT hT hTn hTd) pa_nil h2) h1) (by decide) (by decide) h1 hpl) fun σ H Q ⟨r, B, R, h⟩ => ?_
  refine ⟨r, B, R, bndE ppE h fun d1 r1 v1 H1 B1 _ R1 S1 q1 hq => ?_⟩
  have ek := isa_kit Tn d1
  have fin : Q (.bl (isaB Tn d1)) H1 := hq _ H1 B1 R1 (Step.refl _ _) (.bl _)
  rcases q1.ty with ty | ⟨a', o, ks, rfl, ea, et⟩
  · rw [hK] at ty
    exact .inl ⟨v1, .ty Tn.name, _, _, _, rfl, .ty Tn.name, ty, kit_ty ek, fin⟩
  · rw [et] at ek
    exact .inr ⟨a', o, ks, .ty Tn.name, _, _, rfl, .ty Tn.name, ea, kit_ty ek, fin⟩
end
end Py

/-! Py, part N: what the forms of the text say by their shape alone. -/
namespace Py
open PySem L2

def nst : Expr → Bool
  | .Starred .. => false
  | _ => true
theorem star_cons {e : Expr} {es : List Expr} {env : Env} (h : nst e = true) : starEach (e :: es) env = (false, eval e env) :: starEach es env := by
  cases e <;> first | rfl | cases h
theorem star_any {env : Env} {pos : Pos} : ∀ {es : List Expr}, es.all nst = true → (backTo pos (starEach es env)).any (·.1) = false
  | [], _ => rfl
  | e :: es, h => by
    rw [List.all_cons, Bool.and_eq_true] at h
    rw [star_cons h.1]
    show (false || (backTo pos (starEach es env)).any (·.1)) = false
    rw [star_any h.2]; rfl
theorem star_all {env : Env} {pos : Pos} : ∀ {es : List Expr}, es.all nst = true → (backTo pos (starEach es env)).all (fun x => !x.1) = true
  | [], _ => rfl
  | e :: es, h => by
    rw [List.all_cons, Bool.and_eq_true] at h
    rw [star_cons h.1]
    show (true && (backTo pos (starEach es env)).all (fun x => !x.1)) = true
    rw [star_all h.2]; rfl
/-- tests that are read as values -/
def tvOk : Expr → Bool
  | .UnaryOp .Not _ _ => false
  | .BoolOp .. => false
  | .IfExp .. => false
  | .Compare .. => false
  | _ => true
theorem tv_ok {e : Expr} {env : Env} (h : tvOk e = true) : ∀ whole, isTrue e env whole = (do let v ← whole; standAt e.pos; holding [v] (truthy v)) := by
  intro w
  cases e with
  | UnaryOp op x p => cases op <;> first | rfl | cases h
  | BoolOp => cases h
  | IfExp => cases h
  | Compare => cases h
  | _ => rfl
def ixOk : Expr → Bool
  | .Slice .. => false
  | _ => true
theorem ix_ok {b : Expr} (h : ixOk b = true) : PlainIx b := fun o i => by
  cases b with
  | Slice => cases h
  | _ => rfl
def baseOk : Expr → Bool
  | .Call .. => false
  | _ => true
theorem base_ok {o : Expr} {a : Str} {env : Env} (h : baseOk o = true) : attributeBase o a env (eval o env) = eval o env := by
  cases o with
  | Call => cases h
  | _ => rfl
/-- also: calls with arguments -/
def baseOk2 : Expr → Bool
  | .Call (.Name _ _) [] [] _ => false
  | _ => true
theorem base_ok2 {o : Expr} {a : Str} {env : Env} (h : baseOk2 o = true) : attributeBase o a env (eval o env) = eval o env := by
  unfold attributeBase
  split
  · cases h
  · rfl
def setOk : Expr → Bool
  | .Set .. => false
  | _ => true
theorem set_ok {e : Expr} {env : Env} (h : setOk e = true) : ∀ x, foldedSetIterable e env x = pure x := by
  intro x
  cases e with
  | Set => cases h
  | _ => rfl
def cmpMk : Expr → Bool
  | .Set .. => false
  | _ => true
theorem mk_ok {op : CmpOp} {b : Expr} (h : cmpMk b = true) : behindInMarks op b = false := by
  cases b with
  | Set => cases h
  | _ => rfl
theorem last_ok {op op' : CmpOp} {b k : Expr} (h : cmpMk k = true) : lastMarks [op, op'] [b, k] = false := by
  show behindInMarks op' k = false
  exact mk_ok h
def isComp : Expr → Bool
  | .ListComp .. => true
  | .SetComp .. => true
  | .DictComp .. => true
  | _ => false
theorem sw_plain {e : Expr} {t : Option Expr} {n : Nat} {env : Env} (h : isComp e = false) : swapsWith e t n env = pure false := by
  cases e with
  | ListComp => cases h
  | SetComp => cases h
  | DictComp => cases h
  | _ => rfl
/-- y = [..]: which form -/
def swTo (sc scope : Scope) (t : Str) (a b : Nat) : Bool := sc.kind == .function && sc.names.lookup t == some .local && a == b && !(scope.names.any fun (n, k) => n == t && (k == .local || k == .cell))
theorem sw_to {e : Expr} {gs : List Comprehension} {scope : Scope} {pos py : Pos} {t : Str} {n : Nat} {env : Env} (hk : env.scope.kind = .function) :
    swapsWith (.ListComp e gs scope pos) (some (.Name t py)) n env = pure (swTo env.scope scope t py.line pos.line) := by
  have e1 : env.blockKind = env.scope.kind := by
    unfold Env.blockKind
    rw [hk]; rfl
  show (pure _ : Sem Bool) = _
  rw [e1]
  rfl
def nmF (sc : Scope) (line : Nat) : Expr → Option Str
  | .Name id pos => if sc.names.lookup id == some .local && pos.line == line then some id else none
  | _ => none
/-- a, b = e1, e2: which form -/
def wapS (sc : Scope) (ts vs : List Expr) : Option (Option (List Str)) :=
  if !(ts.length == 2 || ts.length == 3) || vs.length != ts.length || sc.kind != .function then some none
  else if vs.any (fun | .Starred .. => true | _ => false) then some none
  else
    let names := ts.filterMap (nmF sc ((ts.head?.map (·.pos.line)).getD 0))
    if names.length != ts.length || names.eraseDups.length != names.length then some none
    else if vs.all (foldedForSure 8) then some none
    else if vs.all (constantsAlone 8) then none
    else some (some names)
theorem wap_ok {ts vs : List Expr} {env : Env} {k k2 : Nat} {p p2 : Pos} {o : Option (List Str)} (hk : env.scope.kind = .function) (h : wapS env.scope ts vs = some o) : swappedStores [.Tuple ts k p] (.Tuple vs k2 p2) env = pure o := by
  have e1 : env.blockKind = env.scope.kind := by
    unfold Env.blockKind
    rw [hk]; rfl
  unfold wapS at h
  unfold swappedStores
  rw [e1]
  dsimp only
  by_cases c1 : (!(ts.length == 2 || ts.length == 3) || vs.length != ts.length || env.scope.kind != .function) = true
  · rw [if_pos c1] at h ⊢
    cases h; rfl
  rw [if_neg c1] at h ⊢
  by_cases c2 : (vs.any (fun | .Starred .. => true | _ => false)) = true
  · rw [if_pos c2] at h
    cases h
    exact if_pos c2
  rw [if_neg c2] at h
  refine (if_neg c2).trans ?_
  dsimp only at h
  have key : ∀ f : Expr → Option Str, (∀ e, f e = nmF env.scope ((ts.head?.map (·.pos.line)).getD 0) e) → (let names := ts.filterMap f
      if names.length != ts.length || names.eraseDups.length != names.length then pure none
      else if vs.all (foldedForSure 8) = true then pure none
      else if vs.all (constantsAlone 8) = true then (do unsupported "assign.tuple-of-constant-expressions:order-of-the-stores"; pure (some names))
      else pure (some names) : Sem (Option (List Str))) = pure o := fun f hf => by
    have ef : f = nmF env.scope ((ts.head?.map (·.pos.line)).getD 0) := funext hf
    rw [ef]
    dsimp only
    generalize (ts.filterMap (nmF env.scope ((ts.head?.map (·.pos.line)).getD 0))) = names at h
    by_cases c3 : (names.length != ts.length || names.eraseDups.length != names.length) = true
    · rw [if_pos c3] at h ⊢
      cases h; rfl
    rw [if_neg c3] at h ⊢
    by_cases c4 : vs.all (foldedForSure 8) = true
    · rw [if_pos c4] at h ⊢
      cases h; rfl
    rw [if_neg c4] at h ⊢
    by_cases c5 : vs.all (constantsAlone 8) = true
    · rw [if_pos c5] at h
      cases h
    rw [if_neg c5] at h ⊢
    cases h; rfl
  exact key _ fun e => by cases e <;> rfl
def isTupE : Expr → Bool
  | .Tuple .. => true
  | _ => false
def isSeqE : Expr → Bool
  | .Tuple .. => true
  | .List .. => true
  | _ => false
theorem wap_v {t v : Expr} {env : Env} (h : isTupE v = false) : swappedStores [t] v env = pure none := by
  unfold swappedStores
  split
  · rename_i h1
    split at h1
    · cases h
    · cases h
    · cases h1
  · rfl
theorem wap_t {t v : Expr} {env : Env} (h : isSeqE t = false) : swappedStores [t] v env = pure none := by
  unfold swappedStores
  split
  · rename_i h1
    split at h1
    · rename_i e
      cases e; cases h
    · rename_i e
      cases e; cases h
    · cases h1
  · rfl
/-- targets -/
def nstAll (es : List Expr) : Bool := es.all nst
theorem asg_cons {e : Expr} {es : List Expr} {env : Env} (h : nst e = true) : (assignEach (e :: es) env).map (·.2) = assign e env :: (assignEach es env).map (·.2) := by
  cases e <;> first | rfl | cases h
theorem asg_len {env : Env} : ∀ {es : List Expr}, es.all nst = true → (assignEach es env).length = es.length
  | [], _ => rfl
  | e :: es, h => by
    rw [List.all_cons, Bool.and_eq_true] at h
    have ih := asg_len (env := env) h.2
    have : assignEach (e :: es) env = (false, assign e env) :: assignEach es env := by
      cases e <;> first | rfl | cases h.1
    rw [this, List.length_cons, ih, List.length_cons]
theorem asg_find {env : Env} : ∀ {es : List Expr}, es.all nst = true → (assignEach es env).findIdx? (·.1) = none
  | [], _ => rfl
  | e :: es, h => by
    rw [List.all_cons, Bool.and_eq_true] at h
    have ih := asg_find (env := env) h.2
    have : assignEach (e :: es) env = (false, assign e env) :: assignEach es env := by
      cases e <;> first | rfl | cases h.1
    rw [this, List.findIdx?_cons, ih]
    rfl
end Py

/-! Py, part O: a, b = e1, e2 with new lists among them; a, b = e. -/
namespace Py
open PySem L2

inductive RepsX (K : PySem.W.Frag) (B : Av) (H : Hp) : (Addr → Prop) → List Bool → List D → List V → Prop
  | nil {Z : Addr → Prop} : RepsX K B H Z [] [] []
  | val {Z : Addr → Prop} {fl : List Bool} {d : D} {v : V} {ds : List D} {vs : List V} : Rep K B H d v → RepsX K B H Z fl ds vs → RepsX K B H Z (false :: fl) (d :: ds) (v :: vs)
  | new {Z : Addr → Prop} {fl : List Bool} {d : D} {p : Addr} {ds : List D} {vs : List V} : Z p → B.b p → ¬ B.m p → Cont K B H d p → RepsX K B H (fun q => Z q ∧ q ≠ p) fl ds vs → RepsX K B H Z (true :: fl) (d :: ds) (.ref p :: vs)
section
variable {K : PySem.W.Frag} {B B' : Av} {H H' : Hp}
theorem RepsX.mono : ∀ {fl : List Bool} {ds : List D} {vs : List V} {Z Z' : Addr → Prop}, (∀ q, Z q → Z' q) → RepsX K B H Z fl ds vs → RepsX K B H Z' fl ds vs
  | _, _, _, _, _, _, .nil => .nil
  | _, _, _, _, _, h, .val q qs => .val q (RepsX.mono h qs)
  | _, _, _, _, _, h, .new z b m ct qs => .new (h _ z) b m ct (RepsX.mono (fun q z => ⟨h q z.1, z.2⟩) qs)
theorem RepsX.len : ∀ {fl : List Bool} {ds : List D} {vs : List V} {Z : Addr → Prop}, RepsX K B H Z fl ds vs → vs.length = fl.length
  | _, _, _, _, .nil => rfl
  | _, _, _, _, .val _ qs => by simp [RepsX.len qs]
  | _, _, _, _, .new _ _ _ _ qs => by simp [RepsX.len qs]
theorem RepsX.ext (e : Ext H H') : ∀ {fl : List Bool} {ds : List D} {vs : List V} {Z : Addr → Prop}, RepsX K B H Z fl ds vs → RepsX K B H' Z fl ds vs
  | _, _, _, _, .nil => .nil
  | _, _, _, _, .val q qs => .val (q.step e.v) (RepsX.ext e qs)
  | _, _, _, _, .new z b m ct qs => .new z b m (ct.ext e) (RepsX.ext e qs)
theorem Vst.pl {p : Addr} : Vst B H (B.plus p) H := ⟨fun _ _ _ e => e, fun _ h => .inl h⟩
theorem RepsX.plus {p : Addr} : ∀ {fl : List Bool} {ds : List D} {vs : List V} {Z : Addr → Prop}, (∀ q, Z q → q ≠ p) → RepsX K B H Z fl ds vs → RepsX K (B.plus p) H Z fl ds vs
  | _, _, _, _, _, .nil => .nil
  | _, _, _, _, h, .val q qs => .val (q.step Vst.pl) (RepsX.plus h qs)
  | _, _, _, _, h, .new z b m ct qs => .new z b (fun k => k.elim m (h _ z)) (ct.step Vst.pl fun _ e => e) (RepsX.plus (fun q z => h q z.1) qs)
end
def PostX (c : Cfg) (E : EX) (σ : St) (fl : List Bool) (Z : Addr → Prop) (B : Av) (H : Hp) (Q : List V → Hp → Prop) : Out → Prop
  | .vals ds r => ∀ vs H' B', Rel c r B' σ H' → Step B H B' H' → RepsX c.K B' H' Z fl ds vs → Q vs H'
  | .exc n d => ∀ H', Fr c H' → E n d H'
  | _ => False
def denX (c : Cfg) (E : EX) (fl : List Bool) (o : O1) : TA := fun σ H Q => ∃ r B, Rel c r B σ H ∧ PostX c E σ fl (fun q => H q = none) B H Q (o r)
section
variable {c : Cfg} {E : EX} {σ : St}
theorem ppX {fl : List Bool} {Z : Addr → Prop} {Q : List V → Hp → Prop} : PP c E (fun B H o => PostX c E σ fl Z B H Q o) where
  exc _ _ _ _ h := h
  bad _ _ h := h
  frm B H B1 H1 o S h := by
    cases o with
    | vals d r => exact fun v H' B' R S' q => h v H' B' R (S.trans S') q
    | exc n d => exact h
    | _ => exact h.elim
variable {P : Av → Hp → Out → Prop} {B : Av} {H : Hp} {o : Out}
theorem bndX (pp : PP c E P) {fl : List Bool} {Z : Addr → Prop} {k : List D → Rho → Out} (h : P B H (o.bnds k)) {Q : List V → Hp → Prop}
    (hk : ∀ d r v H1 B1, o = .vals d r → Rel c r B1 σ H1 → Step B H B1 H1 → RepsX c.K B1 H1 Z fl d v → P B1 H1 (k d r) → Q v H1) : PostX c E σ fl Z B H Q o := by
  cases o with
  | vals d r => exact fun v H' B' R S q => hk d r v H' B' rfl R S q (pp.frm _ _ _ _ _ S h)
  | exc n d => exact pp.exc _ _ _ _ h
  | _ => exact (pp.bad _ _ h).elim
theorem bndF (pp : PP c E P) {k : D → Rho → Out} (h : P B H (o.bnd k)) {Q : VK}
    (hk : ∀ d r p H1 B1, o = .val d r → Rel c r B1 σ H1 → Step B H B1 H1 → B1.b p → ¬ B1.m p → H p = none → Cont c.K B1 H1 d p → P B1 H1 (k d r) → Q (.ref p) H1) : PostF c E σ B H Q o := by
  cases o with
  | val d r => exact fun p H' B' R S h1 h2 h3 q => hk d r p H' B' rfl R S h1 h2 h3 q (pp.frm _ _ _ _ _ S h)
  | exc n d => exact pp.exc _ _ _ _ h
  | _ => exact (pp.bad _ _ h).elim
end
section
variable {X : Cx} {c : Cfg} {E : EX}
theorem snd_xnil : PA X [] (denX c E [] oNil) := pa_mono pa_nil fun σ H Q ⟨r, B, R, h⟩ => h [] H B R (Step.refl _ _) .nil
theorem Step.dm {B B' : Av} {H H' : Hp} (s : Step B H B' H') {q : Addr} (h : H' q = none) : H q = none := by
  cases e : H q with
  | none => rfl
  | some o => obtain ⟨o', e'⟩ := s.dom q o e; rw [h] at e'; cases e'
theorem snd_xval {e : Expr} {es : List Expr} {fl : List Bool} {oa ot : O1} (ha : PE X e (denE c E oa)) (ht : PA X es (denX c E fl ot)) (hs : starEach (e :: es) X.env = (false, eval e X.env) :: starEach es X.env) :
    PA X (e :: es) (denX c E (false :: fl) (oCons oa ot)) := pa_mono (pa_cons ha ht hs) fun σ H Q ⟨r, B, R, h⟩ =>
  ⟨r, B, R, bndE ppX h fun d1 r1 v1 H1 B1 _ R1 S1 q1 h1 => ⟨r1, B1, R1, bndX ppX h1 fun d2 r2 v2 H2 B2 _ R2 S2 q2 h2 => h2 (v1 :: v2) H2 B2 R2 (Step.refl _ _) (.val (q1.step (R1.v S2)) (q2.mono fun q z => S1.dm z))⟩⟩
theorem snd_xnew {e : Expr} {es : List Expr} {fl : List Bool} {oa ot : O1} (ha : PE X e (denF c E oa)) (ht : PA X es (denX c E fl ot)) (hs : starEach (e :: es) X.env = (false, eval e X.env) :: starEach es X.env) :
    PA X (e :: es) (denX c E (true :: fl) (oCons oa ot)) := pa_mono (pa_cons ha ht hs) fun σ H Q ⟨r, B, R, h⟩ =>
  ⟨r, B, R, bndF ppX h fun d1 r1 p H1 B1 _ R1 S1 b1 m1 n1 ct h1 => ⟨r1, B1, R1, bndX ppX h1 fun d2 r2 v2 H2 B2 _ R2 S2 q2 h2 => by
    obtain ⟨o, eo⟩ := ct.there
    refine h2 (.ref p :: v2) H2 B2 R2 (Step.refl _ _) (.new n1 (S2.keep p o b1 m1 eo) (fun k => (S2.subm p k).elim m1 fun z => by rw [eo] at z; cases z) (ct.step (R1.v S2) fun o' e => S2.stay p o' m1 e) (q2.mono fun q z => ⟨S1.dm z, fun e => ?_⟩))
    subst e
    rw [eo] at z; cases z⟩⟩
/-- names stored one after another -/
def setX : List Nat → List Bool → List D → Rho → Option Rho
  | [], [], [], r => some r
  | i :: is, false :: fl, d :: ds, r => setX is fl ds (r.set i (.val d))
  | i :: is, true :: fl, d :: ds, r => setX is fl ds (r.set i (.own d))
  | _, _, _, _ => none
def setVs : List Nat → List V → St → St
  | i :: is, v :: vs, σ => setVs is vs (σ.set i (some v))
  | _, _, σ => σ
theorem setX_ok {B0 : Av} {H0 : Hp} : ∀ {is : List Nat} {fl : List Bool} {ds : List D} {vs : List V} {Z : Addr → Prop} {r r' : Rho} {B : Av} {σ : St} {H : Hp}, RepsX c.K B H Z fl ds vs → (∀ q, Z q → c.H0 q = none ∧ H0 q = none) → Rel c r B σ H → Step B0 H0 B H → setX is fl ds r = some r' →
    ∃ B', Rel c r' B' (setVs is vs σ) H ∧ Step B0 H0 B' H
  | [], _, _, _, _, r, r', B, σ, H, .nil, _, R, S, h => by cases h; exact ⟨B, R, S⟩
  | i :: is, _, _, _, _, r, r', B, σ, H, .val q qs, hz, R, S, h => setX_ok (is := is) qs hz (R.setV q) S h
  | i :: is, _, _, _, _, r, r', B, σ, H, .new (p := p) z b m ct qs, hz, R, S, h => by
    refine setX_ok (is := is) (B := B.plus p) (RepsX.plus (fun q z => z.2) qs) (fun q z => hz q z.1) (R.setOwn b m (hz p z).1 ct) (S.plus (hz p z).2) h
def oPar (is : List Nat) (fl : List Bool) (a : O1) : O1 := fun r => (a r).bnds fun ds r1 => match setX is fl ds r1 with
  | some r2 => .nxt r2
  | none => .bad
theorem par_go {is : List Nat} {fl : List Bool} {o : Out} {σ : St} {B : Av} {H : Hp} {G : Ends} (R0 : ∀ p, H p = none → c.H0 p = none)
    (h : PostS c E B H G (o.bnds fun ds r1 => match setX is fl ds r1 with
      | some r2 => .nxt r2
      | none => .bad)) : PostX c E σ fl (fun q => H q = none) B H (fun vs H1 => vs.length = fl.length ∧ ∀ H2, Ext H1 H2 → G.nx (setVs is vs σ) H2) o := by
  cases o with
  | vals ds r1 =>
    intro vs H' B' R S q
    refine ⟨q.len, fun H2 ex => ?_⟩
    have h' : PostS c E B H G (match setX is fl ds r1 with
      | some r2 => .nxt r2
      | none => .bad) := h
    cases e : setX is fl ds r1 with
    | none => rw [e] at h'; exact h'.elim
    | some r2 =>
      rw [e] at h'
      obtain ⟨B2, R2, S2⟩ := setX_ok (B0 := B) (H0 := H) (q.ext ex) (fun q z => ⟨R0 q z, z⟩) (R.ext ex) (S.trans ex.step) e
      exact h' _ H2 B2 R2 S2
  | exc n d => exact h
  | _ => exact h.elim
theorem setX_len : ∀ {is : List Nat} {fl : List Bool} {ds : List D} {r r' : Rho}, setX is fl ds r = some r' → is.length = fl.length
  | [], [], _, _, _, _ => rfl
  | i :: is, false :: fl, d :: ds, r, r', h => by simp [setX_len (is := is) (fl := fl) (ds := ds) h]
  | i :: is, true :: fl, d :: ds, r, r', h => by simp [setX_len (is := is) (fl := fl) (ds := ds) h]
  | [], _ :: _, _, _, _, h => by cases h
  | _ :: _, [], _, _, _, h => by cases h
  | _ :: _, false :: _, [], _, _, h => by cases h
  | _ :: _, true :: _, [], _, _, h => by cases h
theorem two_of : ∀ {vs : List V}, vs.length = 2 → ∃ v w, vs = [v, w]
  | [v, w], _ => ⟨v, w, rfl⟩
theorem three_of : ∀ {vs : List V}, vs.length = 3 → ∃ v w u, vs = [v, w, u]
  | [v, w, u], _ => ⟨v, w, u, rfl⟩
theorem snd_par2 {i j : Nat} {x y : Str} {a b : Expr} {fl : List Bool} {ot : O1} {px py pt : Pos} {kt k2 : Nat} {pt2 pos : Pos} (hf : fl.length = 2) (hc : X.calm = true) (hN : X.N.Nodup) (hi : X.N[i]? = some x) (hj : X.N[j]? = some y) (hij : i ≠ j)
    (hx : X.env.scope.names.lookup x = some .local) (hy : X.env.scope.names.lookup y = some .local) (ha : PA X [a, b] (denX c E fl ot))
    (hw : swappedStores [.Tuple [.Name x px, .Name y py] kt pt] (.Tuple [a, b] k2 pt2) X.env = pure (some [x, y])) :
    PS X (.Assign [.Tuple [.Name x px, .Name y py] kt pt] (.Tuple [a, b] k2 pt2) pos) (denS c E (oPar [i, j] fl ot)) := by
  refine ps_mono (ps_par hc hN hi hj hij hx hy ha hw rfl) fun G σ H ⟨r, B, R, h⟩ => ⟨r, B, R, ?_⟩
  have := par_go (fun p hp => R.fresh0 hp) h (σ := σ)
  revert this
  cases ot r with
  | vals ds r1 =>
      intro k vs H' B' R' S q
      obtain ⟨hl, k⟩ := k vs H' B' R' S q
      obtain ⟨v, w, rfl⟩ := two_of (hl.trans hf)
      exact ⟨v, w, rfl, k H' (Ext.refl _)⟩
  | exc n d => intro k; exact k
  | _ => intro k; exact k.elim
theorem snd_par3 {i j l : Nat} {x y z : Str} {a b k : Expr} {fl : List Bool} {ot : O1} {px py pz pt : Pos} {kt k2 : Nat} {pt2 pos : Pos} (hf : fl.length = 3) (hc : X.calm = true) (hN : X.N.Nodup) (hi : X.N[i]? = some x) (hj : X.N[j]? = some y) (hl : X.N[l]? = some z) (hij : i ≠ j) (hil : i ≠ l) (hjl : j ≠ l)
    (hx : X.env.scope.names.lookup x = some .local) (hy : X.env.scope.names.lookup y = some .local) (hz : X.env.scope.names.lookup z = some .local) (ha : PA X [a, b, k] (denX c E fl ot))
    (hw : swappedStores [.Tuple [.Name x px, .Name y py, .Name z pz] kt pt] (.Tuple [a, b, k] k2 pt2) X.env = pure (some [x, y, z])) :
    PS X (.Assign [.Tuple [.Name x px, .Name y py, .Name z pz] kt pt] (.Tuple [a, b, k] k2 pt2) pos) (denS c E (oPar [i, j, l] fl ot)) := by
  refine ps_mono (ps_par3 hc hN hi hj hl hij hil hjl hx hy hz ha hw rfl) fun G σ H ⟨r, B, R, h⟩ => ⟨r, B, R, ?_⟩
  have := par_go (fun p hp => R.fresh0 hp) h (σ := σ)
  revert this
  cases ot r with
  | vals ds r1 =>
      intro k vs H' B' R' S q
      obtain ⟨hl, k⟩ := k vs H' B' R' S q
      obtain ⟨v, w, u, rfl⟩ := three_of (hl.trans hf)
      exact ⟨v, w, u, rfl, k H' (Ext.refl _)⟩
  | exc n d => intro k; exact k
  | _ => intro k; exact k.elim
/-- the names of targets, each by its slot -/
def gSet (is : List Nat) : TGs := fun vs σ H Q => vs.length = is.length ∧ Q (setVs is vs σ) H
theorem pgs_setN : PGs X [] (gSet []) := ⟨fun pins s σ H vs us Q I r h => pgs_nil.run pins s σ H vs us Q I r (by
  obtain ⟨e, q⟩ := h
  have : vs = [] := List.eq_nil_of_length_eq_zero e
  subst this
  exact ⟨rfl, q⟩)⟩
theorem pgs_setC {i : Nat} {is : List Nat} {x : Str} {p : Pos} {es : List Expr} (n : Stor X i x) (h : PGs X es (gSet is)) : PGs X (.Name x p :: es) (gSet (i :: is)) :=
  ⟨fun pins s σ H vs us Q I r hw => (pgs_cons (pg_name n.nd n.at' n.loc n.fn) h (asg_cons rfl)).run pins s σ H vs us Q I r (by
    obtain ⟨e, q⟩ := hw
    match vs, e with
    | v :: vs, e => exact ⟨v, vs, rfl, by simpa using e, q⟩)⟩
theorem snd_parT {is : List Nat} {ts es : List Expr} {fl : List Bool} {ot : O1} {kt k2 : Nat} {pt pt2 pos : Pos} (hK : X.K = c.K) (hc : X.calm = true) (hf : fl.length = is.length) (hts : ts.all nst = true) (hl : ts.length = is.length) (hg : PGs X ts (gSet is)) (ha : PA X es (denX c E fl ot))
    (hlim : fl.length ≤ lim) (hw : swappedStores [.Tuple ts kt pt] (.Tuple es k2 pt2) X.env = pure none) : PS X (.Assign [.Tuple ts kt pt] (.Tuple es k2 pt2) pos) (denS c E (oPar is fl ot)) := by
  refine ps_mono (ps_asg (pe_tup ha) (pg_tup (n := is.length) hc hg (by rw [asg_len hts, hl]) (asg_find hts)) rfl hw (asg_cons rfl)) fun G σ H ⟨r, B, R, h⟩ => ⟨r, B, R, ?_⟩
  have := par_go (fun p hp => R.fresh0 hp) h (σ := σ)
  revert this
  cases ot r with
  | vals ds r1 =>
      intro k vs H' B' R' S q
      obtain ⟨hl, k⟩ := k vs H' B' R' S q
      exact ⟨by rw [hl]; exact lim_line hlim, fun p hp => ⟨p, vs, rfl, SqT.of upd_same, by rw [hl, hf], by rw [hl, hf], k _ (Ext.new hp)⟩⟩
  | exc n d => intro k; exact k
  | _ => intro k; exact k.elim
/-- target = e -/
def oAsg (f : Bd) (a : O1) : O1 := fun r => (a r).bnd fun d r1 => match f d r1 with
  | some r2 => .nxt r2
  | none => .bad
theorem snd_asgG {tg e : Expr} {f : Bd} {T : List Nat} {o : O1} {pos : Pos} (h : PE X e (denE c E o)) (hg : PG X tg (denG c T f)) (hs : swapsWith e (some tg) pos.line X.env = pure false) (hw : swappedStores [tg] e X.env = pure none) (hn : nst tg = true) :
    PS X (.Assign [tg] e pos) (denS c E (oAsg f o)) :=
  ps_mono (ps_asg h hg hs hw (asg_cons hn)) fun G σ H ⟨r, B, R, h⟩ => ⟨r, B, R, bndE ppS h fun d r1 v H1 B1 _ R1 S1 q1 h1 => ⟨r1, B1, d, R1, q1, by
    cases e : f d r1 with
    | none => rw [e] at h1; exact h1.elim
    | some r2 =>
      rw [e] at h1
      exact fun σ' H' B' R' S' _ => h1 σ' H' B' R' S'⟩⟩
end
end Py

/-! Py, part P: a list of one's own (or lent): x[k], x[k] = e, len(x), without freezing it. -/
namespace Py
open PySem L2

def Slot.lst? : Slot → Option (List D)
  | .own (.list ds) => some ds
  | .io (.list ds) => some ds
  | _ => none
theorem Slot.isL_of {s : Slot} {ds : List D} (h : s.lst? = some ds) : s.isL = true ∧ (s = .own (.list ds) ∨ s = .io (.list ds)) := by
  cases s with
  | own d => cases d <;> first | (cases h; exact ⟨rfl, .inl rfl⟩) | cases h
  | io d => cases d <;> first | (cases h; exact ⟨rfl, .inr rfl⟩) | cases h
  | _ => cases h
section
variable {c : Cfg} {r : Rho} {B : Av} {σ : St} {H : Hp}
theorem Rel.peek (R : Rel c r B σ H) {i : Nat} {ds : List D} (h : r[i]?.bind Slot.lst? = some ds) : ∃ s a xs, r[i]? = some s ∧ σ[i]? = some (some (.ref a)) ∧ H a = some (.lst xs) ∧ Reps c.K B H ds xs ∧ (s = .own (.list ds) ∨ s = .io (.list ds)) := by
  cases e : r[i]? with
  | none => rw [e] at h; cases h
  | some s =>
    rw [e] at h
    have h' : s.lst? = some ds := h
    obtain ⟨hl, hs⟩ := Slot.isL_of h'
    obtain ⟨a, xs, ds2, hu, ha, rs, hs2⟩ := R.lst e hl
    have : ds2 = ds := by
      rcases hs with rfl | rfl <;> rcases hs2 with z | z <;> cases z <;> rfl
    subst this
    exact ⟨s, a, xs, rfl, hu, ha, rs, hs⟩
end
def oPix (i : Nat) (k : O1) : O1 := fun r => match r[i]?.bind Slot.lst? with
  | some _ => (k r).bnd fun j r1 => match r1[i]?.bind Slot.lst? with
    | some ds => optO (fIx (.list ds) j) r1
    | none => .bad
  | none => .bad
def oPlen (i : Nat) : O1 := fun r => match r[i]?.bind Slot.lst? with
  | some ds => .val (.int ds.length) r
  | none => .bad
/-- x[k] = e -/
def Slot.put (k : D) (d : D) : Slot → Option Slot
  | .own (.list ds) => match k with
    | .int j => (ixN ds.length j).map fun n => .own (.list (ds.set n d))
    | _ => none
  | .io (.list ds) => match k with
    | .int j => (ixN ds.length j).map fun n => .io (.list (ds.set n d))
    | _ => none
  | _ => none
def oPut (i : Nat) (k a : O1) : O1 := fun r => (a r).bnd fun d r1 => match r1[i]?.bind Slot.lst? with
  | some _ => (k r1).bnd fun j r2 => match r2[i]?.bind (Slot.put j d) with
    | some s' => .nxt (r2.set i s')
    | none => .bad
  | none => .bad
theorem put_ok {s s' : Slot} {k d : D} (h : s.put k d = some s') : ∃ ds j n, (s = .own (.list ds) ∨ s = .io (.list ds)) ∧ k = .int j ∧ ixN ds.length j = some n ∧ ((∃ d0, s = .own d0 ∧ s' = .own (.list (ds.set n d))) ∨ ∃ d0, s = .io d0 ∧ s' = .io (.list (ds.set n d))) := by
  unfold Slot.put at h
  split at h
  · split at h
    · obtain ⟨n, e, rfl⟩ := Option.map_eq_some_iff.mp h
      exact ⟨_, _, n, .inl rfl, rfl, e, .inl ⟨_, rfl, rfl⟩⟩
    · cases h
  · split at h
    · obtain ⟨n, e, rfl⟩ := Option.map_eq_some_iff.mp h
      exact ⟨_, _, n, .inr rfl, rfl, e, .inr ⟨_, rfl, rfl⟩⟩
    · cases h
  · cases h
section
variable {X : Cx} {c : Cfg} {E : EX}
theorem snd_pix {i : Nat} {x : Str} {k : Expr} {ok : O1} {p pos : Pos} (hK : c.K = X.K) (hN : X.N[i]? = some x) (hv : Vis X.env.scope x) (hd : (x == ("__debug__" : Str)) = false) (hcd : (x == ("__classdict__" : Str)) = false) (hk : PE X k (denE c E ok)) (hs : PlainIx k) :
    PE X (.Subscript (.Name x p) k pos) (denE c E (oPix i ok)) := by
  refine pe_mono (pe_ix ix_list (pe_var hN hv hd hcd) hk hs) fun σ H Q ⟨r, B, R, h⟩ => ?_
  unfold oPix at h
  cases e0 : r[i]?.bind Slot.lst? with
  | none => rw [e0] at h; exact h.elim
  | some d0 =>
    rw [e0] at h
    obtain ⟨s, a, xs, e1, hu, ha, rs, hsl⟩ := R.peek e0
    refine ⟨.ref a, hu, r, B, R, bndE ppE h fun j r1 v1 H1 B1 _ R1 S1 q1 h1 => ?_⟩
    cases e2 : r1[i]?.bind Slot.lst? with
    | none => rw [e2] at h1; exact h1.elim
    | some ds =>
      rw [e2] at h1
      obtain ⟨s2, a2, xs2, _, hu2, ha2, rs2, _⟩ := R1.peek e2
      rw [hu] at hu2; cases hu2
      cases q1 with
      | int n =>
        cases ei : L2.atI ds n with
        | none =>
          have h1' : PostE c E σ B1 H1 Q (optO (L2.atI ds n) r1) := h1
          rw [ei] at h1'; exact h1'.elim
        | some d =>
          have h1' : PostE c E σ B1 H1 Q (optO (L2.atI ds n) r1) := h1
          rw [ei] at h1'
          obtain ⟨v, ev, rv⟩ := rs2.atI ei
          exact ⟨a, xs2, n, v, rfl, rfl, SqL.of ha2, ev, h1' v H1 B1 R1 (Step.refl _ _) rv⟩
      | _ => exact h1.elim
theorem snd_plen {i : Nat} {x : Str} {p p2 pos : Pos} (hN : X.N[i]? = some x) (hv : Vis X.env.scope x) (hd : (x == ("__debug__" : Str)) = false) (hcd : (x == ("__classdict__" : Str)) = false) (hg : Gl X "len") (hm : X.mg "len" = none) :
    PE X (.Call (.Name "len" p2) [.Name x p] [] pos) (denE c E (oPlen i)) := by
  refine pe_mono (pe_callB call_len hg hm (by decide +kernel) (pa_cons (pe_var hN hv hd hcd) pa_nil (star_cons rfl)) (by decide) (by decide) (star_cons rfl) rfl) fun σ H Q ⟨r, B, R, h⟩ => ?_
  unfold oPlen at h
  cases e0 : r[i]?.bind Slot.lst? with
  | none => rw [e0] at h; exact h.elim
  | some ds =>
    rw [e0] at h
    obtain ⟨s, a, xs, e1, hu, ha, rs, hsl⟩ := R.peek e0
    exact ⟨.ref a, hu, .ref a, xs.length, rfl, .inl ⟨xs, SqL.of ha, rfl⟩, by rw [← rs.length]; exact h _ H B R (Step.refl _ _) (.int _)⟩
theorem sub_asg {o k : Expr} {pos : Pos} {env : Env} (h : ixOk k = true) (v : Value) : assign (.Subscript o k pos) env v = (do
      let ov ← holding [v] (eval o env)
      let iv ← holding [v, ov] (eval k env)
      standAt pos
      holding [v, ov, iv] (setItem ov iv v)
      release [v, ov, iv] []) := by
  rw [assign]
  cases k with
  | Slice => cases h
  | _ => rfl
theorem snd_put {i : Nat} {x : Str} {k e : Expr} {ok o : O1} {p sp pos : Pos} (hN : X.N[i]? = some x) (hv : Vis X.env.scope x) (hd : (x == ("__debug__" : Str)) = false) (hcd : (x == ("__classdict__" : Str)) = false)
    (hix : ixOk k = true) (hk : PE X k (denE c E ok)) (h : PE X e (denE c E o)) (hs : swapsWith e (some (.Subscript (.Name x p) k sp)) pos.line X.env = pure false) (hw : swappedStores [.Subscript (.Name x p) k sp] e X.env = pure none) :
    PS X (.Assign [.Subscript (.Name x p) k sp] e pos) (denS c E (oPut i ok o)) := by
  refine ps_mono (ps_asg h (pg_sub (pe_var hN hv hd hcd) hk set_list (sub_asg hix)) hs hw (asg_cons rfl)) fun G σ H ⟨r, B, R, h⟩ => ⟨r, B, R, bndE ppS h fun d r1 v H1 B1 _ R1 S1 q1 h1 => ?_⟩
  cases e0 : r1[i]?.bind Slot.lst? with
  | none => rw [e0] at h1; exact h1.elim
  | some d0 =>
    rw [e0] at h1
    obtain ⟨s, a, xs, e1, hu, ha, rs, hsl⟩ := R1.peek e0
    refine ⟨.ref a, hu, r1, B1, R1, bndE ppS h1 fun j r2 u H2 B2 _ R2 S2 q2 h2 => ?_⟩
    cases e3 : r2[i]?.bind (Slot.put j d) with
    | none => rw [e3] at h2; exact h2.elim
    | some s' =>
      rw [e3] at h2
      obtain ⟨s2, e4, e5⟩ := Option.bind_eq_some_iff.mp e3
      obtain ⟨ds, jn, n, hs2, rfl, en, hk2⟩ := put_ok e5
      cases q2
      have hl2 : s2.isL = true := by rcases hs2 with rfl | rfl <;> rfl
      have hx : s2.excl = true := by rcases hs2 with rfl | rfl <;> rfl
      obtain ⟨a2, xs2, ds2, hu2, ha2, rs2, hs3⟩ := R2.lst e4 hl2
      rw [hu] at hu2; cases hu2
      have : ds2 = ds := by rcases hs2 with rfl | rfl <;> rcases hs3 with z | z <;> cases z <;> rfl
      subst this
      have q1' := q1.step (R1.v S2)
      have hv1 : Vst B2 H2 B2 (upd H2 a (.lst (xs2.set n v))) := by
        have ba := R2.exm e4 hx hu
        exact ⟨fun y o nb e => by rw [upd_ne (fun z => nb (by rw [z]; exact R2.mb a ba))]; exact e, fun _ h => .inl h⟩
      obtain ⟨R3, S3⟩ := R2.mut (d := .list (ds2.set n d)) e4 hx hu ha2 hk2 (.lst upd_same ((Reps.set q1' n rs2).step hv1))
      exact ⟨a, xs2, jn, n, rfl, rfl, ha2, by rw [← rs2.length]; exact en, h2 σ _ B2 R3 S3⟩
end
end Py

/-! Py, part Q: starred items. -/
namespace Py
open PySem L2 StX

def oStar (a t : O1) : O1 := fun r => (a r).bnd fun d r1 => match kOf d with
  | some (_, xs) => (t r1).bnds fun ys r2 => .vals (xs ++ ys) r2
  | none => .bad
section
variable {X : Cx} {c : Cfg} {E : EX}
theorem snd_star {e : Expr} {es : List Expr} {oa ot : O1} {p : Pos} (hK : c.K = X.K) (ha : PE X e (denE c E oa)) (ht : PA X es (denA c E ot)) : PA X (.Starred e p :: es) (denA c E (oStar oa ot)) := by
  refine pa_mono (pa_star ha ht rfl) fun σ H Q ⟨r, B, R, h⟩ => ⟨r, B, R, bndE ppA h fun d1 r1 v1 H1 B1 _ R1 S1 q1 h1 => ?_⟩
  cases d1 with
  | list xs =>
    obtain ⟨a, us, rfl, s, rr⟩ := q1.lst0
    rw [hK] at s
    refine ⟨a, us, rfl, .inr s, r1, B1, R1, bndA ppA h1 fun d2 r2 v2 H2 B2 _ R2 S2 q2 h2 => h2 _ H2 B2 R2 (Step.refl _ _) ((rr.step (R1.v S2)).app q2)⟩
  | tuple xs =>
    obtain ⟨a, us, rfl, s, rr⟩ := q1.tup0
    rw [hK] at s
    refine ⟨a, us, rfl, .inl s, r1, B1, R1, bndA ppA h1 fun d2 r2 v2 H2 B2 _ R2 S2 q2 h2 => h2 _ H2 B2 R2 (Step.refl _ _) ((rr.step (R1.v S2)).app q2)⟩
  | _ => exact h1.elim
end

/-! ### sum(rows, start) of lists -/
def preL (rows : List (List Value)) (i : Nat) : List Value := (rows.take i).flatten
theorem preL_succ {rows : List (List Value)} {i : Nat} {x : List Value} (h : rows[i]? = some x) : preL rows (i + 1) = preL rows i ++ x := by
  unfold preL
  rw [List.take_succ, h]
  simp
section
variable {prog : Program} {w : World} {A : Around} {R : Result → Shared → Prop} {I : Addr} {fp wr : List Addr} {G : Array GenState → Array GenState → Prop} {n : Nat} {P : Nat → Value → Prop} {St : Nat → Shared → Prop}
theorem codeAny_sum_loopL (W : WalksS prog w A.in1 I fp wr G n P St) (H : Heap) (hw : ∀ b o, H.get? b = some o → b ∉ wr) (rows : List (List Value)) (hn : rows.length = n) (ys : List Value) (hys : ys.length + rows.flatten.length ≤ sizeLine)
    (hval : ∀ i v, P i v → ∃ l x c, v = .ref l ∧ rows[i]? = some x ∧ H.get? l = some { cls := .type "list", data := .seq x.toArray c }) (hfp : ∀ i s, St i s → ∀ b ∈ fp, b < s.heap.objs.size) (sz : Nat) (hsz0 : ∀ i s, St i s → sz ≤ s.heap.objs.size) (S : Addr) (hSf : S ∉ fp) (hSH : H.get? S = none) :
    ∀ (k i : Nat) (s : Shared) (acc : Addr) (c ca : Nat), n - i = k → i ≤ n → (∀ b o, H.get? b = some o → s.heap.get? b = some o) → St i s → s.heap.get? S = some { cls := .type "list", dict := none, data := .seq #[.ref acc] c, slots := #[] } →
    s.heap.get? acc = some { cls := .type "list", data := .seq (ys ++ preL rows i).toArray ca } → acc ∉ wr → acc ≠ S → 
    (∀ s' acc' c', Moved (S :: wr) G s s' → s'.heap.get? acc' = some { cls := .type "list", data := .seq (ys ++ preL rows n).toArray c' } → (i = n → acc' = acc) → (i < n → sz ≤ acc') → R (.ok (.ret (.ref acc'))) s') → codeAny (model prog w) A (.builtin "sum.loop" ⟨[.ref I, .ref S, rawInt 2, rawInt 0], []⟩) R s := by
  have hSw : S ∉ wr := fun h => hSf (W.sub _ h)
  have hsub : ∀ b ∈ wr, b ∈ S :: wr := fun b hb => List.mem_cons_of_mem _ hb
  intro k
  induction k with
  | zero =>
    intro i s acc c ca hk hi hkeep hst hS hacc haf haS hR
    have hin : i = n := by omega
    subst hin
    refine codeAny_builtin F.entry_sum_loop ?_
    rw [Around.under_plainId F.plain_sum_loop _]
    show wpAny _ A.in1 (seqItems? (.ref S) >>= _) _ _ s
    refine wpAny_bind (wpAny_seqItems hS rfl ?_)
    show wpAny _ A.in1 (tryCatch (pyNext (.ref I)) _ >>= _) _ _ s
    refine wpAny_bind (wpAny_tryCatch (W.done s _ _ hst fun s' hm => ?_))
    exact wpAny_pure (hR s' acc ca (hm.mono hsub) (hm.heap acc _ haf hacc) (fun _ => rfl) (fun z => absurd z (Nat.lt_irrefl _)))
  | succ k ih =>
    intro i s acc c ca hk hi hkeep hst hS hacc haf haS hR
    have hlt : i < n := by omega
    refine codeAny_builtin F.entry_sum_loop ?_
    rw [Around.under_plainId F.plain_sum_loop _]
    show wpAny _ A.in1 (seqItems? (.ref S) >>= _) _ _ s
    refine wpAny_bind (wpAny_seqItems hS rfl ?_)
    show wpAny _ A.in1 (tryCatch (pyNext (.ref I)) _ >>= _) _ _ s
    refine wpAny_bind (wpAny_tryCatch (W.item i s _ _ hlt hst fun v s' hP hst' hm => ?_))
    obtain ⟨l, x, cx, rfl, hx, hl⟩ := hval i v hP
    have hS' := hm.heap S _ hSw hS
    have hkeep' : ∀ b o, H.get? b = some o → s'.heap.get? b = some o := fun b o e => hm.heap b o (hw b o e) (hkeep b o e)
    have hacc' := hm.heap acc _ haf hacc
    have hl' := hkeep' l _ hl
    have hsz : (ys ++ preL rows i).toArray.size + x.toArray.size ≤ sizeLine := by
      have e := congrArg List.length (preL_succ hx)
      rw [List.length_append] at e
      have e2 : rows.flatten = preL rows (i + 1) ++ (rows.drop (i + 1)).flatten := by
        unfold preL
        rw [← List.flatten_append, List.take_append_drop]
      have e3 := congrArg List.length e2
      rw [List.length_append] at e3
      rw [List.size_toArray, List.size_toArray, List.length_append]
      omega
    have hfr : sz ≤ s'.heap.objs.size := hsz0 (i + 1) s' hst'
    have hfp' : ∀ b ∈ fp, b < s'.heap.objs.size := hfp (i + 1) s' hst'
    show wpAny _ A.in1 ((holding [Value.ref l] (binaryOp .Add (.ref acc) (.ref l))).attempt >>= _) _ _ _
    refine wpAny_bind (wpAny_attempt (wpAny_holding (PySem.P.add_list hacc' hl' ?_ hsz)))
    have hS1 : (s'.heap.push { cls := .type "list", data := .seq ((ys ++ preL rows i).toArray ++ x.toArray) }).get? S = _ := Heap.get?_push_of_some _ hS'
    refine wpAny_bind (wpAny_updateSeq hS1 rfl ?_)
    have hS2 := Heap.get?_update_self (Obj.mapSeq fun _ => #[Value.ref s'.heap.objs.size]) hS1 rfl
    refine wpAny_bind (wpAny_letGo ?_)
    have hS3 := Heap.get?_update_self (Obj.mapSeq fun _ => #[Value.ref s'.heap.objs.size]) hS2 rfl
    have nS : s'.heap.objs.size ≠ S := Ne.symm (Nat.ne_of_lt (Heap.lt_size hS'))
    have ea : (ys ++ preL rows i).toArray ++ x.toArray = (ys ++ preL rows (i + 1)).toArray := by
      rw [preL_succ hx]; simp
    have kp : ∀ b o, b ≠ S → s'.heap.get? b = some o → (((s'.heap.push { cls := .type "list", data := .seq ((ys ++ preL rows i).toArray ++ x.toArray) }).update S (Obj.mapSeq fun _ => #[Value.ref s'.heap.objs.size])).update S (Obj.mapSeq fun _ => #[Value.ref s'.heap.objs.size])).get? b = some o := fun b o hb e =>
      (Heap.get?_update_other _ _ (Ne.symm hb)).trans ((Heap.get?_update_other _ _ (Ne.symm hb)).trans (Heap.get?_push_of_some _ e))
    refine wpAny_bind (wpAny_updateSeq hS2 rfl (wpAny_pure ⟨plainId_quiet F.plain_sum_loop _, ih (i + 1) _ s'.heap.objs.size _ 0 (by omega) hlt (fun b o e => kp b o (fun z => by rw [z, hSH] at e; cases e) (hkeep' b o e)) (W.frame _ s' _ _ hst' (Nat.le_refl _) fun b hb o e => kp b o (fun z => hSf (by rw [← z]; exact hb)) e) hS3 ?_ (fun z => Nat.lt_irrefl _ (hfp' _ (W.sub _ z))) nS fun s'' acc2 c2 hm'' h1 h2 h3 => ?_⟩))
    · rw [← ea]
      exact (Heap.get?_update_other _ _ (Ne.symm nS)).trans ((Heap.get?_update_other _ _ (Ne.symm nS)).trans (Heap.get?_push_size _ rfl))
    · refine hR s'' acc2 c2 (Moved.trans W.gtrans ((hm.mono hsub).then_heap (Nat.le_refl _) fun b o hb e => kp b o (fun z => hb (by rw [z]; exact List.mem_cons_self)) e) hm'') h1 (fun z => absurd z (Nat.ne_of_lt hlt)) fun _ => ?_
      by_cases z : i + 1 = n
      · rw [h2 z]; exact hfr
      · exact h3 (by omega)
end
section
variable {prog : Program} {w : World} {A : Around} {E : Value → Shared → Prop} {s : Shared}
theorem args_sumL (a b : Value) : argsOk "sum" ⟨[a, b], []⟩ := by unfold argsOk; kernel_rfl
theorem call_sumL {a st : Addr} {rows : List (List Value)} {ls : List Addr} {ys : List Value} {cs : Nat} {Q : Value → Shared → Prop} (hh : A.handled = none) (hl : s.heap.IsList a (ls.map Value.ref).toArray) (hst : s.heap.get? st = some { cls := .type "list", data := .seq ys.toArray cs })
    (hlen : ls.length = rows.length) (hrows : ∀ (i : Nat) l, ls[i]? = some l → ∃ x c, rows[i]? = some x ∧ s.heap.get? l = some { cls := .type "list", data := .seq x.toArray c }) (hsz : ys.length + rows.flatten.length ≤ sizeLine)
    (h : ∀ h' tk acc c', (∀ b o, s.heap.get? b = some o → h'.get? b = some o) → h'.get? acc = some { cls := .type "list", data := .seq (ys ++ rows.flatten).toArray c' } → (rows = [] → acc = st) → (rows ≠ [] → s.heap.objs.size ≤ acc) → Q (.ref acc) { s with heap := h', toks := tk }) :
    wpAny (model prog w) A (call (.builtin "sum") [.ref a, .ref st]) Q E s := by
  refine call_function_tree F.kind_sum F.plain_sum F.entry_sum (args_sumL _ _) ?_
  unfold Builtin.«sum»
  simp only [List.length_cons, List.length_nil]
  rw [if_neg (by decide)]
  refine wpAny_bind (wpAny_of_eq (show Builtin.Builtins.bindParams "sum" ["start"] 0 { pos := [.ref st] } = pure [some (.ref st)] from rfl) ?_)
  refine wpAny_bind (PySem.W.iter_listW (A := A.in1) hh hl fun s₂ e W hs0 hfp hw hk => ?_)
  refine wpAny_bind (wpAny_pure ?_)
  have hT : s₂.TypeIs (.ref st) "list" := ⟨_, hk _ _ hst, rfl⟩
  simp only [List.forIn_cons, List.forIn_nil]
  refine wpAny_bind (wpAny_bind (wpAny_bind (wpAny_isInstance (T := "list") (b := false) hT F.sub_list_str ?_)))
  simp only [Bool.false_eq_true, if_false]
  refine wpAny_pure (wpAny_bind (wpAny_bind (wpAny_isInstance (T := "list") (b := false) hT F.sub_list_bytes ?_)))
  simp only [Bool.false_eq_true, if_false]
  refine wpAny_pure (wpAny_bind (wpAny_bind (wpAny_isInstance (T := "list") (b := false) hT F.sub_list_bytearray ?_)))
  simp only [Bool.false_eq_true, if_false]
  refine wpAny_pure (wpAny_pure ?_)
  refine wpAny_bind (wpAny_newObj_type ?_)
  have hsz2 : (ls.map Value.ref).toArray.size = rows.length := by simp [hlen]
  have n1 : st ≠ s.heap.objs.size := Nat.ne_of_lt (Heap.lt_size hst)
  have hS0 : s.heap.get? s₂.heap.objs.size = none := fresh_in hk
  have hSf : s₂.heap.objs.size ∉ [s.heap.objs.size, a] := fun hm => Nat.lt_irrefl _ (hfp _ hm)
  have n2 : st ≠ s₂.heap.objs.size := Nat.ne_of_lt (Heap.lt_size (hk _ _ hst))
  refine wpAny_pure ⟨plainId_quiet F.plain_sum_loop _, codeAny_sum_loopL W s.heap hw rows (by rw [hsz2]) ys hsz (fun i v hP => ?_) (fun i s' hs b hb => ?_) s.heap.objs.size (fun i s' hs => by obtain ⟨_, eo, _⟩ := hs.1; exact Nat.le_of_lt (Heap.lt_size eo)) s₂.heap.objs.size hSf hS0 _ 0 _ st 0 cs rfl (Nat.zero_le _)
    (fun b o eb => Heap.get?_push_of_some _ (hk b o eb)) (W.frame 0 s₂ _ s₂.toks hs0 (Nat.le_refl _) fun b _ o eb => Heap.get?_push_of_some _ eb) (Heap.get?_push_size _ rfl) ?_ ?_ n2 fun s' acc' c' hm h1 h2 h3 => ?_⟩
  · rw [List.getElem?_toArray, List.getElem?_map] at hP
    cases el : ls[i]? with
    | none => rw [el] at hP; cases hP
    | some l =>
      rw [el] at hP
      cases hP
      obtain ⟨x, c, e1, e2⟩ := hrows i l el
      exact ⟨l, x, c, rfl, e1, e2⟩
  · rcases List.mem_cons.mp hb with rfl | hb
    · obtain ⟨_, eo, _⟩ := hs.1; exact Heap.lt_size eo
    · rcases List.mem_cons.mp hb with rfl | hb
      · obtain ⟨_, eo, _⟩ := hs.2; exact Heap.lt_size eo
      · cases hb
  · show (s₂.heap.push _).get? st = _
    have e0 : ys ++ preL rows 0 = ys := by unfold preL; simp
    rw [e0]
    exact Heap.get?_push_of_some _ (hk _ _ hst)
  · intro hm
    exact n1 (List.mem_singleton.mp hm)
  · obtain ⟨hp, g', d', tk', os'⟩ := s'
    have e1 : g' = s.gens := by have := hm.gens; rw [show g' = s₂.gens from this, e]
    have e2 : d' = s.drawn := by have := hm.drawn; rw [show d' = s₂.drawn from this, e]
    have e3 : os' = s.os := by have := hm.os; rw [show os' = s₂.os from this, e]
    subst e1 e2 e3
    have ef : preL rows (ls.map Value.ref).toArray.size = rows.flatten := by
      unfold preL
      rw [hsz2, List.take_length]
    rw [ef] at h1
    refine h hp tk' acc' c' (fun b o eb => ?_) h1 (fun z => h2 (by rw [hsz2, z]; rfl)) fun z => h3 (by rw [hsz2]; exact List.length_pos_iff.mpr z)
    refine hm.heap b o (fun hb => ?_) (Heap.get?_push_of_some _ (hk b o eb))
    rcases List.mem_cons.mp hb with z | z
    · rw [z, hS0] at eb; cases eb
    · exact hw b o eb z
end
/-- by values -/
def rSumL (K : PySem.W.Frag) : List V → Hp → VK → Prop := fun vs H Q => ∃ (a st : Addr) (ls : List Addr) (rows : List (List V)) (ys : List V), vs = [V.ref a, V.ref st] ∧ SqL K H a (ls.map V.ref) ∧ H st = some (.lst ys) ∧ Paired (fun l xs => H l = some (.lst xs)) ls rows ∧
  ys.length + rows.flatten.length ≤ sizeLine ∧ (rows = [] → Q (.ref st) H) ∧ (rows ≠ [] → ∀ p, H p = none → Q (.ref p) (upd H p (.lst (ys ++ rows.flatten))))
theorem rows_get {X : Cx} {pins : List (Addr × Obj)} {σ : St} {H : Hp} {s : Shared} (I : Inv X pins σ H s) : ∀ {ls : List Addr} {rows : List (List V)}, Paired (fun l xs => H l = some (.lst xs)) ls rows →
    ∃ rv : List (List Value), ls.length = rv.length ∧ (∀ (i : Nat) l, ls[i]? = some l → ∃ x c, rv[i]? = some x ∧ s.heap.get? l = some { cls := .type "list", data := .seq x.toArray c }) ∧ Vals rows.flatten rv.flatten
  | _, _, .nil => ⟨[], rfl, fun i l h => by simp at h, .nil⟩
  | _, _, .cons h t => by
    obtain ⟨rv, h1, h2, h3⟩ := rows_get I t
    obtain ⟨z, its, n, r, hl, e⟩ := I.lstM h
    refine ⟨its :: rv, by simp [h1], fun i l hi => ?_, ?_⟩
    · cases i with
      | zero => simp at hi; subst hi; exact ⟨its, n, rfl, e⟩
      | succ i => simpa using h2 i l (by simpa using hi)
    · rw [List.flatten_cons, List.flatten_cons]
      exact r.append h3
theorem vals_refsI : ∀ {ls : List Addr} {us : List Value}, Vals (ls.map V.ref) us → us = ls.map Value.ref
  | [], _, .nil => rfl
  | l :: ls, _, .cons r t => by
    cases r
    rw [vals_refsI t]; rfl
theorem cr_sumL {X : Cx} (hc : X.calm = true) : CallR X (.builtin "sum") (rSumL X.K) := by
  intro pins s σ H vs us Q I r h
  obtain ⟨a, st, ls, rows, ys, rfl, hs, hst, hp, hsz, q0, q1⟩ := h
  obtain ⟨u1, u2, rfl, r1, r2⟩ := vals2 r
  cases r1; cases r2
  obtain ⟨its, rv, hl, _⟩ := I.list hs
  have := vals_refsI rv
  subst this
  obtain ⟨zy, iy, ny, ry, hly, ey⟩ := I.lstM hst
  obtain ⟨rw', h1, h2, h3⟩ := rows_get I hp
  have e1 := ry.length
  have e2 := h3.length
  refine call_sumL (I.ok.hd hc) hl.isList ey h1 h2 (by omega) fun h' tk acc c' hk ha hA hB => ?_
  by_cases z : rows = []
  · subst z
    have : rw' = [] := by
      cases hp
      exact List.eq_nil_of_length_eq_zero h1.symm
    rw [hA this]
    exact ⟨.ref st, H, I.kept hk, rfl, q0 rfl⟩
  · have z' : rw' ≠ [] := fun e => z (by
      subst e
      have : ls = [] := List.eq_nil_of_length_eq_zero h1
      subst this
      cases hp; rfl)
    have hn : s.heap.objs.size ≤ acc := hB z'
    exact ⟨.ref acc, _, I.laid (o := .lst (ys ++ rows.flatten)) hk hn ⟨by rw [List.length_append]; exact hsz, _, c', ry.append h3, ha⟩, rfl, q1 z acc (I.hok.fresh hn)⟩
def rowsOf : List D → Option (List (List D))
  | [] => some []
  | .list xs :: ds => (rowsOf ds).map (xs :: ·)
  | _ :: _ => none
def fSumL : List D → Option D
  | [.list rows, .list ys] => match rowsOf rows with
    | some xss => if ys.length + xss.flatten.length ≤ lim then some (.list (ys ++ xss.flatten)) else none
    | none => none
  | _ => none
theorem rows_rep {K : PySem.W.Frag} {B : Av} {H : Hp} : ∀ {ds : List D} {us : List V} {xss : List (List D)}, Reps K B H ds us → rowsOf ds = some xss → ∃ (ls : List Addr) (rows : List (List V)), us = ls.map V.ref ∧ Paired (fun l xs => H l = some (.lst xs)) ls rows ∧ Reps K B H xss.flatten rows.flatten ∧ (rows = [] → xss = [])
  | [], _, _, .nil, h => by cases h; exact ⟨[], [], rfl, .nil, .nil, fun _ => rfl⟩
  | d :: ds, _, xss, .cons r rs, h => by
    cases d with
    | list xs =>
      obtain ⟨yss, e, rfl⟩ := Option.map_eq_some_iff.mp (show (rowsOf ds).map (xs :: ·) = some xss from h)
      obtain ⟨ls, rows, rfl, hp, hr, _⟩ := rows_rep rs e
      obtain ⟨a, us, rfl, _, ha, rr⟩ := r.lstI
      exact ⟨a :: ls, us :: rows, rfl, .cons ha hp, by rw [List.flatten_cons, List.flatten_cons]; exact rr.app hr, fun z => by cases z⟩
    | _ => cases h
theorem iN_sumL {c : Cfg} : OpN c (rSumL c.K) fSumL := fun B H xs ds g Q nb r h q => by
  unfold fSumL at h
  split at h
  · rename_i rows ys
    obtain ⟨v, u, rfl, rv, ru⟩ := r.twoI rfl
    cases er : rowsOf rows with
    | none => rw [er] at h; cases h
    | some xss =>
      rw [er] at h
      dsimp only at h
      split at h
      · rename_i hl
        cases h
        obtain ⟨a, us, rfl, s, rr⟩ := rv.lst0
        have ru' := ru
        obtain ⟨b, ws, rfl, _, hb, rb⟩ := ru.lstI
        obtain ⟨ls, rws, rfl, hp, hr, h0⟩ := rows_rep rr er
        refine ⟨a, b, ls, rws, ws, rfl, s, hb, hp, by rw [← rb.length, ← hr.length]; exact lim_line hl, fun z => ?_, fun _ p hp => ?_⟩
        · rw [h0 z] at q
          simp at q
          exact q _ H (Ext.refl H) ru'
        · exact q _ _ (Ext.new hp) (Rep.newL (nb p hp) hp (rb.app hr))
      · cases h
  · cases h
end Py

/-! Py, part R: sorted(xs) of a list of data; tuple(range(..)), list(range(..)). -/
namespace Py
open PySem L2

def leD (a b : D) : Bool := !PySem.W.dataLt b a
def neTup : D → Bool
  | .tuple (_ :: _) => true
  | _ => false
def noTup : D → Bool
  | .none => false
  | .tuple _ => false
  | _ => true
def sortOk (ds : List D) : Bool := PyData.plainAll ds && decide (PyData.depthAll ds ≤ 50) && ds.all (fun x => ds.all fun y => PySem.W.alike x y) && (ds.all neTup || ds.all noTup) && decide (ds.length ≤ lim)
theorem sortOk_and {ds : List D} (h : sortOk ds = true) : PyData.plainAll ds = true ∧ PyData.depthAll ds ≤ 50 ∧ PySem.W.AllAlike ds ∧ PySem.W.Sortable ds ∧ ds.length ≤ lim := by
  unfold sortOk at h
  simp only [Bool.and_eq_true, decide_eq_true_eq, Bool.or_eq_true, List.all_eq_true] at h
  obtain ⟨⟨⟨⟨h1, h2⟩, h3⟩, h4⟩, h5⟩ := h
  refine ⟨h1, h2, fun d hd d' hd' => h3 d hd d' hd', ?_, h5⟩
  rcases h4 with h4 | h4
  · refine .inl fun d hd => ?_
    have := h4 d hd
    unfold neTup at this
    split at this
    · exact ⟨_, _, rfl⟩
    · cases this
  · refine .inr fun d hd => ⟨fun e => ?_, fun xs e => ?_⟩
    · have := h4 d hd; rw [e] at this; cases this
    · have := h4 d hd; rw [e] at this; cases this
def rSort (K : PySem.W.Frag) : List V → Hp → VK → Prop := fun ws H Q => ∃ (a : Addr) (ps : List (V × D)), ws = [V.ref a] ∧ SqL K H a (ps.map (·.1)) ∧ DpAll K H (ps.map (·.1)) (ps.map (·.2)) ∧ sortOk (ps.map (·.2)) = true ∧
  ∀ p, H p = none → Q (.ref p) (upd H p (.lst ((ps.mergeSort (fun x y => leD x.2 y.2)).map (·.1))))
theorem each_vals : ∀ {out : List Value} {ps : List (V × D)}, PySem.W.EachIs (fun v b => RelV b.1 v) out ps → Vals (ps.map (·.1)) out
  | _, _, .nil => .nil
  | _, _, .cons r t => .cons r (each_vals t)
theorem vals_each : ∀ {ps : List (V × D)} {us : List Value}, Vals (ps.map (·.1)) us → PySem.W.EachIs (fun v (b : V × D) => RelV b.1 v) us ps
  | [], _, .nil => .nil
  | _ :: _, _, .cons r t => .cons r (vals_each t)
theorem reads_each {h : Heap} : ∀ {ps : List (V × D)} {us : List Value} {as : List Addr}, ReadsAll h us (ps.map (·.2)) as → PySem.W.EachIs (fun v (b : V × D) => ∃ as, Reads h v b.2 as) us ps
  | [], _, _, .nil => .nil
  | _ :: _, _, _, .cons r t => .cons ⟨_, r⟩ (reads_each t)
theorem depth_mem : ∀ {ds : List D} {d : D}, d ∈ ds → d.depth ≤ PyData.depthAll ds
  | x :: xs, d, h => by
    rcases List.mem_cons.mp h with rfl | h
    · exact Nat.le_max_left _ _
    · exact Nat.le_trans (depth_mem h) (Nat.le_max_right _ _)
theorem cr_sortD {X : Cx} (hu : X.A.units + 64 < cLine) : CallR X (.builtin "sorted") (rSort X.K) := by
  intro pins s σ H ws us Q I r h
  obtain ⟨a, ps, rfl, hs, dp, ok, q⟩ := h
  obtain ⟨p1, p2, p3, p4, p5⟩ := sortOk_and ok
  rw [Vals.ref1 r]
  obtain ⟨its, rv, hl, hz⟩ := I.list hs
  obtain ⟨as, ra⟩ := Dp.readsAll I _ _ _ dp rv
  refine PySem.W.sorted_data (R := fun v (b : V × D) => RelV b.1 v) (enc := fun b : V × D => b.2) hl.isList (vals_each rv) (reads_each ra) p3 p4 (by simpa using hz) (fun b hb => ?_) fun out h1 h2 => ?_
  · have := depth_mem (List.mem_map.mpr ⟨b, hb, rfl⟩ : b.2 ∈ ps.map (·.2))
    omega
  · obtain ⟨ep, he'⟩ := PyProof.Rows.sortedAll_at s.heap its out.toArray
    have hlen : ((ps.mergeSort (fun x y => leD x.2 y.2)).map (·.1)).length ≤ sizeLine := by
      rw [List.length_map, List.length_mergeSort]
      simpa using hz
    exact ⟨.ref _, upd H (s.heap.objs.size + 1) (.lst _), I.laid (t' := s.toks) (fun _ _ => PyProof.Rows.sortedAll_old) (Nat.le_succ _) ⟨hlen, out, ep, each_vals h2, he'⟩, rfl, q _ (I.hok.fresh (Nat.le_succ _))⟩
def fSorted : List D → Option D
  | [.list xs] => if sortOk xs = true then some (.list (xs.mergeSort leD)) else none
  | _ => none
theorem reps_pairs {K : PySem.W.Frag} {B : Av} {H : Hp} : ∀ {ds : List D} {us : List V}, Reps K B H ds us → ∃ ps : List (V × D), us = ps.map (·.1) ∧ ds = ps.map (·.2) ∧ ∀ p ∈ ps, Rep K B H p.2 p.1
  | _, _, .nil => ⟨[], rfl, rfl, fun p h => by cases h⟩
  | _, _, .cons (d := d) (v := v) r rs => by
    obtain ⟨ps, e1, e2, h⟩ := reps_pairs rs
    refine ⟨(v, d) :: ps, by rw [e1]; rfl, by rw [e2]; rfl, fun p hp => ?_⟩
    rcases List.mem_cons.mp hp with rfl | hp
    · exact r
    · exact h p hp
theorem pairs_reps {K : PySem.W.Frag} {B : Av} {H : Hp} : ∀ {ps : List (V × D)}, (∀ p ∈ ps, Rep K B H p.2 p.1) → Reps K B H (ps.map (·.2)) (ps.map (·.1))
  | [], _ => .nil
  | p :: ps, h => .cons (h p List.mem_cons_self) (pairs_reps fun q hq => h q (List.mem_cons_of_mem _ hq))
theorem iN_sorted {c : Cfg} : OpN c (rSort c.K) fSorted := fun B H xs ds g Q nb r h q => by
  unfold fSorted at h
  split at h
  · rename_i l
    obtain ⟨v, rfl, rv⟩ := r.oneI rfl
    by_cases ok : sortOk l = true
    · rw [if_pos ok] at h
      cases h
      obtain ⟨a, us, rfl, s, rr⟩ := rv.lst0
      obtain ⟨ps, rfl, rfl, hp⟩ := reps_pairs rr
      refine ⟨a, ps, rfl, s, rr.dp (sortOk_and ok).1, ok, fun p hpn => q _ _ (Ext.new hpn) (Rep.newL (nb p hpn) hpn ?_)⟩
      rw [← List.map_mergeSort (r := fun x y : V × D => leD x.2 y.2) (s := leD) (f := fun b : V × D => b.2) (fun _ _ _ _ => rfl)]
      exact pairs_reps fun p hm => hp p ((List.mergeSort_perm _ _).mem_iff.mp hm)
    · rw [if_neg ok] at h; cases h
  · cases h

/-! ### tuple(range(..)), list(range(..)) -/
def rgMk (k : Bool) (xs : List D) : D := if k = true then .tuple xs else .list xs
def rgB (n : Int) : Prop := -1000000 ≤ n ∧ n ≤ 1000000
instance (n : Int) : Decidable (rgB n) := inferInstanceAs (Decidable (_ ∧ _))
def oTr1 (k : Bool) (a : O1) : O1 := fun r => (a r).bnd fun d r1 => match d with
  | .int n => if rgB n then .val (rgMk k (rngD 0 n.toNat)) r1 else .bad
  | _ => .bad
def oTr2 (k : Bool) (a b : O1) : O1 := fun r => (a r).bnd fun d r1 => (b r1).bnd fun e r2 => match d, e with
  | .int m, .int n => if rgB m ∧ rgB n then .val (rgMk k (rngD m (n - m).toNat)) r2 else .bad
  | _, _ => .bad
theorem rg_reps {K : PySem.W.Frag} {B : Av} {H : Hp} (m n : Int) : Reps K B H (rngD m (n - m).toNat) (rgV m n) := by
  unfold rngD rgV
  generalize (n - m).toNat = k
  have : ∀ l : List Nat, Reps K B H (l.map fun (i : Nat) => PyData.int (m + i)) (l.map fun (i : Nat) => V.int (m + i)) := fun l => by
    induction l with
    | nil => exact .nil
    | cons a l ih => exact .cons (.int _) ih
  exact this _
theorem rgOk {m n : Int} (h1 : rgB m) (h2 : rgB n) : RgOk m n := by
  unfold rgB at h1 h2
  unfold RgOk
  have : (n - m).toNat ≤ 2000000 := by omega
  have e : (2 : Nat) ^ 24 = 16777216 := by decide
  refine ⟨by omega, by omega, by omega, by omega, by omega⟩
def rgNm (k : Bool) : Str := if k = true then "tuple" else "list"
section
variable {X : Cx} {c : Cfg} {E : EX}
theorem rg_end {k : Bool} {σ : St} {B : Av} {H : Hp} {Q : VK} {r : Rho} {m n : Int} (R : Rel c r B σ H) (h : PostE c E σ B H Q (.val (rgMk k (rngD m (n - m).toNat)) r)) : ∀ q, H q = none → Q (.ref q) (upd H q (if k = true then .tup (rgV m n) else .lst (rgV m n))) := fun q hq => by
  cases k with
  | true => exact h _ _ B (R.ext (Ext.new hq)) (Ext.new hq).step (Rep.newT (R.fresh hq) hq (rg_reps m n))
  | false => exact h _ _ B (R.ext (Ext.new hq)) (Ext.new hq).step (Rep.newL (R.fresh hq) hq (rg_reps m n))
theorem snd_tr1 {k : Bool} {a : Expr} {oa : O1} {p p2 pos pos2 : Pos} (hc : X.calm = true) (hg : Gl X (rgNm k)) (hm : X.mg (rgNm k) = none) (hgR : Gl X "range") (hmR : X.mg "range" = none) (ha : PE X a (denE c E oa)) (hs : starEach [a] X.env = (false, eval a X.env) :: starEach [] X.env) :
    PE X (.Call (.Name (rgNm k) p) [.Call (.Name "range" p2) [a] [] pos2] [] pos) (denE c E (oTr1 k oa)) := by
  have go : ∀ {σ : St} {H : Hp} {Q : VK}, denE c E (oTr1 k oa) σ H Q → tRg1 (denE c E oa) σ H fun m n H1 => RgOk m n ∧ ∀ q, H1 q = none → Q (.ref q) (upd H1 q (if k = true then .tup (rgV m n) else .lst (rgV m n))) := fun {σ H Q} ⟨r, B, R, h⟩ =>
    ⟨r, B, R, bndE ppE h fun d r1 v H1 B1 _ R1 S1 q1 h1 => by
      cases q1 with
      | int n =>
        have h1' : PostE c E σ B1 H1 Q (if rgB n then .val (rgMk k (rngD 0 n.toNat)) r1 else .bad) := h1
        by_cases hb : rgB n
        · rw [if_pos hb] at h1'
          refine ⟨n, rfl, rgOk ⟨by decide, by decide⟩ hb, rg_end (E := E) (m := 0) R1 ?_⟩
          rw [Int.sub_zero]
          exact h1'
        · rw [if_neg hb] at h1'; exact h1'.elim
      | _ => exact h1.elim⟩
  cases k with
  | true => exact pe_mono (pe_tupRg hc hg hm (prg_1 hgR hmR ha hs) (star_cons rfl)) fun σ H Q h => go h
  | false => exact pe_mono (pe_listRg hc hg hm (prg_1 hgR hmR ha hs) (star_cons rfl)) fun σ H Q h => go h
theorem snd_tr2 {k : Bool} {a b : Expr} {oa ob : O1} {p p2 pos pos2 : Pos} (hc : X.calm = true) (hg : Gl X (rgNm k)) (hm : X.mg (rgNm k) = none) (hgR : Gl X "range") (hmR : X.mg "range" = none) (ha : PE X a (denE c E oa)) (hb : PE X b (denE c E ob)) (n1 : nst a = true) (n2 : nst b = true) :
    PE X (.Call (.Name (rgNm k) p) [.Call (.Name "range" p2) [a, b] [] pos2] [] pos) (denE c E (oTr2 k oa ob)) := by
  have go : ∀ {σ : St} {H : Hp} {Q : VK}, denE c E (oTr2 k oa ob) σ H Q → tRg2 (denE c E oa) (denE c E ob) σ H fun m n H1 => RgOk m n ∧ ∀ q, H1 q = none → Q (.ref q) (upd H1 q (if k = true then .tup (rgV m n) else .lst (rgV m n))) := fun {σ H Q} ⟨r, B, R, h⟩ =>
    ⟨r, B, R, bndE ppE h fun d r1 v H1 B1 _ R1 S1 q1 h1 => ⟨r1, B1, R1, bndE ppE h1 fun e r2 u H2 B2 _ R2 S2 q2 h2 => by
      cases q1 with
      | int m =>
        cases q2 with
        | int n =>
          have h1' : PostE c E σ B2 H2 Q (if rgB m ∧ rgB n then .val (rgMk k (rngD m (n - m).toNat)) r2 else .bad) := h2
          by_cases hb : rgB m ∧ rgB n
          · rw [if_pos hb] at h1'
            exact ⟨m, n, rfl, rfl, rgOk hb.1 hb.2, rg_end (E := E) R2 h1'⟩
          · rw [if_neg hb] at h1'; exact h1'.elim
        | _ => exact h2.elim
      | _ => exact h2.elim⟩⟩
  cases k with
  | true => exact pe_mono (pe_tupRg hc hg hm (prg_2 hgR hmR ha hb (star_cons n1) (star_cons n2) (star_any (by simpa using n2))) (star_cons rfl)) fun σ H Q h => go h
  | false => exact pe_mono (pe_listRg hc hg hm (prg_2 hgR hmR ha hb (star_cons n1) (star_cons n2) (star_any (by simpa using n2))) (star_cons rfl)) fun σ H Q h => go h
end
end Py

/-! Py, part S: the small language, what it computes, and when a text of the program says it. -/
namespace Py
open PySem L2

inductive BF where
  | len | abs | int | sum | all | any | list | tuple | max | min | sumL | sorted
  deriving DecidableEq
def BF.name : BF → Str
  | .len => "len" | .abs => "abs" | .int => "int" | .sum => "sum" | .all => "all" | .any => "any" | .list => "list" | .tuple => "tuple" | .max => "max" | .min => "min" | .sumL => "sum" | .sorted => "sorted"
def BF.f : BF → List D → Option D
  | .len => fLen | .abs => fAbs | .int => fInt | .sum => fSum | .all => fAll | .any => fAny | .list => fList | .tuple => fTuple | .max => fMax | .min => fMin | .sumL => fSumL | .sorted => fSorted
inductive T where
  | var (i : Nat) | cst (d : D) | glo (d : D)
  | bin (o : Operator) (a b : T) | cmp (o : CmpOp) (a b : T) | chn (o o' : CmpOp) (a b k : T) | neg (a : T) | inv (a : T)
  | b1 (a : T) | b2 (o : BoolOp) (a r : T) | ife (t a b : T)
  | tup (as : T) | lst (as : T) | ix (a b : T) | sl (a lo hi : T) | nop | pt (a : T) | scr (i : Nat) | pix (i : Nat) (k : T) | pln (i : Nat)
  | bi (f : BF) (as : T) | isa (s : Ty) (a : T) | cal (j : Nat) (as : T) | plc (a e : T)
  | lc (vs : List Nat) (tg it t e : T) | lc2 (vs vs1 : List Nat) (tg it t tg1 it1 t1 e : T) | yes
  | nil | con (a t : T) | rfc (i : Nat) (t : T)
  | gn (i : Nat) | gt (n : Nat) (g : T)
  | itr (a : T) | rg1 (as : T) | rg2 (as : T) | zpp (as : T) | enu (as : T)
  | skp | seq (a b : T) | ret (a : T) | rtn | brk | cnt | pss | doc | nev | ifs (t a b : T) | set (i : Nat) (a : T) | sto (i : Nat) (a : T)
  | aug (i : Nat) (o : Operator) (a : T) | app (i : Nat) (a : T) | put (i : Nat) (k a : T) | frl (tg it b : T) | whl (n : Nat) (t b : T) | drp (a : T) | par (is : List Nat) (fl : List Bool) (as : T) | asg (g a : T)
  | stx (a t : T) | rtz (a : T) | stz (i j : Nat) (as : T) | plt (i : Nat) (e : T) | tr1 (k : Bool) (a : T) | tr2 (k : Bool) (a b : T)

def fOpI (o : Operator) : D → D → Option D := match o with
  | .Add => fun d e => match d, e with
    | .int i, .int j => some (.int (i + j))
    | _, _ => none
  | .Sub => fSub
  | _ => fun _ _ => none
def binF : Operator → D → D → Option D
  | .Add => fAdd | .Sub => fSub | .Mult => fMul | .FloorDiv => fDiv | .Mod => fMod | .Pow => fPow | _ => fun _ _ => none
def binOk : Operator → Bool
  | .Add => true | .Sub => true | .Mult => true | .FloorDiv => true | .Mod => true | .Pow => true | _ => false
def cmpF : CmpOp → D → D → Option D
  | .Eq => ofB bEq | .NotEq => ofB bNe | .Lt => fLt | .LtE => fLe | .Gt => fGt | .GtE => fGe | .Is => fIs | .IsNot => fIsNot | .In => fIn | .NotIn => fNotIn
def oNo : O1 := fun _ => .bad
def oBo (o : BoolOp) (a b : O1) : O1 := match o with
  | .And => oAnd a b
  | .Or => oOr a b
/-- targets: one, many -/
def evG : T → Bd × Bds
  | .gn i => (gNm i, fun _ _ => none)
  | .gt n g => (gTup0 n (evG g).2, fun _ _ => none)
  | .nil => (fun _ _ => none, gNil0)
  | .con a t => (fun _ _ => none, gCons0 (evG a).1 (evG t).2)
  | _ => (fun _ _ => none, fun _ _ => none)
def tgs : T → List Nat
  | .gn i => [i]
  | .gt _ g => tgs g
  | .con a t => tgs a ++ tgs t
  | _ => []
def flT : T → List (Option Nat)
  | .con _ t => none :: flT t
  | .rfc i t => some i :: flT t
  | _ => []
def ev (cl : Nat → O1) : T → O1
  | .var i => oVar i
  | .cst d => oC d
  | .glo d => oC d
  | .bin o a b => oOp2 (binF o) (ev cl a) (ev cl b)
  | .cmp o a b => oOp2 (cmpF o) (ev cl a) (ev cl b)
  | .chn o o' a b k => oChain (cmpF o) (cmpF o') (ev cl a) (ev cl b) (ev cl k)
  | .neg a => oOp1 fNeg (ev cl a)
  | .inv a => oNot (ev cl a)
  | .b1 a => ev cl a
  | .b2 o a r => oBo o (ev cl a) (ev cl r)
  | .ife t a b => oIf (ev cl t) (ev cl a) (ev cl b)
  | .tup as => oCall fTup (ev cl as)
  | .lst as => oCall fLst (ev cl as)
  | .ix a b => oOp2 fIx (ev cl a) (ev cl b)
  | .sl a lo hi => oSl (ev cl a) (ev cl lo) (ev cl hi)
  | .nop => oNoPart
  | .pt a => oPart (ev cl a)
  | .scr i => oScr i
  | .pix i k => oPix i (ev cl k)
  | .pln i => oPlen i
  | .bi f as => oCall f.f (ev cl as)
  | .isa s a => oOp1 (fIsa s) (ev cl a)
  | .cal j as => oCallF (cl j) (flT as) (ev cl as)
  | .plc a e => oPlace (ev cl a) (ev cl e)
  | .lc vs tg it t e => oLc vs (ev cl it) (evG tg).1 (ev cl t) (ev cl e)
  | .lc2 vs vs1 tg it t tg1 it1 t1 e => oLc2 vs vs1 (ev cl it) (evG tg).1 (ev cl t) (ev cl it1) (evG tg1).1 (ev cl t1) (ev cl e)
  | .yes => oYes
  | .nil => oNil
  | .con a t => oCons (ev cl a) (ev cl t)
  | .rfc i t => oRef i (ev cl t)
  | .itr a => oIt (ev cl a)
  | .rg1 as => oRng1 (ev cl as)
  | .rg2 as => oRng2 (ev cl as)
  | .zpp as => oZip (ev cl as)
  | .enu as => oEnum (ev cl as)
  | .skp => oNxt
  | .seq a b => oSeq (ev cl a) (ev cl b)
  | .ret a => oRet (ev cl a)
  | .rtn => oRetN
  | .brk => oBrk
  | .cnt => oCnt
  | .pss => oNxt
  | .doc => oNxt
  | .nev => oBad
  | .ifs t a b => oIfS (ev cl t) (ev cl a) (ev cl b)
  | .set i a => oSet i (ev cl a)
  | .sto i a => oSetO i (ev cl a)
  | .aug i o a => oAug i (fOpI o) (ev cl a)
  | .app i a => oApp i (ev cl a)
  | .put i k a => oPut i (ev cl k) (ev cl a)
  | .frl tg it b => oFor (ev cl it) (evG tg).1 (ev cl b)
  | .whl n t b => whGo (ev cl t) (ev cl b) n
  | .drp a => oDrop (ev cl a)
  | .par is fl as => oPar is fl (ev cl as)
  | .asg g a => oAsg (evG g).1 (ev cl a)
  | .stx a t => oStar (ev cl a) (ev cl t)
  | .rtz a => oRtz (ev cl a)
  | .stz i j as => oStz i (cl j) (flT as) (ev cl as)
  | .plt i e => oPlt i (ev cl e)
  | .tr1 k a => oTr1 k (ev cl a)
  | .tr2 k a b => oTr2 k (ev cl a) (ev cl b)
  | _ => oNo

/-! ### when a text says it -/
structure SC where
  N : List Str
  sc : Scope
  raw : Scope
  top : Bool
structure GC where
  fns : List (Str × Nat)
  cns : List (Str × D)
  bls : List Str
inductive Ob where
  | e (e : Expr) | es (es : List Expr) | bs (es : List Expr) | xs (fl : List Bool) (es : List Expr) | o (e : Option Expr) | g (e : Expr) | gs (es : List Expr) | i (tg e : Expr) | s (s : Stmt) | ss (ss : List Stmt)
def beqI : List D → List D → Bool
  | [], [] => true
  | .int a :: xs, .int b :: ys => decide (a = b) && beqI xs ys
  | _, _ => false
theorem beqI_eq : ∀ {xs ys : List D}, beqI xs ys = true → xs = ys
  | [], [], _ => rfl
  | .int a :: xs, .int b :: ys, h => by
    simp only [beqI, Bool.and_eq_true, decide_eq_true_eq] at h
    rw [h.1, beqI_eq h.2]
  | [], _ :: _, h => by simp [beqI] at h
  | x :: xs, [], h => by cases x <;> simp [beqI] at h
  | .none :: _, _ :: _, h => by simp [beqI] at h
  | .bool _ :: _, _ :: _, h => by simp [beqI] at h
  | .str _ :: _, _ :: _, h => by simp [beqI] at h
  | .list _ :: _, _ :: _, h => by simp [beqI] at h
  | .tuple _ :: _, _ :: _, h => by simp [beqI] at h
  | .dict _ :: _, _ :: _, h => by simp [beqI] at h
  | .int _ :: _, y :: _, h => by
    cases y <;> first | (simp [beqI] at h; done) | (simp only [beqI, Bool.and_eq_true, decide_eq_true_eq] at h; rw [h.1, beqI_eq h.2])
def beqD : D → D → Bool
  | .none, .none => true
  | .bool a, .bool b => a == b
  | .int a, .int b => decide (a = b)
  | .str a, .str b => decide (a = b)
  | .tuple xs, .tuple ys => beqI xs ys
  | _, _ => false
theorem beqD_eq {d e : D} (h : beqD d e = true) : d = e := by
  cases d <;> cases e <;> first | rfl | (simp only [beqD, decide_eq_true_eq, beq_iff_eq] at h; rw [h]) | (simp only [beqD] at h; rw [beqI_eq h]) | cases h
def ofTy : Ty → Str
  | .int => "int" | .bool => "bool" | .str => "str" | .list => "list" | .tuple => "tuple" | .dict => "dict"
theorem boot_ty (s : Ty) : bootBuiltins (ofTy s) = some (.type s.name) := by cases s <;> decide +kernel
def cstB : Const → D → Bool
  | .none, .none => true
  | .bool a, .bool b => a == b
  | .int a, .int b => decide (a = b)
  | .str a, .str b => decide (a = b)
  | _, _ => false
def visB (sc : Scope) (x : Str) : Bool := match sc.names.lookup x with
  | some .local => true
  | some .cell => true
  | some .free => true
  | _ => false
def okNm (x : Str) : Bool := !(x == ("__debug__" : Str)) && !(x == ("__classdict__" : Str))
def varB (S : SC) (i : Nat) (x : Str) : Bool := decide (S.N[i]? = some x) && visB S.sc x && okNm x
def glB (S : SC) (x : Str) : Bool := decide (S.sc.names.lookup x = some .globalImplicit)
def blB (S : SC) (G : GC) (x : Str) : Bool := glB S x && decide (x ∈ G.bls)
def stoB (S : SC) (i : Nat) (x : Str) : Bool := decide (S.N[i]? = some x) && (decide (S.sc.names.lookup x = some .local) || (decide (S.sc.names.lookup x = some .cell) && decide (S.raw.names.lookup x = some .cell)))
def locB (S : SC) (i : Nat) (x : Str) : Bool := decide (S.N[i]? = some x) && decide (S.sc.names.lookup x = some .local)
def ownOf (N : List Str) (vs : List Nat) : List (Str × Nat) := vs.map fun v => (N.getD v ⟨#[]⟩, v)
def blkB (S : SC) (scope : Scope) (vs : List Nat) : Bool :=
  decide (scope.kind = .function) && scope.names.all (fun y => decide (scope.names.lookup y.1 = some y.2)) && vs.all (fun v => decide (v < S.N.length))
    && scope.names.all (fun y => !decide (y.2 = .free) || decide (S.sc.names.lookup y.1 = some .cell) || decide (S.sc.names.lookup y.1 = some .free))
    && scope.names.all (fun y => !(decide (y.2 = .local) || decide (y.2 = .cell)) || decide (y.1 ∈ (ownOf S.N vs).map (·.1)) || decide (y.1 ∉ S.N))
def SC.blk (S : SC) (scope : Scope) : SC := ⟨S.N, relS scope S.sc, scope, false⟩
def frB : T → Bool
  | .lst _ => true
  | .lc .. => true
  | .lc2 .. => true
  | _ => false
def isYes : T → Bool
  | .yes => true
  | _ => false
def isLc1 : T → Bool
  | .lc .. => true
  | .lc2 .. => true
  | _ => false
/-- [name, ..] of targets, by slots -/
def nmsB (S : SC) : List Nat → List Expr → Bool
  | [], [] => true
  | i :: is, .Name x _ :: es => stoB S i x && nmsB S is es
  | _, _ => false
def locsB (S : SC) : List Nat → List Expr → Bool
  | [], [] => true
  | i :: is, .Name x _ :: es => locB S i x && locsB S is es
  | _, _ => false
def namesOf : List Expr → List Str
  | .Name x _ :: es => x :: namesOf es
  | _ => []
def parB (S : SC) (is : List Nat) (ts es : List Expr) : Bool := match wapS S.sc ts es with
  | some none => nmsB S is ts && decide (is.length = ts.length) && decide (is.length ≤ lim) && ts.all nst
  | some (some ns) => locsB S is ts && decide is.Nodup && decide (is.length = ts.length) && decide (ts.length = es.length) && decide (namesOf ts = ns) && (decide (is.length = 2) || decide (is.length = 3))
  | none => false
def setB (S : SC) (x : Str) (py : Pos) (a : T) (e : Expr) : Bool := !isComp e || (match e with
  | .ListComp _ _ scope pos => if swTo S.sc scope x py.line pos.line = true then isLc1 a && decide (S.sc.names.lookup x = some .local) else true
  | _ => false)
def asgB (tg e : Expr) : Bool := nst tg && !isComp e && (!isTupE e || !isSeqE tg)

def k_var (G : GC) (S : SC) (i : Nat)  (ob : Ob) : Bool := match ob with
    | .e (.Name x _) => varB S i x
    | _ => false
def k_cst (G : GC) (S : SC) (d : D)  (ob : Ob) : Bool := match ob with
    | .e (.Constant k _ _) => cstB k d
    | _ => false
def k_glo (G : GC) (S : SC) (d : D)  (ob : Ob) : Bool := match ob with
    | .e (.Name x _) => glB S x && okNm x && (match G.cns.lookup x with
      | some d' => beqD d' d
      | none => false)
    | _ => false
def k_bin (G : GC) (S : SC) (o : Operator) (a : T) (b : T) (ka : SC → Ob → Bool) (kb : SC → Ob → Bool) (ob : Ob) : Bool := match ob with
    | .e (.BinOp x o' y _) => decide (o = o') && binOk o && ka S (.e x) && kb S (.e y)
    | _ => false
def k_cmp (G : GC) (S : SC) (o : CmpOp) (a : T) (b : T) (ka : SC → Ob → Bool) (kb : SC → Ob → Bool) (ob : Ob) : Bool := match ob with
    | .e (.Compare x [o'] [y] _) => decide (o = o') && cmpMk y && ka S (.e x) && kb S (.e y)
    | _ => false
def k_chn (G : GC) (S : SC) (o : CmpOp) (o2 : CmpOp) (a : T) (b : T) (k : T) (ka : SC → Ob → Bool) (kb : SC → Ob → Bool) (kk : SC → Ob → Bool) (ob : Ob) : Bool := match ob with
    | .e (.Compare x [o', o2'] [y, z] _) => decide (o = o') && decide (o2 = o2') && cmpMk z && ka S (.e x) && kb S (.e y) && kk S (.e z)
    | _ => false
def k_neg (G : GC) (S : SC) (a : T) (ka : SC → Ob → Bool) (ob : Ob) : Bool := match ob with
    | .e (.UnaryOp .USub x _) => ka S (.e x)
    | _ => false
def k_inv (G : GC) (S : SC) (a : T) (ka : SC → Ob → Bool) (ob : Ob) : Bool := match ob with
    | .e (.UnaryOp .Not x _) => ka S (.e x)
    | _ => false
def k_b1 (G : GC) (S : SC) (a : T) (ka : SC → Ob → Bool) (ob : Ob) : Bool := match ob with
    | .e (.BoolOp _ [x] _) => ka S (.e x)
    | _ => false
def k_b2 (G : GC) (S : SC) (o : BoolOp) (a : T) (r : T) (ka : SC → Ob → Bool) (kr : SC → Ob → Bool) (ob : Ob) : Bool := match ob with
    | .e (.BoolOp o' (x :: y :: z) p) => decide (o = o') && ka S (.e x) && kr S (.e (.BoolOp o' (y :: z) p))
    | _ => false
def k_ife (G : GC) (S : SC) (t : T) (a : T) (b : T) (kt : SC → Ob → Bool) (ka : SC → Ob → Bool) (kb : SC → Ob → Bool) (ob : Ob) : Bool := match ob with
    | .e (.IfExp x y z _) => kt S (.e x) && ka S (.e y) && kb S (.e z)
    | _ => false
def k_tup (G : GC) (S : SC) (as : T) (kas : SC → Ob → Bool) (ob : Ob) : Bool := match ob with
    | .e (.Tuple es _ _) => kas S (.es es)
    | _ => false
def k_lst (G : GC) (S : SC) (as : T) (kas : SC → Ob → Bool) (ob : Ob) : Bool := match ob with
    | .e (.List es _) => kas S (.es es)
    | _ => false
def k_ix (G : GC) (S : SC) (a : T) (b : T) (ka : SC → Ob → Bool) (kb : SC → Ob → Bool) (ob : Ob) : Bool := match ob with
    | .e (.Subscript x y _) => ixOk y && ka S (.e x) && kb S (.e y)
    | _ => false
def k_sl (G : GC) (S : SC) (a : T) (lo : T) (hi : T) (ka : SC → Ob → Bool) (klo : SC → Ob → Bool) (khi : SC → Ob → Bool) (ob : Ob) : Bool := match ob with
    | .e (.Subscript x (.Slice l h none _) _) => ka S (.e x) && klo S (.o l) && khi S (.o h)
    | _ => false
def k_nop (G : GC) (S : SC)   (ob : Ob) : Bool := match ob with
    | .o none => true
    | _ => false
def k_pt (G : GC) (S : SC) (a : T) (ka : SC → Ob → Bool) (ob : Ob) : Bool := match ob with
    | .o (some e) => ka S (.e e)
    | _ => false
def k_scr (G : GC) (S : SC) (i : Nat)  (ob : Ob) : Bool := match ob with
    | .e (.Subscript (.Name x _) (.Slice none (some (.Constant (.int k) _ _)) none _) _) => varB S i x && decide (k = 63)
    | _ => false
def k_pix (G : GC) (S : SC) (i : Nat) (k : T) (kk : SC → Ob → Bool) (ob : Ob) : Bool := match ob with
    | .e (.Subscript (.Name x _) y _) => varB S i x && ixOk y && kk S (.e y)
    | _ => false
def k_pln (G : GC) (S : SC) (i : Nat)  (ob : Ob) : Bool := match ob with
    | .e (.Call (.Name f _) [.Name x _] [] _) => decide (f = ("len" : Str)) && blB S G f && varB S i x
    | _ => false
def k_bi (G : GC) (S : SC) (f : BF) (as : T) (kas : SC → Ob → Bool) (ob : Ob) : Bool := match ob with
    | .e (.Call (.Name x _) (e :: es) [] _) => decide (x = f.name) && blB S G x && (e :: es).all nst && kas S (.es (e :: es))
    | _ => false
def k_isa (G : GC) (S : SC) (s : Ty) (a : T) (ka : SC → Ob → Bool) (ob : Ob) : Bool := match ob with
    | .e (.Call (.Name x _) [e, .Name t _] [] _) => decide (x = ("isinstance" : Str)) && blB S G x && blB S G t && decide (t = ofTy s) && !(t == ("__name__" : Str)) && okNm t && nst e && ka S (.e e)
    | _ => false
def k_cal (G : GC) (S : SC) (j : Nat) (as : T) (kas : SC → Ob → Bool) (ob : Ob) : Bool := match ob with
    | .e (.Call (.Name x _) es [] _) => glB S x && okNm x && decide (G.fns[j]? = some (x, es.length)) && es.all nst && decide ((flT as).length = es.length) && kas S (.bs es)
    | _ => false
def k_plc (G : GC) (S : SC) (a : T) (e : T) (ka : SC → Ob → Bool) (ke : SC → Ob → Bool) (ob : Ob) : Bool := match ob with
    | .e (.Call (.Attribute x m apos) [y] [] cpos) => decide (m = ("index" : Str)) && baseOk2 x && nst y && (apos.endLine == cpos.line) && ka S (.e x) && ke S (.e y)
    | _ => false
def k_lc (G : GC) (S : SC) (vs : List Nat) (tg : T) (it : T) (t : T) (e : T) (ktg : SC → Ob → Bool) (kit : SC → Ob → Bool) (kt : SC → Ob → Bool) (ke : SC → Ob → Bool) (ob : Ob) : Bool := match ob with
    | .e (.ListComp elt [⟨tgx, iter, ifs, 0⟩] scope _) => blkB S scope vs && (tgs tg).all (fun i => decide (i ∈ vs)) && setOk iter && kit S (.i tgx iter) && ktg (S.blk scope) (.g tgx) && ke (S.blk scope) (.e elt) && (match ifs with
      | [] => isYes t
      | [x] => kt (S.blk scope) (.e x)
      | _ => false)
    | _ => false
def k_lc2 (G : GC) (S : SC) (vs : List Nat) (vs1 : List Nat) (tg : T) (it : T) (t : T) (tg1 : T) (it1 : T) (t1 : T) (e : T) (ktg : SC → Ob → Bool) (kit : SC → Ob → Bool) (kt : SC → Ob → Bool) (ktg1 : SC → Ob → Bool) (kit1 : SC → Ob → Bool) (kt1 : SC → Ob → Bool) (ke : SC → Ob → Bool) (ob : Ob) : Bool := match ob with
    | .e (.ListComp elt [⟨tgx, iter, ifs, 0⟩, ⟨tgx1, iter1, ifs1, 0⟩] scope _) => blkB S scope vs && (tgs tg).all (fun i => decide (i ∈ vs)) && vs1.all (fun i => decide (i ∈ vs)) && (tgs tg1).all (fun i => decide (i ∈ vs1)) && setOk iter && setOk iter1 && kit S (.i tgx iter) && ktg (S.blk scope) (.g tgx) && ke (S.blk scope) (.e elt)
      && kit1 (S.blk scope) (.i tgx1 iter1) && ktg1 (S.blk scope) (.g tgx1) && (match ifs with
      | [] => isYes t
      | [x] => kt (S.blk scope) (.e x)
      | _ => false) && (match ifs1 with
      | [] => isYes t1
      | [x] => kt1 (S.blk scope) (.e x)
      | _ => false)
    | _ => false
def k_nil (G : GC) (S : SC)   (ob : Ob) : Bool := match ob with
    | .es [] => true
    | .bs [] => true
    | .xs [] [] => true
    | .gs [] => true
    | _ => false
def k_con (G : GC) (S : SC) (a : T) (t : T) (ka : SC → Ob → Bool) (kt : SC → Ob → Bool) (ob : Ob) : Bool := match ob with
    | .es (e :: es) => nst e && ka S (.e e) && kt S (.es es)
    | .bs (e :: es) => nst e && ka S (.e e) && kt S (.bs es)
    | .xs (b :: fl) (e :: es) => nst e && (!b || frB a) && ka S (.e e) && kt S (.xs fl es)
    | .gs (e :: es) => nst e && ka S (.g e) && kt S (.gs es)
    | _ => false
def k_rfc (G : GC) (S : SC) (i : Nat) (t : T) (kt : SC → Ob → Bool) (ob : Ob) : Bool := match ob with
    | .bs (.Name x _ :: es) => varB S i x && kt S (.bs es)
    | _ => false
def k_gn (G : GC) (S : SC) (i : Nat)  (ob : Ob) : Bool := match ob with
    | .g (.Name x _) => stoB S i x
    | _ => false
def k_gt (G : GC) (S : SC) (n : Nat) (g : T) (kg : SC → Ob → Bool) (ob : Ob) : Bool := match ob with
    | .g (.Tuple es _ _) => decide (es.length = n) && es.all nst && kg S (.gs es)
    | _ => false
def k_itr (G : GC) (S : SC) (a : T) (ka : SC → Ob → Bool) (ob : Ob) : Bool := match ob with
    | .i _ e => ka S (.e e)
    | _ => false
def k_rg1 (G : GC) (S : SC) (as : T) (kas : SC → Ob → Bool) (ob : Ob) : Bool := match ob with
    | .i _ (.Call (.Name x _) [a] [] _) => decide (x = ("range" : Str)) && blB S G x && nst a && kas S (.es [a])
    | _ => false
def k_rg2 (G : GC) (S : SC) (as : T) (kas : SC → Ob → Bool) (ob : Ob) : Bool := match ob with
    | .i _ (.Call (.Name x _) [a, b] [] _) => decide (x = ("range" : Str)) && blB S G x && nst a && nst b && kas S (.es [a, b])
    | _ => false
def k_zpp (G : GC) (S : SC) (as : T) (kas : SC → Ob → Bool) (ob : Ob) : Bool := match ob with
    | .i (.Tuple _ _ _) (.Call (.Name x _) [a, b] [] _) => decide (x = ("zip" : Str)) && blB S G x && nst a && nst b && kas S (.es [a, b])
    | _ => false
def k_enu (G : GC) (S : SC) (as : T) (kas : SC → Ob → Bool) (ob : Ob) : Bool := match ob with
    | .i (.Tuple _ _ _) (.Call (.Name x _) [a] [] _) => decide (x = ("enumerate" : Str)) && blB S G x && nst a && kas S (.es [a])
    | _ => false
def k_skp (G : GC) (S : SC)   (ob : Ob) : Bool := match ob with
    | .ss [] => true
    | _ => false
def k_seq (G : GC) (S : SC) (a : T) (b : T) (ka : SC → Ob → Bool) (kb : SC → Ob → Bool) (ob : Ob) : Bool := match ob with
    | .ss (s :: ss) => ka S (.s s) && kb S (.ss ss)
    | _ => false
def k_ret (G : GC) (S : SC) (a : T) (ka : SC → Ob → Bool) (ob : Ob) : Bool := match ob with
    | .s (.Return (some e) _) => ka S (.e e)
    | _ => false
def k_rtn (G : GC) (S : SC)   (ob : Ob) : Bool := match ob with
    | .s (.Return none _) => true
    | _ => false
def k_brk (G : GC) (S : SC)   (ob : Ob) : Bool := match ob with
    | .s (.Break _) => true
    | _ => false
def k_cnt (G : GC) (S : SC)   (ob : Ob) : Bool := match ob with
    | .s (.Continue _) => true
    | _ => false
def k_pss (G : GC) (S : SC)   (ob : Ob) : Bool := match ob with
    | .s (.Pass _) => true
    | _ => false
def k_doc (G : GC) (S : SC)   (ob : Ob) : Bool := match ob with
    | .s (.Expr (.Constant (.str _) _ _) _) => true
    | _ => false
def k_nev (G : GC) (S : SC)   (ob : Ob) : Bool := match ob with
    | .s _ => true
    | _ => false
def k_ifs (G : GC) (S : SC) (t : T) (a : T) (b : T) (kt : SC → Ob → Bool) (ka : SC → Ob → Bool) (kb : SC → Ob → Bool) (ob : Ob) : Bool := match ob with
    | .s (.If x y z _) => kt S (.e x) && ka S (.ss y) && kb S (.ss z)
    | _ => false
def k_set (G : GC) (S : SC) (i : Nat) (a : T) (ka : SC → Ob → Bool) (ob : Ob) : Bool := match ob with
    | .s (.Assign [.Name x py] e _) => stoB S i x && setB S x py a e && ka S (.e e)
    | _ => false
def k_sto (G : GC) (S : SC) (i : Nat) (a : T) (ka : SC → Ob → Bool) (ob : Ob) : Bool := match ob with
    | .s (.Assign [.Name x py] e _) => stoB S i x && setB S x py a e && frB a && ka S (.e e)
    | _ => false
def k_aug (G : GC) (S : SC) (i : Nat) (o : Operator) (a : T) (ka : SC → Ob → Bool) (ob : Ob) : Bool := match ob with
    | .s (.AugAssign (.Name x _) o' e _) => stoB S i x && decide (o = o') && (decide (o = .Add) || decide (o = .Sub)) && ka S (.e e)
    | _ => false
def k_app (G : GC) (S : SC) (i : Nat) (a : T) (ka : SC → Ob → Bool) (ob : Ob) : Bool := match ob with
    | .s (.Expr (.Call (.Attribute (.Name x _) m apos) [e] [] cpos) _) => decide (m = ("append" : Str)) && varB S i x && nst e && (apos.endLine == cpos.line) && ka S (.e e)
    | _ => false
def k_put (G : GC) (S : SC) (i : Nat) (k : T) (a : T) (kk : SC → Ob → Bool) (ka : SC → Ob → Bool) (ob : Ob) : Bool := match ob with
    | .s (.Assign [.Subscript (.Name x _) y _] e _) => varB S i x && ixOk y && !isComp e && kk S (.e y) && ka S (.e e)
    | _ => false
def k_frl (G : GC) (S : SC) (tg : T) (it : T) (b : T) (ktg : SC → Ob → Bool) (kit : SC → Ob → Bool) (kb : SC → Ob → Bool) (ob : Ob) : Bool := match ob with
    | .s (.For t e body [] _) => S.top && setOk e && kit S (.i t e) && ktg S (.g t) && kb S (.ss body)
    | _ => false
def k_whl (G : GC) (S : SC) (n : Nat) (t : T) (b : T) (kt : SC → Ob → Bool) (kb : SC → Ob → Bool) (ob : Ob) : Bool := match ob with
    | .s (.While e body [] _) => S.top && kt S (.e e) && kb S (.ss body)
    | _ => false
def k_drp (G : GC) (S : SC) (a : T) (ka : SC → Ob → Bool) (ob : Ob) : Bool := match ob with
    | .s (.Expr e _) => !isComp e && ka S (.e e)
    | _ => false
def k_par (G : GC) (S : SC) (is : List Nat) (fl : List Bool) (as : T) (kas : SC → Ob → Bool) (ob : Ob) : Bool := match ob with
    | .s (.Assign [.Tuple ts _ _] (.Tuple es _ _) _) => parB S is ts es && decide (fl.length = is.length) && kas S (.xs fl es)
    | _ => false
def k_asg (G : GC) (S : SC) (g : T) (a : T) (kg : SC → Ob → Bool) (ka : SC → Ob → Bool) (ob : Ob) : Bool := match ob with
    | .s (.Assign [t] e _) => asgB t e && kg S (.g t) && ka S (.e e)
    | _ => false
def k_stx (G : GC) (S : SC) (a : T) (t : T) (ka : SC → Ob → Bool) (kt : SC → Ob → Bool) (ob : Ob) : Bool := match ob with
    | .es (.Starred e _ :: es) => ka S (.e e) && kt S (.es es)
    | _ => false
def k_rtz (G : GC) (S : SC) (a : T) (ka : SC → Ob → Bool) (ob : Ob) : Bool := match ob with
    | .s (.Return (some (.Call (.Name x _) [e] [] _)) _) => decide (x = ("tuple" : Str)) && blB S G x && nst e && ka S (.e e)
    | _ => false
def k_stz (G : GC) (S : SC) (i : Nat) (j : Nat) (as : T) (kas : SC → Ob → Bool) (ob : Ob) : Bool := match ob with
    | .s (.Assign [.Name y _] (.Call (.Name x _) (e :: es) [] _) _) => stoB S i y && glB S x && okNm x && decide (G.fns[j]? = some (x, (e :: es).length)) && (e :: es).all nst && decide ((flT as).length = (e :: es).length) && kas S (.bs (e :: es))
    | _ => false
def k_plt (G : GC) (S : SC) (i : Nat) (e : T) (ke : SC → Ob → Bool) (ob : Ob) : Bool := match ob with
    | .e (.Call (.Attribute (.Name x _) m apos) [y] [] cpos) => decide (m = ("index" : Str)) && varB S i x && nst y && (apos.endLine == cpos.line) && ke S (.e y)
    | _ => false
def k_tr1 (G : GC) (S : SC) (k : Bool) (a : T) (ka : SC → Ob → Bool) (ob : Ob) : Bool := match ob with
    | .e (.Call (.Name x _) [.Call (.Name r _) [a] [] _] [] _) => decide (x = rgNm k) && blB S G x && decide (r = ("range" : Str)) && blB S G r && nst a && ka S (.e a)
    | _ => false
def k_tr2 (G : GC) (S : SC) (k : Bool) (a : T) (b : T) (ka : SC → Ob → Bool) (kb : SC → Ob → Bool) (ob : Ob) : Bool := match ob with
    | .e (.Call (.Name x _) [.Call (.Name r _) [a, b] [] _] [] _) => decide (x = rgNm k) && blB S G x && decide (r = ("range" : Str)) && blB S G r && nst a && nst b && ka S (.e a) && kb S (.e b)
    | _ => false
def chk (G : GC) : SC → T → Ob → Bool
  | S, .var i, ob => k_var G S i  ob
  | S, .cst d, ob => k_cst G S d  ob
  | S, .glo d, ob => k_glo G S d  ob
  | S, .bin o a b, ob => k_bin G S o a b (fun S ob => chk G S a ob) (fun S ob => chk G S b ob) ob
  | S, .cmp o a b, ob => k_cmp G S o a b (fun S ob => chk G S a ob) (fun S ob => chk G S b ob) ob
  | S, .chn o o2 a b k, ob => k_chn G S o o2 a b k (fun S ob => chk G S a ob) (fun S ob => chk G S b ob) (fun S ob => chk G S k ob) ob
  | S, .neg a, ob => k_neg G S a (fun S ob => chk G S a ob) ob
  | S, .inv a, ob => k_inv G S a (fun S ob => chk G S a ob) ob
  | S, .b1 a, ob => k_b1 G S a (fun S ob => chk G S a ob) ob
  | S, .b2 o a r, ob => k_b2 G S o a r (fun S ob => chk G S a ob) (fun S ob => chk G S r ob) ob
  | S, .ife t a b, ob => k_ife G S t a b (fun S ob => chk G S t ob) (fun S ob => chk G S a ob) (fun S ob => chk G S b ob) ob
  | S, .tup as, ob => k_tup G S as (fun S ob => chk G S as ob) ob
  | S, .lst as, ob => k_lst G S as (fun S ob => chk G S as ob) ob
  | S, .ix a b, ob => k_ix G S a b (fun S ob => chk G S a ob) (fun S ob => chk G S b ob) ob
  | S, .sl a lo hi, ob => k_sl G S a lo hi (fun S ob => chk G S a ob) (fun S ob => chk G S lo ob) (fun S ob => chk G S hi ob) ob
  | S, .nop , ob => k_nop G S   ob
  | S, .pt a, ob => k_pt G S a (fun S ob => chk G S a ob) ob
  | S, .scr i, ob => k_scr G S i  ob
  | S, .pix i k, ob => k_pix G S i k (fun S ob => chk G S k ob) ob
  | S, .pln i, ob => k_pln G S i  ob
  | S, .bi f as, ob => k_bi G S f as (fun S ob => chk G S as ob) ob
  | S, .isa s a, ob => k_isa G S s a (fun S ob => chk G S a ob) ob
  | S, .cal j as, ob => k_cal G S j as (fun S ob => chk G S as ob) ob
  | S, .plc a e, ob => k_plc G S a e (fun S ob => chk G S a ob) (fun S ob => chk G S e ob) ob
  | S, .lc vs tg it t e, ob => k_lc G S vs tg it t e (fun S ob => chk G S tg ob) (fun S ob => chk G S it ob) (fun S ob => chk G S t ob) (fun S ob => chk G S e ob) ob
  | S, .lc2 vs vs1 tg it t tg1 it1 t1 e, ob => k_lc2 G S vs vs1 tg it t tg1 it1 t1 e (fun S ob => chk G S tg ob) (fun S ob => chk G S it ob) (fun S ob => chk G S t ob) (fun S ob => chk G S tg1 ob) (fun S ob => chk G S it1 ob) (fun S ob => chk G S t1 ob) (fun S ob => chk G S e ob) ob
  | S, .nil , ob => k_nil G S   ob
  | S, .con a t, ob => k_con G S a t (fun S ob => chk G S a ob) (fun S ob => chk G S t ob) ob
  | S, .rfc i t, ob => k_rfc G S i t (fun S ob => chk G S t ob) ob
  | S, .gn i, ob => k_gn G S i  ob
  | S, .gt n g, ob => k_gt G S n g (fun S ob => chk G S g ob) ob
  | S, .itr a, ob => k_itr G S a (fun S ob => chk G S a ob) ob
  | S, .rg1 as, ob => k_rg1 G S as (fun S ob => chk G S as ob) ob
  | S, .rg2 as, ob => k_rg2 G S as (fun S ob => chk G S as ob) ob
  | S, .zpp as, ob => k_zpp G S as (fun S ob => chk G S as ob) ob
  | S, .enu as, ob => k_enu G S as (fun S ob => chk G S as ob) ob
  | S, .skp , ob => k_skp G S   ob
  | S, .seq a b, ob => k_seq G S a b (fun S ob => chk G S a ob) (fun S ob => chk G S b ob) ob
  | S, .ret a, ob => k_ret G S a (fun S ob => chk G S a ob) ob
  | S, .rtn , ob => k_rtn G S   ob
  | S, .brk , ob => k_brk G S   ob
  | S, .cnt , ob => k_cnt G S   ob
  | S, .pss , ob => k_pss G S   ob
  | S, .doc , ob => k_doc G S   ob
  | S, .nev , ob => k_nev G S   ob
  | S, .ifs t a b, ob => k_ifs G S t a b (fun S ob => chk G S t ob) (fun S ob => chk G S a ob) (fun S ob => chk G S b ob) ob
  | S, .set i a, ob => k_set G S i a (fun S ob => chk G S a ob) ob
  | S, .sto i a, ob => k_sto G S i a (fun S ob => chk G S a ob) ob
  | S, .aug i o a, ob => k_aug G S i o a (fun S ob => chk G S a ob) ob
  | S, .app i a, ob => k_app G S i a (fun S ob => chk G S a ob) ob
  | S, .put i k a, ob => k_put G S i k a (fun S ob => chk G S k ob) (fun S ob => chk G S a ob) ob
  | S, .frl tg it b, ob => k_frl G S tg it b (fun S ob => chk G S tg ob) (fun S ob => chk G S it ob) (fun S ob => chk G S b ob) ob
  | S, .whl n t b, ob => k_whl G S n t b (fun S ob => chk G S t ob) (fun S ob => chk G S b ob) ob
  | S, .drp a, ob => k_drp G S a (fun S ob => chk G S a ob) ob
  | S, .par is fl as, ob => k_par G S is fl as (fun S ob => chk G S as ob) ob
  | S, .asg g a, ob => k_asg G S g a (fun S ob => chk G S g ob) (fun S ob => chk G S a ob) ob
  | S, .stx a t, ob => k_stx G S a t (fun S ob => chk G S a ob) (fun S ob => chk G S t ob) ob
  | S, .rtz a, ob => k_rtz G S a (fun S ob => chk G S a ob) ob
  | S, .stz i j as, ob => k_stz G S i j as (fun S ob => chk G S as ob) ob
  | S, .plt i e, ob => k_plt G S i e (fun S ob => chk G S e ob) ob
  | S, .tr1 k a, ob => k_tr1 G S k a (fun S ob => chk G S a ob) ob
  | S, .tr2 k a b, ob => k_tr2 G S k a b (fun S ob => chk G S a ob) (fun S ob => chk G S b ob) ob
  | _, .yes, _ => false
end Py

/-! Py, part T: what the checker grants. -/
namespace Py
open PySem L2

structure Glob (P : Program) (w : World) (K : PySem.W.Frag) (mg : Str → Option Value) (base : Heap) (cls : Nat → Addr) (k : Nat) (cl : Nat → O1) (G : GC) : Prop where
  bl : ∀ x ∈ G.bls, mg x = none
  cn : ∀ x d, G.cns.lookup x = some d → ∃ u v, mg x = some u ∧ RelV v u ∧ ∀ B H, Rep K B H d v
  fn : ∀ j x n, G.fns[j]? = some (x, n) → ∃ f fd ps, mg x = some (.ref f) ∧ PySem.W.keepIn K (.ref f) = true ∧ Binds K fd ps [] ∧ ps.length = n ∧ FnOk P w K mg base (L2.CX P w) k f fd ps (spG K cls ps.length (cl j))
structure Ctx (G : GC) (S : SC) (cl : Nat → O1) (X : Cx) (c : Cfg) (E : EX) : Prop where
  N : X.N = S.N
  sc : X.env.scope = S.sc
  nd : S.N.Nodup
  kind : S.sc.kind = .function
  fnc : ∀ x, S.raw.names.lookup x = some .cell → X.fn x = true
  K : X.K = c.K
  calm : X.calm = true
  room : ∃ k, Room k X.A ∧ Glob X.prog X.w X.K X.mg X.base c.cls k cl G
  ps : ∃ Ex, Passes (L2.CX X.prog X.w) X Ex ∧ ∀ n d H', E n d H' → exOf c.K c.B0 c.cls Ex n d H'
  own : S.top = true → PassesOwn (model X.prog X.w) X.A X.env X.xe
section
variable {G : GC} {S : SC} {cl : Nat → O1} {X : Cx} {c : Cfg} {E : EX}
theorem Ctx.units (C : Ctx G S cl X c E) : X.A.units + 64 < cLine := by obtain ⟨k, r, _⟩ := C.room; exact r.units
theorem Ctx.blk (C : Ctx G S cl X c E) {scope : Scope} (hk : scope.kind = .function) (s : Shared) (H : Hp) (a : Addr) (clo : List (Str × Addr)) (fp : List Addr) :
    Ctx G (S.blk scope) cl (X.blk s H scope (PySem.compEnvC scope clo a X.env) fp) c EN where
  N := C.N
  sc := by show relS scope X.env.scope = relS scope S.sc; rw [C.sc]
  nd := C.nd
  kind := hk
  fnc x h := by show (scope.names.lookup x == some .cell) = true; exact beq_iff_eq.mpr h
  K := C.K
  calm := C.calm
  room := C.room
  ps := ⟨E0, passL, fun _ _ _ h => h.elim⟩
  own h := by cases h
theorem okNm_and {x : Str} (h : okNm x = true) : (x == ("__debug__" : Str)) = false ∧ (x == ("__classdict__" : Str)) = false := by
  unfold okNm at h
  simpa using h
theorem Ctx.vis (C : Ctx G S cl X c E) {x : Str} (h : visB S.sc x = true) : Vis X.env.scope x := by
  unfold visB at h
  rw [← C.sc] at h
  split at h
  · exact .inl ‹_›
  · exact .inr (.inl ‹_›)
  · exact .inr (.inr ‹_›)
  · cases h
theorem Ctx.var (C : Ctx G S cl X c E) {i : Nat} {x : Str} (h : varB S i x = true) : X.N[i]? = some x ∧ Vis X.env.scope x ∧ (x == ("__debug__" : Str)) = false ∧ (x == ("__classdict__" : Str)) = false := by
  unfold varB at h
  simp only [Bool.and_eq_true, decide_eq_true_eq] at h
  exact ⟨by rw [C.N]; exact h.1.1, C.vis h.1.2, okNm_and h.2⟩
theorem Ctx.gl (C : Ctx G S cl X c E) {x : Str} (h : glB S x = true) : Gl X x := by
  unfold glB at h
  rw [decide_eq_true_eq, ← C.sc] at h
  exact h
theorem Ctx.bl (C : Ctx G S cl X c E) {x : Str} (h : blB S G x = true) : Gl X x ∧ X.mg x = none := by
  unfold blB at h
  rw [Bool.and_eq_true, decide_eq_true_eq] at h
  obtain ⟨k, _, g⟩ := C.room
  exact ⟨C.gl h.1, g.bl x h.2⟩
theorem Ctx.sto (C : Ctx G S cl X c E) {i : Nat} {x : Str} (h : stoB S i x = true) : Stor X i x := by
  unfold stoB at h
  simp only [Bool.and_eq_true, Bool.or_eq_true, decide_eq_true_eq] at h
  obtain ⟨h1, h2⟩ := h
  refine ⟨by rw [C.N]; exact C.nd, by rw [C.N]; exact h1, ?_, ?_⟩
  · rw [C.sc]
    rcases h2 with h2 | ⟨h2, _⟩
    · exact .inl h2
    · exact .inr h2
  · rcases h2 with h2 | ⟨_, h2⟩
    · exact .inr (by rw [C.sc]; exact h2)
    · exact .inl (C.fnc x h2)
theorem Ctx.loc (C : Ctx G S cl X c E) {i : Nat} {x : Str} (h : locB S i x = true) : X.N[i]? = some x ∧ X.env.scope.names.lookup x = some .local := by
  unfold locB at h
  simp only [Bool.and_eq_true, decide_eq_true_eq] at h
  exact ⟨by rw [C.N]; exact h.1, by rw [C.sc]; exact h.2⟩
theorem Ctx.knd (C : Ctx G S cl X c E) : X.env.scope.kind = .function := by rw [C.sc]; exact C.kind
theorem Ctx.ndX (C : Ctx G S cl X c E) : X.N.Nodup := by rw [C.N]; exact C.nd
theorem Ctx.blkOk (C : Ctx G S cl X c E) {scope : Scope} {vs : List Nat} (h : blkB S scope vs = true) : Blk X (ownOf S.N vs) scope ∧ (ownOf S.N vs).map (·.2) = vs ∧ scope.kind = .function := by
  unfold blkB at h
  simp only [Bool.and_eq_true, decide_eq_true_eq, List.all_eq_true, Bool.or_eq_true, Bool.not_eq_true', decide_eq_false_iff_not, Bool.or_eq_false_iff] at h
  obtain ⟨⟨⟨⟨h1, h2⟩, h3⟩, h4⟩, h5⟩ := h
  refine ⟨⟨C.calm, C.ndX, ⟨h1, h2, ?_, ?_, ?_⟩⟩, ?_, h1⟩
  · intro p hp
    obtain ⟨v, hv, rfl⟩ := List.mem_map.mp hp
    rw [C.N]
    have := h3 v hv
    show S.N[v]? = some (S.N.getD v ⟨#[]⟩)
    rw [List.getElem?_eq_getElem this, List.getD_eq_getElem?_getD, List.getElem?_eq_getElem this]
    rfl
  · intro y hy e
    rw [C.sc]
    rcases h4 y hy with (z | z) | z
    · exact absurd e z
    · exact .inl z
    · exact .inr z
  · intro y hy e
    rw [C.N]
    rcases h5 y hy with (z | z) | z
    · rcases e with e | e
      · exact absurd e z.1
      · exact absurd e z.2
    · exact .inl z
    · exact .inr z
  · unfold ownOf
    rw [List.map_map]
    show vs.map id = vs
    exact List.map_id _
end
/-- the operators -/
theorem bin_ok {X : Cx} {c : Cfg} (hK : X.K = c.K) : ∀ {o : Operator}, binOk o = true → ∃ q, OpR X (binaryOp o) q ∧ Op2 c q (binF o)
  | .Add, _ => ⟨_, op_addA, by rw [hK]; exact i2_add⟩
  | .Sub, _ => ⟨_, op_sub, i2_sub⟩
  | .Mult, _ => ⟨_, op_mulA, by rw [hK]; exact i2_mul⟩
  | .FloorDiv, _ => ⟨_, op_fdivW, i2_div⟩
  | .Mod, _ => ⟨_, op_mod, i2_mod⟩
  | .Pow, _ => ⟨_, op_pow, i2_pow⟩
  | .MatMult, h => by cases h
  | .Div, h => by cases h
  | .LShift, h => by cases h
  | .RShift, h => by cases h
  | .BitOr, h => by cases h
  | .BitXor, h => by cases h
  | .BitAnd, h => by cases h
theorem cmp_ok {X : Cx} {c : Cfg} (hK : X.K = c.K) (hu : X.A.units + 64 < cLine) : ∀ o : CmpOp, ∃ q, OpR X (compareOp o) q ∧ Op2 c q (cmpF o)
  | .Eq => ⟨_, op_eqB hu, by rw [hK]; exact op2_D2 bEq_pl⟩
  | .NotEq => ⟨_, op_neB hu, by rw [hK]; exact op2_D2 bNe_pl⟩
  | .Lt => ⟨_, op_lt.or (op_ltB hu), by rw [hK]; exact i2_lt⟩
  | .LtE => ⟨_, op_le.or (op_leB hu), by rw [hK]; exact i2_le⟩
  | .Gt => ⟨_, op_gt.or (op_gtB hu), by rw [hK]; exact i2_gt⟩
  | .GtE => ⟨_, op_ge.or (op_geB hu), by rw [hK]; exact i2_ge⟩
  | .Is => ⟨_, op_isA, i2_is⟩
  | .IsNot => ⟨_, op_isNotA, i2_isNot⟩
  | .In => ⟨_, (op_inB hu).or op_in_str, by rw [hK]; exact i2_in⟩
  | .NotIn => ⟨_, (op_notInB hu).or op_notin_str, by rw [hK]; exact i2_notIn⟩
theorem call_ok {X : Cx} {c : Cfg} {E : EX} {oa : O1} {e : Expr} {es : List Expr} {p pos : Pos} (hK : X.K = c.K) (hu : X.A.units + 64 < cLine) (hc : X.calm = true) : ∀ {f : BF}, Gl X f.name → X.mg f.name = none → PA X (e :: es) (denA c E oa) → (e :: es).all nst = true →
    PE X (.Call (.Name f.name p) (e :: es) [] pos) (denE c E (oCall f.f oa))
  | .len, g, m, h, s => snd_callB call_len (by rw [hK]; exact iN_len) g m (by decide +kernel) h (by decide) (by decide) (star_cons (by simp at s; exact s.1)) (star_any (by simpa using (by simp at s; exact s.2)))
  | .abs, g, m, h, s => snd_callB call_abs iN_abs g m (by decide +kernel) h (by decide) (by decide) (star_cons (by simp at s; exact s.1)) (star_any (by simpa using (by simp at s; exact s.2)))
  | .int, g, m, h, s => snd_callTy call_int1 iN_int g m (by decide +kernel) h (by decide) (by decide) (star_cons (by simp at s; exact s.1)) (star_any (by simpa using (by simp at s; exact s.2)))
  | .sum, g, m, h, s => snd_callB ((cr_sum hc).or (cr_sumT hc)) (by rw [hK]; exact iN_sum) g m (by decide +kernel) h (by decide) (by decide) (star_cons (by simp at s; exact s.1)) (star_any (by simpa using (by simp at s; exact s.2)))
  | .all, g, m, h, s => snd_callB (cr_all hc) (by rw [hK]; exact iN_all) g m (by decide +kernel) h (by decide) (by decide) (star_cons (by simp at s; exact s.1)) (star_any (by simpa using (by simp at s; exact s.2)))
  | .any, g, m, h, s => snd_callB (cr_any hc) (by rw [hK]; exact iN_any) g m (by decide +kernel) h (by decide) (by decide) (star_cons (by simp at s; exact s.1)) (star_any (by simpa using (by simp at s; exact s.2)))
  | .list, g, m, h, s => snd_callTy call_list_of (by rw [hK]; exact iN_list) g m (by decide +kernel) h (by decide) (by decide) (star_cons (by simp at s; exact s.1)) (star_any (by simpa using (by simp at s; exact s.2)))
  | .tuple, g, m, h, s => snd_callTy call_tuple_of (by rw [hK]; exact iN_tuple) g m (by decide +kernel) h (by decide) (by decide) (star_cons (by simp at s; exact s.1)) (star_any (by simpa using (by simp at s; exact s.2)))
  | .max, g, m, h, s => snd_callB ((call_max2 hc).or (cr_maxB hc hu)) (by rw [hK]; exact iN_max) g m (by decide +kernel) h (by decide) (by decide) (star_cons (by simp at s; exact s.1)) (star_any (by simpa using (by simp at s; exact s.2)))
  | .min, g, m, h, s => snd_callB ((call_min2 hc).or (cr_minB hc hu)) (by rw [hK]; exact iN_min) g m (by decide +kernel) h (by decide) (by decide) (star_cons (by simp at s; exact s.1)) (star_any (by simpa using (by simp at s; exact s.2)))
  | .sumL, g, m, h, s => snd_callB (cr_sumL hc) (by rw [hK]; exact iN_sumL) g m (by decide +kernel) h (by decide) (by decide) (star_cons (by simp at s; exact s.1)) (star_any (by simpa using (by simp at s; exact s.2)))
  | .sorted, g, m, h, s => snd_callB (cr_sortD hu) (by rw [hK]; exact iN_sorted) g m (by decide +kernel) h (by decide) (by decide) (star_cons (by simp at s; exact s.1)) (star_any (by simpa using (by simp at s; exact s.2)))
end Py

/-! Py, part U: soundness of the checker. -/
namespace Py
open PySem L2

def isBo : Expr → Bool
  | .BoolOp .. => true
  | _ => false
def LcP (cl : Nat → O1) (X : Cx) (c : Cfg) (E : EX) : T → Expr → Prop
  | .lc vs tg it t e, ex => ∃ elt tgx iter ifs scope pos own, ex = .ListComp elt [⟨tgx, iter, ifs, 0⟩] scope pos ∧ Blk X own scope ∧ own.map (·.2) = vs ∧ PI X tgx iter (denI c E (ev cl it)) ∧ Cx.inB X scope (fun Y => PG Y tgx (denG c (tgs tg) (evG tg).1)) ∧
      Cx.inB X scope (fun Y => PTs Y ifs (denT c EN (ev cl t))) ∧ Cx.inB X scope (fun Y => PE Y elt (denE c EN (ev cl e))) ∧ (∀ i ∈ tgs tg, i ∈ vs) ∧ (∀ x, foldedSetIterable iter X.env x = pure x)
  | .lc2 vs vs1 tg it t tg1 it1 t1 e, ex => ∃ elt tgx iter ifs tgx1 iter1 ifs1 scope pos own, ex = .ListComp elt [⟨tgx, iter, ifs, 0⟩, ⟨tgx1, iter1, ifs1, 0⟩] scope pos ∧ Blk X own scope ∧ own.map (·.2) = vs ∧ (∀ i ∈ vs1, i ∈ own.map (·.2)) ∧ PI X tgx iter (denI c E (ev cl it)) ∧ Cx.inB X scope (fun Y => PG Y tgx (denG c (tgs tg) (evG tg).1)) ∧
      Cx.inB X scope (fun Y => PTs Y ifs (denT c EN (ev cl t))) ∧ Cx.inB X scope (fun Y => PI Y tgx1 iter1 (denI c EN (ev cl it1))) ∧ Cx.inB X scope (fun Y => PG Y tgx1 (denG c (tgs tg1) (evG tg1).1)) ∧ Cx.inB X scope (fun Y => PTs Y ifs1 (denT c EN (ev cl t1))) ∧
      Cx.inB X scope (fun Y => PE Y elt (denE c EN (ev cl e))) ∧ (∀ i ∈ tgs tg, i ∈ own.map (·.2)) ∧ (∀ i ∈ tgs tg1, i ∈ vs1) ∧ (∀ x, foldedSetIterable iter X.env x = pure x) ∧ (∀ env x, foldedSetIterable iter1 env x = pure x)
  | _, _ => True
structure SndE (cl : Nat → O1) (X : Cx) (c : Cfg) (E : EX) (t : T) (e : Expr) : Prop where
  pe : PE X e (denE c E (ev cl t))
  pt : PT X e (denT c E (ev cl t))
  pw : isBo e = true → PW X e (denT c E (ev cl t))
  pf : frB t = true → PE X e (denF c E (ev cl t))
  lc : LcP cl X c E t e
def Snd (cl : Nat → O1) (X : Cx) (c : Cfg) (E : EX) (t : T) : Ob → Prop
  | .e e => SndE cl X c E t e
  | .es es => PA X es (denA c E (ev cl t))
  | .bs es => PA X es (denB c E (flT t) (ev cl t))
  | .xs fl es => PA X es (denX c E fl (ev cl t))
  | .o e => PO X e (denP c E (ev cl t))
  | .g e => PG X e (denG c (tgs t) (evG t).1)
  | .gs es => PGs X es (denGs c (tgs t) (evG t).2)
  | .i tg e => PI X tg e (denI c E (ev cl t))
  | .s s => PS X s (denS c E (ev cl t))
  | .ss s => PSs X s (denS c E (ev cl t))
theorem SndE.mk1 {cl : Nat → O1} {X : Cx} {c : Cfg} {E : EX} {t : T} {e : Expr} (h : PE X e (denE c E (ev cl t))) (he : tvOk e = true) (hb : isBo e = false) (hf : frB t = false) (hl : LcP cl X c E t e) : SndE cl X c E t e :=
  ⟨h, snd_tv h (tv_ok he), fun z => absurd (hb.symm.trans z) (by decide), fun z => absurd (hf.symm.trans z) (by decide), hl⟩
/-- a test by cases -/
theorem pt_ifx {X : Cx} {t a b : Expr} {tt ta tb : TT} {pos : Pos} (ht : PT X t tt) (ha : PT X a ta) (hb : PT X b tb) : PT X (.IfExp t a b pos) (fun σ H Q => tt σ H fun k H1 => if k = true then ta σ H1 Q else tb σ H1 Q) := by
  refine ⟨fun pins s σ H Q I h => ?_⟩
  show wpAny (model X.prog X.w) X.A (PySem.isTrue (.IfExp t a b pos) X.env (eval (.IfExp t a b pos) X.env)) (TP X pins σ Q) X.xe s
  rw [PySem.isTrue]
  refine wpAny_bind (thn (ht.run pins s σ H _ I h) fun k s1 ⟨H1, I1, q1⟩ => ?_)
  cases k with
  | true =>
    rw [if_pos rfl] at q1
    exact ha.run pins s1 σ H1 Q I1 q1
  | false =>
    rw [if_neg (by decide)] at q1
    exact hb.run pins s1 σ H1 Q I1 q1
theorem snd_ifT {X : Cx} {c : Cfg} {E : EX} {t a b : Expr} {ot oa ob : O1} {pos : Pos} (ht : PT X t (denT c E ot)) (ha : PT X a (denT c E oa)) (hb : PT X b (denT c E ob)) : PT X (.IfExp t a b pos) (denT c E (oIf ot oa ob)) := by
  refine pt_mono (pt_ifx ht ha hb) fun σ H Q ⟨r, B, R, h⟩ => ⟨r, B, R, bndT ppT h fun k r1 H1 B1 _ R1 S1 h1 => ?_⟩
  cases k with
  | true => exact ⟨r1, B1, R1, h1⟩
  | false => exact ⟨r1, B1, R1, h1⟩
theorem snd_chainT {X : Cx} {c : Cfg} {E : EX} {op op' : CmpOp} {q q' : R2} {f g : D → D → Option D} {a b k : Expr} {oa ob oc : O1} {pos : Pos} (ho : OpR X (compareOp op) q) (ho' : OpR X (compareOp op') q') (h2 : Op2 c q f) (h3 : Op2 c q' g)
    (ha : PE X a (denE c E oa)) (hb : PE X b (denE c E ob)) (hc : PE X k (denE c E oc)) (hm : lastMarks [op, op'] [b, k] = false) : PT X (.Compare a [op, op'] [b, k] pos) (denT c E (oChain f g oa ob oc)) :=
  pt_mono (pt_chain ho ho' ha hb hc hm) fun σ H Q ⟨r, B, R, h⟩ => chain_go h2 h3 ⟨r, B, R, h.toE⟩
theorem snd_op {X : Cx} {c : Cfg} {E : EX} : ∀ {o : BoolOp} {a b : Expr} {rest : List Expr} {oa ob : O1} {pos : Pos}, PE X a (denE c E oa) → PE X (.BoolOp o (b :: rest) pos) (denE c E ob) → PE X (.BoolOp o (a :: b :: rest) pos) (denE c E (oBo o oa ob))
  | .And, _, _, _, _, _, _, ha, hb => snd_and ha hb
  | .Or, _, _, _, _, _, _, ha, hb => snd_or ha hb
theorem snd_opT {X : Cx} {c : Cfg} {E : EX} : ∀ {o : BoolOp} {a b : Expr} {rest : List Expr} {oa ob : O1} {pos : Pos}, PT X a (denT c E oa) → PW X (.BoolOp o (b :: rest) pos) (denT c E ob) → PW X (.BoolOp o (a :: b :: rest) pos) (denT c E (oBo o oa ob))
  | .And, _, _, _, _, _, _, ha, hb => snd_andT ha hb
  | .Or, _, _, _, _, _, _, ha, hb => snd_orT ha hb
theorem snd_op1 {X : Cx} {c : Cfg} {E : EX} : ∀ {o : BoolOp} {a : Expr} {oa : O1} {pos : Pos}, PT X a (denT c E oa) → PW X (.BoolOp o [a] pos) (denT c E oa)
  | .And, _, _, _, ha => snd_and1T ha
  | .Or, _, _, _, ha => snd_or1T ha
theorem cst_ok {X : Cx} {c : Cfg} {E : EX} {k : Const} {d : D} {n : Nat} {p : Pos} (h : cstB k d = true) : PE X (.Constant k n p) (denE c E (oC d)) := by
  cases k <;> cases d <;> first | cases h | skip
  · exact snd_c pe_non fun _ _ _ => .non
  · simp only [cstB, beq_iff_eq] at h; subst h
    exact snd_c pe_bl fun _ _ _ => .bl _
  · simp only [cstB, decide_eq_true_eq] at h; subst h
    exact snd_c pe_int fun _ _ _ => .int _
  · simp only [cstB, decide_eq_true_eq] at h; subst h
    exact snd_c pe_str fun _ _ _ => .str _
theorem ip_op {X : Cx} {o : Operator} {q : R2} (h : OpR X (inplaceOp o) q) : PIp X o q := h
theorem aug_ok {X : Cx} {c : Cfg} {o : Operator} (h : o = .Add ∨ o = .Sub) : ∃ q, PIp X o q ∧ Op2 c q (fOpI o) := by
  rcases h with rfl | rfl
  · refine ⟨_, ip_op iop_add, fun B H x y d e g Q nb rx ry h q => ?_⟩
    simp only [fOpI] at h
    split at h
    · cases h; cases rx; cases ry
      exact ⟨_, _, rfl, rfl, q _ H (Ext.refl H) (.int _)⟩
    · cases h
  · exact ⟨_, ip_op iop_sub, i2_sub⟩
section
variable {G : GC} {S : SC} {cl : Nat → O1} {X : Cx} {c : Cfg} {E : EX}
theorem len2 {α : Type} : ∀ {l : List α}, l.length = 2 → ∃ a b, l = [a, b]
  | [a, b], _ => ⟨a, b, rfl⟩
theorem len3 {α : Type} : ∀ {l : List α}, l.length = 3 → ∃ a b c, l = [a, b, c]
  | [a, b, c], _ => ⟨a, b, c, rfl⟩
theorem nms_ok (C : Ctx G S cl X c E) : ∀ {is : List Nat} {es : List Expr}, nmsB S is es = true → PGs X es (gSet is)
  | [], [], _ => pgs_setN
  | i :: is, .Name x p :: es, h => by
    unfold nmsB at h
    rw [Bool.and_eq_true] at h
    exact pgs_setC (C.sto h.1) (nms_ok C h.2)
  | [], _ :: _, h => by cases h
  | _ :: _, [], h => by cases h
theorem wap (C : Ctx G S cl X c E) {ts vs : List Expr} {k k2 : Nat} {p p2 : Pos} {o : Option (List Str)} (h : wapS S.sc ts vs = some o) : swappedStores [.Tuple ts k p] (.Tuple vs k2 p2) X.env = pure o :=
  wap_ok C.knd (by rw [C.sc]; exact h)
theorem par_ok (C : Ctx G S cl X c E) {is : List Nat} {fl : List Bool} {ts es : List Expr} {ot : O1} {k k2 : Nat} {p p2 pos : Pos} (h : parB S is ts es = true) (hf : fl.length = is.length) (ha : PA X es (denX c E fl ot)) :
    PS X (.Assign [.Tuple ts k p] (.Tuple es k2 p2) pos) (denS c E (oPar is fl ot)) := by
  unfold parB at h
  cases ew : wapS S.sc ts es with
  | none => rw [ew] at h; cases h
  | some o =>
    rw [ew] at h
    cases o with
    | none =>
      simp only [Bool.and_eq_true, decide_eq_true_eq] at h
      obtain ⟨⟨⟨h1, h2⟩, h3⟩, h4⟩ := h
      exact snd_parT C.K C.calm hf h4 h2.symm (nms_ok C h1) ha (by rw [hf]; exact h3) (wap C ew)
    | some ns =>
      simp only [Bool.and_eq_true, decide_eq_true_eq, Bool.or_eq_true] at h
      obtain ⟨⟨⟨⟨⟨h1, h2⟩, h3⟩, h4⟩, h5⟩, h6⟩ := h
      rcases h6 with h6 | h6
      · obtain ⟨i, j, rfl⟩ := len2 h6
        obtain ⟨t1, t2, rfl⟩ := len2 h3.symm
        obtain ⟨a, b, rfl⟩ := len2 h4.symm
        cases t1 <;> first | (cases h1; done) | skip
        cases t2 <;> first | (simp [locsB] at h1; done) | skip
        rename_i x px y py
        simp only [locsB, Bool.and_eq_true, Bool.and_true] at h1
        obtain ⟨hi, hx⟩ := C.loc h1.1
        obtain ⟨hj, hy⟩ := C.loc h1.2
        subst h5
        exact snd_par2 (by rw [hf]; rfl) C.calm C.ndX hi hj (by simp at h2; exact h2) hx hy ha (wap C ew)
      · obtain ⟨i, j, l, rfl⟩ := len3 h6
        obtain ⟨t1, t2, t3, rfl⟩ := len3 h3.symm
        obtain ⟨a, b, k, rfl⟩ := len3 h4.symm
        cases t1 <;> first | (cases h1; done) | skip
        cases t2 <;> first | (simp [locsB] at h1; done) | skip
        cases t3 <;> first | (simp [locsB] at h1; done) | skip
        rename_i x px y py z pz
        simp only [locsB, Bool.and_eq_true, Bool.and_true] at h1
        obtain ⟨hi, hx⟩ := C.loc h1.1
        obtain ⟨hj, hy⟩ := C.loc h1.2.1
        obtain ⟨hl, hz⟩ := C.loc h1.2.2
        subst h5
        simp at h2
        exact snd_par3 (by rw [hf]; rfl) C.calm C.ndX hi hj hl h2.1.1 h2.1.2 h2.2 hx hy hz ha (wap C ew)
theorem set_go (C : Ctx G S cl X c E) {i : Nat} {x : Str} {py pos : Pos} {a : T} {e : Expr} (h1 : stoB S i x = true) (h2 : setB S x py a e = true) (q : SndE cl X c E a e) : PS X (.Assign [.Name x py] e pos) (denS c E (oSet i (ev cl a))) := by
  have n := C.sto h1
  unfold setB at h2
  by_cases hc : isComp e = true
  · rw [hc] at h2
    simp only [Bool.not_true, Bool.false_or] at h2
    split at h2
    · rename_i elt gs scope p0
      by_cases hw : swTo S.sc scope x py.line p0.line = true
      · rw [if_pos hw, Bool.and_eq_true, decide_eq_true_eq] at h2
        obtain ⟨hl, hx⟩ := h2
        have hq := q.lc
        cases a with
        | lc vs tg it t el =>
          obtain ⟨elt', tgx, iter, ifs, scope', pos', own, e1, hB, ho, hi, hg, ht, he, hT, hs⟩ := hq
          cases e1
          subst ho
          exact snd_setLc hB n.at' (by rw [C.sc]; exact hx) (by rw [sw_to C.knd, C.sc, hw]) hi hg ht he hT hs
        | lc2 vs vs1 tg it t tg1 it1 t1 el =>
          obtain ⟨elt', tgx, iter, ifs, tgx1, iter1, ifs1, scope', pos', own, e1, hB, ho, hv, hi, hg, ht, hi1, hg1, ht1, he, hT, hT1, hs, hs1⟩ := hq
          cases e1
          subst ho
          exact snd_setLc2 hB n.at' (by rw [C.sc]; exact hx) (by rw [sw_to C.knd, C.sc, hw]) hv hi hg ht hi1 hg1 ht1 he hT hT1 hs hs1
        | _ => cases hl
      · refine snd_set n q.pe ?_ (wap_v rfl)
        rw [sw_to C.knd, C.sc]
        exact congrArg pure (by simpa using hw)
    · cases h2
  · have hc' : isComp e = false := by simpa using hc
    exact snd_set n q.pe (sw_plain hc') (wap_t rfl)
theorem sto_go (C : Ctx G S cl X c E) {i : Nat} {x : Str} {py pos : Pos} {a : T} {e : Expr} (h1 : stoB S i x = true) (h2 : setB S x py a e = true) (hf : frB a = true) (q : SndE cl X c E a e) : PS X (.Assign [.Name x py] e pos) (denS c E (oSetO i (ev cl a))) := by
  have n := C.sto h1
  unfold setB at h2
  by_cases hc : isComp e = true
  · rw [hc] at h2
    simp only [Bool.not_true, Bool.false_or] at h2
    split at h2
    · rename_i elt gs scope p0
      by_cases hw : swTo S.sc scope x py.line p0.line = true
      · rw [if_pos hw, Bool.and_eq_true, decide_eq_true_eq] at h2
        obtain ⟨hl, hx⟩ := h2
        have hq := q.lc
        cases a with
        | lc vs tg it t el =>
          obtain ⟨elt', tgx, iter, ifs, scope', pos', own, e1, hB, ho, hi, hg, ht, he, hT, hs⟩ := hq
          cases e1
          subst ho
          exact snd_setLcF hB n.at' (by rw [C.sc]; exact hx) (by rw [sw_to C.knd, C.sc, hw]) hi hg ht he hT hs
        | lc2 vs vs1 tg it t tg1 it1 t1 el =>
          obtain ⟨elt', tgx, iter, ifs, tgx1, iter1, ifs1, scope', pos', own, e1, hB, ho, hv, hi, hg, ht, hi1, hg1, ht1, he, hT, hT1, hs, hs1⟩ := hq
          cases e1
          subst ho
          exact snd_setLc2F hB n.at' (by rw [C.sc]; exact hx) (by rw [sw_to C.knd, C.sc, hw]) hv hi hg ht hi1 hg1 ht1 he hT hT1 hs hs1
        | _ => cases hl
      · refine snd_setO n (q.pf hf) ?_ (wap_v rfl)
        rw [sw_to C.knd, C.sc]
        exact congrArg pure (by simpa using hw)
    · cases h2
  · have hc' : isComp e = false := by simpa using hc
    exact snd_setO n (q.pf hf) (sw_plain hc') (wap_t rfl)
end
end Py

/-! Py, part V: soundness of the checker, the induction. -/
namespace Py
open PySem L2

section
variable {G : GC} {cl : Nat → O1} {c : Cfg}
theorem pts_of {X : Cx} {E : EX} {ifs : List Expr} {t : T} {b : Bool} (h : (match ifs with
      | [] => isYes t
      | [x] => b
      | _ => false) = true) (k : ∀ x, ifs = [x] → b = true → PT X x (denT c E (ev cl t))) : PTs X ifs (denT c E (ev cl t)) := by
  match ifs, h with
  | [], h =>
    cases t <;> first | (cases h; done) | exact snd_tyes
  | [x], h => exact pts_one (k x rfl h)
theorem snd : ∀ (t : T) (S : SC) (X : Cx) (E : EX) (ob : Ob), Ctx G S cl X c E → chk G S t ob = true → Snd cl X c E t ob := by
  intro t
  induction t with
  | var i =>
    intro S X E ob C h
    rw [chk] at h
    unfold k_var at h
    split at h
    rotate_left
    · cases h
    obtain ⟨h1, h2, h3, h4⟩ := C.var h
    exact .mk1 (snd_var h1 h2 h3 h4) rfl rfl rfl trivial
  | cst d =>
    intro S X E ob C h
    rw [chk] at h
    unfold k_cst at h
    split at h
    rotate_left
    · cases h
    exact .mk1 (cst_ok h) rfl rfl rfl trivial
  | glo d =>
    intro S X E ob C h
    rw [chk] at h
    unfold k_glo at h
    split at h
    rotate_left
    · cases h
    rename_i x p
    simp only [Bool.and_eq_true] at h
    obtain ⟨⟨h1, h2⟩, h3⟩ := h
    cases e : G.cns.lookup x with
    | none => rw [e] at h3; cases h3
    | some d' =>
      rw [e] at h3
      have := beqD_eq h3
      subst this
      obtain ⟨k, _, g⟩ := C.room
      obtain ⟨u, v, hm, ru, rd⟩ := g.cn x d' e
      exact .mk1 (pe_mono (pe_glob (C.gl h1) hm ru (okNm_and h2).1) fun σ H Q ⟨r, B, R, h⟩ => h v H B R (Step.refl _ _) (by rw [← C.K]; exact rd B H)) rfl rfl rfl trivial
  | bin o a b iha ihb =>
    intro S X E ob C h
    rw [chk] at h
    unfold k_bin at h
    split at h
    rotate_left
    · cases h
    rename_i x o' y p
    simp only [Bool.and_eq_true, decide_eq_true_eq] at h
    obtain ⟨⟨⟨rfl, h1⟩, h2⟩, h3⟩ := h
    obtain ⟨q, hq, hf⟩ := bin_ok C.K h1
    exact .mk1 (snd_bin hq hf (iha S X E _ C h2).pe (ihb S X E _ C h3).pe) rfl rfl rfl trivial
  | cmp o a b iha ihb =>
    intro S X E ob C h
    rw [chk] at h
    unfold k_cmp at h
    split at h
    rotate_left
    · cases h
    rename_i x o' y p
    simp only [Bool.and_eq_true, decide_eq_true_eq] at h
    obtain ⟨⟨⟨rfl, h1⟩, h2⟩, h3⟩ := h
    obtain ⟨q, hq, hf⟩ := cmp_ok C.K C.units o
    have pa := (iha S X E _ C h2).pe
    have pb := (ihb S X E _ C h3).pe
    exact ⟨snd_cmp hq hf pa pb (mk_ok h1), snd_cmpT hq hf pa pb (mk_ok h1), (fun z => by cases z), (fun z => by cases z), trivial⟩
  | chn o o2 a b k iha ihb ihk =>
    intro S X E ob C h
    rw [chk] at h
    unfold k_chn at h
    split at h
    rotate_left
    · cases h
    simp only [Bool.and_eq_true, decide_eq_true_eq] at h
    obtain ⟨⟨⟨⟨⟨rfl, rfl⟩, h1⟩, h2⟩, h3⟩, h4⟩ := h
    obtain ⟨q, hq, hf⟩ := cmp_ok C.K C.units o
    obtain ⟨q2, hq2, hf2⟩ := cmp_ok C.K C.units o2
    have pa := (iha S X E _ C h2).pe
    have pb := (ihb S X E _ C h3).pe
    have pk := (ihk S X E _ C h4).pe
    exact ⟨snd_chain hq hq2 hf hf2 pa pb pk (pe_chain hq hq2 pa pb pk (last_ok h1)), snd_chainT hq hq2 hf hf2 pa pb pk (last_ok h1), (fun z => by cases z), (fun z => by cases z), trivial⟩
  | neg a iha =>
    intro S X E ob C h
    rw [chk] at h
    unfold k_neg at h
    split at h
    rotate_left
    · cases h
    exact .mk1 (snd_un un_neg i1_neg (iha S X E _ C h).pe) rfl rfl rfl trivial
  | inv a iha =>
    intro S X E ob C h
    rw [chk] at h
    unfold k_inv at h
    split at h
    rotate_left
    · cases h
    have q := iha S X E _ C h
    exact ⟨snd_not q.pe, snd_notT q.pt, (fun z => by cases z), (fun z => by cases z), trivial⟩
  | b1 a iha =>
    intro S X E ob C h
    rw [chk] at h
    unfold k_b1 at h
    split at h
    rotate_left
    · cases h
    have q := iha S X E _ C h
    exact ⟨snd_one q.pe, (snd_op1 q.pt).pt, fun _ => snd_op1 q.pt, (fun z => by cases z), trivial⟩
  | b2 o a r iha ihr =>
    intro S X E ob C h
    rw [chk] at h
    unfold k_b2 at h
    split at h
    rotate_left
    · cases h
    simp only [Bool.and_eq_true, decide_eq_true_eq] at h
    obtain ⟨⟨rfl, h1⟩, h2⟩ := h
    have q := iha S X E _ C h1
    have qr := ihr S X E _ C h2
    exact ⟨snd_op q.pe qr.pe, (snd_opT q.pt (qr.pw rfl)).pt, fun _ => snd_opT q.pt (qr.pw rfl), (fun z => by cases z), trivial⟩
  | ife t a b iht iha ihb =>
    intro S X E ob C h
    rw [chk] at h
    unfold k_ife at h
    split at h
    rotate_left
    · cases h
    simp only [Bool.and_eq_true] at h
    obtain ⟨⟨h1, h2⟩, h3⟩ := h
    have qt := iht S X E _ C h1
    have qa := iha S X E _ C h2
    have qb := ihb S X E _ C h3
    exact ⟨snd_if qt.pt qa.pe qb.pe, snd_ifT qt.pt qa.pt qb.pt, (fun z => by cases z), (fun z => by cases z), trivial⟩
  | tup as ih =>
    intro S X E ob C h
    rw [chk] at h
    unfold k_tup at h
    split at h
    rotate_left
    · cases h
    exact .mk1 (snd_tup (ih S X E _ C h)) rfl rfl rfl trivial
  | lst as ih =>
    intro S X E ob C h
    rw [chk] at h
    unfold k_lst at h
    split at h
    rotate_left
    · cases h
    have q : PA X _ (denA c E (ev cl as)) := ih S X E _ C h
    exact ⟨snd_lst q, snd_tv (snd_lst q) (tv_ok rfl), (fun z => by cases z), fun _ => snd_lstF q, trivial⟩
  | ix a b iha ihb =>
    intro S X E ob C h
    rw [chk] at h
    unfold k_ix at h
    split at h
    rotate_left
    · cases h
    simp only [Bool.and_eq_true] at h
    obtain ⟨⟨h1, h2⟩, h3⟩ := h
    exact .mk1 (snd_ix C.K.symm (iha S X E _ C h2).pe (ihb S X E _ C h3).pe (ix_ok h1)) rfl rfl rfl trivial
  | sl a lo hi iha ihl ihh =>
    intro S X E ob C h
    rw [chk] at h
    unfold k_sl at h
    split at h
    rotate_left
    · cases h
    simp only [Bool.and_eq_true] at h
    obtain ⟨⟨h1, h2⟩, h3⟩ := h
    exact .mk1 (snd_sl C.K.symm (iha S X E _ C h1).pe (ihl S X E _ C h2) (ihh S X E _ C h3)) rfl rfl rfl trivial
  | nop =>
    intro S X E ob C h
    rw [chk] at h
    unfold k_nop at h
    split at h
    rotate_left
    · cases h
    exact snd_none
  | pt a iha =>
    intro S X E ob C h
    rw [chk] at h
    unfold k_pt at h
    split at h
    rotate_left
    · cases h
    exact snd_some (iha S X E _ C h).pe
  | scr i =>
    intro S X E ob C h
    rw [chk] at h
    unfold k_scr at h
    split at h
    rotate_left
    · cases h
    simp only [Bool.and_eq_true, decide_eq_true_eq] at h
    obtain ⟨h1, rfl⟩ := h
    obtain ⟨h1, h2, h3, h4⟩ := C.var h1
    exact .mk1 (snd_scr C.K.symm h1 h2 h3 h4) rfl rfl rfl trivial
  | pix i k ihk =>
    intro S X E ob C h
    rw [chk] at h
    unfold k_pix at h
    split at h
    rotate_left
    · cases h
    simp only [Bool.and_eq_true] at h
    obtain ⟨⟨h1, h5⟩, h6⟩ := h
    obtain ⟨h1, h2, h3, h4⟩ := C.var h1
    exact .mk1 (snd_pix C.K.symm h1 h2 h3 h4 (ihk S X E _ C h6).pe (ix_ok h5)) rfl rfl rfl trivial
  | pln i =>
    intro S X E ob C h
    rw [chk] at h
    unfold k_pln at h
    split at h
    rotate_left
    · cases h
    simp only [Bool.and_eq_true, decide_eq_true_eq] at h
    obtain ⟨⟨rfl, h5⟩, h6⟩ := h
    obtain ⟨h1, h2, h3, h4⟩ := C.var h6
    obtain ⟨g, m⟩ := C.bl h5
    exact .mk1 (snd_plen h1 h2 h3 h4 g m) rfl rfl rfl trivial
  | bi f as ih =>
    intro S X E ob C h
    rw [chk] at h
    unfold k_bi at h
    split at h
    rotate_left
    · cases h
    simp only [Bool.and_eq_true, decide_eq_true_eq] at h
    obtain ⟨⟨⟨rfl, h1⟩, h2⟩, h3⟩ := h
    obtain ⟨g, m⟩ := C.bl h1
    exact .mk1 (call_ok C.K C.units C.calm g m (ih S X E _ C h3) h2) rfl rfl rfl trivial
  | isa s a iha =>
    intro S X E ob C h
    rw [chk] at h
    unfold k_isa at h
    split at h
    rotate_left
    · cases h
    simp only [Bool.and_eq_true, decide_eq_true_eq, Bool.not_eq_true'] at h
    obtain ⟨⟨⟨⟨⟨⟨⟨rfl, h1⟩, h2⟩, rfl⟩, h4⟩, h5⟩, h6⟩, h7⟩ := h
    obtain ⟨g, m⟩ := C.bl h1
    obtain ⟨g2, m2⟩ := C.bl h2
    exact .mk1 (snd_isa C.K.symm g m g2 m2 (boot_ty s) (by simpa using h4) (okNm_and h5).1 (iha S X E _ C h7).pe (star_cons h6) (star_cons rfl) rfl) rfl rfl rfl trivial
  | cal j as ih =>
    intro S X E ob C h
    rw [chk] at h
    unfold k_cal at h
    split at h
    rotate_left
    · cases h
    rename_i x p es pos
    simp only [Bool.and_eq_true, decide_eq_true_eq] at h
    obtain ⟨⟨⟨⟨⟨h1, h2⟩, h3⟩, h4⟩, h5⟩, h6⟩ := h
    obtain ⟨k, hr, g⟩ := C.room
    obtain ⟨f, fd, ps, hm, hk, hb, hl, F⟩ := g.fn j x _ h3
    obtain ⟨Ex, hx, hE⟩ := C.ps
    have F' : FnOk X.prog X.w X.K X.mg X.base (L2.CX X.prog X.w) k f fd ps (spG c.K c.cls ps.length (cl j)) := by rw [← C.K]; exact F
    have q : PA X es (denB c E (flT as) (ev cl as)) := ih S X E _ C h6
    cases es with
    | nil =>
      have : flT as = [] := List.eq_nil_of_length_eq_zero h5
      rw [this] at q
      refine .mk1 ?_ rfl rfl rfl trivial
      have z := snd_call0 (c := c) (E := E) (p := p) (pos := pos) F' hr (C.gl h1) hm hk hb hx hE hl (okNm_and h2).1
      show PE X _ (denE c E (oCallF (cl j) (flT as) (ev cl as)))
      rw [this]
      have : as = .nil := by
        cases as <;> first | rfl | (rw [chk] at h6; cases h6)
      subst this
      exact z
    | cons e es =>
      rw [List.all_cons, Bool.and_eq_true] at h4
      exact .mk1 (snd_call F' hr (C.gl h1) hm hk hb hx hE (by rw [h5, hl]) q (okNm_and h2).1 (star_cons h4.1) (star_any h4.2)) rfl rfl rfl trivial
  | plc a e iha ihe =>
    intro S X E ob C h
    rw [chk] at h
    unfold k_plc at h
    split at h
    rotate_left
    · cases h
    simp only [Bool.and_eq_true, decide_eq_true_eq] at h
    obtain ⟨⟨⟨⟨⟨rfl, h1⟩, h2⟩, h3⟩, h4⟩, h5⟩ := h
    exact .mk1 (snd_place C.K.symm C.units (iha S X E _ C h4).pe (ihe S X E _ C h5).pe (base_ok2 h1) (by rw [star_all (by simpa using h2)]; rfl) h3 (star_cons h2) rfl) rfl rfl rfl trivial
  | lc vs tg it t e ihg ihi iht ihe =>
    intro S X E ob C h
    rw [chk] at h
    unfold k_lc at h
    split at h
    rotate_left
    · cases h
    rename_i elt tgx iter ifs scope pos
    simp only [Bool.and_eq_true] at h
    obtain ⟨⟨⟨⟨⟨⟨h1, h2⟩, h3⟩, h4⟩, h5⟩, h6⟩, h7⟩ := h
    obtain ⟨hB, hm, hk⟩ := C.blkOk h1
    have hT : ∀ i ∈ tgs tg, i ∈ vs := fun i hi => by simpa using List.all_eq_true.mp h2 i hi
    have hi : PI X tgx iter (denI c E (ev cl it)) := ihi S X E _ C h4
    have hg : Cx.inB X scope (fun Y => PG Y tgx (denG c (tgs tg) (evG tg).1)) := fun s H a clo fp => ihg (S.blk scope) _ EN _ (C.blk hk s H a clo fp) h5
    have he : Cx.inB X scope (fun Y => PE Y elt (denE c EN (ev cl e))) := fun s H a clo fp => (ihe (S.blk scope) _ EN _ (C.blk hk s H a clo fp) h6).pe
    have ht : Cx.inB X scope (fun Y => PTs Y ifs (denT c EN (ev cl t))) := fun s H a clo fp => by
      match ifs, h7 with
      | [], h7 => cases t <;> first | (cases h7; done) | exact snd_tyes
      | [x], h7 => exact pts_one (iht (S.blk scope) _ EN _ (C.blk hk s H a clo fp) h7).pt
    have hT' : ∀ i ∈ tgs tg, i ∈ (ownOf S.N vs).map (·.2) := fun i q => by rw [hm]; exact hT i q
    have pf := snd_lcF (pos := pos) hB hi hg ht he hT' (set_ok h3)
    rw [hm] at pf
    exact ⟨snd_ofF pf, snd_tv (snd_ofF pf) (tv_ok rfl), (fun z => by cases z), fun _ => pf, ⟨elt, tgx, iter, ifs, scope, pos, _, rfl, hB, hm, hi, hg, ht, he, hT, set_ok h3⟩⟩
  | lc2 vs vs1 tg it t tg1 it1 t1 e ihg ihi iht ihg1 ihi1 iht1 ihe =>
    intro S X E ob C h
    rw [chk] at h
    unfold k_lc2 at h
    split at h
    rotate_left
    · cases h
    rename_i elt tgx iter ifs tgx1 iter1 ifs1 scope pos
    simp only [Bool.and_eq_true] at h
    obtain ⟨⟨⟨⟨⟨⟨⟨⟨⟨⟨⟨⟨h1, h2⟩, h3⟩, h4⟩, h5⟩, h6⟩, h7⟩, h8⟩, h9⟩, h10⟩, h11⟩, h12⟩, h13⟩ := h
    obtain ⟨hB, hm, hk⟩ := C.blkOk h1
    have hT : ∀ i ∈ tgs tg, i ∈ (ownOf S.N vs).map (·.2) := fun i hi => by rw [hm]; simpa using List.all_eq_true.mp h2 i hi
    have hv : ∀ i ∈ vs1, i ∈ (ownOf S.N vs).map (·.2) := fun i hi => by rw [hm]; simpa using List.all_eq_true.mp h3 i hi
    have hT1 : ∀ i ∈ tgs tg1, i ∈ vs1 := fun i hi => by simpa using List.all_eq_true.mp h4 i hi
    have hi : PI X tgx iter (denI c E (ev cl it)) := ihi S X E _ C h7
    have hg : Cx.inB X scope (fun Y => PG Y tgx (denG c (tgs tg) (evG tg).1)) := fun s H a clo fp => ihg (S.blk scope) _ EN _ (C.blk hk s H a clo fp) h8
    have he : Cx.inB X scope (fun Y => PE Y elt (denE c EN (ev cl e))) := fun s H a clo fp => (ihe (S.blk scope) _ EN _ (C.blk hk s H a clo fp) h9).pe
    have hi1 : Cx.inB X scope (fun Y => PI Y tgx1 iter1 (denI c EN (ev cl it1))) := fun s H a clo fp => ihi1 (S.blk scope) _ EN _ (C.blk hk s H a clo fp) h10
    have hg1 : Cx.inB X scope (fun Y => PG Y tgx1 (denG c (tgs tg1) (evG tg1).1)) := fun s H a clo fp => ihg1 (S.blk scope) _ EN _ (C.blk hk s H a clo fp) h11
    have ht : Cx.inB X scope (fun Y => PTs Y ifs (denT c EN (ev cl t))) := fun s H a clo fp => by
      match ifs, h12 with
      | [], h12 => cases t <;> first | (cases h12; done) | exact snd_tyes
      | [x], h12 => exact pts_one (iht (S.blk scope) _ EN _ (C.blk hk s H a clo fp) h12).pt
    have ht1 : Cx.inB X scope (fun Y => PTs Y ifs1 (denT c EN (ev cl t1))) := fun s H a clo fp => by
      match ifs1, h13 with
      | [], h13 => cases t1 <;> first | (cases h13; done) | exact snd_tyes
      | [x], h13 => exact pts_one (iht1 (S.blk scope) _ EN _ (C.blk hk s H a clo fp) h13).pt
    have pf := snd_lc2F (pos := pos) hB hv hi hg ht hi1 hg1 ht1 he hT hT1 (set_ok h5) (fun env => set_ok h6)
    rw [hm] at pf
    exact ⟨snd_ofF pf, snd_tv (snd_ofF pf) (tv_ok rfl), (fun z => by cases z), fun _ => pf, ⟨elt, tgx, iter, ifs, tgx1, iter1, ifs1, scope, pos, _, rfl, hB, hm, hv, hi, hg, ht, hi1, hg1, ht1, he, hT, hT1, set_ok h5, fun env => set_ok h6⟩⟩
  | yes =>
    intro S X E ob C h
    cases h
  | nil =>
    intro S X E ob C h
    rw [chk] at h
    unfold k_nil at h
    split at h
    · exact snd_nil
    · exact snd_bnil
    · exact snd_xnil
    · exact snd_gnil
    · cases h
  | con a t iha iht =>
    intro S X E ob C h
    rw [chk] at h
    unfold k_con at h
    split at h
    · simp only [Bool.and_eq_true] at h
      obtain ⟨⟨h1, h2⟩, h3⟩ := h
      exact snd_cons (iha S X E _ C h2).pe (iht S X E _ C h3) (star_cons h1)
    · simp only [Bool.and_eq_true] at h
      obtain ⟨⟨h1, h2⟩, h3⟩ := h
      exact snd_bcons (iha S X E _ C h2).pe (iht S X E _ C h3) (star_cons h1)
    · rename_i b fl e es
      simp only [Bool.and_eq_true, Bool.or_eq_true, Bool.not_eq_true'] at h
      obtain ⟨⟨⟨h1, h2⟩, h3⟩, h4⟩ := h
      cases b with
      | false => exact snd_xval (iha S X E _ C h3).pe (iht S X E _ C h4) (star_cons h1)
      | true =>
        have hf : frB a = true := by
          rcases h2 with z | z
          · cases z
          · exact z
        exact snd_xnew ((iha S X E _ C h3).pf hf) (iht S X E _ C h4) (star_cons h1)
    · simp only [Bool.and_eq_true] at h
      obtain ⟨⟨h1, h2⟩, h3⟩ := h
      exact snd_gcons (iha S X E _ C h2) (iht S X E _ C h3) (asg_cons h1)
    · cases h
  | rfc i t iht =>
    intro S X E ob C h
    rw [chk] at h
    unfold k_rfc at h
    split at h
    rotate_left
    · cases h
    simp only [Bool.and_eq_true] at h
    obtain ⟨h1, h5⟩ := h
    obtain ⟨h1, h2, h3, h4⟩ := C.var h1
    exact snd_bref h1 h2 h3 h4 (iht S X E _ C h5) (star_cons rfl)
  | gn i =>
    intro S X E ob C h
    rw [chk] at h
    unfold k_gn at h
    split at h
    rotate_left
    · cases h
    exact snd_gnm (C.sto h)
  | gt n g ih =>
    intro S X E ob C h
    rw [chk] at h
    unfold k_gt at h
    split at h
    rotate_left
    · cases h
    simp only [Bool.and_eq_true, decide_eq_true_eq] at h
    obtain ⟨⟨h1, h2⟩, h3⟩ := h
    exact snd_gtup C.K C.calm (ih S X E _ C h3) (by rw [asg_len h2, h1]) (asg_find h2)
  | itr a iha =>
    intro S X E ob C h
    rw [chk] at h
    unfold k_itr at h
    split at h
    rotate_left
    · cases h
    exact snd_it C.K (iha S X E _ C h).pe
  | rg1 as ih =>
    intro S X E ob C h
    rw [chk] at h
    unfold k_rg1 at h
    split at h
    rotate_left
    · cases h
    simp only [Bool.and_eq_true, decide_eq_true_eq] at h
    obtain ⟨⟨⟨rfl, h1⟩, h2⟩, h3⟩ := h
    obtain ⟨g, m⟩ := C.bl h1
    exact snd_rng1 g m (ih S X E _ C h3) (star_cons h2)
  | rg2 as ih =>
    intro S X E ob C h
    rw [chk] at h
    unfold k_rg2 at h
    split at h
    rotate_left
    · cases h
    simp only [Bool.and_eq_true, decide_eq_true_eq] at h
    obtain ⟨⟨⟨⟨rfl, h1⟩, h2⟩, h2'⟩, h3⟩ := h
    obtain ⟨g, m⟩ := C.bl h1
    exact snd_rng2 g m (ih S X E _ C h3) (by rw [star_cons h2, star_cons h2']; rfl) (star_cons h2')
  | zpp as ih =>
    intro S X E ob C h
    rw [chk] at h
    unfold k_zpp at h
    split at h
    rotate_left
    · cases h
    simp only [Bool.and_eq_true, decide_eq_true_eq] at h
    obtain ⟨⟨⟨⟨rfl, h1⟩, h2⟩, h2'⟩, h3⟩ := h
    obtain ⟨g, m⟩ := C.bl h1
    exact snd_zip C.K g m (ih S X E _ C h3) (star_cons h2) (star_any (by simpa using h2'))
  | enu as ih =>
    intro S X E ob C h
    rw [chk] at h
    unfold k_enu at h
    split at h
    rotate_left
    · cases h
    simp only [Bool.and_eq_true, decide_eq_true_eq] at h
    obtain ⟨⟨⟨rfl, h1⟩, h2⟩, h3⟩ := h
    obtain ⟨g, m⟩ := C.bl h1
    exact snd_enum C.K g m (ih S X E _ C h3) (star_cons h2)
  | skp =>
    intro S X E ob C h
    rw [chk] at h
    unfold k_skp at h
    split at h
    rotate_left
    · cases h
    exact snd_snil
  | seq a b iha ihb =>
    intro S X E ob C h
    rw [chk] at h
    unfold k_seq at h
    split at h
    rotate_left
    · cases h
    simp only [Bool.and_eq_true] at h
    exact snd_scons (iha S X E _ C h.1) (ihb S X E _ C h.2)
  | ret a iha =>
    intro S X E ob C h
    rw [chk] at h
    unfold k_ret at h
    split at h
    rotate_left
    · cases h
    exact snd_ret (iha S X E _ C h).pe
  | rtn =>
    intro S X E ob C h
    rw [chk] at h
    unfold k_rtn at h
    split at h
    rotate_left
    · cases h
    exact snd_retN
  | brk =>
    intro S X E ob C h
    rw [chk] at h
    unfold k_brk at h
    split at h
    rotate_left
    · cases h
    exact snd_brk
  | cnt =>
    intro S X E ob C h
    rw [chk] at h
    unfold k_cnt at h
    split at h
    rotate_left
    · cases h
    exact snd_cnt
  | pss =>
    intro S X E ob C h
    rw [chk] at h
    unfold k_pss at h
    split at h
    rotate_left
    · cases h
    exact snd_pass
  | doc =>
    intro S X E ob C h
    rw [chk] at h
    unfold k_doc at h
    split at h
    rotate_left
    · cases h
    exact snd_doc
  | nev =>
    intro S X E ob C h
    rw [chk] at h
    unfold k_nev at h
    split at h
    rotate_left
    · cases h
    exact snd_never
  | ifs t a b iht iha ihb =>
    intro S X E ob C h
    rw [chk] at h
    unfold k_ifs at h
    split at h
    rotate_left
    · cases h
    simp only [Bool.and_eq_true] at h
    obtain ⟨⟨h1, h2⟩, h3⟩ := h
    exact snd_ifS (iht S X E _ C h1).pt (iha S X E _ C h2) (ihb S X E _ C h3)
  | set i a iha =>
    intro S X E ob C h
    rw [chk] at h
    unfold k_set at h
    split at h
    rotate_left
    · cases h
    simp only [Bool.and_eq_true] at h
    obtain ⟨⟨h1, h2⟩, h3⟩ := h
    exact set_go C h1 h2 (iha S X E _ C h3)
  | sto i a iha =>
    intro S X E ob C h
    rw [chk] at h
    unfold k_sto at h
    split at h
    rotate_left
    · cases h
    simp only [Bool.and_eq_true] at h
    obtain ⟨⟨⟨h1, h2⟩, h3⟩, h4⟩ := h
    exact sto_go C h1 h2 h3 (iha S X E _ C h4)
  | aug i o a iha =>
    intro S X E ob C h
    rw [chk] at h
    unfold k_aug at h
    split at h
    rotate_left
    · cases h
    simp only [Bool.and_eq_true, decide_eq_true_eq, Bool.or_eq_true] at h
    obtain ⟨⟨⟨h1, rfl⟩, h2⟩, h3⟩ := h
    obtain ⟨q, hq, hf⟩ := aug_ok (X := X) (c := c) h2
    exact snd_aug (C.sto h1) (iha S X E _ C h3).pe hq hf
  | app i a iha =>
    intro S X E ob C h
    rw [chk] at h
    unfold k_app at h
    split at h
    rotate_left
    · cases h
    simp only [Bool.and_eq_true, decide_eq_true_eq] at h
    obtain ⟨⟨⟨⟨rfl, h1⟩, h5⟩, h6⟩, h7⟩ := h
    obtain ⟨h1, h2, h3, h4⟩ := C.var h1
    have q := (iha S X E _ C h7).pe
    exact snd_app h1 h2 h3 h4 q C.K (sw_plain rfl) (pe_bm PySem.F.plainAttrs_list PySem.F.slot_list_append PySem.F.type_list_append mt_append (pe_var h1 h2 h3 h4) (pa_cons q pa_nil (star_cons h5)) rfl (by rw [star_all (by simpa using h5)]; rfl) h6 (star_cons h5) rfl)
  | put i k a ihk iha =>
    intro S X E ob C h
    rw [chk] at h
    unfold k_put at h
    split at h
    rotate_left
    · cases h
    simp only [Bool.and_eq_true, Bool.not_eq_true'] at h
    obtain ⟨⟨⟨⟨h1, h5⟩, h6⟩, h7⟩, h8⟩ := h
    obtain ⟨h1, h2, h3, h4⟩ := C.var h1
    exact snd_put h1 h2 h3 h4 h5 (ihk S X E _ C h7).pe (iha S X E _ C h8).pe (sw_plain h6) (wap_t rfl)
  | frl tg it b ihg ihi ihb =>
    intro S X E ob C h
    rw [chk] at h
    unfold k_frl at h
    split at h
    rotate_left
    · cases h
    simp only [Bool.and_eq_true] at h
    obtain ⟨⟨⟨⟨h1, h2⟩, h3⟩, h4⟩, h5⟩ := h
    exact snd_for (C.own h1) C.calm (ihi S X E _ C h3) (ihg S X E _ C h4) (ihb S X E _ C h5) (set_ok h2)
  | whl n t b iht ihb =>
    intro S X E ob C h
    rw [chk] at h
    unfold k_whl at h
    split at h
    rotate_left
    · cases h
    simp only [Bool.and_eq_true] at h
    obtain ⟨⟨h1, h2⟩, h3⟩ := h
    exact snd_while (C.own h1) (iht S X E _ C h2).pt (ihb S X E _ C h3)
  | drp a iha =>
    intro S X E ob C h
    rw [chk] at h
    unfold k_drp at h
    split at h
    rotate_left
    · cases h
    simp only [Bool.and_eq_true, Bool.not_eq_true'] at h
    exact snd_drop (iha S X E _ C h.2).pe (sw_plain h.1)
  | par is fl as ih =>
    intro S X E ob C h
    rw [chk] at h
    unfold k_par at h
    split at h
    rotate_left
    · cases h
    simp only [Bool.and_eq_true, decide_eq_true_eq] at h
    obtain ⟨⟨h1, h2⟩, h3⟩ := h
    exact par_ok C h1 h2 (ih S X E _ C h3)
  | asg g a ihg iha =>
    intro S X E ob C h
    rw [chk] at h
    unfold k_asg at h
    split at h
    rotate_left
    · cases h
    simp only [Bool.and_eq_true] at h
    obtain ⟨⟨h1, h2⟩, h3⟩ := h
    unfold asgB at h1
    simp only [Bool.and_eq_true, Bool.not_eq_true', Bool.or_eq_true] at h1
    refine snd_asgG (iha S X E _ C h3).pe (ihg S X E _ C h2) (sw_plain h1.1.2) ?_ h1.1.1
    rcases h1.2 with z | z
    · exact wap_v z
    · exact wap_t z
  | stx a t iha iht =>
    intro S X E ob C h
    rw [chk] at h
    unfold k_stx at h
    split at h
    rotate_left
    · cases h
    simp only [Bool.and_eq_true] at h
    exact snd_star C.K.symm (iha S X E _ C h.1).pe (iht S X E _ C h.2)
  | rtz a iha =>
    intro S X E ob C h
    rw [chk] at h
    unfold k_rtz at h
    split at h
    rotate_left
    · cases h
    simp only [Bool.and_eq_true, decide_eq_true_eq] at h
    obtain ⟨⟨⟨rfl, h1⟩, h2⟩, h3⟩ := h
    obtain ⟨g, m⟩ := C.bl h1
    exact snd_rtz C.K.symm g m (iha S X E _ C h3).pe (star_cons h2)
  | stz i j as ih =>
    intro S X E ob C h
    rw [chk] at h
    unfold k_stz at h
    split at h
    rotate_left
    · cases h
    rename_i y py x p e es pos apos
    simp only [Bool.and_eq_true, decide_eq_true_eq] at h
    obtain ⟨⟨⟨⟨⟨⟨h0, h1⟩, h2⟩, h3⟩, h4⟩, h5⟩, h6⟩ := h
    obtain ⟨k, hr, g⟩ := C.room
    obtain ⟨f, fd, ps, hm, hk, hb, hl, F⟩ := g.fn j x _ h3
    obtain ⟨Ex, hx, hE⟩ := C.ps
    have F' : FnOk X.prog X.w X.K X.mg X.base (L2.CX X.prog X.w) k f fd ps (spG c.K c.cls ps.length (cl j)) := by rw [← C.K]; exact F
    have q : PA X (e :: es) (denB c E (flT as) (ev cl as)) := ih S X E _ C h6
    rw [List.all_cons, Bool.and_eq_true] at h4
    exact snd_stz (C.sto h0) F' hr (C.gl h1) hm hk hb hx hE (by rw [h5, hl]) q (okNm_and h2).1 (star_cons h4.1) (star_any h4.2)
  | plt i e ihe =>
    intro S X E ob C h
    rw [chk] at h
    unfold k_plt at h
    split at h
    rotate_left
    · cases h
    simp only [Bool.and_eq_true, decide_eq_true_eq] at h
    obtain ⟨⟨⟨⟨rfl, h1⟩, h2⟩, h3⟩, h5⟩ := h
    obtain ⟨v1, v2, v3, v4⟩ := C.var h1
    exact .mk1 (snd_plt C.K.symm C.units v1 v2 v3 v4 (ihe S X E _ C h5).pe (by rw [star_all (by simpa using h2)]; rfl) h3 (star_cons h2) rfl) rfl rfl rfl trivial
  | tr1 k a iha =>
    intro S X E ob C h
    rw [chk] at h
    unfold k_tr1 at h
    split at h
    rotate_left
    · cases h
    simp only [Bool.and_eq_true, decide_eq_true_eq] at h
    obtain ⟨⟨⟨⟨⟨rfl, h1⟩, rfl⟩, h2⟩, h3⟩, h4⟩ := h
    obtain ⟨g, m⟩ := C.bl h1
    obtain ⟨g2, m2⟩ := C.bl h2
    exact .mk1 (snd_tr1 C.calm g m g2 m2 (iha S X E _ C h4).pe (star_cons h3)) rfl rfl rfl trivial
  | tr2 k a b iha ihb =>
    intro S X E ob C h
    rw [chk] at h
    unfold k_tr2 at h
    split at h
    rotate_left
    · cases h
    simp only [Bool.and_eq_true, decide_eq_true_eq] at h
    obtain ⟨⟨⟨⟨⟨⟨⟨rfl, h1⟩, rfl⟩, h2⟩, h3⟩, h3'⟩, h4⟩, h5⟩ := h
    obtain ⟨g, m⟩ := C.bl h1
    obtain ⟨g2, m2⟩ := C.bl h2
    exact .mk1 (snd_tr2 C.calm g m g2 m2 (iha S X E _ C h4).pe (ihb S X E _ C h5).pe h3 h3') rfl rfl rfl trivial
end
end Py

/-! Py, part W: the defs of a text, level by level; the law. -/
namespace Py
open PySem L2

/-- a def as it is written, and what it says -/
structure Fd where
  x : Str
  st : Stmt
  N : List Str
  ps : List Str
  t : T
/-- def j, called as deep as k -/
def calls (fs : List Fd) : Nat → Nat → O1
  | 0, _ => oNo
  | k + 1, j => match fs[j]? with
    | some f => fun as => ev (calls fs k) f.t (as ++ List.replicate (f.N.length - as.length) .un)
    | none => oNo
def scB (N P : List Str) (sc : Scope) : Bool :=
  decide (sc.kind = .function) && !sc.isCoroutine && !sc.isGenerator && decide N.Nodup && decide (N.take P.length = P) && P.all (fun x => decide (sc.names.lookup x = some .local) || decide (sc.names.lookup x = some .cell)) && sc.names.all (fun y => !decide (y.2 = .free))
theorem scB_ok {N P : List Str} {sc : Scope} (h : scB N P sc = true) : FnScope N P sc := by
  unfold scB at h
  simp only [Bool.and_eq_true, Bool.not_eq_true', decide_eq_true_eq, List.all_eq_true, Bool.or_eq_true, decide_eq_false_iff_not] at h
  obtain ⟨⟨⟨⟨⟨⟨h1, h2⟩, h3⟩, h4⟩, h5⟩, h6⟩, h7⟩ := h
  exact ⟨h1, h2, h3, h4, h5, h6, h7⟩
def Fd.ok (G : GC) (f : Fd) : Bool := scB f.N f.ps (defScope f.st) && chk G ⟨f.N, defScope f.st, defScope f.st, true⟩ f.t (.ss (defBody f.st))
def gOf (fs : List Fd) (cns : List (Str × D)) (bls : List Str) : GC := ⟨fs.map fun f => (f.x, f.ps.length), cns, bls⟩
/-- the head's word on a def -/
structure FdAt (K : PySem.W.Frag) (mg : Str → Option Value) (f : Fd) : Prop where
  ex : ∃ (a : Addr) (fd : FuncData), Fun K f.x f.x f.st a fd ∧ mg f.x = some (.ref a) ∧ PySem.W.keepIn K (.ref a) = true ∧ ∀ us : List Value, us.length = f.ps.length → bindArgs fd ⟨us, []⟩ = pure (f.ps.zip us)
section
variable {P : Program} {w : World} {K : PySem.W.Frag} {mg : Str → Option Value} {base : Heap} {cls : Nat → Addr} {fs : List Fd} {cns : List (Str × D)} {bls : List Str}
theorem FnOk.nil {ps : List Str} {f : Addr} {fd : FuncData} : FnOk P w K mg base (L2.CX P w) 0 f fd ps (spG K cls ps.length oNo) :=
  ⟨fun vs H Q E ⟨c, as, B, _, _, _, hl, _⟩ => hl, fun A outer s H args us vs Q E _ _ _ _ ⟨c, as, B, _, _, _, hl, R, h⟩ => h.elim⟩
theorem fn_step {f : Fd} {k : Nat} {cl : Nat → O1} {a : Addr} {fd : FuncData} {G : GC} (F : Fun K f.x f.x f.st a fd) (ok : f.ok G = true) (g : Glob P w K mg base cls k cl G) :
    FnOk P w K mg base (L2.CX P w) (k + 1) a fd f.ps (spG K cls f.ps.length fun as => ev cl f.t (as ++ List.replicate (f.N.length - as.length) .un)) := by
  unfold Fd.ok at ok
  rw [Bool.and_eq_true] at ok
  have S := scB_ok ok.1
  refine fn_okG F S fun cdv A outer s H E c hK hc hr => ?_
  subst hK
  subst hc
  exact snd f.t ⟨f.N, defScope f.st, defScope f.st, true⟩ _ _ (.ss (defBody f.st)) ⟨rfl, rfl, S.nd, S.kind, fun _ _ => rfl, rfl, rfl, ⟨k, hr, g⟩, ⟨E, L2.passes_call (takes_of rfl rfl rfl rfl) fun _ _ _ _ h => h, fun _ _ _ h => h⟩, fun _ => L2.passes_of rfl⟩ ok.2
theorem glob (hb : ∀ x ∈ bls, mg x = none) (hc : ∀ x d, cns.lookup x = some d → ∃ u v, mg x = some u ∧ RelV v u ∧ ∀ B H, Rep K B H d v) (hf : ∀ f ∈ fs, FdAt K mg f) (ok : fs.all (Fd.ok (gOf fs cns bls)) = true) :
    ∀ k, Glob P w K mg base cls k (calls fs k) (gOf fs cns bls) := by
  intro k
  induction k with
  | zero =>
    refine ⟨hb, hc, fun j x n h => ?_⟩
    have h' : (fs.map fun f => (f.x, f.ps.length))[j]? = some (x, n) := h
    rw [List.getElem?_map] at h'
    cases e : fs[j]? with
    | none => rw [e] at h'; cases h'
    | some f =>
      rw [e] at h'
      cases h'
      obtain ⟨a, fd, F, m, kp, b⟩ := (hf f (List.mem_of_getElem? e)).ex
      exact ⟨a, fd, f.ps, m, kp, .all b, rfl, FnOk.nil⟩
  | succ k ih =>
    refine ⟨hb, hc, fun j x n h => ?_⟩
    have h' : (fs.map fun f => (f.x, f.ps.length))[j]? = some (x, n) := h
    rw [List.getElem?_map] at h'
    cases e : fs[j]? with
    | none => rw [e] at h'; cases h'
    | some f =>
      rw [e] at h'
      cases h'
      obtain ⟨a, fd, F, m, kp, b⟩ := (hf f (List.mem_of_getElem? e)).ex
      refine ⟨a, fd, f.ps, m, kp, .all b, rfl, ?_⟩
      have q := fn_step (P := P) (w := w) (base := base) (mg := mg) F (List.all_eq_true.mp ok f (List.mem_of_getElem? e)) ih
      show FnOk P w K mg base (L2.CX P w) (k + 1) a fd f.ps (spG K cls f.ps.length (match fs[j]? with
        | some f => fun as => ev (calls fs k) f.t (as ++ List.replicate (f.N.length - as.length) .un)
        | none => oNo))
      rw [e]
      exact q
/-- by the head's facts -/
theorem fdAt {h : Heap} {x : Str} {st : Stmt} {N ps : List Str} {t : T} {a : Addr} {oc kV dc pm cd ct : Value} {od an : Option Addr} {sl : Array (Option Value)} (X : K.In h) (G : h.Ns mainGlobals mg)
    (a1 : PySem.W.nsIn K mainGlobals x = some (some (.ref a))) (l1 : K.lookup a = some ⟨oc, od, .func (PySem.W.fnOf x x (defArgs st) (defBody st) (defScope st) .none kV dc pm an cd ct), sl⟩) (c1 : PySem.W.codeIn K cd x = true) (k1 : PySem.W.keepIn K (.ref a) = true)
    (hb : ∀ us : List Value, us.length = ps.length → bindArgs (PySem.W.fnOf x x (defArgs st) (defBody st) (defScope st) .none kV dc pm an cd ct) ⟨us, []⟩ = pure (ps.zip us)) : FdAt K mg ⟨x, st, N, ps, t⟩ :=
  ⟨a, _, fun_mk (st := st) l1 c1 k1, PySem.W.mg_of X G a1, k1, hb⟩
theorem cns_mk {l : List (Str × D)} (h : ∀ p ∈ l, ∃ u v, mg p.1 = some u ∧ RelV v u ∧ ∀ B H, Rep K B H p.2 v) : ∀ x d, l.lookup x = some d → ∃ u v, mg x = some u ∧ RelV v u ∧ ∀ B H, Rep K B H d v := fun x d e => h (x, d) (PySem.mem_of_lookup e)
/-- the law's def, deep enough -/
theorem law_mk {f : Fd} {fa : Addr} {k : Nat} (hb : ∀ x ∈ bls, mg x = none) (hc : ∀ x d, cns.lookup x = some d → ∃ u v, mg x = some u ∧ RelV v u ∧ ∀ B H, Rep K B H d v) (hf : ∀ f ∈ fs, FdAt K mg f) (ok : fs.all (Fd.ok (gOf fs cns bls)) = true)
    (hm : f ∈ fs) (hp : f.ps = [("script" : Str)]) (hfa : mg f.x = some (.ref fa)) : ∃ fd : FuncData, (∀ (s : Shared) (u : Value), BindsTo s fd ⟨[u], []⟩ [("script", u)]) ∧
      ∀ base : Heap, FnOk P w K mg base (L2.CX P w) (k + 1) fa fd ["script"] (spG K cls 1 fun as => ev (calls fs k) f.t (as ++ List.replicate (f.N.length - as.length) .un)) := by
  obtain ⟨a, fd, F, m, kp, b⟩ := (hf f hm).ex
  have e := hfa.symm.trans m
  cases e
  refine ⟨fd, fun s u => .of_eq ?_, fun base => ?_⟩
  · have := b [u] (by rw [hp]; rfl)
    rw [hp] at this
    exact this
  · have q := fn_step (P := P) (w := w) (base := base) (mg := mg) F (List.all_eq_true.mp ok f hm) (glob (cls := cls) hb hc hf ok k)
    rw [hp] at q
    exact q
/-- the law is met where its call gives True for every script -/
theorem law_sp {g : O1} (hg : ∀ ns : List Int, ns.length ≤ 63 → ∃ r, g [.scr ns] = .ret (.bool true) r) (H : Hp) (a : Addr) (ns : List Int) (hl : ns.length ≤ 63) (hO : Only H) (hS : SqL K H a (ns.map V.int)) :
    spG K cls 1 g [.ref a] H (fun v _ => v = .bl true) fun _ _ _ => False := by
  refine ⟨⟨K, fun _ => False, fun _ => False, H, fun _ => 0, cls⟩, [.scr ns], ⟨fun _ => False, fun _ => False⟩, rfl, rfl, rfl, rfl, ?_, ?_⟩
  · refine ⟨rfl, ?_, ?_, fun _ h => h, fun _ h => h.elim, fun _ h => h, fun _ h => h.elim, fun _ h => h.elim, fun _ h => h.elim, fun _ h => h, fun _ _ _ e => e, fun _ o e => ⟨o, e⟩⟩
    · intro i s o h1 h2
      cases i with
      | zero =>
        cases h1; cases h2
        refine ⟨a, rfl, ?_⟩
        rcases hS with r | k
        · exact .inl ⟨fun z => z, r⟩
        · exact .inr k
      | succ i => cases h1
    · intro i j s t b hne h1 h2 x1 x2
      cases i with
      | zero => cases h1; cases x1
      | succ i => cases h1
  · obtain ⟨r, e⟩ := hg ns hl
    rw [e]
    intro v σ' H' B' _ q
    cases q; rfl
end
theorem no_CX {P : Program} {w : World} (H : Hp) (s : Shared) (e : Value) (s' : Shared) (h : L2.CX P w [] H s (fun _ _ _ => False) e s') : False := by
  obtain ⟨_, _, _, _, _, _, _, _, _, _, _, _, z⟩ := h
  exact z.elim
end Py

/-! Py, part X: what a law draws from its script. -/
namespace Py
open PySem

def tCell : T := (.seq (.ifs (.cmp .Lt (.var 1) (.bi .len (.con (.var 0) .nil))) (.seq (.ret (.ix (.var 0) (.var 1))) .skp) .skp) (.seq (.ret (.cst (.int 0))) .skp))
def tDraw : T := (.seq (.set 3 (.tup (.con (.cst (.int 1000003)) (.con (.cst (.int 1000033)) (.con (.cst (.int 1000037)) (.con (.cst (.int 1000039)) (.con (.cst (.int 1000081)) (.con (.cst (.int 1000099)) (.con (.cst (.int 1000117)) (.con (.cst (.int 1000121)) (.con (.cst (.int 1000133)) (.con (.cst (.int 1000151)) (.con (.cst (.int 1000159)) (.con (.cst (.int 1000171)) (.con (.cst (.int 1000183)) (.con (.cst (.int 1000187)) (.con (.cst (.int 1000193)) (.con (.cst (.int 1000199)) .nil)))))))))))))))))) (.seq (.ret (.bin .Mod (.bin .Mod (.bi .int (.con (.bin .Add (.bin .Mult (.var 0) (.cst (.int 48271))) (.bin .Mult (.var 1) (.cst (.int 69621)))) .nil)) (.ix (.var 3) (.bin .Mod (.bi .int (.con (.var 1) .nil)) (.cst (.int 16))))) (.var 2))) .skp))
def tNumber (j : Nat) : T := (.seq (.set 3 (.cst (.int 1))) (.seq (.frl (.gn 4) (.rg1 (.con (.bin .Mod (.bi .int (.con (.var 1) .nil)) (.cst (.int 24))) .nil)) (.seq (.set 3 (.bin .Mult (.var 3) (.cst (.int 1009)))) .skp)) (.seq (.set 5 (.bin .FloorDiv (.bin .Sub (.var 0) (.bin .Pow (.cst (.int 10)) (.cst (.int 18)))) (.var 3))) (.seq (.ifs (.cmp .Gt (.var 5) (.cst (.int 0))) (.seq (.ret (.bin .Mod (.bin .Mod (.bi .int (.con (.var 5) .nil)) (.cst (.int 1009))) (.var 2))) .skp) .skp) (.seq (.set 6 (.bin .Mod (.bi .int (.con (.var 0) .nil)) (.cst (.int 1000003)))) (.seq (.ret (.bin .Mod (.cal j (.con (.bin .Mult (.bin .Add (.var 6) (.bin .Mult (.cst (.int 977)) (.var 1))) (.bin .Add (.bin .Add (.var 6) (.bin .Mult (.cst (.int 31)) (.var 1))) (.cst (.int 5)))) (.con (.bin .Add (.bin .Mod (.bi .int (.con (.var 1) .nil)) (.cst (.int 9))) (.cst (.int 1))) (.con (.cst (.int 999983)) .nil)))) (.var 2))) .skp))))))
def tNext (j j' : Nat) : T := (.seq (.put 0 (.cst (.int 2)) (.bin .Add (.pix 0 (.cst (.int 2))) (.cst (.int 1)))) (.seq (.set 2 (.bin .FloorDiv (.pix 0 (.cst (.int 2))) (.cst (.int 12)))) (.seq (.set 3 (.bin .Add (.cal j (.con (.pix 0 (.cst (.int 0))) (.con (.bin .Add (.pix 0 (.cst (.int 1))) (.var 2)) .nil))) (.bin .Mult (.cst (.int 31)) (.var 2)))) (.seq (.ret (.cal j' (.con (.var 3) (.con (.bin .Add (.bin .Mod (.bi .int (.con (.pix 0 (.cst (.int 2))) .nil)) (.cst (.int 12))) (.cst (.int 1))) (.con (.var 1) .nil))))) .skp))))

theorem calls_at {fs : List Fd} {j k : Nat} {f : Fd} (h : fs[j]? = some f) (as : Rho) : calls fs (k + 1) j as = ev (calls fs k) f.t (as ++ List.replicate (f.N.length - as.length) .un) := by
  unfold calls
  rw [h]
/-- what a call gives back, where nothing is lent -/
def retD : Out → Option D
  | .ret d _ => some d
  | .retF d _ => some d
  | .nxt _ => some .none
  | _ => none
theorem mkArgs_vals (r : Rho) : ∀ ds : List D, mkArgs r (ds.map fun _ => none) ds = some (ds.map .val)
  | [] => rfl
  | d :: ds => by
    show (mkArgs r (ds.map fun _ => none) ds).map _ = _
    rw [mkArgs_vals r ds]; rfl
theorem refs_vals (ds : List D) : refs (ds.map fun _ => none) = [] := by
  induction ds with
  | nil => rfl
  | cons d ds ih => simpa [refs] using ih
theorem putBack_vals (r' r : Rho) : ∀ (ds : List D) (p : Nat), putBack r' p (ds.map fun _ => none) r = some r
  | [], _ => rfl
  | d :: ds, p => putBack_vals r' r ds (p + 1)
/-- a call by values -/
theorem callF {g a : O1} {fl : List (Option Nat)} {r r1 : Rho} {ds : List D} {d : D} (ha : a r = .vals ds r1) (hf : fl = ds.map fun _ => none) (hg : retD (g (ds.map .val)) = some d) : oCallF g fl a r = .val d r1 := by
  subst hf
  unfold oCallF
  rw [ha]
  show (if (refs (ds.map fun _ => none)).Nodup then _ else _) = _
  rw [refs_vals, if_pos List.nodup_nil, mkArgs_vals]
  dsimp only
  cases e : g (ds.map .val) with
  | ret d' r' => rw [e] at hg; cases hg; dsimp only; rw [putBack_vals]
  | nxt r' => rw [e] at hg; cases hg; dsimp only; rw [putBack_vals]
  | val d' r' => rw [e] at hg; cases hg
  | vals d' r' => rw [e] at hg; cases hg
  | brk r' => rw [e] at hg; cases hg
  | cnt r' => rw [e] at hg; cases hg
  | exc n d' => rw [e] at hg; cases hg
  | retF d' r' => rw [e] at hg; cases hg; dsimp only; rw [putBack_vals]
  | bad => rw [e] at hg; cases hg

/-- the four defs that draw, at j, j + 1, j + 2, j + 3 -/
structure Draws (fs : List Fd) (j : Nat) : Prop where
  c : ∃ f, fs[j]? = some f ∧ f.N.length = 2 ∧ f.t = tCell
  d : ∃ f, fs[j + 1]? = some f ∧ f.N.length = 4 ∧ f.t = tDraw
  n : ∃ f, fs[j + 2]? = some f ∧ f.N.length = 7 ∧ f.t = tNumber (j + 1)
  x : ∃ f, fs[j + 3]? = some f ∧ f.N.length = 4 ∧ f.t = tNext j (j + 2)
section
variable {fs : List Fd} {j : Nat}
theorem atI_ok {α : Type} (xs : List α) (n : Nat) (h : n < xs.length) : L2.atI xs (n : Int) = xs[n]? := by
  unfold L2.atI L2.ixN
  rw [if_pos (by omega), if_pos (by omega)]
  rfl
theorem cell_ok (h : Draws fs j) (k : Nat) (cells : List Int) (i : Int) (hi : 0 ≤ i) : ∃ (v : Int) (r : Rho), calls fs (k + 1) j [.val (.list (cells.map .int)), .val (.int i)] = .ret (.int v) r := by
  obtain ⟨f, e, hN, ht⟩ := h.c
  rw [calls_at e, hN, ht]
  by_cases hl : i < cells.length
  · obtain ⟨n, rfl⟩ : ∃ n : Nat, i = (n : Int) := ⟨i.toNat, by omega⟩
    have hn : n < cells.length := by omega
    have hx : L2.atI (cells.map PyData.int) (n : Int) = some (.int cells[n]) := by
      rw [atI_ok _ _ (by simpa using hn)]
      simp [hn]
    refine ⟨cells[n], ?_⟩
    simp [tCell, ev, oSeq, oIfS, oRet, oOp2, oVar, oC, oCall, oCons, oNil, Out.bnd, Out.bnds, Out.bndb, optO, cmpF, fLt, BF.f, fLen, fIx, hl, hx]
  · refine ⟨0, ?_⟩
    simp [tCell, ev, oSeq, oIfS, oRet, oOp2, oVar, oC, oCall, oCons, oNil, Out.bnd, Out.bnds, Out.bndb, optO, cmpF, fLt, BF.f, fLen, fIx, hl, oNxt]
def primes : List Int := [1000003, 1000033, 1000037, 1000039, 1000081, 1000099, 1000117, 1000121, 1000133, 1000151, 1000159, 1000171, 1000183, 1000187, 1000193, 1000199]
theorem primes_at : ∀ n : Nat, n < 16 → ∃ p : Int, L2.atI (primes.map PyData.int) (n : Int) = some (.int p) ∧ 0 < p := by
  intro n hn
  have hx : n < primes.length := hn
  refine ⟨primes[n], ?_, ?_⟩
  · rw [atI_ok _ _ (by simpa using hx)]
    simp [hx]
  · have : ∀ p ∈ primes, 0 < p := by decide
    exact this _ (List.getElem_mem hx)
theorem w_small {i : Int} (h : -1000000000 ≤ i ∧ i ≤ 1000000000) : W64 i := ⟨by omega, by omega⟩
theorem draw_ok (h : Draws fs j) (k : Nat) (c i b : Int) (hb : 0 < b) : ∃ (v : Int) (r : Rho), calls fs (k + 1) (j + 1) [.val (.int c), .val (.int i), .val (.int b)] = .ret (.int v) r := by
  obtain ⟨f, e, hN, ht⟩ := h.d
  rw [calls_at e, hN, ht]
  obtain ⟨p, hp1, hp2⟩ := primes_at (i % 16).toNat (by omega)
  have e16 : (((i % 16).toNat : Nat) : Int) = i % 16 := by omega
  rw [e16] at hp1
  have w1 : W64 48271 := by decide
  have w2 : W64 69621 := by decide
  have hp1' : L2.atI [PyData.int 1000003, PyData.int 1000033, PyData.int 1000037, PyData.int 1000039, PyData.int 1000081, PyData.int 1000099, PyData.int 1000117, PyData.int 1000121, PyData.int 1000133, PyData.int 1000151, PyData.int 1000159, PyData.int 1000171, PyData.int 1000183, PyData.int 1000187, PyData.int 1000193, PyData.int 1000199] (i % 16) = some (.int p) := hp1
  simp [tDraw, ev, oSeq, oIfS, oRet, oSet, oOp2, oVar, oC, oCall, oCons, oNil, Out.bnd, Out.bnds, Out.bndb, optO, cmpF, binF, fAdd, fMul, fMod, BF.f, fInt, fTup, lim, fIx, w1, w2, hp1', hp2, hb]
theorem loop_ok {cl : Nat → O1} (c i b : Int) (x z : Slot) : ∀ (n : Nat) (ds : List D), ds.length = n → ∀ (s : Int) (l : Slot), 0 < s → ∃ l', forGo (gNm 4) (oSeq (oSet 3 (oOp2 fMul (oVar 3) (oC (.int 1009)))) oNxt) ds [.val (.int c), .val (.int i), .val (.int b), .val (.int s), l, x, z] = .nxt [.val (.int c), .val (.int i), .val (.int b), .val (.int (s * 1009 ^ n)), l', x, z]
  | 0, [], _, s, l, hs => ⟨l, by simp [forGo]⟩
  | n + 1, d :: ds, hl, s, l, hs => by
    have w : W64 1009 := by decide
    obtain ⟨l', e⟩ := loop_ok (cl := cl) c i b x z n ds (by simpa using hl) (s * 1009) (.val d) (by omega)
    refine ⟨l', ?_⟩
    have e2 : s * 1009 * 1009 ^ n = s * 1009 ^ (n + 1) := by rw [Int.pow_succ, Int.mul_assoc, Int.mul_comm 1009]
    rw [← e2, ← e]
    simp [forGo, gNm, oSeq, oSet, oOp2, oVar, oC, fMul, w, Out.bnd, optO, oNxt]
theorem scale_lt : ∀ n : Nat, n < 24 → (1 : Int) * 1009 ^ n < 2 ^ 250 ∧ 0 < (1 : Int) * 1009 ^ n := by decide
theorem number_ok (h : Draws fs j) (k : Nat) (c i b : Int) (hb : 0 < b) (hi : 0 ≤ i ∧ i ≤ 1000) : ∃ (v : Int) (r : Rho), 0 ≤ v ∧ v < b ∧ calls fs (k + 2) (j + 2) [.val (.int c), .val (.int i), .val (.int b)] = .ret (.int v) r := by
  obtain ⟨f, e, hN, ht⟩ := h.n
  rw [calls_at e, hN, ht]
  obtain ⟨l', hl⟩ := loop_ok (cl := calls fs (k + 1)) c i b .un .un (i % 24).toNat (rngD 0 (i % 24).toNat) (by simp [rngD]) 1 .un (by decide)
  obtain ⟨hs, hs0⟩ := scale_lt (i % 24).toNat (by omega)
  generalize (1 : Int) * 1009 ^ (i % 24).toNat = s at hl hs hs0
  have r1 : -4611686018427387904 ≤ i % 24 ∧ i % 24 < 4611686018427387904 := ⟨by omega, by omega⟩
  have hs' : s < 1809251394333065553493296640760748560207343510400633813116524750123642650624 := by simpa using hs
  have w10 : W64 10 := by decide
  have w977 : W64 977 := by decide
  have w31 : W64 31 := by decide
  by_cases hp : 0 < (c - 1000000000000000000) / s
  · refine ⟨((c - 1000000000000000000) / s) % 1009 % b, ?_⟩
    have h1 : 0 ≤ ((c - 1000000000000000000) / s) % 1009 % b := Int.emod_nonneg _ (by omega)
    have h2 : ((c - 1000000000000000000) / s) % 1009 % b < b := Int.emod_lt_of_pos _ hb
    simp [tNumber, ev, evG, oSeq, oIfS, oRet, oSet, oFor, oRng1, oOp2, oVar, oC, oCall, oCons, oNil, oNxt, Out.bnd, Out.bnds, Out.bndb, optO, cmpF, fGt, binF, fAdd, fSub, fMul, fMod, fDiv, fPow, BF.f, fInt, w10, r1, hl, hs', hs0, hp, hb, h1, h2]
  · obtain ⟨v, r', hv⟩ := draw_ok h k (((c % 1000003) + 977 * i) * ((c % 1000003) + 31 * i + 5)) (i % 9 + 1) 999983 (by decide)
    refine ⟨v % b, ?_⟩
    have h1 : 0 ≤ v % b := Int.emod_nonneg _ (by omega)
    have h2 : v % b < b := Int.emod_lt_of_pos _ hb
    have w1 : W64 ((c % 1000003) + 977 * i) := w_small (by omega)
    simp [tNumber, ev, evG, oSeq, oIfS, oRet, oSet, oFor, oRng1, oOp2, oVar, oC, oCall, oCons, oNil, oNxt, Out.bnd, Out.bnds, Out.bndb, optO, cmpF, fGt, binF, fAdd, fSub, fMul, fMod, fDiv, fPow, BF.f, fInt, w10, r1, hl, hs', hs0, hp, hb, h1, h2, oCallF, flT, refs, mkArgs, putBack, w977, w31, w1, hv]
theorem next_ok (h : Draws fs j) (k : Nat) (cells : List Int) (n : Nat) (b : Int) (hb : 0 < b) : ∃ (v : Int) (r : Rho), 0 ≤ v ∧ v < b ∧ calls fs (k + 3) (j + 3) [.io (.list [.list (cells.map .int), .int 0, .int n]), .val (.int b)] = .ret (.int v) (.io (.list [.list (cells.map .int), .int 0, .int (n + 1 : Nat)]) :: r) := by
  obtain ⟨f, e, hN, ht⟩ := h.x
  rw [calls_at e, hN, ht]
  obtain ⟨c, r1, hc⟩ := cell_ok h (k + 1) cells (((n : Int) + 1) / 12) (by omega)
  obtain ⟨v, r2, h1, h2, hv⟩ := number_ok h k (c + 31 * (((n : Int) + 1) / 12)) (((n : Int) + 1) % 12 + 1) b hb (by omega)
  refine ⟨v, ?_⟩
  have w31 : W64 31 := by decide
  simp [tNext, ev, oSeq, oRet, oSet, oPut, oPix, oOp2, oVar, oC, oCall, oCons, oNil, oNxt, Out.bnd, Out.bnds, Out.bndb, optO, binF, fAdd, fMul, fMod, fDiv, BF.f, fInt, oCallF, flT, refs, mkArgs, putBack, Slot.lst?, Slot.put, fIx, L2.atI, L2.ixN, w31, hc, hv, h1, h2]
end
end Py

/-! Py, part Y: plain laws of the combinators: comprehensions, loops. -/
namespace Py
open PySem

theorem wipe_get : ∀ (vs : List Nat) (r : Rho) (k : Nat), (wipeR r vs)[k]? = if k ∈ vs ∧ k < r.length then some .un else r[k]?
  | [], r, k => by simp [wipeR]
  | v :: vs, r, k => by
    unfold wipeR
    rw [List.getElem?_set]
    have hl : (wipeR r vs).length = r.length := by
      induction vs with
      | nil => rfl
      | cons w ws ih => unfold wipeR; rw [List.length_set]; exact ih
    rw [hl, wipe_get vs r k]
    by_cases h1 : v = k
    · subst h1
      by_cases h2 : v < r.length
      · simp [h2]
      · have : r[v]? = none := by simp; omega
        simp [h2, this]
    · rw [if_neg h1]
      have h1' : ¬ k = v := fun z => h1 z.symm
      simp [h1']
theorem wipe_len (r : Rho) : ∀ vs : List Nat, (wipeR r vs).length = r.length
  | [] => rfl
  | v :: vs => by unfold wipeR; rw [List.length_set]; exact wipe_len r vs
theorem rest_get (r0 : Rho) : ∀ (vs : List Nat) (r : Rho) (k : Nat), r.length = r0.length → (restR r0 r vs)[k]? = if k ∈ vs then r0[k]? else r[k]?
  | [], r, k, _ => by simp [restR]
  | v :: vs, r, k, hl => by
    have hl2 : (restR r0 r vs).length = r0.length := by
      rw [← hl]
      clear hl
      induction vs with
      | nil => rfl
      | cons w ws ih =>
        unfold restR
        cases r0[w]? with
        | none => exact ih
        | some s => rw [List.length_set]; exact ih
    have ih := rest_get r0 vs r k hl
    unfold restR
    cases e : r0[v]? with
    | none =>
      dsimp only
      rw [ih]
      by_cases h1 : k = v
      · subst h1
        have : r[k]? = none := by
          have := List.getElem?_eq_none_iff.mp e
          exact List.getElem?_eq_none_iff.mpr (by omega)
        simp [e, this]
      · simp [h1]
    | some s =>
      dsimp only
      rw [List.getElem?_set, hl2, ih]
      by_cases h1 : v = k
      · subst h1
        have := (List.getElem?_eq_some_iff.mp e).1
        rw [if_pos rfl, if_pos this, if_pos List.mem_cons_self, e]
      · rw [if_neg h1]
        simp [Ne.symm h1]
theorem rest_wipe (r : Rho) (vs : List Nat) : restR r (wipeR r vs) vs = r := by
  refine List.ext_getElem? fun k => ?_
  rw [rest_get r vs (wipeR r vs) k (wipe_len r vs), wipe_get]
  by_cases h : k ∈ vs
  · simp [h]
  · simp [h]
theorem lcIn_gen {vs : List Nat} {f : Bd} {t e : O1} {r : Rho} {p : D → Bool} {g : D → D} {st : D → Rho} : ∀ (ds : List D) (acc : List D), (∀ d ∈ ds, f d (wipeR r vs) = some (st d)) → (∀ d ∈ ds, wipeR (st d) vs = wipeR r vs) → (∀ d ∈ ds, t (st d) = .val (.bool (p d)) (st d)) →
    (∀ d ∈ ds, p d = true → e (st d) = .val (g d) (st d)) → acc.length + ds.length ≤ lim → lcIn vs f t e ds acc (wipeR r vs) = some (acc ++ (ds.filter p).map g, wipeR r vs)
  | [], acc, _, _, _, _, _ => by simp [lcIn]
  | d :: ds, acc, hf, hw, ht, he, hl => by
    have h0 := List.mem_cons_self (a := d) (l := ds)
    unfold lcIn
    rw [hf d h0]
    dsimp only
    rw [ht d h0]
    cases hp : p d with
    | false =>
      dsimp only
      rw [hw d h0, lcIn_gen ds acc (fun x h => hf x (List.mem_cons_of_mem _ h)) (fun x h => hw x (List.mem_cons_of_mem _ h)) (fun x h => ht x (List.mem_cons_of_mem _ h)) (fun x h => he x (List.mem_cons_of_mem _ h)) (by simp at hl; omega)]
      rw [List.filter_cons, hp]; rfl
    | true =>
      dsimp only
      rw [he d h0 hp]
      dsimp only
      rw [if_pos (by simp at hl; omega), hw d h0, lcIn_gen ds _ (fun x h => hf x (List.mem_cons_of_mem _ h)) (fun x h => hw x (List.mem_cons_of_mem _ h)) (fun x h => ht x (List.mem_cons_of_mem _ h)) (fun x h => he x (List.mem_cons_of_mem _ h)) (by simp at hl ⊢; omega)]
      rw [List.filter_cons, hp]; simp
/-- a comprehension that changes nothing -/
theorem oLc_gen {vs : List Nat} {it : O1} {f : Bd} {t e : O1} {r r1 : Rho} {ds : List D} {p : D → Bool} {g : D → D} {st : D → Rho} (hi : it r = .vals ds r1) (hok : okV r1 vs = true) (hf : ∀ d ∈ ds, f d (wipeR r1 vs) = some (st d)) (hw : ∀ d ∈ ds, wipeR (st d) vs = wipeR r1 vs)
    (ht : ∀ d ∈ ds, t (st d) = .val (.bool (p d)) (st d)) (he : ∀ d ∈ ds, p d = true → e (st d) = .val (g d) (st d)) (hl : ds.length ≤ lim) : oLc vs it f t e r = .val (.list ((ds.filter p).map g)) r1 := by
  unfold oLc
  rw [hi]
  show (if okV r1 vs = true then _ else _) = _
  rw [if_pos hok, lcIn_gen ds [] hf hw ht he (by simpa using hl)]
  show Out.val _ _ = _
  rw [rest_wipe]; rfl
theorem oLc_map {i : Nat} {it : O1} {e : O1} {r r1 : Rho} {ds : List D} {g : D → D} (hi : it r = .vals ds r1) (hok : okV r1 [i] = true) (he : ∀ d ∈ ds, e (r1.set i (.val d)) = .val (g d) (r1.set i (.val d))) (hl : ds.length ≤ lim) :
    oLc [i] it (gNm i) oYes e r = .val (.list (ds.map g)) r1 := by
  have := oLc_gen (vs := [i]) (it := it) (f := gNm i) (t := oYes) (e := e) (p := fun _ => true) (g := g) (st := fun d => r1.set i (.val d)) hi hok (fun d _ => by simp [gNm, wipeR]) (fun d _ => by simp [wipeR]) (fun _ _ => rfl) (fun d h _ => he d h) hl
  rw [this]
  congr 2
  rw [List.filter_eq_self.mpr fun _ _ => rfl]
theorem oLc_flt {i : Nat} {it t : O1} {e : O1} {r r1 : Rho} {ds : List D} {p : D → Bool} {g : D → D} (hi : it r = .vals ds r1) (hok : okV r1 [i] = true) (ht : ∀ d ∈ ds, t (r1.set i (.val d)) = .val (.bool (p d)) (r1.set i (.val d)))
    (he : ∀ d ∈ ds, p d = true → e (r1.set i (.val d)) = .val (g d) (r1.set i (.val d))) (hl : ds.length ≤ lim) : oLc [i] it (gNm i) t e r = .val (.list ((ds.filter p).map g)) r1 :=
  oLc_gen (vs := [i]) hi hok (fun d _ => by simp [gNm, wipeR]) (fun d _ => by simp [wipeR]) ht he hl
/-- all([..]), any([..]) of bools -/
theorem bls_map {α : Type} (f : α → Bool) (xs : List α) : blsOf (xs.map fun x => PyData.bool (f x)) = some (xs.map f) := by
  have := blsOf_map (xs.map f)
  rwa [List.map_map] at this
theorem fAll_map {α : Type} (f : α → Bool) (xs : List α) : fAll [.list (xs.map fun x => PyData.bool (f x))] = some (.bool (xs.all f)) := by
  show (blsOf (xs.map fun x => PyData.bool (f x))).map (fun ns => PyData.bool (ns.all id)) = _
  rw [bls_map]
  simp [Option.map]
theorem fAny_map {α : Type} (f : α → Bool) (xs : List α) : fAny [.list (xs.map fun x => PyData.bool (f x))] = some (.bool (xs.any f)) := by
  show (blsOf (xs.map fun x => PyData.bool (f x))).map (fun ns => PyData.bool (ns.any id)) = _
  rw [bls_map]
  simp [Option.map]
/-- equality of small things -/
theorem bEq_int (i j : Int) : bEq (.int i) (.int j) = some (decide (i = j)) := by
  simp [bEq, okD, PyData.plain, PyData.depth, PyData.eqv]
  rfl
theorem bNe_int (i j : Int) : bNe (.int i) (.int j) = some (!decide (i = j)) := by
  simp [bNe, okD, PyData.plain, PyData.depth, PyData.eqv]
  rfl
end Py

/-! Py, part Z: plain laws of whole numbers in rows. -/
namespace Py
open PySem

theorem plainAll_map {α : Type} {f : α → D} : ∀ {xs : List α}, (∀ x ∈ xs, (f x).plain = true) → PyData.plainAll (xs.map f) = true
  | [], _ => rfl
  | x :: xs, h => by
    show ((f x).plain && PyData.plainAll (xs.map f)) = true
    rw [h x List.mem_cons_self, plainAll_map fun y hy => h y (List.mem_cons_of_mem _ hy)]; rfl
theorem depthAll_map {α : Type} {f : α → D} {n : Nat} : ∀ {xs : List α}, (∀ x ∈ xs, (f x).depth ≤ n) → PyData.depthAll (xs.map f) ≤ n
  | [], _ => Nat.zero_le _
  | x :: xs, h => Nat.max_le.mpr ⟨h x List.mem_cons_self, depthAll_map fun y hy => h y (List.mem_cons_of_mem _ hy)⟩
/-- data of small depth -/
def sml (n : Nat) (d : D) : Prop := d.plain = true ∧ d.depth ≤ n
theorem sml_int (i : Int) : sml 0 (.int i) := ⟨rfl, Nat.le_refl _⟩
theorem sml_none : sml 0 .none := ⟨rfl, Nat.le_refl _⟩
theorem sml_bool (b : Bool) : sml 0 (.bool b) := ⟨rfl, Nat.le_refl _⟩
theorem sml_str (b : Str) : sml 0 (.str b) := ⟨rfl, Nat.le_refl _⟩
theorem sml.up {n m : Nat} {d : D} (h : sml n d) (l : n ≤ m) : sml m d := ⟨h.1, Nat.le_trans h.2 l⟩
theorem sml_tup {α : Type} {f : α → D} {n : Nat} {xs : List α} (h : ∀ x ∈ xs, sml n (f x)) : sml (n + 1) (.tuple (xs.map f)) :=
  ⟨plainAll_map fun x hx => (h x hx).1, Nat.succ_le_succ (depthAll_map fun x hx => (h x hx).2)⟩
theorem sml_lst {α : Type} {f : α → D} {n : Nat} {xs : List α} (h : ∀ x ∈ xs, sml n (f x)) : sml (n + 1) (.list (xs.map f)) :=
  ⟨plainAll_map fun x hx => (h x hx).1, Nat.succ_le_succ (depthAll_map fun x hx => (h x hx).2)⟩
theorem sml_tup2 {n : Nat} {a b : D} (ha : sml n a) (hb : sml n b) : sml (n + 1) (.tuple [a, b]) := sml_tup (f := id) (xs := [a, b]) fun x hx => by
  rcases List.mem_cons.mp hx with rfl | hx
  · exact ha
  · rw [List.mem_singleton.mp hx]; exact hb
theorem okD_sml {n : Nat} {d : D} (h : sml n d) (l : n ≤ 60) : okD d = true := by
  unfold okD
  rw [h.1, Bool.true_and, decide_eq_true_eq]
  exact Nat.le_trans h.2 l
theorem bNe_self {d : D} (h : okD d = true) : bNe d d = some false := by
  unfold bNe
  rw [if_pos ⟨h, h⟩, PySem.SeqAt.eqv_refl_plain d (okD_and h).1]; rfl
theorem bEq_self {d : D} (h : okD d = true) : bEq d d = some true := by
  unfold bEq
  rw [if_pos ⟨h, h⟩, PySem.SeqAt.eqv_refl_plain d (okD_and h).1]
theorem okD_ints (xs : List Int) : okD (.list (xs.map .int)) = true := okD_sml (sml_lst fun x _ => sml_int x) (by decide)
theorem okD_intsT (xs : List Int) : okD (.tuple (xs.map .int)) = true := okD_sml (sml_tup fun x _ => sml_int x) (by decide)
/-- is it the empty list? -/
theorem bEq_nil (xs : List D) (h : okD (.list xs) = true) : bEq (.list xs) (.list []) = some (decide (xs = [])) := by
  unfold bEq
  rw [if_pos ⟨h, rfl⟩]
  cases xs <;> rfl
theorem bNe_nil (xs : List D) (h : okD (.list xs) = true) : bNe (.list xs) (.list []) = some (!decide (xs = [])) := by
  unfold bNe
  rw [if_pos ⟨h, rfl⟩]
  cases xs <;> rfl
theorem okDs_ints (xs : List Int) : okDs (xs.map PyData.int) = true := by
  unfold okDs
  rw [plainAll_map fun x _ => rfl, Bool.true_and, Bool.and_eq_true, decide_eq_true_eq]
  refine ⟨depthAll_map fun x _ => Nat.zero_le _, ?_⟩
  unfold alikeB
  rw [Bool.and_eq_true, List.all_eq_true, List.all_eq_true]
  refine ⟨fun x hx => List.all_eq_true.mpr fun y hy => ?_, fun x hx => ?_⟩
  · obtain ⟨i, _, rfl⟩ := List.mem_map.mp hx
    obtain ⟨j, _, rfl⟩ := List.mem_map.mp hy
    rfl
  · obtain ⟨i, _, rfl⟩ := List.mem_map.mp hx
    rfl
theorem max_ints (x : Int) (xs : List Int) : fMax [.list (.int x :: xs.map .int)] = some (.int (xs.foldl max x)) := by
  show (if okDs (PyData.int x :: xs.map .int) = true then some (PySem.W.maxD (.int x) (xs.map .int)) else none) = _
  rw [if_pos (show okDs (PyData.int x :: xs.map .int) = true from okDs_ints (x :: xs)), PySem.W.maxD_ints]
theorem min_ints (x : Int) (xs : List Int) : fMin [.list (.int x :: xs.map .int)] = some (.int (xs.foldl min x)) := by
  show (if okDs (PyData.int x :: xs.map .int) = true then some (PySem.W.minD (.int x) (xs.map .int)) else none) = _
  rw [if_pos (show okDs (PyData.int x :: xs.map .int) = true from okDs_ints (x :: xs)), PySem.W.minD_ints]
theorem place_ints (xs : List Int) (v : Int) : SeqAt.dataPlace (xs.map .int) (.int v) = xs.findIdx? fun y => y == v := by
  unfold SeqAt.dataPlace
  rw [List.findIdx?_map]
  rfl
/-! the greatest, the least -/
theorem le_foldmax (x : Int) : ∀ xs : List Int, x ≤ xs.foldl max x
  | [] => Int.le_refl _
  | y :: ys => Int.le_trans (Int.le_max_left x y) (le_foldmax (max x y) ys)
theorem mem_le_foldmax : ∀ (xs : List Int) (x y : Int), y ∈ xs → y ≤ xs.foldl max x
  | z :: zs, x, y, h => by
    rcases List.mem_cons.mp h with rfl | h
    · exact Int.le_trans (Int.le_max_right x y) (le_foldmax (max x y) zs)
    · exact mem_le_foldmax zs (max x z) y h
theorem foldmax_mem : ∀ (xs : List Int) (x : Int), xs.foldl max x = x ∨ xs.foldl max x ∈ xs
  | [], x => .inl rfl
  | z :: zs, x => by
    rw [List.foldl_cons]
    rcases foldmax_mem zs (max x z) with h | h
    · rw [h]
      by_cases e : x ≤ z
      · exact .inr (by rw [Int.max_eq_right e]; exact List.mem_cons_self)
      · exact .inl (by rw [Int.max_eq_left (by omega)])
    · exact .inr (List.mem_cons_of_mem _ h)
theorem foldmin_le (x : Int) : ∀ xs : List Int, xs.foldl min x ≤ x
  | [] => Int.le_refl _
  | y :: ys => Int.le_trans (foldmin_le (min x y) ys) (Int.min_le_left x y)
theorem foldmin_le_mem : ∀ (xs : List Int) (x y : Int), y ∈ xs → xs.foldl min x ≤ y
  | z :: zs, x, y, h => by
    rcases List.mem_cons.mp h with rfl | h
    · exact Int.le_trans (foldmin_le (min x y) zs) (Int.min_le_right x y)
    · exact foldmin_le_mem zs (min x z) y h
theorem foldmin_mem : ∀ (xs : List Int) (x : Int), xs.foldl min x = x ∨ xs.foldl min x ∈ xs
  | [], x => .inl rfl
  | z :: zs, x => by
    rw [List.foldl_cons]
    rcases foldmin_mem zs (min x z) with h | h
    · rw [h]
      by_cases e : z ≤ x
      · exact .inr (by rw [Int.min_eq_right e]; exact List.mem_cons_self)
      · exact .inl (by rw [Int.min_eq_left (by omega)])
    · exact .inr (List.mem_cons_of_mem _ h)
/-! a comprehension over coded items -/
theorem lcIn_enc {α : Type} {en : α → D} {vs : List Nat} {f : Bd} {t e : O1} {r : Rho} {p : α → Bool} {g : α → D} {st : α → Rho} : ∀ (ds : List α) (acc : List D), (∀ d ∈ ds, f (en d) (wipeR r vs) = some (st d)) → (∀ d ∈ ds, wipeR (st d) vs = wipeR r vs) → (∀ d ∈ ds, t (st d) = .val (.bool (p d)) (st d)) →
    (∀ d ∈ ds, p d = true → e (st d) = .val (g d) (st d)) → acc.length + ds.length ≤ lim → lcIn vs f t e (ds.map en) acc (wipeR r vs) = some (acc ++ (ds.filter p).map g, wipeR r vs)
  | [], acc, _, _, _, _, _ => by simp [lcIn]
  | d :: ds, acc, hf, hw, ht, he, hl => by
    have h0 := List.mem_cons_self (a := d) (l := ds)
    rw [List.map_cons]
    unfold lcIn
    rw [hf d h0]
    dsimp only
    rw [ht d h0]
    cases hp : p d with
    | false =>
      dsimp only
      rw [hw d h0, lcIn_enc ds acc (fun x h => hf x (List.mem_cons_of_mem _ h)) (fun x h => hw x (List.mem_cons_of_mem _ h)) (fun x h => ht x (List.mem_cons_of_mem _ h)) (fun x h => he x (List.mem_cons_of_mem _ h)) (by simp at hl; omega)]
      rw [List.filter_cons, hp]; rfl
    | true =>
      dsimp only
      rw [he d h0 hp]
      dsimp only
      rw [if_pos (by simp at hl; omega), hw d h0, lcIn_enc ds _ (fun x h => hf x (List.mem_cons_of_mem _ h)) (fun x h => hw x (List.mem_cons_of_mem _ h)) (fun x h => ht x (List.mem_cons_of_mem _ h)) (fun x h => he x (List.mem_cons_of_mem _ h)) (by simp at hl ⊢; omega)]
      rw [List.filter_cons, hp]; simp
theorem oLc_enc {α : Type} {en : α → D} {vs : List Nat} {it : O1} {f : Bd} {t e : O1} {r r1 : Rho} (ds : List α) {p : α → Bool} {g : α → D} {st : α → Rho} (hi : it r = .vals (ds.map en) r1) (hok : okV r1 vs = true) (hf : ∀ d ∈ ds, f (en d) (wipeR r1 vs) = some (st d)) (hw : ∀ d ∈ ds, wipeR (st d) vs = wipeR r1 vs)
    (ht : ∀ d ∈ ds, t (st d) = .val (.bool (p d)) (st d)) (he : ∀ d ∈ ds, p d = true → e (st d) = .val (g d) (st d)) (hl : ds.length ≤ lim) : oLc vs it f t e r = .val (.list ((ds.filter p).map g)) r1 := by
  unfold oLc
  rw [hi]
  show (if okV r1 vs = true then _ else _) = _
  rw [if_pos hok, lcIn_enc ds [] hf hw ht he (by simpa using hl)]
  show Out.val _ _ = _
  rw [rest_wipe]; rfl
/-- [e for i in ..], [e for i in .. if t] -/
theorem oLc_1 {α : Type} {en : α → D} {i : Nat} {it t : O1} {e : O1} {r r1 : Rho} (ds : List α) {p : α → Bool} {g : α → D} (hi : it r = .vals (ds.map en) r1) (hok : okV r1 [i] = true) (ht : ∀ d ∈ ds, t (r1.set i (.val (en d))) = .val (.bool (p d)) (r1.set i (.val (en d))))
    (he : ∀ d ∈ ds, p d = true → e (r1.set i (.val (en d))) = .val (g d) (r1.set i (.val (en d)))) (hl : ds.length ≤ lim) : oLc [i] it (gNm i) t e r = .val (.list ((ds.filter p).map g)) r1 :=
  oLc_enc (en := en) (vs := [i]) ds hi hok (fun d _ => by simp [gNm, wipeR]) (fun d _ => by simp [wipeR]) ht he hl
theorem oLc_1y {α : Type} {en : α → D} {i : Nat} {it : O1} {e : O1} {r r1 : Rho} (ds : List α) {g : α → D} (hi : it r = .vals (ds.map en) r1) (hok : okV r1 [i] = true)
    (he : ∀ d ∈ ds, e (r1.set i (.val (en d))) = .val (g d) (r1.set i (.val (en d)))) (hl : ds.length ≤ lim) : oLc [i] it (gNm i) oYes e r = .val (.list (ds.map g)) r1 := by
  have := oLc_1 (en := en) (p := fun _ => true) (t := oYes) ds hi hok (fun _ _ => rfl) (fun d h _ => he d h) hl
  rw [this]
  congr 2
  rw [List.filter_eq_self.mpr fun _ _ => rfl]
/-- [e for i, j in .. if t] -/
theorem oLc_2 {α : Type} {ea eb : α → D} {i j : Nat} {it t : O1} {e : O1} {r r1 : Rho} (ds : List α) {p : α → Bool} {g : α → D} (hi : it r = .vals (ds.map fun d => .tuple [ea d, eb d]) r1) (hij : i ≠ j) (hok : okV r1 [i, j] = true)
    (ht : ∀ d ∈ ds, t ((r1.set i (.val (ea d))).set j (.val (eb d))) = .val (.bool (p d)) ((r1.set i (.val (ea d))).set j (.val (eb d))))
    (he : ∀ d ∈ ds, p d = true → e ((r1.set i (.val (ea d))).set j (.val (eb d))) = .val (g d) ((r1.set i (.val (ea d))).set j (.val (eb d)))) (hl : ds.length ≤ lim) :
    oLc [i, j] it (gTup0 2 (gCons0 (gNm i) (gCons0 (gNm j) gNil0))) t e r = .val (.list ((ds.filter p).map g)) r1 :=
  oLc_enc (en := fun d => .tuple [ea d, eb d]) (vs := [i, j]) (st := fun d => (r1.set i (.val (ea d))).set j (.val (eb d))) ds hi hok (fun d _ => by
      simp only [gNm, wipeR, gTup0, kOf, gCons0, gNil0, List.length_cons, List.length_nil, Option.bind, if_true, List.set_set]
      rw [List.set_comm _ _ (Ne.symm hij), List.set_set, List.set_comm _ _ hij]) (fun d _ => by
      simp only [wipeR, List.set_set]
      rw [List.set_comm _ _ (Ne.symm hij), List.set_set, List.set_comm _ _ hij]) ht he hl
theorem oLc_2y {α : Type} {ea eb : α → D} {i j : Nat} {it : O1} {e : O1} {r r1 : Rho} (ds : List α) {g : α → D} (hi : it r = .vals (ds.map fun d => .tuple [ea d, eb d]) r1) (hij : i ≠ j) (hok : okV r1 [i, j] = true)
    (he : ∀ d ∈ ds, e ((r1.set i (.val (ea d))).set j (.val (eb d))) = .val (g d) ((r1.set i (.val (ea d))).set j (.val (eb d)))) (hl : ds.length ≤ lim) :
    oLc [i, j] it (gTup0 2 (gCons0 (gNm i) (gCons0 (gNm j) gNil0))) oYes e r = .val (.list (ds.map g)) r1 := by
  have := oLc_2 (p := fun _ => true) (t := oYes) ds hi hij hok (fun _ _ => rfl) (fun d h _ => he d h) hl
  rw [this]
  congr 2
  rw [List.filter_eq_self.mpr fun _ _ => rfl]
/-! zip, enumerate, range of coded items -/
theorem zip_ints (xs ys : List Int) : zipD (xs.map .int) (ys.map .int) = (xs.zip ys).map fun p => PyData.tuple [.int p.1, .int p.2] := by
  unfold zipD
  rw [List.zip_map, List.map_map]
  rfl
theorem enum_map {α : Type} (en : α → D) : ∀ (xs : List α) (n : Nat), enumD n (xs.map en) = (xs.zipIdx n).map fun p => PyData.tuple [.int (p.2 : Nat), en p.1]
  | [], _ => rfl
  | x :: xs, n => by
    rw [List.map_cons, List.zipIdx_cons, List.map_cons]
    show _ :: enumD (n + 1) (xs.map en) = _
    rw [enum_map en xs (n + 1)]
theorem rng0 (n : Nat) : rngD 0 n = (List.range n).map fun i : Nat => PyData.int (i : Nat) := by
  unfold rngD
  refine List.map_congr_left fun i _ => ?_
  rw [Int.zero_add]
/-! for, by going along -/
theorem forGo_enc {α : Type} {en : α → D} {f : Bd} {b : O1} (P : List α → Rho → Prop) : ∀ (xs pre : List α) (r : Rho), P pre r →
    (∀ pre x post r, pre ++ x :: post = pre ++ x :: post → P pre r → ∃ r1 r2, f (en x) r = some r1 ∧ (b r1 = .nxt r2 ∨ b r1 = .cnt r2) ∧ P (pre ++ [x]) r2) → ∃ r', forGo f b (xs.map en) r = .nxt r' ∧ P (pre ++ xs) r'
  | [], pre, r, h0, _ => ⟨r, rfl, by rwa [List.append_nil]⟩
  | x :: xs, pre, r, h0, h => by
    obtain ⟨r1, r2, e1, e2, h2⟩ := h pre x xs r rfl h0
    obtain ⟨r', e3, h3⟩ := forGo_enc P xs (pre ++ [x]) r2 h2 h
    refine ⟨r', ?_, by simpa using h3⟩
    rw [List.map_cons]
    unfold forGo
    rw [e1]
    rcases e2 with e2 | e2
    · dsimp only; rw [e2]; exact e3
    · dsimp only; rw [e2]; exact e3
/-- steps one after the other -/
theorem seq_nxt {a b : O1} {r r1 : Rho} (h : a r = .nxt r1) : oSeq a b r = b r1 := by
  unfold oSeq
  rw [h]
theorem seq_skp {a : O1} {r r1 : Rho} (h : a r = .nxt r1) : oSeq a oNxt r = .nxt r1 := seq_nxt h
theorem seq_ret {a b : O1} {r r1 : Rho} {d : D} (h : a r = .ret d r1) : oSeq a b r = .ret d r1 := by
  unfold oSeq
  rw [h]
theorem ifs_f {t a : O1} {r r1 : Rho} (h : t r = .val (.bool false) r1) : oIfS t a oNxt r = .nxt r1 := by
  unfold oIfS
  rw [h]; rfl
theorem or_f {a b : O1} {r r1 r2 : Rho} (h1 : a r = .val (.bool false) r1) (h2 : b r1 = .val (.bool false) r2) : oOr a b r = .val (.bool false) r2 := by
  unfold oOr
  rw [h1]
  exact h2
theorem or_f0 {a b : O1} {r : Rho} (h1 : a r = .val (.bool false) r) (h2 : b r = .val (.bool false) r) : oOr a b r = .val (.bool false) r := or_f h1 h2
theorem and_t0 {a b : O1} {r : Rho} (h1 : a r = .val (.bool true) r) (h2 : b r = .val (.bool true) r) : oAnd a b r = .val (.bool true) r := by
  unfold oAnd
  rw [h1]
  exact h2
theorem ne_self {a b : O1} {r r1 r2 : Rho} {d : D} (h1 : a r = .val d r1) (h2 : b r1 = .val d r2) (ok : okD d = true) : oOp2 (ofB bNe) a b r = .val (.bool false) r2 := by
  unfold oOp2
  rw [h1]
  show (b r1).bnd _ = _
  rw [h2]
  show optO ((bNe d d).map _) r2 = _
  rw [bNe_self ok]; rfl
theorem eq_self {a b : O1} {r r1 r2 : Rho} {d : D} (h1 : a r = .val d r1) (h2 : b r1 = .val d r2) (ok : okD d = true) : oOp2 (ofB bEq) a b r = .val (.bool true) r2 := by
  unfold oOp2
  rw [h1]
  show (b r1).bnd _ = _
  rw [h2]
  show optO ((bEq d d).map _) r2 = _
  rw [bEq_self ok]; rfl
theorem forGo_nxt {f : Bd} {b : O1} {d : D} {ds : List D} {r r1 r2 : Rho} (hf : f d r = some r1) (hb : b r1 = .nxt r2) : forGo f b (d :: ds) r = forGo f b ds r2 := by
  rw [forGo]
  dsimp only
  rw [hf]
  dsimp only
  rw [hb]
theorem forGo_ret {f : Bd} {b : O1} {d e : D} {ds : List D} {r r1 r2 : Rho} (hf : f d r = some r1) (hb : b r1 = .ret e r2) : forGo f b (d :: ds) r = .ret e r2 := by
  rw [forGo]
  dsimp only
  rw [hf]
  dsimp only
  rw [hb]
/-! the first greatest, by going along -/
def scanM : List Int → Nat → Int → Option Nat → Int × Option Nat
  | [], _, b, s => (b, s)
  | x :: xs, n, b, s => if x > b then scanM xs (n + 1) x (some n) else scanM xs (n + 1) b s
theorem scan_val : ∀ (xs : List Int) (n : Nat) (b : Int) (s : Option Nat), (scanM xs n b s).1 = xs.foldl max b
  | [], _, _, _ => rfl
  | x :: xs, n, b, s => by
    rw [scanM, List.foldl_cons]
    by_cases h : x > b
    · rw [if_pos h, scan_val, Int.max_eq_right (by omega)]
    · rw [if_neg h, scan_val, Int.max_eq_left (by omega)]
theorem scan_spot : ∀ (xs : List Int) (n : Nat) (b : Int) (s : Option Nat), (scanM xs n b s).2 = if xs.foldl max b = b then s else (xs.findIdx? fun y => y == xs.foldl max b).map (· + n)
  | [], _, _, _ => by simp [scanM]
  | x :: xs, n, b, s => by
    rw [scanM, List.foldl_cons, List.findIdx?_cons]
    by_cases h : x > b
    · rw [if_pos h, scan_spot, Int.max_eq_right (by omega)]
      have h1 := le_foldmax x xs
      rw [if_neg (show ¬ xs.foldl max x = b by omega)]
      by_cases e : xs.foldl max x = x
      · rw [if_pos e, e]; simp
      · rw [if_neg e, if_neg (by simpa using Ne.symm e), Option.map_map]
        congr 1
        funext i
        show i + (n + 1) = i + 1 + n
        omega
    · rw [if_neg h, scan_spot, Int.max_eq_left (by omega)]
      by_cases e : xs.foldl max b = b
      · rw [if_pos e, if_pos e]
      · have h1 := le_foldmax b xs
        rw [if_neg e, if_neg e, if_neg (by simp; omega), Option.map_map]
        congr 1
        funext i
        show i + (n + 1) = i + 1 + n
        omega
/-- sums so far -/
def psum : Int → List Int → List Int
  | _, [] => []
  | s, x :: xs => (s + x) :: psum (s + x) xs
theorem psum_len : ∀ (xs : List Int) (s : Int), (psum s xs).length = xs.length
  | [], _ => rfl
  | x :: xs, s => by simp [psum, psum_len xs]
end Py

/-! Py, part Sx: rules that read a term off, step by step. -/
namespace Py
open PySem

structure Ev (cl : Nat → O1) (t : T) (r : Rho) (d : D) : Prop where
  h : ev cl t r = .val d r
structure EvA (cl : Nat → O1) (t : T) (r : Rho) (ds : List D) : Prop where
  h : ev cl t r = .vals ds r
/-- what is walked, coded -/
structure EvI {α : Type} (cl : Nat → O1) (t : T) (r : Rho) (en : α → D) (xs : List α) : Prop where
  h : ev cl t r = .vals (xs.map en) r
structure EvP (cl : Nat → O1) (t : T) (r : Rho) (o : Option Int) : Prop where
  h : ev cl t r = .val (match o with | none => .none | some i => .int i) r
structure Ff (cl : Nat → O1) (t : T) (r : Rho) : Prop where
  h : ev cl t r = .val (.bool false) r
structure Tt (cl : Nat → O1) (t : T) (r : Rho) : Prop where
  h : ev cl t r = .val (.bool true) r
def Sn (cl : Nat → O1) (t : T) (r r' : Rho) : Prop := ev cl t r = .nxt r'
section
variable {cl : Nat → O1} {r r1 r' : Rho} {t a b k as : T} {x y z g d : D} {ds : List D} {o : Operator} {c c' : CmpOp} {p q : Bool}
theorem Ev.var {i : Nat} (h : r[i]? = some (.val d)) : Ev cl (.var i) r d := by
  constructor
  show oVar i r = _
  unfold oVar; rw [h]
theorem Ev.varZ {i : Nat} (h : r[i]? = some (.fz d)) : Ev cl (.var i) r d := by
  constructor
  show oVar i r = _
  unfold oVar; rw [h]
theorem Ev.cst : Ev cl (.cst d) r d := ⟨rfl⟩
theorem Ev.glo : Ev cl (.glo d) r d := ⟨rfl⟩
theorem op2_v {f : D → D → Option D} {a b : O1} {r r1 r2 : Rho} {d e g : D} (ha : a r = .val d r1) (hb : b r1 = .val e r2) (hf : f d e = some g) : oOp2 f a b r = .val g r2 := by
  unfold oOp2
  rw [ha]
  show (b r1).bnd _ = _
  rw [hb]
  show optO (f d e) r2 = _
  rw [hf]; rfl
theorem Ev.bin (ha : Ev cl a r x) (hb : Ev cl b r y) (hf : binF o x y = some g) : Ev cl (.bin o a b) r g := ⟨op2_v ha.h hb.h hf⟩
theorem Ev.cmp (ha : Ev cl a r x) (hb : Ev cl b r y) (hf : cmpF c x y = some g) : Ev cl (.cmp c a b) r g := ⟨op2_v ha.h hb.h hf⟩
theorem Ev.ix (ha : Ev cl a r x) (hb : Ev cl b r y) (hf : fIx x y = some g) : Ev cl (.ix a b) r g := ⟨op2_v ha.h hb.h hf⟩
theorem Ev.chn (ha : Ev cl a r x) (hb : Ev cl b r y) (hk : Ev cl k r z) (h1 : cmpF c x y = some (.bool p)) (h2 : cmpF c' y z = some (.bool q)) : Ev cl (.chn c c' a b k) r (.bool (p && q)) := by
  constructor
  show oChain _ _ _ _ _ r = _
  unfold oChain
  rw [ha.h]
  show (ev cl b r).bnd _ = _
  rw [hb.h]
  show (optO (cmpF c x y) r).bndb _ = _
  rw [h1]
  cases p with
  | false => rfl
  | true =>
    show (ev cl k r).bnd _ = _
    rw [hk.h]
    show optO (cmpF c' y z) r = _
    rw [h2]; rfl
theorem Ev.neg {i : Int} (ha : Ev cl a r (.int i)) : Ev cl (.neg a) r (.int (-i)) := by
  constructor
  show oOp1 fNeg _ r = _
  unfold oOp1
  rw [ha.h]; rfl
theorem Ev.inv (ha : Ev cl a r (.bool p)) : Ev cl (.inv a) r (.bool (!p)) := by
  constructor
  show oNot _ r = _
  unfold oNot
  rw [ha.h]; rfl
theorem Ev.b1 (ha : Ev cl a r x) : Ev cl (.b1 a) r x := ⟨ha.h⟩
theorem Ev.and (ha : Ev cl a r (.bool p)) (hb : p = true → Ev cl b r (.bool q)) : Ev cl (.b2 .And a b) r (.bool (p && q)) := by
  constructor
  show oAnd _ _ r = _
  unfold oAnd
  rw [ha.h]
  cases p with
  | false => rfl
  | true => exact (hb rfl).h
theorem Ev.or (ha : Ev cl a r (.bool p)) (hb : p = false → Ev cl b r (.bool q)) : Ev cl (.b2 .Or a b) r (.bool (p || q)) := by
  constructor
  show oOr _ _ r = _
  unfold oOr
  rw [ha.h]
  cases p with
  | false => exact (hb rfl).h
  | true => rfl
theorem Ev.ife (ht : Ev cl t r (.bool p)) (ha : p = true → Ev cl a r x) (hb : p = false → Ev cl b r y) (hg : (if p = true then x else y) = g) : Ev cl (.ife t a b) r g := by
  constructor
  show oIf _ _ _ r = _
  unfold oIf
  rw [ht.h]
  cases p with
  | false => subst hg; exact (hb rfl).h
  | true => subst hg; exact (ha rfl).h
theorem Ev.ifeT (ht : Tt cl t r) (ha : Ev cl a r x) : Ev cl (.ife t a b) r x := by
  constructor
  show oIf _ _ _ r = _
  unfold oIf
  rw [ht.h]; exact ha.h
theorem Ev.ifeF (ht : Ff cl t r) (hb : Ev cl b r x) : Ev cl (.ife t a b) r x := by
  constructor
  show oIf _ _ _ r = _
  unfold oIf
  rw [ht.h]; exact hb.h
theorem ifi {i j : Int} : (if p = true then PyData.int i else .int j) = .int (if p = true then i else j) := by cases p <;> rfl
theorem ifb {i j : Bool} : (if p = true then PyData.bool i else .bool j) = .bool (if p = true then i else j) := by cases p <;> rfl
theorem callv {f : List D → Option D} {a : O1} (ha : a r = .vals ds r1) (hf : f ds = some g) : oCall f a r = .val g r1 := by
  unfold oCall
  rw [ha]
  show optO (f ds) r1 = _
  rw [hf]; rfl
theorem cons_v {a t : O1} {r2 : Rho} (h1 : a r = .val x r1) (h2 : t r1 = .vals ds r2) : oCons a t r = .vals (x :: ds) r2 := by
  unfold oCons
  rw [h1]
  show (t r1).bnds _ = _
  rw [h2]; rfl
theorem Ev.tup (ha : EvA cl as r ds) (hl : ds.length ≤ lim) : Ev cl (.tup as) r (.tuple ds) := ⟨callv ha.h (if_pos hl)⟩
theorem Ev.lst (ha : EvA cl as r ds) (hl : ds.length ≤ lim) : Ev cl (.lst as) r (.list ds) := ⟨callv ha.h (if_pos hl)⟩
theorem Ev.bi {f : BF} (ha : EvA cl as r ds) (hf : f.f ds = some g) : Ev cl (.bi f as) r g := ⟨callv ha.h hf⟩
theorem EvA.nil : EvA cl .nil r [] := ⟨rfl⟩
theorem EvA.con (ha : Ev cl a r x) (ht : EvA cl t r ds) : EvA cl (.con a t) r (x :: ds) := by
  constructor
  show oCons _ _ r = _
  unfold oCons
  rw [ha.h]
  show (ev cl t r).bnds _ = _
  rw [ht.h]; rfl
theorem EvA.stx {kk : SK} {xs : List D} (ha : Ev cl a r x) (hk : kOf x = some (kk, xs)) (ht : EvA cl t r ds) : EvA cl (.stx a t) r (xs ++ ds) := by
  constructor
  show oStar _ _ r = _
  unfold oStar
  rw [ha.h]
  show (match kOf x with | some (_, xs) => (ev cl t r).bnds _ | none => _) = _
  rw [hk]
  show (ev cl t r).bnds _ = _
  rw [ht.h]; rfl
theorem Ev.isa {s : Ty} (ha : Ev cl a r x) : Ev cl (.isa s a) r (.bool (isaB s x)) := by
  constructor
  show oOp1 (fIsa s) _ r = _
  unfold oOp1
  rw [ha.h]; rfl
theorem Ev.cal {j : Nat} (ha : EvA cl as r ds) (hf : flT as = ds.map fun _ => none) (hg : retD (cl j (ds.map .val)) = some g) : Ev cl (.cal j as) r g := ⟨callF ha.h hf hg⟩
theorem Ev.plc {e : T} {xs : List D} (ha : Ev cl a r (.list xs)) (he : Ev cl e r y) (hf : fPlace xs y = some g) : Ev cl (.plc a e) r g := by
  constructor
  show oPlace _ _ r = _
  unfold oPlace
  rw [ha.h]
  show (ev cl e r).bnd _ = _
  rw [he.h]
  show optO (fPlace xs y) r = _
  rw [hf]; rfl
theorem Ev.plt {i : Nat} {e : T} {xs : List D} (h : r[i]? = some (.fz (.tuple xs))) (he : Ev cl e r y) (hf : fPlaceT xs y = some g) : Ev cl (.plt i e) r g := by
  constructor
  show oPlt _ _ r = _
  unfold oPlt
  rw [h]
  dsimp only
  rw [he.h]
  show optO (fPlaceT xs y) r = _
  rw [hf]; rfl
theorem EvP.nop : EvP cl .nop r none := ⟨rfl⟩
theorem EvP.pt {i : Int} (ha : Ev cl a r (.int i)) : EvP cl (.pt a) r (some i) := by
  constructor
  show oPart _ r = _
  unfold oPart
  rw [ha.h]; rfl
theorem Ev.sl {lo hi : T} {l h : Option Int} (ha : Ev cl a r x) (hl : EvP cl lo r l) (hh : EvP cl hi r h) (hf : fSl x l h = some g) : Ev cl (.sl a lo hi) r g := by
  constructor
  show oSl _ _ _ r = _
  unfold oSl
  rw [ha.h]
  show (ev cl lo r).bnd _ = _
  rw [hl.h]
  cases l <;> (
    show (ev cl hi r).bnd _ = _
    rw [hh.h]
    cases h <;> (
      show optO (fSl x _ _) r = _
      rw [hf]; rfl))
theorem Ev.pix {i : Nat} {xs : List D} (h : r[i]?.bind Slot.lst? = some xs) (hk : Ev cl k r y) (hf : fIx (.list xs) y = some g) : Ev cl (.pix i k) r g := by
  constructor
  show oPix _ _ r = _
  unfold oPix
  rw [h]
  dsimp only
  rw [hk.h]
  show (match r[i]?.bind Slot.lst? with | some ds => optO (fIx (.list ds) y) r | none => .bad) = _
  rw [h]
  dsimp only
  rw [hf]; rfl
theorem Ev.pln {i : Nat} {xs : List D} (h : r[i]?.bind Slot.lst? = some xs) : Ev cl (.pln i) r (.int xs.length) := by
  constructor
  show oPlen _ r = _
  unfold oPlen
  rw [h]
/-! what is walked -/
section
variable {α β : Type} {en : α → D} {eb : β → D} {xs : List α} {ys : List β}
theorem EvI.lst (ha : Ev cl a r (.list (xs.map en))) : EvI cl (.itr a) r en xs := by
  constructor
  show oIt _ r = _
  unfold oIt
  rw [ha.h]; rfl
theorem EvI.tup (ha : Ev cl a r (.tuple (xs.map en))) : EvI cl (.itr a) r en xs := by
  constructor
  show oIt _ r = _
  unfold oIt
  rw [ha.h]; rfl
theorem EvI.few {ds : List D} (ha : Ev cl a r (.tuple ds)) : EvI cl (.itr a) r id ds := by
  constructor
  show oIt _ r = _
  unfold oIt
  rw [ha.h, List.map_id]; rfl
theorem EvI.fewL {ds : List D} (ha : Ev cl a r (.list ds)) : EvI cl (.itr a) r id ds := by
  constructor
  show oIt _ r = _
  unfold oIt
  rw [ha.h, List.map_id]; rfl
abbrev eN (i : Nat) : D := .int (i : Nat)
abbrev eI (i : Int) : D := .int i
theorem p62 : (2 : Int) ^ 62 = 4611686018427387904 := by decide
theorem rgc {n : Int} (h1 : -1000000 ≤ n) (h2 : n ≤ 1000000) : -(2 ^ 62) ≤ n ∧ n < 2 ^ 62 := by rw [p62]; exact ⟨by omega, by omega⟩
theorem rng1_go {a : O1} {n : Int} (h : a r = .vals [.int n] r) (h1 : -1000000 ≤ n) (h2 : n ≤ 1000000) : oRng1 a r = .vals (rngD 0 n.toNat) r := by
  unfold oRng1
  rw [h]
  exact if_pos (rgc h1 h2)
theorem rng2_go {a : O1} {m n : Int} (h : a r = .vals [.int m, .int n] r) (h1 : -1000000 ≤ m) (h2 : m ≤ 1000000) (h3 : -1000000 ≤ n) (h4 : n ≤ 1000000) : oRng2 a r = .vals (rngD m (n - m).toNat) r := by
  unfold oRng2
  rw [h]
  exact if_pos ⟨rgc h1 h2, rgc h3 h4⟩
theorem EvI.rg1 {n : Nat} (ha : Ev cl a r (.int (n : Nat))) (hl : n ≤ lim) : EvI cl (.rg1 (.con a .nil)) r eN (List.range n) := by
  constructor
  have h1 : ev cl (.con a .nil) r = .vals [.int (n : Nat)] r := (EvA.con ha .nil).h
  have hl' : n ≤ 1000000 := hl
  refine (rng1_go h1 (by omega) (by omega)).trans ?_
  have e : ((n : Nat) : Int).toNat = n := by omega
  rw [e, rng0]
theorem EvI.rg1i {n : Int} (ha : Ev cl a r (.int n)) (hl : n ≤ 1000000) (hm : -1000000 ≤ n) : EvI cl (.rg1 (.con a .nil)) r eN (List.range n.toNat) := by
  constructor
  have h1 : ev cl (.con a .nil) r = .vals [.int n] r := (EvA.con ha .nil).h
  refine (rng1_go h1 hm hl).trans ?_
  rw [rng0]
theorem EvI.rg2 {m n : Int} (ha : Ev cl a r (.int m)) (hb : Ev cl b r (.int n)) (h1 : -1000000 ≤ m ∧ m ≤ 1000000) (h2 : -1000000 ≤ n ∧ n ≤ 1000000) : EvI cl (.rg2 (.con a (.con b .nil))) r (fun i : Nat => .int (m + (i : Nat))) (List.range (n - m).toNat) := by
  have h0 : ev cl (.con a (.con b .nil)) r = .vals [.int m, .int n] r := (EvA.con ha (.con hb .nil)).h
  exact ⟨rng2_go h0 h1.1 h1.2 h2.1 h2.2⟩
theorem EvI.zip {k1 k2 : SK} (ha : Ev cl a r x) (hb : Ev cl b r y) (h1 : kOf x = some (k1, xs.map en)) (h2 : kOf y = some (k2, ys.map eb)) : EvI cl (.zpp (.con a (.con b .nil))) r (fun p : α × β => .tuple [en p.1, eb p.2]) (xs.zip ys) := by
  constructor
  have h0 : ev cl (.con a (.con b .nil)) r = .vals [x, y] r := (EvA.con ha (.con hb .nil)).h
  show oZip (ev cl (.con a (.con b .nil))) r = _
  unfold oZip
  rw [h0]
  dsimp only [Out.bnds]
  rw [h1, h2]
  dsimp only
  unfold zipD
  rw [List.zip_map, List.map_map]
  rfl
theorem EvI.enu {k1 : SK} (ha : Ev cl a r x) (h1 : kOf x = some (k1, xs.map en)) : EvI cl (.enu (.con a .nil)) r (fun p : α × Nat => .tuple [.int (p.2 : Nat), en p.1]) (xs.zipIdx 0) := by
  constructor
  have h0 : ev cl (.con a .nil) r = .vals [x] r := (EvA.con ha .nil).h
  show oEnum (ev cl (.con a .nil)) r = _
  unfold oEnum
  rw [h0]
  dsimp only [Out.bnds]
  rw [h1]
  dsimp only
  rw [enum_map]
/-- what is walked, told otherwise -/
theorem EvI.conv {α' : Type} {en' : α' → D} {xs' : List α'} {it : T} (h : EvI cl it r en xs) (e : xs.map en = xs'.map en') : EvI cl it r en' xs' := by
  constructor
  show ev cl it r = _
  rw [h.h, e]
/-! comprehensions -/
theorem Ev.lc {vs : List Nat} {tg it t e : T} {p : α → Bool} {gg : α → D} {st : α → Rho} (hi : EvI cl it r en xs) (hok : okV r vs = true) (hf : ∀ x, (evG tg).1 (en x) (wipeR r vs) = some (st x)) (hw : ∀ x, wipeR (st x) vs = wipeR r vs)
    (ht : ∀ x ∈ xs, Ev cl t (st x) (.bool (p x))) (he : ∀ x ∈ xs, p x = true → Ev cl e (st x) (gg x)) (hl : xs.length ≤ lim) : Ev cl (.lc vs tg it t e) r (.list ((xs.filter p).map gg)) := ⟨oLc_enc (en := en) xs hi.h hok (fun x _ => hf x) (fun x _ => hw x) (fun x h => (ht x h).h) (fun x h q => (he x h q).h) hl⟩
theorem Ev.lcY {vs : List Nat} {tg it e : T} {gg : α → D} {st : α → Rho} (hi : EvI cl it r en xs) (hok : okV r vs = true) (hf : ∀ x, (evG tg).1 (en x) (wipeR r vs) = some (st x)) (hw : ∀ x, wipeR (st x) vs = wipeR r vs)
    (he : ∀ x ∈ xs, Ev cl e (st x) (gg x)) (hl : xs.length ≤ lim) : Ev cl (.lc vs tg it .yes e) r (.list (xs.map gg)) := by
  have := Ev.lc (t := .yes) (p := fun _ => true) hi hok hf hw (fun x _ => ⟨rfl⟩) (fun x h _ => he x h) hl
  rwa [List.filter_eq_self.mpr fun _ _ => rfl] at this
/-- [e for i in .. if t] -/
theorem Ev.lc1 {i : Nat} {it t e : T} {p : α → Bool} {gg : α → D} (hi : EvI cl it r en xs) (hok : okV r [i] = true) (ht : ∀ x ∈ xs, Ev cl t (r.set i (.val (en x))) (.bool (p x))) (he : ∀ x ∈ xs, p x = true → Ev cl e (r.set i (.val (en x))) (gg x)) (hl : xs.length ≤ lim) :
    Ev cl (.lc [i] (.gn i) it t e) r (.list ((xs.filter p).map gg)) := ⟨oLc_1 (en := en) xs hi.h hok (fun x h => (ht x h).h) (fun x h q => (he x h q).h) hl⟩
theorem Ev.lc1Y {i : Nat} {it e : T} {gg : α → D} (hi : EvI cl it r en xs) (hok : okV r [i] = true) (he : ∀ x ∈ xs, Ev cl e (r.set i (.val (en x))) (gg x)) (hl : xs.length ≤ lim) :
    Ev cl (.lc [i] (.gn i) it .yes e) r (.list (xs.map gg)) := ⟨oLc_1y (en := en) xs hi.h hok (fun x h => (he x h).h) hl⟩
/-- [e for i, j in .. if t] -/
theorem Ev.lc2 {i j : Nat} {ea eb : α → D} {it t e : T} {p : α → Bool} {gg : α → D} (hi : EvI cl it r (fun x => .tuple [ea x, eb x]) xs) (hij : i ≠ j) (hok : okV r [i, j] = true) (ht : ∀ x ∈ xs, Ev cl t ((r.set i (.val (ea x))).set j (.val (eb x))) (.bool (p x)))
    (he : ∀ x ∈ xs, p x = true → Ev cl e ((r.set i (.val (ea x))).set j (.val (eb x))) (gg x)) (hl : xs.length ≤ lim) : Ev cl (.lc [i, j] (.gt 2 (.con (.gn i) (.con (.gn j) .nil))) it t e) r (.list ((xs.filter p).map gg)) := ⟨oLc_2 xs hi.h hij hok (fun x h => (ht x h).h) (fun x h q => (he x h q).h) hl⟩
theorem Ev.lc2Y {i j : Nat} {ea eb : α → D} {it e : T} {gg : α → D} (hi : EvI cl it r (fun x => .tuple [ea x, eb x]) xs) (hij : i ≠ j) (hok : okV r [i, j] = true)
    (he : ∀ x ∈ xs, Ev cl e ((r.set i (.val (ea x))).set j (.val (eb x))) (gg x)) (hl : xs.length ≤ lim) : Ev cl (.lc [i, j] (.gt 2 (.con (.gn i) (.con (.gn j) .nil))) it .yes e) r (.list (xs.map gg)) := ⟨oLc_2y xs hi.h hij hok (fun x h => (he x h).h) hl⟩
theorem lk_ne {i j : Nat} {s : Slot} {o : Option Slot} (h : i ≠ j) (e : r[j]? = o) : (r.set i s)[j]? = o := by rw [List.getElem?_set_ne h]; exact e
theorem lk_eq {i : Nat} {s : Slot} (h : i < r.length) : (r.set i s)[i]? = some s := List.getElem?_set_self h
end
/-! tests whose answer is wished for -/
theorem Ff.of (h : Ev cl t r (.bool p)) (e : p = false) : Ff cl t r := by constructor; subst e; exact h.h
theorem Tt.of (h : Ev cl t r (.bool p)) (e : p = true) : Tt cl t r := by constructor; subst e; exact h.h
theorem Ff.or (ha : Ff cl a r) (hb : Ff cl b r) : Ff cl (.b2 .Or a b) r := ⟨or_f0 ha.h hb.h⟩
theorem Ff.b1 (ha : Ff cl a r) : Ff cl (.b1 a) r := ⟨ha.h⟩
theorem Tt.b1 (ha : Tt cl a r) : Tt cl (.b1 a) r := ⟨ha.h⟩
theorem Tt.and (ha : Tt cl a r) (hb : Tt cl b r) : Tt cl (.b2 .And a b) r := ⟨and_t0 ha.h hb.h⟩
theorem Ff.andL (ha : Ff cl a r) : Ff cl (.b2 .And a b) r := by
  constructor
  show oAnd _ _ r = _
  unfold oAnd
  rw [ha.h]; rfl
theorem Ff.andR (ha : Tt cl a r) (hb : Ff cl b r) : Ff cl (.b2 .And a b) r := by
  constructor
  show oAnd _ _ r = _
  unfold oAnd
  rw [ha.h]
  exact hb.h
theorem Tt.orL (ha : Tt cl a r) : Tt cl (.b2 .Or a b) r := by
  constructor
  show oOr _ _ r = _
  unfold oOr
  rw [ha.h]; rfl
theorem Tt.orR (ha : Ff cl a r) (hb : Tt cl b r) : Tt cl (.b2 .Or a b) r := by
  constructor
  show oOr _ _ r = _
  unfold oOr
  rw [ha.h]
  exact hb.h
theorem Ff.inv (ha : Tt cl a r) : Ff cl (.inv a) r := by
  constructor
  show oNot _ r = _
  unfold oNot
  rw [ha.h]; rfl
theorem Tt.inv (ha : Ff cl a r) : Tt cl (.inv a) r := by
  constructor
  show oNot _ r = _
  unfold oNot
  rw [ha.h]; rfl
theorem Ff.ne (ha : Ev cl a r x) (hb : Ev cl b r y) (e : x = y) (ok : okD x = true) : Ff cl (.cmp .NotEq a b) r := by
  constructor
  subst e; exact ne_self ha.h hb.h ok
theorem Tt.eq (ha : Ev cl a r x) (hb : Ev cl b r y) (e : x = y) (ok : okD x = true) : Tt cl (.cmp .Eq a b) r := by
  constructor
  subst e; exact eq_self ha.h hb.h ok
/-! statements -/
theorem Sn.seq {o : Out} (h : Sn cl a r r1) (k : ev cl b r1 = o) : ev cl (.seq a b) r = o := by
  show oSeq _ _ r = _
  rw [seq_nxt (show ev cl a r = _ from h)]; exact k
theorem Sn.skp : ev cl .skp r = .nxt r := rfl
theorem Sn.set {i : Nat} (h : Ev cl a r x) : Sn cl (.set i a) r (r.set i (.val x)) := by
  show oSet i _ r = _
  unfold oSet
  rw [h.h]; rfl
theorem Sn.ifsF (h : Ff cl t r) : Sn cl (.ifs t a .skp) r r := ifs_f h.h
theorem Sn.drp (h : Ev cl a r x) : Sn cl (.drp a) r r := by
  show oDrop _ r = _
  unfold oDrop
  rw [h.h]; rfl
theorem ifsT {o : Out} (h : Tt cl t r) (k : ev cl a r = o) : ev cl (.ifs t a b) r = o := by
  show oIfS _ _ _ r = _
  unfold oIfS
  rw [h.h]; exact k
theorem ifsF {o : Out} (h : Ff cl t r) (k : ev cl b r = o) : ev cl (.ifs t a b) r = o := by
  show oIfS _ _ _ r = _
  unfold oIfS
  rw [h.h]; exact k
theorem retV (h : Ev cl a r x) : ev cl (.ret a) r = .ret x r := by
  show oRet _ r = _
  unfold oRet
  rw [h.h]; rfl
theorem seqR {d : D} (h : ev cl a r = .ret d r1) : ev cl (.seq a b) r = .ret d r1 := seq_ret h
theorem Sn.par {is : List Nat} {fl : List Bool} (h : EvA cl as r ds) (hs : setX is fl ds r = some r') : Sn cl (.par is fl as) r r' := by
  show oPar is fl _ r = _
  unfold oPar
  rw [h.h]
  show (match setX is fl ds r with | some r2 => Out.nxt r2 | none => .bad) = _
  rw [hs]
/-! operators by values -/
theorem sL {n : Nat} (h : n ≤ 1000000) : n ≤ lim := h
theorem add_l {xs ys : List D} (h : xs.length + ys.length ≤ lim) : binF .Add (.list xs) (.list ys) = some (.list (xs ++ ys)) := if_pos h
theorem add_t {xs ys : List D} (h : xs.length + ys.length ≤ lim) : binF .Add (.tuple xs) (.tuple ys) = some (.tuple (xs ++ ys)) := if_pos h
theorem mul_i {i j : Int} (h : W64 i ∨ W64 j) : binF .Mult (.int i) (.int j) = some (.int (i * j)) := if_pos h
theorem div_i {i j : Int} (h : 0 < j) (h2 : j ≤ 1000000000) : binF .FloorDiv (.int i) (.int j) = some (.int (i / j)) := by
  have e : (1000000000 : Int) < 2 ^ 250 := by decide
  exact if_pos ⟨h, Int.lt_of_le_of_lt h2 e⟩
theorem mod_i {i j : Int} (h : 0 < j) : binF .Mod (.int i) (.int j) = some (.int (i % j)) := if_pos h
theorem eq_i {i j : Int} : cmpF .Eq (.int i) (.int j) = some (.bool (decide (i = j))) := by
  show ofB bEq _ _ = _
  unfold ofB; rw [bEq_int]; rfl
theorem ne_i {i j : Int} : cmpF .NotEq (.int i) (.int j) = some (.bool (!decide (i = j))) := by
  show ofB bNe _ _ = _
  unfold ofB; rw [bNe_int]; rfl
theorem eq_nl {xs : List D} (h : okD (.list xs) = true) : cmpF .Eq (.list xs) (.list []) = some (.bool (decide (xs = []))) := by
  show ofB bEq _ _ = _
  unfold ofB; rw [bEq_nil xs h]; rfl
theorem ne_nl {xs : List D} (h : okD (.list xs) = true) : cmpF .NotEq (.list xs) (.list []) = some (.bool (!decide (xs = []))) := by
  show ofB bNe _ _ = _
  unfold ofB; rw [bNe_nil xs h]; rfl
theorem is_non {x : D} : cmpF .Is x .none = some (.bool (!nnD x)) := by cases x <;> rfl
theorem isNot_non {x : D} : cmpF .IsNot x .none = some (.bool (nnD x)) := by cases x <;> rfl
theorem abs_i {i : Int} : BF.abs.f [.int i] = some (.int (if i < 0 then -i else i)) := rfl
theorem max_l {x : D} {xs : List D} (h : okDs (x :: xs) = true) : BF.max.f [.list (x :: xs)] = some (PySem.W.maxD x xs) := if_pos h
theorem max2_i {i j : Int} : BF.max.f [.int i, .int j] = some (.int (max i j)) := by
  show some (PyData.int (if j > i then j else i)) = _
  by_cases h : j > i
  · rw [if_pos h, Int.max_eq_right (by omega)]
  · rw [if_neg h, Int.max_eq_left (by omega)]
theorem min2_i {i j : Int} : BF.min.f [.int i, .int j] = some (.int (min i j)) := by
  show some (PyData.int (if j < i then j else i)) = _
  by_cases h : j < i
  · rw [if_pos h, Int.min_eq_right (by omega)]
  · rw [if_neg h, Int.min_eq_left (by omega)]
/-- ints, coded over other things -/
theorem ints_of {α : Type} (xs : List α) (f : α → Int) : xs.map (fun x => PyData.int (f x)) = (xs.map f).map PyData.int := by rw [List.map_map]; rfl
theorem max_c {α : Type} {x : Int} {xs : List α} {f : α → Int} : BF.max.f [.list (.int x :: xs.map fun x => .int (f x))] = some (.int ((xs.map f).foldl max x)) := by rw [ints_of]; exact max_ints _ _
theorem min_c {α : Type} {x : Int} {xs : List α} {f : α → Int} : BF.min.f [.list (.int x :: xs.map fun x => .int (f x))] = some (.int ((xs.map f).foldl min x)) := by rw [ints_of]; exact min_ints _ _
theorem sum_c {α : Type} {xs : List α} {f : α → Int} : BF.sum.f [.list (xs.map fun x => .int (f x))] = some (.int (xs.map f).sum) := by
  rw [ints_of]
  show (intsOf _).map _ = _
  rw [intsOf_map]; rfl
theorem all_c {α : Type} {xs : List α} {f : α → Bool} : BF.all.f [.list (xs.map fun x => .bool (f x))] = some (.bool (xs.all f)) := fAll_map f xs
theorem any_c {α : Type} {xs : List α} {f : α → Bool} : BF.any.f [.list (xs.map fun x => .bool (f x))] = some (.bool (xs.any f)) := fAny_map f xs
theorem ix_l {α : Type} {xs : List α} {f : α → D} {i : Nat} {x : α} (h : xs[i]? = some x) : fIx (.list (xs.map f)) (.int (i : Nat)) = some (f x) := by
  show L2.atI _ _ = _
  have hi := (List.getElem?_eq_some_iff.mp h).1
  rw [atI_ok _ _ (by simpa using hi), List.getElem?_map, h]; rfl
theorem ix_t {α : Type} {xs : List α} {f : α → D} {i : Nat} {x : α} (h : xs[i]? = some x) : fIx (.tuple (xs.map f)) (.int (i : Nat)) = some (f x) := ix_l h
theorem len_l {α : Type} {xs : List α} {f : α → D} : BF.len.f [.list (xs.map f)] = some (.int (xs.length : Nat)) := by
  show some (PyData.int ((xs.map f).length : Nat)) = _
  rw [List.length_map]
theorem len_t {α : Type} {xs : List α} {f : α → D} : BF.len.f [.tuple (xs.map f)] = some (.int (xs.length : Nat)) := by
  show some (PyData.int ((xs.map f).length : Nat)) = _
  rw [List.length_map]
theorem getD_some {α : Type} [Inhabited α] {xs : List α} {i : Nat} (h : i < xs.length) : xs[i]? = some (xs.getD i default) := by rw [List.getD_eq_getElem?_getD, List.getElem?_eq_getElem h]; rfl
theorem ix_lD {α : Type} [Inhabited α] {xs : List α} {f : α → D} {i : Nat} (h : i < xs.length) : fIx (.list (xs.map f)) (.int (i : Nat)) = some (f (xs.getD i default)) := ix_l (getD_some h)
theorem ix_tD {α : Type} [Inhabited α] {xs : List α} {f : α → D} {i : Nat} (h : i < xs.length) : fIx (.tuple (xs.map f)) (.int (i : Nat)) = some (f (xs.getD i default)) := ix_t (getD_some h)
theorem ix_li {α : Type} {xs : List α} {f : α → D} {i : Int} {x : α} (h0 : 0 ≤ i) (h : xs[i.toNat]? = some x) : fIx (.list (xs.map f)) (.int i) = some (f x) := by
  obtain ⟨n, rfl⟩ : ∃ n : Nat, i = (n : Int) := ⟨i.toNat, by omega⟩
  exact ix_l (by simpa using h)
theorem ix_last {α : Type} {xs : List α} {f : α → D} {x : α} (h : xs.getLast? = some x) : fIx (.list (xs.map f)) (.int (-1)) = some (f x) := by
  show L2.atI _ _ = _
  obtain ⟨ys, rfl⟩ := List.getLast?_eq_some_iff.mp h
  rw [List.map_append]
  exact L2.atI_last _ _
theorem ix_lastT {α : Type} {xs : List α} {f : α → D} {x : α} (h : xs.getLast? = some x) : fIx (.tuple (xs.map f)) (.int (-1)) = some (f x) := ix_last h
end
end Py

/-! Py, part Sy: what a law knows of its names; drawn numbers, picks, samples. -/
namespace Py
open PySem

/-- two states are alike but in vs, where a value may lie -/
def Frm (vs : List Nat) (r r' : Rho) : Prop := r'.length = r.length ∧ ∀ i, r'[i]? = r[i]? ∨ (i ∈ vs ∧ ∃ d, r'[i]? = some (.val d))
theorem Frm.refl (vs : List Nat) (r : Rho) : Frm vs r r := ⟨rfl, fun _ => .inl rfl⟩
theorem Frm.trans {vs : List Nat} {r r' r'' : Rho} (h : Frm vs r r') (h' : Frm vs r' r'') : Frm vs r r'' := ⟨h'.1.trans h.1, fun i => by
  rcases h'.2 i with e | e
  · rw [e]; exact h.2 i
  · exact .inr e⟩
theorem Frm.set {vs : List Nat} {r r' : Rho} (h : Frm vs r r') {i : Nat} (hi : i ∈ vs) (d : D) : Frm vs r (r'.set i (.val d)) := ⟨by rw [List.length_set, h.1], fun j => by
  by_cases e : i = j
  · subst e
    by_cases hl : i < r'.length
    · exact .inr ⟨hi, d, List.getElem?_set_self hl⟩
    · rw [List.set_eq_of_length_le (by omega)]; exact h.2 i
  · rw [List.getElem?_set_ne e]; exact h.2 j⟩
theorem Frm.at {vs : List Nat} {r r' : Rho} (h : Frm vs r r') {i : Nat} (hi : i ∉ vs) : r'[i]? = r[i]? := by
  rcases h.2 i with e | e
  · exact e
  · exact absurd e.1 hi
def dr (ns : List Int) (n : Nat) : D := .list [.list (ns.map .int), .int 0, .int (n : Nat)]
/-- what is known in a law: so many names, its list of draws in slot 1, the values in kn; no other name holds a list of its own -/
structure Kw (N : Nat) (ns : List Int) (n : Nat) (kn : List (Nat × D)) (r : Rho) : Prop where
  len : r.length = N
  d : r[1]? = some (.own (dr ns n))
  k : ∀ i d, kn.lookup i = some d → r[i]? = some (.val d)
  x : ∀ i s, i ≠ 1 → r[i]? = some s → s.excl = false
section
variable {N : Nat} {ns : List Int} {n : Nat} {kn : List (Nat × D)} {r r' : Rho}
theorem Kw.set (h : Kw N ns n kn r) (i : Nat) (d : D) (hi : 1 ≠ i := by decide) (hN : i < N := by decide) : Kw N ns n ((i, d) :: kn) (r.set i (.val d)) where
  len := by rw [List.length_set]; exact h.len
  d := lk_ne (Ne.symm hi) h.d
  k j e hj := by
    by_cases q : j = i
    · subst q
      rw [List.lookup_cons_self] at hj
      cases hj
      exact lk_eq (by rw [h.len]; exact hN)
    · have : List.lookup j ((i, d) :: kn) = List.lookup j kn := by
        rw [List.lookup_cons]
        have : (j == i) = false := by simpa using q
        rw [this]
      rw [this] at hj
      exact lk_ne (Ne.symm q) (h.k j e hj)
  x j s hj e := by
    by_cases q : i = j
    · subst q
      rw [List.getElem?_set_self (by rw [h.len]; exact hN)] at e
      cases e; rfl
    · rw [List.getElem?_set_ne q] at e
      exact h.x j s hj e
theorem Kw.dr (h : Kw N ns n kn r) (m : Nat) (hk : kn.lookup 1 = none := by rfl) (hN : 1 < N := by decide) : Kw N ns m kn (r.set 1 (.own (dr ns m))) where
  len := by rw [List.length_set]; exact h.len
  d := lk_eq (by rw [h.len]; exact hN)
  k j e hj := by
    have q : 1 ≠ j := fun q => by subst q; rw [hk] at hj; cases hj
    exact lk_ne q (h.k j e hj)
  x j s hj e := by
    rw [List.getElem?_set_ne (Ne.symm hj)] at e
    exact h.x j s hj e
theorem Kw.fr (h : Kw N ns n kn r) {vs : List Nat} (f : Frm vs r r') (h1 : 1 ∉ vs := by decide) (hv : (vs.all fun v => (kn.lookup v).isNone) = true := by rfl) : Kw N ns n kn r' where
  len := f.1.trans h.len
  d := (f.at h1).trans h.d
  k j e hj := by
    have q : j ∉ vs := fun q => by
      have := List.all_eq_true.mp hv j q
      rw [hj] at this; cases this
    exact (f.at q).trans (h.k j e hj)
  x j s hj e := by
    rcases f.2 j with q | ⟨_, d, q⟩
    · exact h.x j s hj (q.symm.trans e)
    · rw [q] at e; cases e; rfl
theorem Kw.add (h : Kw N ns n kn r) (i : Nat) (d : D) (e : r[i]? = some (.val d)) : Kw N ns n ((i, d) :: kn) r where
  len := h.len
  d := h.d
  k j f hj := by
    by_cases q : j = i
    · subst q
      rw [List.lookup_cons_self] at hj
      cases hj
      exact e
    · have : List.lookup j ((i, d) :: kn) = List.lookup j kn := by
        rw [List.lookup_cons]
        have : (j == i) = false := by simpa using q
        rw [this]
      rw [this] at hj
      exact h.k j f hj
  x := h.x
theorem Kw.none (h : Kw N ns n kn r) : Kw N ns n [] r := ⟨h.len, h.d, (fun i d e => by cases e), h.x⟩
theorem Kw.ok (h : Kw N ns n kn r) {vs : List Nat} (hv : 1 ∉ vs := by decide) : okV r vs = true := by
  unfold okV
  refine List.all_eq_true.mpr fun v hm => ?_
  cases e : r[v]? with
  | none => rfl
  | some s => simp [h.x v s (fun z => hv (by rw [← z]; exact hm)) e]
theorem okV_set {i : Nat} {d : D} {vs : List Nat} (h : okV r vs = true) : okV (r.set i (.val d)) vs = true := by
  unfold okV at h ⊢
  refine List.all_eq_true.mpr fun v hm => ?_
  have h := List.all_eq_true.mp h v hm
  by_cases q : i = v
  · subst q
    by_cases hl : i < r.length
    · rw [List.getElem?_set_self hl]; rfl
    · rw [List.set_eq_of_length_le (by omega)]; exact h
  · rw [List.getElem?_set_ne q]; exact h
end
/-! for, over coded items, where something is reckoned along -/
theorem for_ev {cl : Nat → O1} {α σ : Type} {en : α → D} {xs : List α} {i : Nat} {it b : T} {r : Rho} (vs : List Nat) (P : σ → Rho → Prop) (f : σ → α → σ) (s0 : σ) (hi : EvI cl it r en xs) (h0 : P s0 r)
    (hs : ∀ s a r1, a ∈ xs → Frm vs r r1 → P s r1 → ∃ r2, ev cl b (r1.set i (.val (en a))) = .nxt r2 ∧ Frm vs r1 r2 ∧ P (f s a) r2) : ∃ r', Sn cl (.frl (.gn i) it b) r r' ∧ Frm vs r r' ∧ P (xs.foldl f s0) r' := by
  have key : ∀ (ys : List α) (s : σ) (r1 : Rho), (∀ a ∈ ys, a ∈ xs) → Frm vs r r1 → P s r1 → ∃ r', forGo (gNm i) (ev cl b) (ys.map en) r1 = .nxt r' ∧ Frm vs r r' ∧ P (ys.foldl f s) r' := by
    intro ys
    induction ys with
    | nil => intro s r1 _ h1 h2; exact ⟨r1, rfl, h1, h2⟩
    | cons a ys ih =>
      intro s r1 hm h1 h2
      obtain ⟨r2, e2, f2, p2⟩ := hs s a r1 (hm a List.mem_cons_self) h1 h2
      obtain ⟨r', e', f', p'⟩ := ih (f s a) r2 (fun x hx => hm x (List.mem_cons_of_mem _ hx)) (h1.trans f2) p2
      exact ⟨r', (forGo_nxt (f := gNm i) rfl e2).trans e', f', p'⟩
  obtain ⟨r', e, h1, h2⟩ := key xs s0 r (fun _ h => h) (.refl _ _) h0
  refine ⟨r', ?_, h1, h2⟩
  show oFor _ (gNm i) (ev cl b) r = _
  unfold oFor
  rw [hi.h]
  exact e
theorem retV' {cl : Nat → O1} {a : T} {r r1 : Rho} {x : D} (h : ev cl a r = .val x r1) : ev cl (.ret a) r = .ret x r1 := by
  show oRet _ r = _
  unfold oRet
  rw [h]; rfl
theorem Sn.set' {cl : Nat → O1} {a : T} {r r1 : Rho} {x : D} {i : Nat} (h : ev cl a r = .val x r1) : Sn cl (.set i a) r (r1.set i (.val x)) := by
  show oSet i _ r = _
  unfold oSet
  rw [h]; rfl
/-! drawn numbers -/
section
variable {fs : List Fd} {j : Nat}
/-- what a call of _law_next brings, where the list of draws stands in slot i, one's own or lent -/
def DrO (cl : Nat → O1) (J : Nat) (ns : List Int) : Prop := ∀ (n : Nat) (b : Int), 0 < b → ∃ v : Int, 0 ≤ v ∧ v < b ∧ ∀ (as : T) (r : Rho), r[1]? = some (.own (dr ns n)) → Ev cl as r (.int b) → ev cl (.cal J (.rfc 1 (.con as .nil))) r = .val (.int v) (r.set 1 (.own (dr ns (n + 1))))
def DrI (cl : Nat → O1) (J : Nat) (ns : List Int) : Prop := ∀ (n : Nat) (b : Int), 0 < b → ∃ v : Int, 0 ≤ v ∧ v < b ∧ ∀ (as : T) (r : Rho), r[0]? = some (.io (dr ns n)) → Ev cl as r (.int b) → ev cl (.cal J (.rfc 0 (.con as .nil))) r = .val (.int v) (r.set 0 (.io (dr ns (n + 1))))
theorem drO_ok (h : Draws fs j) (k : Nat) (ns : List Int) : DrO (calls fs (k + 3)) (j + 3) ns := fun n b hb => by
  obtain ⟨v, r', h0, h1, e⟩ := next_ok h k ns n b hb
  refine ⟨v, h0, h1, fun as r hr ha => ?_⟩
  have e' : calls fs (k + 3) (j + 3) [.io (dr ns n), .val (.int b)] = .ret (.int v) (.io (dr ns (n + 1)) :: r') := e
  have ha' : ev (calls fs (k + 3)) as r = .val (.int b) r := ha.h
  simp [ev, flT, oCallF, oRef, oCons, oNil, Out.bnd, Out.bnds, refs, mkArgs, putBack, hr, ha', Slot.excl, e']
theorem drI_ok (h : Draws fs j) (k : Nat) (ns : List Int) : DrI (calls fs (k + 3)) (j + 3) ns := fun n b hb => by
  obtain ⟨v, r', h0, h1, e⟩ := next_ok h k ns n b hb
  refine ⟨v, h0, h1, fun as r hr ha => ?_⟩
  have e' : calls fs (k + 3) (j + 3) [.io (dr ns n), .val (.int b)] = .ret (.int v) (.io (dr ns (n + 1)) :: r') := e
  have ha' : ev (calls fs (k + 3)) as r = .val (.int b) r := ha.h
  simp [ev, flT, oCallF, oRef, oCons, oNil, Out.bnd, Out.bnds, refs, mkArgs, putBack, hr, ha', Slot.excl, e']
/-- _law_pick -/
def tPick (J : Nat) : T := (.seq (.ret (.ix (.var 1) (.cal J (.rfc 0 (.con (.bi .len (.con (.var 1) .nil)) .nil))))) .skp)
theorem ix_at {xs : List D} {v : Int} (h0 : 0 ≤ v) (h1 : v < xs.length) : ∃ d ∈ xs, fIx (.list xs) (.int v) = some d := by
  obtain ⟨n, rfl⟩ : ∃ n : Nat, v = (n : Int) := ⟨v.toNat, by omega⟩
  have hn : n < xs.length := by omega
  refine ⟨xs[n], List.getElem_mem hn, ?_⟩
  show L2.atI _ _ = _
  rw [atI_ok _ _ hn, List.getElem?_eq_getElem hn]
theorem pick_io {jp : Nat} {f : Fd} (h : Draws fs j) (hp : fs[jp]? = some f) (hN : f.N.length = 2) (ht : f.t = tPick (j + 3)) (k : Nat) (ns : List Int) (n : Nat) (xs : List D) (hx : xs ≠ []) (hl : xs.length ≤ 1000) :
    ∃ d ∈ xs, ∃ r', calls fs (k + 4) jp [.io (dr ns n), .val (.list xs)] = .ret d (.io (dr ns (n + 1)) :: r') := by
  obtain ⟨v, v0, v1, hv⟩ := drI_ok h k ns n xs.length (by have := List.length_pos_iff.mpr hx; omega)
  obtain ⟨d, hd, e⟩ := ix_at v0 v1
  refine ⟨d, hd, ?_⟩
  rw [calls_at hp, hN, ht]
  have q := hv (.bi .len (.con (.var 1) .nil)) [.io (dr ns n), .val (.list xs)] rfl (Ev.bi (EvA.con (Ev.var rfl) .nil) rfl)
  refine ⟨_, seqR (retV' (op2_v (show ev (calls fs (k + 3)) (.var 1) [.io (dr ns n), .val (.list xs)] = .val (.list xs) _ from rfl) q e))⟩
/-- _law_samples -/
def tNum (J : Nat) : T := (.bin .Sub (.cal J (.rfc 0 (.con (.bin .Add (.bin .Mult (.cst (.int 2)) (.var 2)) (.cst (.int 1))) .nil))) (.var 2))
def tLast : T := (.ife (.cmp .NotEq (.var 3) (.lst .nil)) (.ix (.var 3) (.neg (.cst (.int 1)))) (.cst (.int 0)))
def tSampB (J Jp : Nat) : T := (.seq (.set 3 (.bin .Add (.var 3) (.lst (.con (.cal Jp (.rfc 0 (.con (.lst (.con (tNum J) (.con (tNum J) (.con (.cst (.int 0)) (.con tLast .nil))))) .nil))) .nil)))) .skp)
def tSamp (J Jp : Nat) : T := (.seq (.set 3 (.lst .nil)) (.seq (.frl (.gn 4) (.rg1 (.con (.bin .Add (.cst (.int 1)) (.cal J (.rfc 0 (.con (.var 1) .nil)))) .nil)) (tSampB J Jp)) (.seq (.ret (.bi .tuple (.con (.var 3) .nil))) .skp)))
/-- what a call of _law_pick brings -/
def PkI (cl : Nat → O1) (Jp : Nat) (ns : List Int) : Prop := ∀ (n : Nat) (xs : List D), xs ≠ [] → xs.length ≤ 1000 → ∃ d ∈ xs, ∃ r', cl Jp [.io (dr ns n), .val (.list xs)] = .ret d (.io (dr ns (n + 1)) :: r')
theorem pkI_at {cl : Nat → O1} {Jp : Nat} {ns : List Int} (h : PkI cl Jp ns) (n : Nat) (xs : List D) (hx : xs ≠ []) (hl : xs.length ≤ 1000) : ∃ d ∈ xs, ∀ (as : T) (r r1 : Rho), (∃ m, r[0]? = some (.io (dr ns m))) → r1[0]? = some (.io (dr ns n)) → ev cl as r = .val (.list xs) r1 →
    ev cl (.cal Jp (.rfc 0 (.con as .nil))) r = .val d (r1.set 0 (.io (dr ns (n + 1)))) := by
  obtain ⟨d, hd, r', e⟩ := h n xs hx hl
  refine ⟨d, hd, fun as r r1 ⟨m, hr⟩ hr1 ha => ?_⟩
  simp [ev, flT, oCallF, oRef, oCons, oNil, Out.bnd, Out.bnds, refs, mkArgs, putBack, hr, hr1, ha, Slot.excl, e]
theorem pkO_at {cl : Nat → O1} {Jp : Nat} {ns : List Int} (h : PkI cl Jp ns) (n : Nat) (xs : List D) (hx : xs ≠ []) (hl : xs.length ≤ 1000) : ∃ d ∈ xs, ∀ (as : T) (r r1 : Rho), (∃ m, r[1]? = some (.own (dr ns m))) → r1[1]? = some (.own (dr ns n)) → ev cl as r = .val (.list xs) r1 →
    ev cl (.cal Jp (.rfc 1 (.con as .nil))) r = .val d (r1.set 1 (.own (dr ns (n + 1)))) := by
  obtain ⟨d, hd, r', e⟩ := h n xs hx hl
  refine ⟨d, hd, fun as r r1 ⟨m, hr⟩ hr1 ha => ?_⟩
  simp [ev, flT, oCallF, oRef, oCons, oNil, Out.bnd, Out.bnds, refs, mkArgs, putBack, hr, hr1, ha, Slot.excl, e]
section
variable {cl : Nat → O1} {J Jp : Nat} {ns : List Int}
theorem samp_step (hd : DrI cl J ns) (hp : PkI cl Jp ns) (n : Nat) (most : D) (high : Int) (h0 : 0 ≤ high) (h1 : high ≤ 100000) (xs : List Int) (hx : ∀ x ∈ xs, -high ≤ x ∧ x ≤ high) (hl : xs.length ≤ 1000) (z : Slot) : ∃ v : Int, (-high ≤ v ∧ v ≤ high) ∧ ∃ n',
    ev cl (tSampB J Jp) [.io (dr ns n), .val most, .val (.int high), .val (.list (xs.map .int)), z] = .nxt [.io (dr ns n'), .val most, .val (.int high), .val (.list ((xs ++ [v]).map .int)), z] := by
  obtain ⟨a, a0, a1, ha⟩ := hd n (2 * high + 1) (by omega)
  obtain ⟨b, b0, b1, hb⟩ := hd (n + 1) (2 * high + 1) (by omega)
  have wm : W64 2 := by decide
  have bd : ∀ m, Ev cl (.bin .Add (.bin .Mult (.cst (.int 2)) (.var 2)) (.cst (.int 1))) [.io (dr ns m), .val most, .val (.int high), .val (.list (xs.map .int)), z] (.int (2 * high + 1)) := fun m =>
    Ev.bin (Ev.bin .cst (Ev.var rfl) (mul_i (.inl wm))) .cst rfl
  have e1 : ev cl (tNum J) [.io (dr ns n), .val most, .val (.int high), .val (.list (xs.map .int)), z] = .val (.int (a - high)) [.io (dr ns (n + 1)), .val most, .val (.int high), .val (.list (xs.map .int)), z] :=
    op2_v (ha _ _ rfl (bd n)) (show ev cl (.var 2) _ = .val (.int high) _ from rfl) rfl
  have e2 : ev cl (tNum J) [.io (dr ns (n + 1)), .val most, .val (.int high), .val (.list (xs.map .int)), z] = .val (.int (b - high)) [.io (dr ns (n + 2)), .val most, .val (.int high), .val (.list (xs.map .int)), z] :=
    op2_v (hb _ _ rfl (bd (n + 1))) (show ev cl (.var 2) _ = .val (.int high) _ from rfl) rfl
  obtain ⟨l, hl2, e3⟩ : ∃ l : Int, (-high ≤ l ∧ l ≤ high) ∧ ev cl tLast [.io (dr ns (n + 2)), .val most, .val (.int high), .val (.list (xs.map .int)), z] = .val (.int l) [.io (dr ns (n + 2)), .val most, .val (.int high), .val (.list (xs.map .int)), z] := by
    have hc : Ev cl (.cmp .NotEq (.var 3) (.lst .nil)) [.io (dr ns (n + 2)), .val most, .val (.int high), .val (.list (xs.map .int)), z] (.bool (!decide (xs.map PyData.int = []))) := Ev.cmp (Ev.var rfl) (Ev.lst .nil (by decide)) (ne_nl (okD_ints xs))
    cases hg : xs.getLast? with
    | none =>
      have : xs = [] := by simpa using hg
      subst this
      exact ⟨0, by omega, (Ev.ifeF (Ff.of hc rfl) .cst).h⟩
    | some l =>
      have hm := List.mem_of_getLast? hg
      have hne : xs ≠ [] := fun e => by subst e; cases hg
      exact ⟨l, hx l hm, (Ev.ifeT (Tt.of hc (by simpa using hne)) (Ev.ix (Ev.var rfl) (Ev.neg .cst) (ix_last hg))).h⟩
  obtain ⟨d, hdm, hpk⟩ := pkI_at hp (n + 2) [.int (a - high), .int (b - high), .int 0, .int l] (by simp) (by simp)
  have e4 : ev cl (.lst (.con (tNum J) (.con (tNum J) (.con (.cst (.int 0)) (.con tLast .nil))))) [.io (dr ns n), .val most, .val (.int high), .val (.list (xs.map .int)), z] = .val (.list [.int (a - high), .int (b - high), .int 0, .int l]) [.io (dr ns (n + 2)), .val most, .val (.int high), .val (.list (xs.map .int)), z] :=
    callv (cons_v e1 (cons_v e2 (cons_v rfl (cons_v e3 rfl)))) (by rfl)
  obtain ⟨v, rfl, hv⟩ : ∃ v : Int, d = .int v ∧ -high ≤ v ∧ v ≤ high := by
    simp only [List.mem_cons, List.not_mem_nil, or_false] at hdm
    rcases hdm with rfl | rfl | rfl | rfl
    · exact ⟨_, rfl, by omega⟩
    · exact ⟨_, rfl, by omega⟩
    · exact ⟨_, rfl, by omega⟩
    · exact ⟨_, rfl, hl2⟩
  have e5 := hpk _ _ _ ⟨n, rfl⟩ rfl e4
  refine ⟨v, hv, n + 3, Sn.seq (Sn.set' (op2_v (show ev cl (.var 3) _ = .val (.list (xs.map .int)) _ from rfl) (callv (cons_v e5 rfl) (by rfl)) (add_l (by simp [lim]; omega)))) ?_⟩
  show Out.nxt _ = _
  simp
theorem samp_loop (hd : DrI cl J ns) (hp : PkI cl Jp ns) (most : D) (high : Int) (h0 : 0 ≤ high) (h1 : high ≤ 100000) : ∀ (m : Nat) (ds : List D), ds.length = m → ∀ (n : Nat) (xs : List Int) (z : Slot), (∀ x ∈ xs, -high ≤ x ∧ x ≤ high) → xs.length + m ≤ 1000 → ∃ (n' : Nat) (ys : List Int) (z' : Slot), ys.length = xs.length + m ∧ (∀ x ∈ ys, -high ≤ x ∧ x ≤ high) ∧
    forGo (gNm 4) (ev cl (tSampB J Jp)) ds [.io (dr ns n), .val most, .val (.int high), .val (.list (xs.map .int)), z] = .nxt [.io (dr ns n'), .val most, .val (.int high), .val (.list (ys.map .int)), z']
  | 0, ds, hl, n, xs, z, hx, _ => by
    have : ds = [] := List.eq_nil_of_length_eq_zero hl
    subst this
    exact ⟨n, xs, z, rfl, hx, rfl⟩
  | m + 1, [], hl, _, _, _, _, _ => by cases hl
  | m + 1, d :: ds, hl, n, xs, z, hx, hm => by
    obtain ⟨v, hv, n1, e1⟩ := samp_step hd hp n most high h0 h1 xs hx (by omega) (.val d)
    obtain ⟨n', ys, z', hl', hy, e⟩ := samp_loop hd hp most high h0 h1 m ds (by simpa using hl) n1 (xs ++ [v]) (.val d) (fun x hm => by
      rcases List.mem_append.mp hm with q | q
      · exact hx x q
      · rw [List.mem_singleton.mp q]; exact hv) (by simp; omega)
    exact ⟨n', ys, z', by simp at hl'; omega, hy, (forGo_nxt (f := gNm 4) rfl e1).trans e⟩
theorem samp_go (hd : DrI cl J ns) (hp : PkI cl Jp ns) (n : Nat) (most high : Int) (m1 : 1 ≤ most) (m2 : most ≤ 900) (h0 : 0 ≤ high) (h1 : high ≤ 100000) : ∃ (xs : List Int) (n' : Nat) (r' : Rho), (1 ≤ xs.length ∧ (xs.length : Int) ≤ most) ∧ (∀ x ∈ xs, -high ≤ x ∧ x ≤ high) ∧
    ev cl (tSamp J Jp) [.io (dr ns n), .val (.int most), .val (.int high), .un, .un] = .ret (.tuple (xs.map .int)) (.io (dr ns n') :: r') := by
  obtain ⟨v, v0, v1, hv⟩ := hd n most (by omega)
  obtain ⟨n', ys, z', hl, hy, e⟩ := samp_loop hd hp (.int most) high h0 h1 (1 + v).toNat (rngD 0 (1 + v).toNat) (by simp [rngD]) (n + 1) [] .un (by simp) (by simp; omega)
  have q := hv (.var 1) [.io (dr ns n), .val (.int most), .val (.int high), .val (.list []), .un] rfl (Ev.var rfl)
  have ei : ev cl (.rg1 (.con (.bin .Add (.cst (.int 1)) (.cal J (.rfc 0 (.con (.var 1) .nil)))) .nil)) [.io (dr ns n), .val (.int most), .val (.int high), .val (.list []), .un] = .vals (rngD 0 (1 + v).toNat) [.io (dr ns (n + 1)), .val (.int most), .val (.int high), .val (.list []), .un] := by
    have q1 : ev cl (.con (.bin .Add (.cst (.int 1)) (.cal J (.rfc 0 (.con (.var 1) .nil)))) .nil) [.io (dr ns n), .val (.int most), .val (.int high), .val (.list []), .un] = .vals [.int (1 + v)] [.io (dr ns (n + 1)), .val (.int most), .val (.int high), .val (.list []), .un] :=
      cons_v (op2_v (show ev cl (.cst (.int 1)) _ = .val (.int 1) _ from rfl) q rfl) rfl
    show oRng1 _ _ = _
    unfold oRng1
    rw [q1]
    exact if_pos (rgc (by omega) (by omega))
  refine ⟨ys, n', [.val (.int most), .val (.int high), .val (.list (ys.map .int)), z'], by simp at hl; omega, hy, ?_⟩
  refine Sn.seq (r1 := [.io (dr ns n), .val (.int most), .val (.int high), .val (.list []), .un]) rfl (Sn.seq (r1 := [.io (dr ns n'), .val (.int most), .val (.int high), .val (.list (ys.map .int)), z']) ?_ (seqR (retV (Ev.bi (EvA.con (Ev.var rfl) .nil) rfl))))
  show oFor _ (gNm 4) (ev cl (tSampB J Jp)) _ = _
  unfold oFor
  rw [ei]
  exact e
end
/-- what a call of _law_samples brings, in a law -/
def SmO (cl : Nat → O1) (Js : Nat) (ns : List Int) : Prop := ∀ (n : Nat) (most high : Int), 1 ≤ most → most ≤ 900 → 0 ≤ high → high ≤ 100000 → ∃ (xs : List Int) (n' : Nat), (1 ≤ xs.length ∧ (xs.length : Int) ≤ most) ∧ (∀ x ∈ xs, -high ≤ x ∧ x ≤ high) ∧
  ∀ (a b : T) (r : Rho), r[1]? = some (.own (dr ns n)) → Ev cl a r (.int most) → Ev cl b r (.int high) → ev cl (.cal Js (.rfc 1 (.con a (.con b .nil)))) r = .val (.tuple (xs.map .int)) (r.set 1 (.own (dr ns n')))
theorem smO_ok {jp js : Nat} {f g : Fd} (h : Draws fs j) (hp : fs[jp]? = some f) (hN : f.N.length = 2) (ht : f.t = tPick (j + 3)) (hs : fs[js]? = some g) (hN2 : g.N.length = 5) (ht2 : g.t = tSamp (j + 3) jp) (k : Nat) (ns : List Int) : SmO (calls fs (k + 5)) js ns := fun n most high m1 m2 h0 h1 => by
  have hd : DrI (calls fs (k + 4)) (j + 3) ns := drI_ok h (k + 1) ns
  have hpk : PkI (calls fs (k + 4)) jp ns := fun n xs hx hl => pick_io h hp hN ht k ns n xs hx hl
  obtain ⟨xs, n', r', a1, a2, e⟩ := samp_go hd hpk n most high m1 m2 h0 h1
  refine ⟨xs, n', a1, a2, fun a b r hr ha hb => ?_⟩
  have e' : calls fs (k + 5) js [.io (dr ns n), .val (.int most), .val (.int high)] = .ret (.tuple (xs.map .int)) (.io (dr ns n') :: r') := by
    rw [calls_at hs, hN2, ht2]
    exact e
  have ha' : ev (calls fs (k + 5)) a r = .val (.int most) r := ha.h
  have hb' : ev (calls fs (k + 5)) b r = .val (.int high) r := hb.h
  simp [ev, flT, oCallF, oRef, oCons, oNil, Out.bnd, Out.bnds, refs, mkArgs, putBack, hr, ha', hb', Slot.excl, e']
end
end Py

/-! Py, part Sz: slices, greatest and least of coded rows. -/
namespace Py
open PySem L2
abbrev eT (xs : List Int) : D := .tuple (xs.map .int)
def cutL {α : Type} (xs : List α) (lo hi : Option Int) : List α := (xs.drop (HT.sIx xs.length 0 lo)).take (HT.sIx xs.length xs.length hi - HT.sIx xs.length 0 lo)
theorem cut_map {α : Type} (f : α → D) (xs : List α) (lo hi : Option Int) : cutD (xs.map f) lo hi = (cutL xs lo hi).map f := by
  unfold cutD cutL
  rw [List.length_map, List.map_take, List.map_drop]
theorem sl_t {α : Type} {f : α → D} {xs : List α} {lo hi : Option Int} : fSl (.tuple (xs.map f)) lo hi = some (.tuple ((cutL xs lo hi).map f)) := by
  rw [← cut_map]; rfl
theorem sl_l {α : Type} {f : α → D} {xs : List α} {lo hi : Option Int} : fSl (.list (xs.map f)) lo hi = some (.list ((cutL xs lo hi).map f)) := by
  rw [← cut_map]; rfl
theorem EvI.gen {cl : Nat → O1} {r : Rho} {a : T} {x : D} {α : Type} {en : α → D} {xs : List α} {k : SK} (ha : Ev cl a r x) (hk : kOf x = some (k, xs.map en)) : EvI cl (.itr a) r en xs := by
  constructor
  show oIt _ r = _
  unfold oIt
  rw [ha.h]
  show (match kOf x with | some (_, ds) => Out.vals ds r | none => .bad) = _
  rw [hk]
theorem kof_t {α : Type} {en : α → D} {xs : List α} : kOf (.tuple (xs.map en)) = some (.t, xs.map en) := rfl
theorem kof_l {α : Type} {en : α → D} {xs : List α} : kOf (.list (xs.map en)) = some (.l, xs.map en) := rfl
theorem kof_few {xs : List D} : kOf (.tuple xs) = some (.t, xs.map id) := by rw [List.map_id]; rfl
theorem kof_fewL {xs : List D} : kOf (.list xs) = some (.l, xs.map id) := by rw [List.map_id]; rfl
theorem retOf {fs : List Fd} {j k : Nat} {f : Fd} {as r r' : Rho} {d : D} (h : fs[j]? = some f) (q : ev (calls fs k) f.t r = .ret d r') (e : as ++ List.replicate (f.N.length - as.length) .un = r := by rfl) : retD (calls fs (k + 1) j as) = some d := by
  rw [calls_at h, e, q]; rfl
theorem nxtOf {fs : List Fd} {j k : Nat} {f : Fd} {as r r' : Rho} (h : fs[j]? = some f) (q : ev (calls fs k) f.t r = .nxt r') (e : as ++ List.replicate (f.N.length - as.length) .un = r := by rfl) : retD (calls fs (k + 1) j as) = some .none := by
  rw [calls_at h, e, q]; rfl
theorem eT_map {α : Type} (f : α → Int) (l : List α) : eT (l.map f) = .tuple (l.map fun x => PyData.int (f x)) := by
  show PyData.tuple _ = _
  rw [List.map_map]; rfl
def maxL : List Int → Int
  | [] => 0
  | x :: t => t.foldl max x
def minL : List Int → Int
  | [] => 0
  | x :: t => t.foldl min x
theorem max_ne {α : Type} {f : α → Int} {xs : List α} (h : xs ≠ []) : BF.max.f [.list (xs.map fun x => .int (f x))] = some (.int (maxL (xs.map f))) := by
  cases xs with
  | nil => exact absurd rfl h
  | cons x t => rw [List.map_cons, List.map_cons]; exact max_c
theorem max_neT {α : Type} {f : α → Int} {xs : List α} (h : xs ≠ []) : BF.max.f [.tuple (xs.map fun x => .int (f x))] = some (.int (maxL (xs.map f))) := max_ne h
theorem min_ne {α : Type} {f : α → Int} {xs : List α} (h : xs ≠ []) : BF.min.f [.list (xs.map fun x => .int (f x))] = some (.int (minL (xs.map f))) := by
  cases xs with
  | nil => exact absurd rfl h
  | cons x t => rw [List.map_cons, List.map_cons]; exact min_c
theorem min_neT {α : Type} {f : α → Int} {xs : List α} (h : xs ≠ []) : BF.min.f [.tuple (xs.map fun x => .int (f x))] = some (.int (minL (xs.map f))) := min_ne h
theorem maxI {xs : List Int} (h : xs ≠ []) : BF.max.f [.tuple (xs.map .int)] = some (.int (maxL xs)) := by
  have := max_neT (f := fun x : Int => x) h
  rwa [List.map_id'] at this
theorem minI {xs : List Int} (h : xs ≠ []) : BF.min.f [.tuple (xs.map .int)] = some (.int (minL xs)) := by
  have := min_neT (f := fun x : Int => x) h
  rwa [List.map_id'] at this
theorem sumI {xs : List Int} : BF.sum.f [.tuple (xs.map .int)] = some (.int xs.sum) := by
  show (intsOf _).map _ = _
  rw [intsOf_map]; rfl
theorem tup_l {xs : List D} : BF.tuple.f [.list xs] = some (.tuple xs) := rfl
theorem tup_t {xs : List D} : BF.tuple.f [.tuple xs] = some (.tuple xs) := rfl
theorem max2L_i {i j : Int} : BF.max.f [.list [.int i, .int j]] = some (.int (max i j)) := max_c (xs := [j]) (f := fun x : Int => x)
theorem min2L_i {i j : Int} : BF.min.f [.list [.int i, .int j]] = some (.int (min i j)) := min_c (xs := [j]) (f := fun x : Int => x)
theorem le_maxL : ∀ {xs : List Int} {y : Int}, y ∈ xs → y ≤ maxL xs
  | x :: t, y, h => by
    rcases List.mem_cons.mp h with rfl | h
    · exact le_foldmax _ _
    · exact mem_le_foldmax _ _ _ h
theorem maxL_mem : ∀ {xs : List Int}, xs ≠ [] → maxL xs ∈ xs
  | x :: t, _ => by
    rcases foldmax_mem t x with h | h
    · show t.foldl max x ∈ _
      rw [h]; exact List.mem_cons_self
    · exact List.mem_cons_of_mem _ h
/-! statements with a list of one's own -/
section
variable {cl : Nat → O1} {r r1 r' : Rho} {a b : T} {x y g : D} {ds : List D}
theorem Sn.app {i : Nat} (h : r[i]? = some (.own (.list ds))) (ha : Ev cl a r x) (hl : ds.length < lim) : Sn cl (.app i a) r (r.set i (.own (.list (ds ++ [x])))) := by
  show oApp i _ r = _
  unfold oApp
  rw [h]
  dsimp only
  rw [if_pos (show (Slot.own (.list ds)).isL = true from rfl), ha.h]
  show (match r[i]?.bind (Slot.app x) with | some s' => Out.nxt (r.set i s') | none => .bad) = _
  rw [h]
  show (match (if ds.length < lim then some (Slot.own (.list (ds ++ [x]))) else none) with | some s' => Out.nxt (r.set i s') | none => .bad) = _
  rw [if_pos hl]
theorem Sn.aug {i : Nat} {o : Operator} (h : r[i]? = some (.val x)) (ha : Ev cl a r y) (hf : fOpI o x y = some g) : Sn cl (.aug i o a) r (r.set i (.val g)) := by
  show oAug i (fOpI o) _ r = _
  unfold oAug
  rw [h]
  dsimp only
  rw [ha.h]
  show (optO (fOpI o x y) r).bnd _ = _
  rw [hf]; rfl
theorem Sn.sto {i : Nat} (h : Ev cl a r x) : Sn cl (.sto i a) r (r.set i (.own x)) := by
  show oSetO i _ r = _
  unfold oSetO
  rw [h.h]; rfl
/-- a name that holds a list of its own is read at last -/
theorem retOwn {i : Nat} (h : r[i]? = some (.own (.list ds))) : ev cl (.ret (.bi .tuple (.con (.var i) .nil))) r = .ret (.tuple ds) (r.set i (.val (.list ds))) := by
  have e : ev cl (.var i) r = .val (.list ds) (r.set i (.val (.list ds))) := by
    show oVar i r = _
    unfold oVar; rw [h]
  have e2 : ev cl (.bi .tuple (.con (.var i) .nil)) r = .val (.tuple ds) (r.set i (.val (.list ds))) := callv (cons_v e rfl) rfl
  exact retV' e2
theorem Sn.ifT {c : T} (h : Tt cl a r) (k : ev cl b r = .nxt r') : Sn cl (.ifs a b c) r r' := Py.ifsT h k
theorem Sn.ifF {c : T} (h : Ff cl a r) (k : ev cl c r = .nxt r') : Sn cl (.ifs a b c) r r' := Py.ifsF h k
end
/-! for, by what has been walked -/
theorem for_pre {α : Type} {en : α → D} {f : Bd} {b : O1} (all : List α) (P : List α → Rho → Prop) {r : Rho} (h0 : P [] r)
    (hs : ∀ pre x post r, all = pre ++ x :: post → P pre r → ∃ r1 r2, f (en x) r = some r1 ∧ b r1 = .nxt r2 ∧ P (pre ++ [x]) r2) : ∃ r', forGo f b (all.map en) r = .nxt r' ∧ P all r' := by
  have key : ∀ (post pre : List α) (r : Rho), all = pre ++ post → P pre r → ∃ r', forGo f b (post.map en) r = .nxt r' ∧ P all r' := by
    intro post
    induction post with
    | nil => intro pre r e h; rw [List.append_nil] at e; subst e; exact ⟨r, rfl, h⟩
    | cons x post ih =>
      intro pre r e h
      obtain ⟨r1, r2, e1, e2, h2⟩ := hs pre x post r e h
      obtain ⟨r', e3, h3⟩ := ih (pre ++ [x]) r2 (by rw [e]; simp) h2
      exact ⟨r', (forGo_nxt e1 e2).trans e3, h3⟩
  exact key all [] r rfl h0
theorem for_enum {α : Type} {en : α → D} {f : Bd} {b : O1} (all : List α) (P : List α → Rho → Prop) {r : Rho} (h0 : P [] r)
    (hs : ∀ pre x post r, all = pre ++ x :: post → P pre r → ∃ r1 r2, f (.tuple [.int (pre.length : Nat), en x]) r = some r1 ∧ b r1 = .nxt r2 ∧ P (pre ++ [x]) r2) : ∃ r', forGo f b (enumD 0 (all.map en)) r = .nxt r' ∧ P all r' := by
  have key : ∀ (post pre : List α) (r : Rho), all = pre ++ post → P pre r → ∃ r', forGo f b (enumD pre.length (post.map en)) r = .nxt r' ∧ P all r' := by
    intro post
    induction post with
    | nil => intro pre r e h; rw [List.append_nil] at e; subst e; exact ⟨r, rfl, h⟩
    | cons x post ih =>
      intro pre r e h
      obtain ⟨r1, r2, e1, e2, h2⟩ := hs pre x post r e h
      obtain ⟨r', e3, h3⟩ := ih (pre ++ [x]) r2 (by rw [e]; simp) h2
      rw [List.length_append] at e3
      exact ⟨r', (forGo_nxt e1 e2).trans e3, h3⟩
  exact key all [] r rfl h0
theorem Sn.for {cl : Nat → O1} {tg it b : T} {r r' : Rho} {ds : List D} (hi : ev cl it r = .vals ds r) (h : forGo (evG tg).1 (ev cl b) ds r = .nxt r') : Sn cl (.frl tg it b) r r' := by
  show oFor _ _ _ r = _
  unfold oFor
  rw [hi]
  exact h
theorem enu_v {cl : Nat → O1} {a : T} {r : Rho} {x : D} {k : SK} {xs : List D} (ha : Ev cl a r x) (h : kOf x = some (k, xs)) : ev cl (.enu (.con a .nil)) r = .vals (enumD 0 xs) r := by
  show oEnum (ev cl (.con a .nil)) r = _
  unfold oEnum
  rw [(EvA.con ha .nil).h]
  dsimp only [Out.bnds]
  rw [h]
/-- what is told along the way -/
def scanF {σ α β : Type} (f : σ → α → σ) (g : σ → β) : σ → List α → List β
  | _, [] => []
  | s, x :: t => g (f s x) :: scanF f g (f s x) t
theorem scanF_snoc {σ α β : Type} (f : σ → α → σ) (g : σ → β) (x : α) : ∀ (l : List α) (s : σ), scanF f g s (l ++ [x]) = scanF f g s l ++ [g (f (l.foldl f s) x)]
  | [], s => rfl
  | y :: l, s => by show _ :: scanF f g _ (l ++ [x]) = _; rw [scanF_snoc f g x l]; rfl
theorem scanF_len {σ α β : Type} (f : σ → α → σ) (g : σ → β) : ∀ (l : List α) (s : σ), (scanF f g s l).length = l.length
  | [], s => rfl
  | y :: l, s => by show (scanF f g _ l).length + 1 = _; rw [scanF_len f g l]; rfl
theorem fold_snoc {σ α : Type} (f : σ → α → σ) (s : σ) (l : List α) (x : α) : (l ++ [x]).foldl f s = f (l.foldl f s) x := by rw [List.foldl_append]; rfl
theorem zip_snoc {α : Type} (l : List α) (x : α) : (l ++ [x]).zipIdx 0 = l.zipIdx 0 ++ [(x, l.length)] := by
  rw [List.zipIdx_append]; simp
def ab (x : Int) : Int := if x < 0 then -x else x
theorem abs_ab {i : Int} : BF.abs.f [.int i] = some (.int (ab i)) := rfl
/-! a def gives something back -/
structure Rt (cl : Nat → O1) (t : T) (r : Rho) (d : D) : Prop where
  h : ∃ r', ev cl t r = .ret d r'
section
variable {cl : Nat → O1} {r r1 r' : Rho} {a b c tg it : T} {x y d : D} {ds : List D}
theorem Rt.of {fs : List Fd} {j k : Nat} {f : Fd} {as r : Rho} {d : D} (h : fs[j]? = some f) (q : Rt (calls fs k) f.t r d) (e : as ++ List.replicate (f.N.length - as.length) .un = r := by rfl) : retD (calls fs (k + 1) j as) = some d := by
  obtain ⟨r', q⟩ := q.h
  exact retOf h q e
theorem Rt.seq (h : Sn cl a r r1) (k : Rt cl b r1 d) : Rt cl (.seq a b) r d := by
  obtain ⟨r', q⟩ := k.h
  exact ⟨r', Sn.seq h q⟩
theorem Rt.ret (h : Ev cl a r d) : Rt cl (.seq (.ret a) b) r d := ⟨r, seqR (retV h)⟩
theorem Rt.own {i : Nat} (h : r[i]? = some (.own (.list ds))) : Rt cl (.seq (.ret (.bi .tuple (.con (.var i) .nil))) b) r (.tuple ds) := ⟨_, seqR (retOwn h)⟩
theorem Rt.loop {P : Rho → Prop} (hi : ev cl it r = .vals ds r) (h : ∃ r', forGo (evG tg).1 (ev cl b) ds r = .nxt r' ∧ P r') (k : ∀ r', P r' → Rt cl c r' d) : Rt cl (.seq (.frl tg it b) c) r d := by
  obtain ⟨r', e, p⟩ := h
  exact Rt.seq (Sn.for hi e) (k r' p)
theorem Rt.ifT (h : Tt cl a r) (k : Rt cl b r d) {e : T} : Rt cl (.seq (.ifs a b c) e) r d := by
  obtain ⟨r', q⟩ := k.h
  exact ⟨r', seqR (Py.ifsT h q)⟩
theorem itr_v {cl : Nat → O1} {a : T} {r : Rho} {x : D} {k : SK} {xs : List D} (ha : Ev cl a r x) (h : kOf x = some (k, xs)) : ev cl (.itr a) r = .vals xs r := by
  show oIt _ r = _
  unfold oIt
  rw [ha.h]
  show (match kOf x with | some (_, ds) => Out.vals ds r | none => .bad) = _
  rw [h]
end
/-- data of ints in rows are fit for == -/
theorem ok_eT (xs : List Int) : okD (eT xs) = true := okD_intsT xs
theorem cutL_le {α : Type} (xs : List α) (lo hi : Option Int) : (cutL xs lo hi).length ≤ xs.length := by
  unfold cutL
  rw [List.length_take, List.length_drop]
  omega
theorem sIx_ge {n d : Nat} {i : Int} (h : 0 ≤ i) : HT.sIx n d (some i) = min i.toNat n := by
  show (if i < 0 then _ else _) = _
  rw [if_neg (by omega)]
theorem cut_nn {α : Type} {xs : List α} {i j : Int} (hi : 0 ≤ i) (hj : 0 ≤ j) : cutL xs (some i) (some j) = (xs.drop i.toNat).take (j.toNat - i.toNat) := by
  unfold cutL
  rw [sIx_ge hi, sIx_ge hj]
  by_cases h : i.toNat ≤ xs.length
  · rw [Nat.min_eq_left h]
    by_cases h2 : j.toNat ≤ xs.length
    · rw [Nat.min_eq_left h2]
    · rw [Nat.min_eq_right (by omega), List.take_of_length_le (by simp), List.take_of_length_le (by simp; omega)]
  · rw [List.drop_eq_nil_of_le (by omega), List.drop_eq_nil_of_le (by omega)]
    simp
end Py

namespace Py
open PySem
/-! whole numbers from m up to n -/
def rgN (m n : Nat) : List Nat := (List.range (n - m)).map (m + ·)
theorem mem_rgN {m n x : Nat} : x ∈ rgN m n ↔ m ≤ x ∧ x < n := by
  unfold rgN
  rw [List.mem_map]
  constructor
  · rintro ⟨j, hj, rfl⟩
    have := List.mem_range.mp hj
    omega
  · rintro ⟨h1, h2⟩
    exact ⟨x - m, List.mem_range.mpr (by omega), by omega⟩
theorem rgN_len (m n : Nat) : (rgN m n).length = n - m := by unfold rgN; simp
theorem rgN_succ {m n : Nat} (h : m ≤ n) : rgN m (n + 1) = rgN m n ++ [n] := by
  unfold rgN
  rw [show n + 1 - m = n - m + 1 by omega, List.range_succ, List.map_append]
  show _ ++ [m + (n - m)] = _
  rw [show m + (n - m) = n by omega]
theorem rgN_nil {m n : Nat} (h : n ≤ m) : rgN m n = [] := by
  unfold rgN
  rw [show n - m = 0 by omega]; rfl
theorem range_rgN {m n : Nat} (h : m ≤ n) : List.range n = List.range m ++ rgN m n := by
  unfold rgN
  rw [← List.range_add, show m + (n - m) = n by omega]
theorem range_at {m n : Nat} (h : m < n) : List.range n = List.range m ++ m :: rgN (m + 1) n := by
  rw [range_rgN (m := m + 1) (by omega), List.range_succ]
  simp
section
variable {cl : Nat → O1} {r : Rho} {a b : T}
theorem EvI.rgN {m n : Nat} (ha : Ev cl a r (.int (m : Nat))) (hb : Ev cl b r (.int (n : Nat))) (h1 : m ≤ 1000000) (h2 : n ≤ 1000000) : EvI cl (.rg2 (.con a (.con b .nil))) r eN (rgN m n) := by
  refine EvI.conv (EvI.rg2 ha hb ⟨by omega, by omega⟩ ⟨by omega, by omega⟩) ?_
  unfold Py.rgN
  rw [List.map_map, show ((n : Int) - (m : Int)).toNat = n - m by omega]
  exact List.map_congr_left fun j _ => by show PyData.int _ = PyData.int _; congr 1
end
/-! knowing less -/
def Sub (kn : List (Nat × D)) : List (Nat × D) → Prop
  | [] => True
  | (i, d) :: t => kn.lookup i = some d ∧ Sub kn t
theorem Sub.at {kn : List (Nat × D)} : ∀ {l : List (Nat × D)}, Sub kn l → ∀ i d, l.lookup i = some d → kn.lookup i = some d
  | [], _, _, _, e => by cases e
  | (j, x) :: t, h, i, d, e => by
    rw [List.lookup_cons] at e
    by_cases q : (i == j) = true
    · rw [q] at e
      cases e
      have : i = j := by simpa using q
      subst this
      exact h.1
    · rw [Bool.not_eq_true] at q
      rw [q] at e
      exact h.2.at i d e
section
variable {N : Nat} {ns : List Int} {n : Nat} {kn kn' : List (Nat × D)} {r r' : Rho} {cl : Nat → O1}
theorem Kw.sub (h : Kw N ns n kn r) (s : Sub kn kn') : Kw N ns n kn' r := ⟨h.len, h.d, fun i d e => h.k i d (s.at i d e), h.x⟩
theorem Kw.sn (h : Kw N ns n kn r) : ∃ n, Kw N ns n kn r := ⟨n, h⟩
theorem Kw.loop {α σ : Type} {en : α → D} {xs : List α} {i : Nat} {it b : T} (g : σ → List (Nat × D)) (f : σ → α → σ) (s0 : σ) (hi : EvI cl it r en xs) (h0 : Kw N ns n (g s0) r)
    (hs : ∀ s a r1, a ∈ xs → Kw N ns n (g s) r1 → ∃ r2, ev cl b (r1.set i (.val (en a))) = .nxt r2 ∧ Kw N ns n (g (f s a)) r2) : ∃ r', Sn cl (.frl (.gn i) it b) r r' ∧ Kw N ns n (g (xs.foldl f s0)) r' := by
  obtain ⟨r', e, h⟩ := for_pre (en := en) (f := gNm i) (b := ev cl b) xs (fun pre r => Kw N ns n (g (pre.foldl f s0)) r) h0 (fun pre x post r1 he h1 => by
    obtain ⟨r2, e2, h2⟩ := hs _ x r1 (by rw [he]; simp) h1
    exact ⟨_, r2, rfl, e2, by rw [fold_snoc]; exact h2⟩)
  exact ⟨r', Sn.for hi.h e, h⟩
/-- a loop that goes on as long as something holds -/
theorem Kw.turns {en : Nat → D} {xs : List Nat} {i : Nat} {it b : T} (hi : EvI cl it r en xs) (h0 : Kw N ns n [] r)
    (hs : ∀ a n1 r1, a ∈ xs → Kw N ns n1 [] r1 → ∃ n2 r2, ev cl b (r1.set i (.val (en a))) = .nxt r2 ∧ Kw N ns n2 [] r2) : ∃ n' r', Sn cl (.frl (.gn i) it b) r r' ∧ Kw N ns n' [] r' := by
  obtain ⟨r', e, n', h⟩ := for_pre (en := en) (f := gNm i) (b := ev cl b) xs (fun pre r => ∃ n', Kw N ns n' [] r) ⟨n, h0⟩ (fun pre x post r1 he ⟨n1, h1⟩ => by
    obtain ⟨n2, r2, e2, h2⟩ := hs x n1 r1 (by rw [he]; simp) h1
    exact ⟨_, r2, rfl, e2, n2, h2⟩)
  exact ⟨n', r', Sn.for hi.h e, h⟩
end
theorem Frm.mono {vs vs' : List Nat} {r r' : Rho} (h : Frm vs r r') (hv : ∀ i ∈ vs, i ∈ vs') : Frm vs' r r' := ⟨h.1, fun i => (h.2 i).imp id fun z => ⟨hv i z.1, z.2⟩⟩
/-! for, by what has been walked, with a frame -/
theorem for_walk {cl : Nat → O1} {α : Type} {en : α → D} {xs : List α} {i : Nat} {it b : T} {r : Rho} (vs : List Nat) (P : List α → Rho → Prop) (hi : EvI cl it r en xs) (h0 : P [] r)
    (hs : ∀ pre a post r1, xs = pre ++ a :: post → Frm vs r r1 → P pre r1 → ∃ r2, ev cl b (r1.set i (.val (en a))) = .nxt r2 ∧ Frm vs r1 r2 ∧ P (pre ++ [a]) r2) : ∃ r', Sn cl (.frl (.gn i) it b) r r' ∧ Frm vs r r' ∧ P xs r' := by
  obtain ⟨r', e, h⟩ := for_pre (en := en) (f := gNm i) (b := ev cl b) xs (fun pre r1 => Frm vs r r1 ∧ P pre r1) ⟨.refl _ _, h0⟩ (fun pre x post r1 he h1 => by
    obtain ⟨r2, e2, h2, h3⟩ := hs pre x post r1 he h1.1 h1.2
    exact ⟨_, r2, rfl, e2, h1.1.trans h2, h3⟩)
  exact ⟨r', Sn.for hi.h e, h⟩
section
variable {cl : Nat → O1} {r r1 r2 r' : Rho} {a b as : T} {x y g : D} {ds : List D}
theorem Sn.par' {is : List Nat} {fl : List Bool} (h : ev cl as r = .vals ds r1) (hs : setX is fl ds r1 = some r') : Sn cl (.par is fl as) r r' := by
  show oPar is fl _ r = _
  unfold oPar
  rw [h]
  show (match setX is fl ds r1 with | some r2 => Out.nxt r2 | none => .bad) = _
  rw [hs]
theorem con_v (h1 : ev cl a r = .val x r1) (h2 : ev cl b r1 = .vals ds r2) : ev cl (.con a b) r = .vals (x :: ds) r2 := cons_v h1 h2
theorem bin_v {o : Operator} (h1 : ev cl a r = .val x r1) (h2 : ev cl b r1 = .val y r2) (hf : binF o x y = some g) : ev cl (.bin o a b) r = .val g r2 := op2_v h1 h2 hf
theorem all_b {l : List Bool} : BF.all.f [.list (l.map .bool)] = some (.bool (l.all id)) := all_c (f := fun x : Bool => x)
theorem any_b {l : List Bool} : BF.any.f [.list (l.map .bool)] = some (.bool (l.any id)) := any_c (f := fun x : Bool => x)
theorem rowsOf_map {α : Type} {f : α → List D} : ∀ xs : List α, rowsOf (xs.map fun x => .list (f x)) = some (xs.map f)
  | [] => rfl
  | x :: xs => by
    show (rowsOf (xs.map fun x => .list (f x))).map _ = _
    rw [rowsOf_map xs]; rfl
theorem sumL_c {α : Type} {f : α → List D} {xs : List α} (h : (xs.map f).flatten.length ≤ lim) : BF.sumL.f [.list (xs.map fun x => .list (f x)), .list []] = some (.list (xs.map f).flatten) := by
  unfold BF.f fSumL
  dsimp only
  rw [rowsOf_map]
  simp only [List.length_nil, Nat.zero_add, List.nil_append]
  rw [if_pos h]
end
theorem flatten_le {α β : Type} {f : α → List β} {m : Nat} : ∀ (xs : List α), (∀ x ∈ xs, (f x).length ≤ m) → (xs.map f).flatten.length ≤ xs.length * m
  | [], _ => Nat.zero_le _
  | x :: xs, h => by
    have := flatten_le xs fun y hy => h y (List.mem_cons_of_mem _ hy)
    have := h x List.mem_cons_self
    rw [List.map_cons, List.flatten_cons, List.length_append, List.length_cons, Nat.add_mul]
    omega
theorem scanF_eq {σ α β : Type} (f : σ → α → σ) (g : σ → β) : ∀ (l : List α) (s : σ), scanF f g s l = (List.range l.length).map fun i => g ((l.take (i + 1)).foldl f s)
  | [], s => rfl
  | y :: l, s => by
    show g (f s y) :: scanF f g (f s y) l = _
    rw [scanF_eq f g l, List.length_cons, List.range_succ_eq_map, List.map_cons, List.map_map]
    rfl
theorem zipIdx_eq {α : Type} [Inhabited α] (xs : List α) : xs.zipIdx 0 = (List.range xs.length).map fun i => (xs.getD i default, i) := by
  apply List.ext_getElem
  · simp
  · intro i h1 h2
    simp at h1
    simp [List.getD_eq_getElem?_getD, h1]
theorem take_snoc {α : Type} [Inhabited α] {xs : List α} {i : Nat} (h : i < xs.length) : xs.take (i + 1) = xs.take i ++ [xs.getD i default] := by
  rw [List.take_succ, getD_some h]; rfl
theorem map_getD {α : Type} [Inhabited α] (xs : List α) : (List.range xs.length).map (fun i => xs.getD i default) = xs := by
  apply List.ext_getElem
  · simp
  · intro i h1 h2
    simp at h1
    simp [List.getD_eq_getElem?_getD, h1]
theorem mem_cut {α : Type} [Inhabited α] {xs : List α} {i j : Nat} {x : α} (hj : j ≤ xs.length) : x ∈ (xs.drop i).take (j - i) ↔ ∃ a, i ≤ a ∧ a < j ∧ xs.getD a default = x := by
  rw [List.mem_iff_getElem]
  constructor
  · rintro ⟨a, ha, e⟩
    rw [List.length_take, List.length_drop] at ha
    refine ⟨i + a, by omega, by omega, ?_⟩
    rw [List.getElem_take, List.getElem_drop] at e
    rw [List.getD_eq_getElem?_getD, List.getElem?_eq_getElem (by omega)]
    exact e
  · rintro ⟨a, h1, h2, e⟩
    refine ⟨a - i, by rw [List.length_take, List.length_drop]; omega, ?_⟩
    rw [List.getElem_take, List.getElem_drop]
    rw [List.getD_eq_getElem?_getD, List.getElem?_eq_getElem (by omega)] at e
    rw [← e]
    show _ = xs[a]
    congr 1
    omega
theorem fold_ext {σ α : Type} {f g : σ → α → σ} : ∀ (l : List α) (s : σ), (∀ s, ∀ a ∈ l, f s a = g s a) → l.foldl f s = l.foldl g s
  | [], s, _ => rfl
  | a :: l, s, h => by
    rw [List.foldl_cons, List.foldl_cons, h s a List.mem_cons_self]
    exact fold_ext l _ fun s b hb => h s b (List.mem_cons_of_mem _ hb)
/-! how a law begins -/
theorem cut63 (ns : List Int) (h : ns.length ≤ 63) : cutD (ns.map PyData.int) none (some 63) = ns.map PyData.int := by
  have e1 : HT.sIx (ns.map PyData.int).length 0 none = 0 := rfl
  have e2 : HT.sIx (ns.map PyData.int).length (ns.map PyData.int).length (some 63) = ns.length := by
    show min (63 : Int).toNat (ns.map PyData.int).length = _
    rw [List.length_map]
    show min 63 ns.length = _
    omega
  unfold cutD
  rw [e1, e2]
  exact List.take_of_length_le (by simp)
theorem Kw.init (N : Nat) (ns : List Int) : Kw (N + 2) ns 0 [] (.scr ns :: .own (Py.dr ns 0) :: List.replicate N .un) where
  len := by simp
  d := rfl
  k i d e := by cases e
  x i s hi e := by
    match i, hi, e with
    | 0, _, e => cases e; rfl
    | 1, hi, _ => exact absurd rfl hi
    | i + 2, _, e =>
      have e' : (List.replicate N Slot.un)[i]? = some s := e
      rw [List.getElem?_replicate] at e'
      split at e'
      · cases e'; rfl
      · cases e'
end Py

namespace Py
open PySem
/-! rows of three whole numbers: which comes first -/
abbrev R3 := Int × Int × Int
abbrev eR3 (t : R3) : D := .tuple [.int t.1, .int t.2.1, .int t.2.2]
def lt3 (a b : R3) : Bool := if a.1 = b.1 then (if a.2.1 = b.2.1 then decide (a.2.2 < b.2.2) else decide (a.2.1 < b.2.1)) else decide (a.1 < b.1)
theorem lt3_ok (a b : R3) : PySem.W.dataLt (eR3 a) (eR3 b) = lt3 a b := by
  rw [PySem.W.dataLt_tuple]
  simp only [PySem.W.keyToksAll, PySem.W.keyToks, List.cons_append, List.nil_append]
  unfold lt3
  rw [PyProof.Rows.lex_self (O := PyProof.Rows.itemOrd)]
  by_cases h1 : a.1 = b.1
  · rw [if_pos h1, h1, PyProof.Rows.lex_self (O := PyProof.Rows.itemOrd), PyProof.Rows.lex_self (O := PyProof.Rows.itemOrd)]
    by_cases h2 : a.2.1 = b.2.1
    · rw [if_pos h2, h2, PyProof.Rows.lex_self (O := PyProof.Rows.itemOrd), PyProof.Rows.lex_self (O := PyProof.Rows.itemOrd)]
      by_cases h3 : a.2.2 = b.2.2
      · rw [h3, PyProof.Rows.lex_self (O := PyProof.Rows.itemOrd), PyProof.Rows.lex_self (O := PyProof.Rows.itemOrd), PyProof.Rows.lex_irrefl (O := PyProof.Rows.itemOrd)]
        simp
      · rw [PyProof.Rows.lex_diff (O := PyProof.Rows.itemOrd) (by simpa using h3)]
        rfl
    · rw [if_neg h2, PyProof.Rows.lex_diff (O := PyProof.Rows.itemOrd) (by simpa using h2)]
      rfl
  · rw [if_neg h1, PyProof.Rows.lex_diff (O := PyProof.Rows.itemOrd) (by simpa using h1)]
    rfl
theorem min3_ok : ∀ (xs : List R3) (x : R3), PySem.W.minD (eR3 x) (xs.map eR3) = eR3 (xs.foldl (fun a y => if lt3 y a = true then y else a) x)
  | [], _ => rfl
  | y :: xs, x => by
    have ih := min3_ok xs
    unfold PySem.W.minD at ih ⊢
    rw [List.map_cons, List.foldl_cons, List.foldl_cons, lt3_ok]
    cases lt3 y x with
    | true => exact ih y
    | false => exact ih x
theorem lt3_iff {a b : R3} : lt3 a b = true ↔ a.1 < b.1 ∨ (a.1 = b.1 ∧ (a.2.1 < b.2.1 ∨ (a.2.1 = b.2.1 ∧ a.2.2 < b.2.2))) := by
  unfold lt3
  split
  · split
    · rw [decide_eq_true_eq]; omega
    · rw [decide_eq_true_eq]; omega
  · rw [decide_eq_true_eq]; omega
def min3 (x : R3) (xs : List R3) : R3 := xs.foldl (fun a y => if lt3 y a = true then y else a) x
theorem lt3_no {a b : R3} : lt3 a b = false ↔ ¬ (a.1 < b.1 ∨ (a.1 = b.1 ∧ (a.2.1 < b.2.1 ∨ (a.2.1 = b.2.1 ∧ a.2.2 < b.2.2)))) := by
  rw [← lt3_iff]; simp
theorem min3_le : ∀ (xs : List R3) (x : R3), (∀ y ∈ x :: xs, lt3 y (min3 x xs) = false)
  | [], x, y, h => by
    rcases List.mem_cons.mp h with rfl | h
    · show lt3 y y = false
      rw [lt3_no]; omega
    · cases h
  | z :: xs, x, y, h => by
    have e : min3 x (z :: xs) = min3 (if lt3 z x = true then z else x) xs := rfl
    rw [e]
    have key := min3_le xs (if lt3 z x = true then z else x)
    have hh := key _ List.mem_cons_self
    generalize min3 (if lt3 z x = true then z else x) xs = m at key hh
    rcases List.mem_cons.mp h with rfl | h
    · by_cases q : lt3 z y = true
      · rw [if_pos q] at hh
        rw [lt3_iff] at q
        rw [lt3_no] at hh ⊢
        omega
      · rw [if_neg q] at hh; exact hh
    · rcases List.mem_cons.mp h with rfl | h
      · by_cases q : lt3 y x = true
        · rw [if_pos q] at hh; exact hh
        · rw [if_neg q] at hh
          rw [Bool.not_eq_true, lt3_no] at q
          rw [lt3_no] at hh ⊢
          omega
      · exact key y (List.mem_cons_of_mem _ h)
theorem min3_mem : ∀ (xs : List R3) (x : R3), min3 x xs ∈ x :: xs
  | [], x => List.mem_cons_self
  | z :: xs, x => by
    have e : min3 x (z :: xs) = min3 (if lt3 z x = true then z else x) xs := rfl
    rw [e]
    by_cases q : lt3 z x = true
    · rw [if_pos q]
      exact List.mem_cons_of_mem _ (min3_mem xs z)
    · rw [if_neg q]
      rcases List.mem_cons.mp (min3_mem xs x) with h | h
      · rw [h]; exact List.mem_cons_self
      · exact List.mem_cons_of_mem _ (List.mem_cons_of_mem _ h)
theorem lt3_anti {a b : R3} (h1 : lt3 a b = false) (h2 : lt3 b a = false) : a = b := by
  rw [lt3_no] at h1 h2
  obtain ⟨a1, a2, a3⟩ := a
  obtain ⟨b1, b2, b3⟩ := b
  simp only at h1 h2
  have e1 : a1 = b1 := by omega
  have e2 : a2 = b2 := by omega
  have e3 : a3 = b3 := by omega
  rw [e1, e2, e3]
def le3 (a b : R3) : Bool := !lt3 b a
theorem sort3 (xs : List R3) : (xs.map eR3).mergeSort leD = (xs.mergeSort le3).map eR3 := by
  refine (List.map_mergeSort fun a _ b _ => ?_).symm
  unfold le3 leD
  rw [lt3_ok]
theorem sort3_head (x : R3) (xs : List R3) : ∃ t, (x :: xs).mergeSort le3 = min3 x xs :: t := by
  have hp := List.pairwise_mergeSort (le := le3) (fun a b c h1 h2 => by
    unfold le3 at h1 h2 ⊢
    rw [Bool.not_eq_true', lt3_no] at h1 h2 ⊢
    omega) (fun a b => by
    unfold le3
    rw [Bool.or_eq_true, Bool.not_eq_true', Bool.not_eq_true', lt3_no, lt3_no]
    omega) (x :: xs)
  cases h : (x :: xs).mergeSort le3 with
  | nil =>
    have := congrArg List.length h
    rw [List.length_mergeSort] at this
    cases this
  | cons y t =>
    refine ⟨t, ?_⟩
    congr 1
    rw [h] at hp
    have hy : y ∈ x :: xs := List.mem_mergeSort.mp (by rw [h]; exact List.mem_cons_self)
    have hm : min3 x xs ∈ y :: t := by rw [← h]; exact List.mem_mergeSort.mpr (min3_mem xs x)
    refine lt3_anti (min3_le xs x y hy) ?_
    rcases List.mem_cons.mp hm with e | e
    · rw [e, lt3_no]; omega
    · have := (List.pairwise_cons.mp hp).1 _ e
      unfold le3 at this
      rw [Bool.not_eq_true'] at this
      exact this
theorem alike_r3 (a b : R3) : PySem.W.alike (eR3 a) (eR3 b) = true := rfl
theorem sml_r3 (a : R3) : sml 1 (eR3 a) := sml_tup (f := PyData.int) (xs := [a.1, a.2.1, a.2.2]) fun x _ => sml_int x
theorem sortOk_r3 (xs : List R3) (h : xs.length ≤ lim) : sortOk (xs.map eR3) = true := by
  unfold sortOk
  have h1 : PyData.plainAll (xs.map eR3) = true := plainAll_map fun x _ => (sml_r3 x).1
  have h2 : PyData.depthAll (xs.map eR3) ≤ 50 := Nat.le_trans (depthAll_map (n := 1) fun x _ => (sml_r3 x).2) (by decide)
  have h3 : ((xs.map eR3).all fun x => (xs.map eR3).all fun y => PySem.W.alike x y) = true := by
    rw [List.all_eq_true]
    intro x hx
    obtain ⟨a, _, rfl⟩ := List.mem_map.mp hx
    rw [List.all_eq_true]
    intro y hy
    obtain ⟨b, _, rfl⟩ := List.mem_map.mp hy
    exact alike_r3 a b
  have h4 : (xs.map eR3).all neTup = true := by
    rw [List.all_eq_true]
    intro x hx
    obtain ⟨a, _, rfl⟩ := List.mem_map.mp hx
    rfl
  rw [h1, h3, h4, decide_eq_true h2, decide_eq_true (by rw [List.length_map]; exact h)]
  rfl
theorem sorted3 (xs : List R3) (h : xs.length ≤ lim) : BF.sorted.f [.list (xs.map eR3)] = some (.list ((xs.mergeSort le3).map eR3)) := by
  unfold BF.f fSorted
  dsimp only
  rw [if_pos (sortOk_r3 xs h), sort3]
theorem okDs_r3 (xs : List R3) : okDs (xs.map eR3) = true := by
  unfold okDs
  have h1 : PyData.plainAll (xs.map eR3) = true := plainAll_map fun x _ => (sml_r3 x).1
  have h2 : PyData.depthAll (xs.map eR3) ≤ 60 := Nat.le_trans (depthAll_map (n := 1) fun x _ => (sml_r3 x).2) (by decide)
  rw [h1, decide_eq_true h2, Bool.true_and, Bool.true_and]
  unfold alikeB
  rw [Bool.and_eq_true, List.all_eq_true, List.all_eq_true]
  refine ⟨fun x hx => List.all_eq_true.mpr fun y hy => ?_, fun x hx => ?_⟩
  · obtain ⟨a, _, rfl⟩ := List.mem_map.mp hx
    obtain ⟨b, _, rfl⟩ := List.mem_map.mp hy
    exact alike_r3 a b
  · obtain ⟨a, _, rfl⟩ := List.mem_map.mp hx
    rfl
theorem minR3 (x : R3) (xs : List R3) : BF.min.f [.list (eR3 x :: xs.map eR3)] = some (eR3 (min3 x xs)) := by
  show (if okDs (eR3 x :: xs.map eR3) = true then some (PySem.W.minD (eR3 x) (xs.map eR3)) else none) = _
  rw [if_pos (show okDs (eR3 x :: xs.map eR3) = true from okDs_r3 (x :: xs)), min3_ok]; rfl
end Py

namespace Py
open PySem
/-! reduced fractions -/
def leanI (t b : Int) : Int × Int := (t / (Int.gcd t b : Nat), b / (Int.gcd t b : Nat))
theorem lean_ex (t b : Int) (hb : 0 < b) : ∃ g : Int, 0 < g ∧ g = (Int.gcd t b : Nat) ∧ t = (leanI t b).1 * g ∧ b = (leanI t b).2 * g ∧ 0 < (leanI t b).2 ∧ Int.gcd (leanI t b).1 (leanI t b).2 = 1 := by
  have hg : 0 < Int.gcd t b := Int.gcd_pos_of_ne_zero_right t (by omega)
  have hg' : (0 : Int) < (Int.gcd t b : Nat) := by omega
  have d1 : ((Int.gcd t b : Nat) : Int) ∣ t := Int.gcd_dvd_left ..
  have d2 : ((Int.gcd t b : Nat) : Int) ∣ b := Int.gcd_dvd_right ..
  have e1 : t = t / (Int.gcd t b : Nat) * (Int.gcd t b : Nat) := (Int.ediv_mul_cancel d1).symm
  have e2 : b = b / (Int.gcd t b : Nat) * (Int.gcd t b : Nat) := (Int.ediv_mul_cancel d2).symm
  refine ⟨_, hg', rfl, e1, e2, ?_, ?_⟩
  · show 0 < b / (Int.gcd t b : Nat)
    exact Int.ediv_pos_of_pos_of_dvd hb (by omega) d2
  · exact Int.gcd_ediv_gcd_ediv_gcd hg
theorem dvd_cop {q p x : Int} (h : q ∣ p * x) (c : Int.gcd p q = 1) : q ∣ x := by
  refine Int.natAbs_dvd_natAbs.mp ?_
  have h1 : q.natAbs ∣ p.natAbs * x.natAbs := by rw [← Int.natAbs_mul]; exact Int.natAbs_dvd_natAbs.mpr h
  have h2 : Nat.Coprime q.natAbs p.natAbs := by
    show Nat.gcd _ _ = 1
    rw [Nat.gcd_comm]; exact c
  exact h2.dvd_of_dvd_mul_left h1
theorem frac_uniq {p q p' q' : Int} (hq : 0 < q) (hq' : 0 < q') (h : Int.gcd p q = 1) (h' : Int.gcd p' q' = 1) (e : p * q' = p' * q) : p = p' ∧ q = q' := by
  have d1 : q ∣ q' := by
    have : q ∣ p * q' := ⟨p', by rw [e, Int.mul_comm]⟩
    exact dvd_cop this h
  have d2 : q' ∣ q := by
    have : q' ∣ p' * q := ⟨p, by rw [← e, Int.mul_comm]⟩
    exact dvd_cop this h'
  have eq : q = q' := Int.le_antisymm (Int.le_of_dvd hq' d1) (Int.le_of_dvd hq d2)
  subst eq
  exact ⟨Int.eq_of_mul_eq_mul_right (by omega) e, rfl⟩
theorem lean_eq {t b t' b' : Int} (hb : 0 < b) (hb' : 0 < b') (e : t * b' = t' * b) : leanI t b = leanI t' b' := by
  obtain ⟨g, g0, _, e1, e2, q0, c⟩ := lean_ex t b hb
  obtain ⟨g', g0', _, e1', e2', q0', c'⟩ := lean_ex t' b' hb'
  generalize leanI t b = x at *
  generalize leanI t' b' = x' at *
  obtain ⟨p, q⟩ := x
  obtain ⟨p', q'⟩ := x'
  dsimp only at *
  have : p * q' = p' * q := by
    rw [e1, e2, e1', e2'] at e
    have e3 : p * q' * (g * g') = p' * q * (g * g') := by
      have a1 : p * g * (q' * g') = p * q' * (g * g') := by simp only [Int.mul_assoc, Int.mul_left_comm, Int.mul_comm]
      have a2 : p' * g' * (q * g) = p' * q * (g * g') := by simp only [Int.mul_assoc, Int.mul_left_comm, Int.mul_comm]
      rw [← a1, ← a2]; exact e
    exact Int.eq_of_mul_eq_mul_right (by have := Int.mul_pos g0 g0'; omega) e3
  obtain ⟨r1, r2⟩ := frac_uniq q0 q0' c c' this
  rw [r1, r2]
theorem lean_cross (t b : Int) (hb : 0 < b) : (leanI t b).1 * b = t * (leanI t b).2 := by
  obtain ⟨g, g0, _, e1, e2, q0, c⟩ := lean_ex t b hb
  generalize leanI t b = x at *
  obtain ⟨p, q⟩ := x
  dsimp only at *
  rw [e1, e2]
  simp only [Int.mul_assoc, Int.mul_left_comm, Int.mul_comm]
theorem lean_pos (t b : Int) (hb : 0 < b) : 0 < (leanI t b).2 := (lean_ex t b hb).choose_spec.2.2.2.2.1
theorem lean_le (t b : Int) (hb : 0 < b) : (leanI t b).2 ≤ b := by
  obtain ⟨g, g0, _, e1, e2, q0, c⟩ := lean_ex t b hb
  have : (leanI t b).2 * 1 ≤ (leanI t b).2 * g := Int.mul_le_mul_of_nonneg_left (by omega) (by omega)
  omega
theorem lean_one (t : Int) : leanI t 1 = (t, 1) := by
  unfold leanI
  rw [Int.gcd_one_right]
  simp
theorem lean_zero (b : Int) (hb : 0 < b) : leanI 0 b = (0, 1) := by
  rw [← lean_one 0]
  exact lean_eq hb (by decide) (by simp)
/-- a fraction as it stands is its own reduced one -/
theorem lean_self {p q : Int} (hq : 0 < q) (h : Int.gcd p q = 1) : leanI p q = (p, q) := by
  unfold leanI
  rw [h]
  simp
theorem lean_cop (t b : Int) (hb : 0 < b) : Int.gcd (leanI t b).1 (leanI t b).2 = 1 := (lean_ex t b hb).choose_spec.2.2.2.2.2
theorem ab_nat (x : Int) : ab x = (x.natAbs : Nat) := by unfold ab; split <;> omega
theorem lean_ab (t b : Int) (hb : 0 < b) : leanI (ab t) b = (ab (leanI t b).1, (leanI t b).2) := by
  obtain ⟨g, g0, _, e1, e2, q0, c⟩ := lean_ex t b hb
  generalize leanI t b = x at *
  obtain ⟨p, q⟩ := x
  dsimp only at *
  have h1 : Int.gcd (ab p) q = 1 := by rw [ab_nat]; show Nat.gcd (Int.natAbs (p.natAbs : Nat)) q.natAbs = 1; rw [Int.natAbs_natCast]; exact c
  rw [← lean_self q0 h1]
  refine lean_eq hb q0 ?_
  have : ab t = ab p * g := by
    rw [e1, ab_nat, ab_nat, Int.natAbs_mul]
    push_cast
    rw [show ((g.natAbs : Nat) : Int) = g by omega]
  rw [this, e2]
  simp only [Int.mul_assoc, Int.mul_left_comm, Int.mul_comm]
theorem lean_mag (t b : Int) (hb : 0 < b) : ab (leanI t b).1 ≤ ab t := by
  have h := lean_ab t b hb
  obtain ⟨g, g0, _, e1, e2, q0, c⟩ := lean_ex t b hb
  have e3 : ab t = ab (leanI t b).1 * g := by
    conv => lhs; rw [e1]
    rw [ab_nat, ab_nat, Int.natAbs_mul]
    push_cast
    rw [show ((g.natAbs : Nat) : Int) = g by omega]
  have p0 : 0 ≤ ab (leanI t b).1 := by rw [ab_nat]; omega
  have : ab (leanI t b).1 * 1 ≤ ab (leanI t b).1 * g := Int.mul_le_mul_of_nonneg_left (by omega) p0
  omega
/-! the loop of Euclid -/
def tGcdB (i j : Nat) : T := (.seq (.par [i, j] [false, false] (.con (.var j) (.con (.bin .Sub (.var i) (.bin .Mult (.var j) (.bin .FloorDiv (.var i) (.var j)))) .nil))) .skp)
def tGcd (i j : Nat) : T := (.whl 100000 (.cmp .Gt (.var j) (.cst (.int 0))) (tGcdB i j))
section
variable {cl : Nat → O1} {i j : Nat}
theorem gcd_go (hij : i ≠ j) : ∀ (n b a : Nat) (r : Rho), b < n → b ≤ 100000 → i < r.length → j < r.length → r[i]? = some (.val (.int (a : Nat))) → r[j]? = some (.val (.int (b : Nat))) → ∃ r', whGo (ev cl (.cmp .Gt (.var j) (.cst (.int 0)))) (ev cl (tGcdB i j)) n r = .nxt r' ∧ Frm [i, j] r r' ∧ r'[i]? = some (.val (.int (Nat.gcd a b : Nat)))
  | 0, b, a, r, h, _, _, _, _, _ => absurd h (Nat.not_lt_zero _)
  | n + 1, b, a, r, h, hb, li, lj, hi, hj => by
    have ht : ev cl (.cmp .Gt (.var j) (.cst (.int 0))) r = .val (.bool (decide ((0 : Int) < (b : Nat)))) r := (Ev.cmp (c := .Gt) (Ev.var hj) (.cst (d := .int 0)) rfl).h
    by_cases q : b = 0
    · subst q
      refine ⟨r, ?_, .refl _ _, by rw [Nat.gcd_zero_right]; exact hi⟩
      unfold whGo
      rw [ht]; rfl
    · have hw : W64 (b : Nat) := by
        unfold W64
        rw [show (2 : Int) ^ 64 = 18446744073709551616 by decide]
        omega
      have e1 : Sn cl (tGcdB i j) r ((r.set i (.val (.int (b : Nat)))).set j (.val (.int ((a : Int) - (b : Nat) * ((a : Int) / (b : Nat)))))) :=
        Sn.seq (Sn.par (EvA.con (Ev.var hj) (EvA.con (Ev.bin (Ev.var hi) (Ev.bin (Ev.var hj) (Ev.bin (Ev.var hi) (Ev.var hj) (div_i (by omega) (by omega))) (mul_i (.inl hw))) rfl) .nil)) rfl) Sn.skp
      have em : (a : Int) - (b : Nat) * ((a : Int) / (b : Nat)) = ((a % b : Nat) : Int) := by
        rw [Int.natCast_emod, Int.emod_def]
      rw [em] at e1
      have hlt : a % b < b := Nat.mod_lt _ (by omega)
      obtain ⟨r', e2, f, h2⟩ := gcd_go hij n (a % b) b ((r.set i (.val (.int (b : Nat)))).set j (.val (.int ((a % b : Nat) : Int)))) (by omega) (by omega) (by simpa using li) (by simpa using lj) (lk_ne (Ne.symm hij) (lk_eq li)) (lk_eq (by simpa using lj))
      refine ⟨r', ?_, (((Frm.refl _ _).set (by simp) _).set (by simp) _).trans f, ?_⟩
      · unfold whGo
        rw [ht]
        rw [decide_eq_true (by omega)]
        show (match ev cl (tGcdB i j) r with | .nxt r2 => whGo _ _ n r2 | .cnt r2 => _ | .brk r2 => _ | .ret e r2 => _ | .retF e r2 => _ | .exc n e => _ | _ => _) = _
        rw [e1]
        exact e2
      · rw [h2, Nat.gcd_comm a b, Nat.gcd_rec b a, Nat.gcd_comm (a % b) b]
theorem gcd_ok (hij : i ≠ j) {a b : Nat} {r : Rho} (hb : b ≤ 90000) (li : i < r.length) (lj : j < r.length) (hi : r[i]? = some (.val (.int (a : Nat)))) (hj : r[j]? = some (.val (.int (b : Nat)))) : ∃ r', Sn cl (tGcd i j) r r' ∧ Frm [i, j] r r' ∧ r'[i]? = some (.val (.int (Nat.gcd a b : Nat))) :=
  gcd_go hij 100000 b a r (by omega) (by omega) li lj hi hj
end
/-! two clauses, no tests -/
theorem lcOut_go {α β : Type} {vs vs1 : List Nat} {f f1 : Bd} {it1 e : O1} {r : Rho} {en : α → D} {em : α → β → D} {ys : α → List β} {gg : α → β → D} {st : α → Rho} {st1 : α → β → Rho} : ∀ (xs : List α) (acc : List D),
    (∀ x, f (en x) (wipeR r vs) = some (st x)) → (∀ x, wipeR (wipeR (st x) vs1) vs = wipeR r vs) → (∀ x ∈ xs, it1 (st x) = .vals ((ys x).map (em x)) (st x)) → (∀ x y, f1 (em x y) (wipeR (st x) vs1) = some (st1 x y)) → (∀ x y, wipeR (st1 x y) vs1 = wipeR (st x) vs1) →
    (∀ x ∈ xs, ∀ y ∈ ys x, e (st1 x y) = .val (gg x y) (st1 x y)) → acc.length + (xs.flatMap fun x => (ys x).map (gg x)).length ≤ lim → lcOut vs vs1 f oYes it1 f1 oYes e (xs.map en) acc (wipeR r vs) = some (acc ++ xs.flatMap fun x => (ys x).map (gg x), wipeR r vs)
  | [], acc, _, _, _, _, _, _, _ => by simp [lcOut]
  | x :: xs, acc, hf, hw, hi1, hf1, hw1, he, hl => by
    have h0 := List.mem_cons_self (a := x) (l := xs)
    rw [List.flatMap_cons, List.length_append, List.length_map] at hl
    rw [List.map_cons]
    unfold lcOut
    rw [hf x]
    dsimp only
    rw [show oYes (st x) = .val (.bool true) (st x) from rfl]
    dsimp only
    rw [hi1 x h0]
    dsimp only
    rw [lcIn_enc (en := em x) (t := oYes) (p := fun _ => true) (st := st1 x) (ys x) acc (fun y _ => hf1 x y) (fun y _ => hw1 x y) (fun y _ => rfl) (fun y hy _ => he x h0 y hy) (by omega)]
    dsimp only
    rw [hw x, List.filter_eq_self.mpr fun _ _ => rfl, lcOut_go xs _ hf hw (fun z h => hi1 z (List.mem_cons_of_mem _ h)) hf1 hw1 (fun z h => he z (List.mem_cons_of_mem _ h)) (by rw [List.length_append, List.length_map]; omega)]
    rw [List.flatMap_cons, List.append_assoc]
theorem Ev.lcc {cl : Nat → O1} {r : Rho} {α β : Type} {vs vs1 : List Nat} {tg tg1 it it1 e : T} {en : α → D} {em : α → β → D} {xs : List α} {ys : α → List β} {gg : α → β → D} {st : α → Rho} {st1 : α → β → Rho}
    (hi : EvI cl it r en xs) (hok : okV r vs = true) (hf : ∀ x, (evG tg).1 (en x) (wipeR r vs) = some (st x)) (hw : ∀ x, wipeR (wipeR (st x) vs1) vs = wipeR r vs) (hi1 : ∀ x ∈ xs, EvI cl it1 (st x) (em x) (ys x))
    (hf1 : ∀ x y, (evG tg1).1 (em x y) (wipeR (st x) vs1) = some (st1 x y)) (hw1 : ∀ x y, wipeR (st1 x y) vs1 = wipeR (st x) vs1) (he : ∀ x ∈ xs, ∀ y ∈ ys x, Ev cl e (st1 x y) (gg x y)) (hl : (xs.flatMap fun x => (ys x).map (gg x)).length ≤ lim) :
    Ev cl (.lc2 vs vs1 tg it .yes tg1 it1 .yes e) r (.list (xs.flatMap fun x => (ys x).map (gg x))) := by
  refine ⟨?_⟩
  show oLc2 vs vs1 (ev cl it) (evG tg).1 oYes (ev cl it1) (evG tg1).1 oYes (ev cl e) r = _
  unfold oLc2
  rw [hi.h]
  show (if okV r vs = true then _ else _) = _
  rw [if_pos hok, lcOut_go xs [] hf hw (fun x h => (hi1 x h).h) hf1 hw1 (fun x h y hy => (he x h y hy).h) (by simpa using hl)]
  show Out.val _ _ = _
  rw [rest_wipe]; rfl
theorem flat_le {α β : Type} {f : α → List β} {m : Nat} (xs : List α) (h : ∀ x ∈ xs, (f x).length ≤ m) : (xs.flatMap f).length ≤ xs.length * m := by
  rw [List.flatMap_def]; exact flatten_le xs h
/-! the place of the greatest -/
def idxM (xs : List Int) : Nat := (xs.findIdx? fun y => y == maxL xs).getD 0
theorem plc_max {xs : List Int} (h : xs ≠ []) : fPlace (xs.map .int) (.int (maxL xs)) = some (.int (idxM xs : Nat)) := by
  unfold fPlace idxM
  rw [if_pos ⟨okD_ints xs, rfl⟩, place_ints]
  cases hf : xs.findIdx? (fun y => y == maxL xs) with
  | none =>
    rw [List.findIdx?_eq_none_iff] at hf
    have := hf _ (maxL_mem h)
    simp at this
  | some j => rfl
/-! how great -/
theorem ab_mul (a b : Int) : ab (a * b) = ab a * ab b := by
  rw [ab_nat, ab_nat, ab_nat, Int.natAbs_mul]; push_cast; rfl
theorem ab_0 (a : Int) : 0 ≤ ab a := by rw [ab_nat]; omega
theorem ab_add (a b : Int) : ab (a + b) ≤ ab a + ab b := by rw [ab_nat, ab_nat, ab_nat]; omega
theorem ab_sub (a b : Int) : ab (a - b) ≤ ab a + ab b := by rw [ab_nat, ab_nat, ab_nat]; omega
theorem ab_pos {a : Int} (h : 0 ≤ a) : ab a = a := by unfold ab; rw [if_neg (by omega)]
theorem ab_le {a m : Int} (h1 : -m ≤ a) (h2 : a ≤ m) : ab a ≤ m := by unfold ab; split <;> omega
theorem mul_bd {a b A B : Int} (a0 : 0 ≤ a) (a1 : a ≤ A) (b0 : 0 ≤ b) (b1 : b ≤ B) : a * b ≤ A * B := Int.mul_le_mul a1 b1 b0 (by omega)
theorem w64 {i : Int} (h1 : -1000000000 ≤ i) (h2 : i ≤ 1000000000) : W64 i := by
  unfold W64
  rw [show (2 : Int) ^ 64 = 18446744073709551616 by decide]
  omega
end Py

namespace K76
open PySem Py
def top (i : Nat) : Stmt := PySem.Challenge.pw_noclicks_k76_whole_joins.main.body.getD i (.Pass ⟨0, 0, 0, 0⟩)
def fd0 : Fd := ⟨("is_whole" : Str), top 6, [("thing" : Str)], [("thing" : Str)],
  (.seq (.ret (.b2 .And (.isa .int (.var 0)) (.b1 (.inv (.isa .bool (.var 0)))))) .skp)⟩
def fd1 : Fd := ⟨("is_from" : Str), top 7, [("thing" : Str), ("least" : Str), ("most" : Str)], [("thing" : Str), ("least" : Str), ("most" : Str)],
  (.seq (.ret (.b2 .And (.cal 0 (.con (.var 0) .nil)) (.b1 (.chn .LtE .LtE (.var 1) (.var 0) (.var 2))))) .skp)⟩
def fd2 : Fd := ⟨("common" : Str), top 8, [("one" : Str), ("other" : Str)], [("one" : Str), ("other" : Str)],
  (.seq (.whl 100000 (.cmp .Gt (.var 1) (.cst (.int 0))) (.seq (.par [0, 1] [false, false] (.con (.var 1) (.con (.bin .Sub (.var 0) (.bin .Mult (.var 1) (.bin .FloorDiv (.var 0) (.var 1)))) .nil))) .skp)) (.seq (.ret (.var 0)) .skp))⟩
def fd3 : Fd := ⟨("lean" : Str), top 11, [("top" : Str), ("below" : Str), ("divisor" : Str)], [("top" : Str), ("below" : Str)],
  (.seq (.set 2 (.cal 2 (.con (.bi .abs (.con (.var 0) .nil)) (.con (.var 1) .nil)))) (.seq (.par [0, 1] [false, false] (.con (.bin .FloorDiv (.var 0) (.var 2)) (.con (.bin .FloorDiv (.var 1) (.var 2)) .nil))) (.seq (.ifs (.b2 .Or (.cmp .Gt (.bi .abs (.con (.var 0) .nil)) (.glo (.int 1000000000000000000000000000000000000000000000000000000000000))) (.b1 (.cmp .Gt (.var 1) (.glo (.int 1000000000000000000000000000000000000000000000000000000000000))))) (.seq .nev .skp) .skp) (.seq (.ret (.tup (.con (.var 0) (.con (.var 1) .nil)))) .skp))))⟩
def fd4 : Fd := ⟨("plus" : Str), top 12, [("one" : Str), ("other" : Str)], [("one" : Str), ("other" : Str)],
  (.seq (.ret (.cal 3 (.con (.bin .Add (.bin .Mult (.ix (.var 0) (.cst (.int 0))) (.ix (.var 1) (.cst (.int 1)))) (.bin .Mult (.ix (.var 1) (.cst (.int 0))) (.ix (.var 0) (.cst (.int 1))))) (.con (.bin .Mult (.ix (.var 0) (.cst (.int 1))) (.ix (.var 1) (.cst (.int 1)))) .nil)))) .skp)⟩
def fd5 : Fd := ⟨("minus" : Str), top 13, [("one" : Str), ("other" : Str)], [("one" : Str), ("other" : Str)],
  (.seq (.ret (.cal 3 (.con (.bin .Sub (.bin .Mult (.ix (.var 0) (.cst (.int 0))) (.ix (.var 1) (.cst (.int 1)))) (.bin .Mult (.ix (.var 1) (.cst (.int 0))) (.ix (.var 0) (.cst (.int 1))))) (.con (.bin .Mult (.ix (.var 0) (.cst (.int 1))) (.ix (.var 1) (.cst (.int 1)))) .nil)))) .skp)⟩
def fd6 : Fd := ⟨("times" : Str), top 14, [("one" : Str), ("other" : Str)], [("one" : Str), ("other" : Str)],
  (.seq (.ret (.cal 3 (.con (.bin .Mult (.ix (.var 0) (.cst (.int 0))) (.ix (.var 1) (.cst (.int 0)))) (.con (.bin .Mult (.ix (.var 0) (.cst (.int 1))) (.ix (.var 1) (.cst (.int 1)))) .nil)))) .skp)⟩
def fd7 : Fd := ⟨("less" : Str), top 15, [("one" : Str), ("other" : Str)], [("one" : Str), ("other" : Str)],
  (.seq (.ret (.cmp .Lt (.bin .Mult (.ix (.var 0) (.cst (.int 0))) (.ix (.var 1) (.cst (.int 1)))) (.bin .Mult (.ix (.var 1) (.cst (.int 0))) (.ix (.var 0) (.cst (.int 1)))))) .skp)⟩
def fd8 : Fd := ⟨("size" : Str), top 16, [("one" : Str)], [("one" : Str)],
  (.seq (.ret (.tup (.con (.bi .abs (.con (.ix (.var 0) (.cst (.int 0))) .nil)) (.con (.ix (.var 0) (.cst (.int 1))) .nil)))) .skp)⟩
def fd9 : Fd := ⟨("greatest" : Str), top 17, [("things" : Str), ("found" : Str), ("thing" : Str)], [("things" : Str)],
  (.seq (.set 1 (.cst .none)) (.seq (.frl (.gn 2) (.itr (.var 0)) (.seq (.set 1 (.ife (.b2 .Or (.cmp .Is (.var 1) (.cst .none)) (.b1 (.cal 7 (.con (.var 1) (.con (.var 2) .nil))))) (.var 2) (.var 1))) .skp)) (.seq (.ret (.ife (.cmp .Is (.var 1) (.cst .none)) (.glo (.tuple [(.int 0), (.int 1)])) (.var 1))) .skp)))⟩
def fd10 : Fd := ⟨("is_sample_row" : Str), top 20, [("thing" : Str), ("one" : Str)], [("thing" : Str)],
  (.seq (.ifs (.b2 .Or (.inv (.isa .tuple (.var 0))) (.b1 (.inv (.chn .LtE .LtE (.cst (.int 1)) (.bi .len (.con (.var 0) .nil)) (.glo (.int 40)))))) (.seq (.ret (.cst (.bool false))) .skp) .skp) (.seq (.ret (.bi .all (.con (.lc [1] (.gn 1) (.itr (.var 0)) .yes (.cal 1 (.con (.var 1) (.con (.neg (.cst (.int 1000))) (.con (.cst (.int 1000)) .nil))))) .nil))) .skp))⟩
def fd11 : Fd := ⟨("check_sample_row" : Str), top 21, [("samples" : Str)], [("samples" : Str)],
  (.seq (.ifs (.inv (.cal 10 (.con (.var 0) .nil))) (.seq .nev .skp) .skp) .skp)⟩
def fd12 : Fd := ⟨("check_both" : Str), top 22, [("one" : Str), ("other" : Str)], [("one" : Str), ("other" : Str)],
  (.seq (.drp (.cal 11 (.con (.var 0) .nil))) (.seq (.drp (.cal 11 (.con (.var 1) .nil))) .skp))⟩
def fd13 : Fd := ⟨("greatest_step" : Str), top 23, [("samples" : Str), ("steps" : Str), ("one" : Str), ("late" : Str)], [("samples" : Str)],
  (.seq (.drp (.cal 11 (.con (.var 0) .nil))) (.seq (.set 1 (.lc [2, 3] (.gt 2 (.con (.gn 2) (.con (.gn 3) .nil))) (.zpp (.con (.var 0) (.con (.sl (.var 0) (.pt (.cst (.int 1))) .nop) .nil))) .yes (.bi .abs (.con (.bin .Sub (.var 3) (.var 2)) .nil)))) (.seq (.ret (.ife (.cmp .NotEq (.var 1) (.lst .nil)) (.tup (.con (.bi .max (.con (.var 1) .nil)) (.con (.plc (.var 1) (.bi .max (.con (.var 1) .nil))) .nil))) (.tup (.con (.cst (.int 0)) (.con (.cst (.int 0)) .nil))))) .skp)))⟩
def fd14 : Fd := ⟨("best_cut" : Str), top 24, [("one" : Str), ("other" : Str), ("rows" : Str), ("last" : Str), ("here" : Str), ("first" : Str), ("late" : Str)], [("one" : Str), ("other" : Str)],
  (.seq (.drp (.cal 12 (.con (.var 0) (.con (.var 1) .nil)))) (.seq (.set 2 (.lc2 [3, 4, 5, 6] [5, 6] (.gt 2 (.con (.gn 3) (.con (.gn 4) .nil))) (.enu (.con (.var 0) .nil)) .yes (.gt 2 (.con (.gn 5) (.con (.gn 6) .nil))) (.enu (.con (.var 1) .nil)) .yes (.tup (.con (.bi .abs (.con (.bin .Sub (.var 6) (.var 4)) .nil)) (.con (.var 3) (.con (.var 5) .nil)))))) (.seq (.ret (.bi .min (.con (.var 2) .nil))) .skp)))⟩
def fd15 : Fd := ⟨("cut_joined" : Str), top 25, [("one" : Str), ("other" : Str), ("last" : Str), ("first" : Str)], [("one" : Str), ("other" : Str), ("last" : Str), ("first" : Str)],
  (.seq (.drp (.cal 12 (.con (.var 0) (.con (.var 1) .nil)))) (.seq (.ifs (.inv (.cal 1 (.con (.var 2) (.con (.cst (.int 0)) (.con (.bin .Sub (.bi .len (.con (.var 0) .nil)) (.cst (.int 1))) .nil))))) (.seq .nev .skp) .skp) (.seq (.ifs (.b2 .Or (.inv (.cal 1 (.con (.var 3) (.con (.cst (.int 0)) (.con (.bin .Sub (.bi .len (.con (.var 1) .nil)) (.cst (.int 1))) .nil))))) (.b1 (.cmp .Gt (.bin .Sub (.bin .Add (.bin .Add (.var 2) (.cst (.int 1))) (.bi .len (.con (.var 1) .nil))) (.var 3)) (.glo (.int 40))))) (.seq .nev .skp) .skp) (.seq (.ret (.bin .Add (.sl (.var 0) .nop (.pt (.bin .Add (.var 2) (.cst (.int 1))))) (.sl (.var 1) (.pt (.var 3)) .nop))) .skp))))⟩
def fd16 : Fd := ⟨("check_over" : Str), top 26, [("one" : Str), ("other" : Str), ("many" : Str)], [("one" : Str), ("other" : Str), ("many" : Str)],
  (.seq (.drp (.cal 12 (.con (.var 0) (.con (.var 1) .nil)))) (.seq (.ifs (.inv (.cal 1 (.con (.var 2) (.con (.cst (.int 0)) (.con (.bi .min (.con (.bi .len (.con (.var 0) .nil)) (.con (.bi .len (.con (.var 1) .nil)) .nil))) .nil))))) (.seq .nev .skp) .skp) .skp))⟩
def fd17 : Fd := ⟨("laid_over" : Str), top 27, [("one" : Str), ("other" : Str), ("many" : Str), ("found" : Str), ("at" : Str), ("front" : Str), ("back" : Str), ("sample" : Str), ("low" : Str), ("high" : Str)], [("one" : Str), ("other" : Str), ("many" : Str)],
  (.seq (.drp (.cal 16 (.con (.var 0) (.con (.var 1) (.con (.var 2) .nil))))) (.seq (.par [5, 6] [false, false] (.con (.sl (.var 0) .nop (.pt (.bin .Sub (.bi .len (.con (.var 0) .nil)) (.var 2)))) (.con (.sl (.var 1) (.pt (.var 2)) .nop) .nil))) (.seq (.sto 3 (.lc [7] (.gn 7) (.itr (.var 5)) .yes (.tup (.con (.var 7) (.con (.cst (.int 1)) .nil))))) (.seq (.frl (.gn 4) (.rg1 (.con (.var 2) .nil)) (.seq (.par [8, 9] [false, false] (.con (.ix (.var 0) (.bin .Add (.bin .Sub (.bi .len (.con (.var 0) .nil)) (.var 2)) (.var 4))) (.con (.ix (.var 1) (.var 4)) .nil))) (.seq (.app 3 (.cal 4 (.con (.cal 3 (.con (.bin .Mult (.var 8) (.bin .Sub (.var 2) (.var 4))) (.con (.bin .Add (.var 2) (.cst (.int 1))) .nil))) (.con (.cal 3 (.con (.bin .Mult (.var 9) (.bin .Add (.var 4) (.cst (.int 1)))) (.con (.bin .Add (.var 2) (.cst (.int 1))) .nil))) .nil)))) .skp))) (.seq (.ret (.bi .tuple (.con (.bin .Add (.var 3) (.lc [7] (.gn 7) (.itr (.var 6)) .yes (.tup (.con (.var 7) (.con (.cst (.int 1)) .nil))))) .nil))) .skp)))))⟩
def fd18 : Fd := ⟨("click_over" : Str), top 28, [("one" : Str), ("other" : Str), ("many" : Str), ("row" : Str), ("here" : Str), ("late" : Str)], [("one" : Str), ("other" : Str), ("many" : Str)],
  (.seq (.set 3 (.cal 17 (.con (.var 0) (.con (.var 1) (.con (.var 2) .nil))))) (.seq (.ret (.cal 9 (.con (.lc [4, 5] (.gt 2 (.con (.gn 4) (.con (.gn 5) .nil))) (.zpp (.con (.var 3) (.con (.sl (.var 3) (.pt (.cst (.int 1))) .nop) .nil))) .yes (.cal 8 (.con (.cal 5 (.con (.var 5) (.con (.var 4) .nil))) .nil))) .nil))) .skp))⟩
def fd19 : Fd := ⟨("least_over" : Str), top 29, [("one" : Str), ("other" : Str), ("bound" : Str), ("many" : Str), ("step" : Str)], [("one" : Str), ("other" : Str), ("bound" : Str)],
  (.seq (.drp (.cal 12 (.con (.var 0) (.con (.var 1) .nil)))) (.seq (.ifs (.inv (.cal 1 (.con (.var 2) (.con (.cst (.int 0)) (.con (.cst (.int 2000)) .nil))))) (.seq .nev .skp) .skp) (.seq (.frl (.gn 3) (.rg1 (.con (.bin .Add (.bi .min (.con (.bi .len (.con (.var 0) .nil)) (.con (.bi .len (.con (.var 1) .nil)) .nil))) (.cst (.int 1))) .nil)) (.seq (.set 4 (.cal 18 (.con (.var 0) (.con (.var 1) (.con (.var 3) .nil))))) (.seq (.ifs (.cmp .LtE (.ix (.var 4) (.cst (.int 0))) (.bin .Mult (.var 2) (.ix (.var 4) (.cst (.int 1))))) (.seq (.ret (.var 3)) .skp) .skp) .skp))) (.seq (.ret (.cst .none)) .skp))))⟩
def fd20 : Fd := ⟨("best_over" : Str), top 30, [("one" : Str), ("other" : Str), ("best" : Str), ("many" : Str), ("step" : Str)], [("one" : Str), ("other" : Str)],
  (.seq (.drp (.cal 12 (.con (.var 0) (.con (.var 1) .nil)))) (.seq (.set 2 (.cst .none)) (.seq (.frl (.gn 3) (.rg1 (.con (.bin .Add (.bi .min (.con (.bi .len (.con (.var 0) .nil)) (.con (.bi .len (.con (.var 1) .nil)) .nil))) (.cst (.int 1))) .nil)) (.seq (.set 4 (.cal 18 (.con (.var 0) (.con (.var 1) (.con (.var 3) .nil))))) (.seq (.ifs (.b2 .Or (.cmp .Is (.var 2) (.cst .none)) (.b1 (.cmp .Lt (.bin .Mult (.ix (.var 4) (.cst (.int 0))) (.ix (.ix (.var 2) (.cst (.int 1))) (.cst (.int 1)))) (.bin .Mult (.ix (.ix (.var 2) (.cst (.int 1))) (.cst (.int 0))) (.ix (.var 4) (.cst (.int 1))))))) (.seq (.set 2 (.tup (.con (.var 3) (.con (.var 4) .nil)))) .skp) .skp) .skp))) (.seq (.ret (.var 2)) .skp))))⟩
def fd21 : Fd := ⟨("best_loop" : Str), top 31, [("samples" : Str), ("least" : Str), ("rows" : Str), ("begin" : Str), ("end" : Str)], [("samples" : Str), ("least" : Str)],
  (.seq (.drp (.cal 11 (.con (.var 0) .nil))) (.seq (.ifs (.inv (.cal 1 (.con (.var 1) (.con (.cst (.int 1)) (.con (.bin .Sub (.glo (.int 40)) (.cst (.int 1))) .nil))))) (.seq .nev .skp) .skp) (.seq (.set 2 (.lc2 [3, 4] [4] (.gn 3) (.rg1 (.con (.bi .len (.con (.var 0) .nil)) .nil)) .yes (.gn 4) (.rg2 (.con (.bin .Add (.var 3) (.var 1)) (.con (.bin .Add (.bi .len (.con (.var 0) .nil)) (.cst (.int 1))) .nil))) .yes (.tup (.con (.bi .abs (.con (.bin .Sub (.ix (.var 0) (.bin .Sub (.var 4) (.cst (.int 1)))) (.ix (.var 0) (.var 3))) .nil)) (.con (.var 3) (.con (.var 4) .nil)))))) (.seq (.ret (.ife (.cmp .NotEq (.var 2) (.lst .nil)) (.bi .min (.con (.var 2) .nil)) (.cst .none))) .skp))))⟩
def fd22 : Fd := ⟨("looped" : Str), top 32, [("samples" : Str), ("begin" : Str), ("end" : Str), ("many" : Str)], [("samples" : Str), ("begin" : Str), ("end" : Str), ("many" : Str)],
  (.seq (.drp (.cal 11 (.con (.var 0) .nil))) (.seq (.ifs (.inv (.cal 1 (.con (.var 1) (.con (.cst (.int 0)) (.con (.bin .Sub (.bi .len (.con (.var 0) .nil)) (.cst (.int 1))) .nil))))) (.seq .nev .skp) .skp) (.seq (.ifs (.inv (.cal 1 (.con (.var 2) (.con (.bin .Add (.var 1) (.cst (.int 1))) (.con (.bi .len (.con (.var 0) .nil)) .nil))))) (.seq .nev .skp) .skp) (.seq (.ifs (.b2 .Or (.inv (.cal 1 (.con (.var 3) (.con (.cst (.int 0)) (.con (.glo (.int 40)) .nil))))) (.b1 (.cmp .Gt (.bin .Add (.bi .len (.con (.var 0) .nil)) (.bin .Mult (.var 3) (.bin .Sub (.var 2) (.var 1)))) (.glo (.int 40))))) (.seq .nev .skp) .skp) (.seq (.ret (.bin .Add (.bin .Add (.sl (.var 0) .nop (.pt (.var 2))) (.bin .Mult (.sl (.var 0) (.pt (.var 1)) (.pt (.var 2))) (.var 3))) (.sl (.var 0) (.pt (.var 2)) .nop))) .skp)))))⟩
def fd23 : Fd := ⟨("scaled_to" : Str), top 33, [("samples" : Str), ("high" : Str), ("most" : Str), ("one" : Str)], [("samples" : Str), ("high" : Str)],
  (.seq (.drp (.cal 11 (.con (.var 0) .nil))) (.seq (.ifs (.inv (.cal 1 (.con (.var 1) (.con (.cst (.int 0)) (.con (.cst (.int 1000)) .nil))))) (.seq .nev .skp) .skp) (.seq (.set 2 (.bi .max (.con (.lc [3] (.gn 3) (.itr (.var 0)) .yes (.bi .abs (.con (.var 3) .nil))) .nil))) (.seq (.ret (.bi .tuple (.con (.lc [3] (.gn 3) (.itr (.var 0)) .yes (.ife (.cmp .Gt (.var 2) (.cst (.int 0))) (.cal 6 (.con (.tup (.con (.var 3) (.con (.cst (.int 1)) .nil))) (.con (.cal 3 (.con (.var 1) (.con (.var 2) .nil))) .nil))) (.tup (.con (.cst (.int 0)) (.con (.cst (.int 1)) .nil))))) .nil))) .skp))))⟩
def fd24 : Fd := ⟨("_law_cell_at" : Str), top 35, [("script" : Str), ("k" : Str)], [("script" : Str), ("k" : Str)],
  (.seq (.ifs (.cmp .Lt (.var 1) (.bi .len (.con (.var 0) .nil))) (.seq (.ret (.ix (.var 0) (.var 1))) .skp) .skp) (.seq (.ret (.cst (.int 0))) .skp))⟩
def fd25 : Fd := ⟨("_law_draw" : Str), top 36, [("cell" : Str), ("k" : Str), ("bound" : Str), ("primes" : Str)], [("cell" : Str), ("k" : Str), ("bound" : Str)],
  (.seq (.set 3 (.tup (.con (.cst (.int 1000003)) (.con (.cst (.int 1000033)) (.con (.cst (.int 1000037)) (.con (.cst (.int 1000039)) (.con (.cst (.int 1000081)) (.con (.cst (.int 1000099)) (.con (.cst (.int 1000117)) (.con (.cst (.int 1000121)) (.con (.cst (.int 1000133)) (.con (.cst (.int 1000151)) (.con (.cst (.int 1000159)) (.con (.cst (.int 1000171)) (.con (.cst (.int 1000183)) (.con (.cst (.int 1000187)) (.con (.cst (.int 1000193)) (.con (.cst (.int 1000199)) .nil)))))))))))))))))) (.seq (.ret (.bin .Mod (.bin .Mod (.bi .int (.con (.bin .Add (.bin .Mult (.var 0) (.cst (.int 48271))) (.bin .Mult (.var 1) (.cst (.int 69621)))) .nil)) (.ix (.var 3) (.bin .Mod (.bi .int (.con (.var 1) .nil)) (.cst (.int 16))))) (.var 2))) .skp))⟩
def fd26 : Fd := ⟨("_law_number" : Str), top 37, [("cell" : Str), ("k" : Str), ("bound" : Str), ("scale" : Str), ("lap" : Str), ("remains" : Str), ("small" : Str)], [("cell" : Str), ("k" : Str), ("bound" : Str)],
  (.seq (.set 3 (.cst (.int 1))) (.seq (.frl (.gn 4) (.rg1 (.con (.bin .Mod (.bi .int (.con (.var 1) .nil)) (.cst (.int 24))) .nil)) (.seq (.set 3 (.bin .Mult (.var 3) (.cst (.int 1009)))) .skp)) (.seq (.set 5 (.bin .FloorDiv (.bin .Sub (.var 0) (.bin .Pow (.cst (.int 10)) (.cst (.int 18)))) (.var 3))) (.seq (.ifs (.cmp .Gt (.var 5) (.cst (.int 0))) (.seq (.ret (.bin .Mod (.bin .Mod (.bi .int (.con (.var 5) .nil)) (.cst (.int 1009))) (.var 2))) .skp) .skp) (.seq (.set 6 (.bin .Mod (.bi .int (.con (.var 0) .nil)) (.cst (.int 1000003)))) (.seq (.ret (.bin .Mod (.cal 25 (.con (.bin .Mult (.bin .Add (.var 6) (.bin .Mult (.cst (.int 977)) (.var 1))) (.bin .Add (.bin .Add (.var 6) (.bin .Mult (.cst (.int 31)) (.var 1))) (.cst (.int 5)))) (.con (.bin .Add (.bin .Mod (.bi .int (.con (.var 1) .nil)) (.cst (.int 9))) (.cst (.int 1))) (.con (.cst (.int 999983)) .nil)))) (.var 2))) .skp))))))⟩
def fd27 : Fd := ⟨("_law_next" : Str), top 38, [("draw" : Str), ("bound" : Str), ("at" : Str), ("cell" : Str)], [("draw" : Str), ("bound" : Str)],
  (.seq (.put 0 (.cst (.int 2)) (.bin .Add (.pix 0 (.cst (.int 2))) (.cst (.int 1)))) (.seq (.set 2 (.bin .FloorDiv (.pix 0 (.cst (.int 2))) (.cst (.int 12)))) (.seq (.set 3 (.bin .Add (.cal 24 (.con (.pix 0 (.cst (.int 0))) (.con (.bin .Add (.pix 0 (.cst (.int 1))) (.var 2)) .nil))) (.bin .Mult (.cst (.int 31)) (.var 2)))) (.seq (.ret (.cal 26 (.con (.var 3) (.con (.bin .Add (.bin .Mod (.bi .int (.con (.pix 0 (.cst (.int 2))) .nil)) (.cst (.int 12))) (.cst (.int 1))) (.con (.var 1) .nil))))) .skp))))⟩
def fd28 : Fd := ⟨("_law_pick" : Str), top 39, [("draw" : Str), ("things" : Str)], [("draw" : Str), ("things" : Str)],
  (.seq (.ret (.ix (.var 1) (.cal 27 (.rfc 0 (.con (.bi .len (.con (.var 1) .nil)) .nil))))) .skp)⟩
def fd29 : Fd := ⟨("_law_samples" : Str), top 40, [("draw" : Str), ("most" : Str), ("high" : Str), ("found" : Str), ("turn" : Str)], [("draw" : Str), ("most" : Str), ("high" : Str)],
  (.seq (.set 3 (.lst .nil)) (.seq (.frl (.gn 4) (.rg1 (.con (.bin .Add (.cst (.int 1)) (.cal 27 (.rfc 0 (.con (.var 1) .nil)))) .nil)) (.seq (.set 3 (.bin .Add (.var 3) (.lst (.con (.cal 28 (.rfc 0 (.con (.lst (.con (.bin .Sub (.cal 27 (.rfc 0 (.con (.bin .Add (.bin .Mult (.cst (.int 2)) (.var 2)) (.cst (.int 1))) .nil))) (.var 2)) (.con (.bin .Sub (.cal 27 (.rfc 0 (.con (.bin .Add (.bin .Mult (.cst (.int 2)) (.var 2)) (.cst (.int 1))) .nil))) (.var 2)) (.con (.cst (.int 0)) (.con (.ife (.cmp .NotEq (.var 3) (.lst .nil)) (.ix (.var 3) (.neg (.cst (.int 1)))) (.cst (.int 0))) .nil))))) .nil))) .nil)))) .skp)) (.seq (.ret (.bi .tuple (.con (.var 3) .nil))) .skp)))⟩
def fd30 : Fd := ⟨("_law_lean" : Str), top 41, [("top" : Str), ("below" : Str), ("one" : Str), ("other" : Str)], [("top" : Str), ("below" : Str)],
  (.seq (.par [2, 3] [false, false] (.con (.bi .abs (.con (.var 0) .nil)) (.con (.var 1) .nil))) (.seq (.whl 100000 (.cmp .Gt (.var 3) (.cst (.int 0))) (.seq (.par [2, 3] [false, false] (.con (.var 3) (.con (.bin .Sub (.var 2) (.bin .Mult (.var 3) (.bin .FloorDiv (.var 2) (.var 3)))) .nil))) .skp)) (.seq (.ret (.tup (.con (.bin .FloorDiv (.var 0) (.var 2)) (.con (.bin .FloorDiv (.var 1) (.var 2)) .nil)))) .skp)))⟩
def fd31 : Fd := ⟨("_law_over" : Str), top 42, [("one" : Str), ("other" : Str), ("many" : Str), ("found" : Str), ("at" : Str), ("sample" : Str), ("low" : Str), ("high" : Str)], [("one" : Str), ("other" : Str), ("many" : Str)],
  (.seq (.set 3 (.lc [5] (.gn 5) (.itr (.sl (.var 0) .nop (.pt (.bin .Sub (.bi .len (.con (.var 0) .nil)) (.var 2))))) .yes (.cal 30 (.con (.var 5) (.con (.cst (.int 1)) .nil))))) (.seq (.frl (.gn 4) (.rg1 (.con (.var 2) .nil)) (.seq (.par [6, 7] [false, false] (.con (.ix (.var 0) (.bin .Add (.bin .Sub (.bi .len (.con (.var 0) .nil)) (.var 2)) (.var 4))) (.con (.ix (.var 1) (.var 4)) .nil))) (.seq (.set 3 (.bin .Add (.var 3) (.lst (.con (.cal 30 (.con (.bin .Add (.bin .Mult (.var 6) (.bin .Sub (.var 2) (.var 4))) (.bin .Mult (.var 7) (.bin .Add (.var 4) (.cst (.int 1))))) (.con (.bin .Add (.var 2) (.cst (.int 1))) .nil))) .nil)))) .skp))) (.seq (.ret (.bin .Add (.var 3) (.lc [5] (.gn 5) (.itr (.sl (.var 1) (.pt (.var 2)) .nop)) .yes (.cal 30 (.con (.var 5) (.con (.cst (.int 1)) .nil)))))) .skp)))⟩
def fd32 : Fd := ⟨("_law_step" : Str), top 43, [("row" : Str), ("best" : Str), ("one" : Str), ("late" : Str), ("step" : Str)], [("row" : Str)],
  (.seq (.set 1 (.tup (.con (.cst (.int 0)) (.con (.cst (.int 1)) .nil)))) (.seq (.frl (.gt 2 (.con (.gn 2) (.con (.gn 3) .nil))) (.zpp (.con (.var 0) (.con (.sl (.var 0) (.pt (.cst (.int 1))) .nop) .nil))) (.seq (.set 4 (.cal 30 (.con (.bi .abs (.con (.bin .Sub (.bin .Mult (.ix (.var 3) (.cst (.int 0))) (.ix (.var 2) (.cst (.int 1)))) (.bin .Mult (.ix (.var 2) (.cst (.int 0))) (.ix (.var 3) (.cst (.int 1))))) .nil)) (.con (.bin .Mult (.ix (.var 2) (.cst (.int 1))) (.ix (.var 3) (.cst (.int 1)))) .nil)))) (.seq (.set 1 (.ife (.cmp .Gt (.bin .Mult (.ix (.var 4) (.cst (.int 0))) (.ix (.var 1) (.cst (.int 1)))) (.bin .Mult (.ix (.var 1) (.cst (.int 0))) (.ix (.var 4) (.cst (.int 1))))) (.var 4) (.var 1))) .skp))) (.seq (.ret (.var 1)) .skp)))⟩
def l_0 : T := (.sto 1 (.lst (.con (.scr 0) (.con (.cst (.int 0)) (.con (.cst (.int 0)) .nil)))))
def l_1_0 : T := (.set 3 (.cal 28 (.rfc 1 (.con (.lst (.con (.cst (.int 3)) (.con (.cst (.int 40)) (.con (.cst (.int 1000)) .nil)))) .nil))))
def l_1_1 : T := (.par [15, 16] [false, false] (.con (.cal 29 (.rfc 1 (.con (.cst (.int 12)) (.con (.var 3) .nil)))) (.con (.cal 29 (.rfc 1 (.con (.cst (.int 12)) (.con (.var 3) .nil)))) .nil)))
def l_1_2 : T := (.set 4 (.lc [23, 24] (.gt 2 (.con (.gn 23) (.con (.gn 24) .nil))) (.zpp (.con (.var 15) (.con (.sl (.var 15) (.pt (.cst (.int 1))) .nop) .nil))) .yes (.bi .abs (.con (.bin .Sub (.var 24) (.var 23)) .nil))))
def l_1_3 : T := (.ifs (.b2 .Or (.inv (.cal 10 (.con (.var 15) .nil))) (.b1 (.cmp .NotEq (.cal 13 (.con (.var 15) .nil)) (.ife (.cmp .NotEq (.var 4) (.lst .nil)) (.tup (.con (.bi .max (.con (.var 4) .nil)) (.con (.plc (.var 4) (.bi .max (.con (.var 4) .nil))) .nil))) (.tup (.con (.cst (.int 0)) (.con (.cst (.int 0)) .nil))))))) (.seq (.ret (.cst (.bool false))) .skp) .skp)
def l_1_4 : T := (.set 5 (.bi .sorted (.con (.bi .sumL (.con (.lc [17, 23] (.gt 2 (.con (.gn 17) (.con (.gn 23) .nil))) (.enu (.con (.var 15) .nil)) .yes (.lc [18, 24] (.gt 2 (.con (.gn 18) (.con (.gn 24) .nil))) (.enu (.con (.var 16) .nil)) .yes (.tup (.con (.bi .abs (.con (.bin .Sub (.var 24) (.var 23)) .nil)) (.con (.var 17) (.con (.var 18) .nil)))))) (.con (.lst .nil) .nil))) .nil)))
def l_1_5 : T := (.ifs (.cmp .NotEq (.cal 14 (.con (.var 15) (.con (.var 16) .nil))) (.ix (.var 5) (.cst (.int 0)))) (.seq (.ret (.cst (.bool false))) .skp) .skp)
def l_1_6 : T := (.par [17, 18] [false, false] (.con (.cal 27 (.rfc 1 (.con (.bi .len (.con (.var 15) .nil)) .nil))) (.con (.cal 27 (.rfc 1 (.con (.bi .len (.con (.var 16) .nil)) .nil))) .nil)))
def l_1_7 : T := (.ifs (.cmp .NotEq (.cal 15 (.con (.var 15) (.con (.var 16) (.con (.var 17) (.con (.var 18) .nil))))) (.bin .Add (.sl (.var 15) .nop (.pt (.bin .Add (.var 17) (.cst (.int 1))))) (.sl (.var 16) (.pt (.var 18)) .nop))) (.seq (.ret (.cst (.bool false))) .skp) .skp)
def l_1_8 : T := (.set 6 (.lc [14] (.gn 14) (.rg1 (.con (.bin .Add (.bi .min (.con (.lst (.con (.bi .len (.con (.var 15) .nil)) (.con (.bi .len (.con (.var 16) .nil)) .nil))) .nil)) (.cst (.int 1))) .nil)) .yes (.cal 31 (.con (.var 15) (.con (.var 16) (.con (.var 14) .nil))))))
def l_1_9 : T := (.set 7 (.lc [19] (.gn 19) (.itr (.var 6)) .yes (.cal 32 (.con (.var 19) .nil))))
def l_1_10 : T := (.set 8 (.cst (.int 0)))
def l_1_11_0 : T := (.ifs (.b2 .Or (.cmp .NotEq (.cal 17 (.con (.var 15) (.con (.var 16) (.con (.var 14) .nil)))) (.bi .tuple (.con (.var 19) .nil))) (.b1 (.cmp .NotEq (.cal 18 (.con (.var 15) (.con (.var 16) (.con (.var 14) .nil)))) (.ix (.var 7) (.var 14))))) (.seq (.ret (.cst (.bool false))) .skp) .skp)
def l_1_11_1 : T := (.set 8 (.ife (.cmp .Lt (.bin .Mult (.ix (.ix (.var 7) (.var 14)) (.cst (.int 0))) (.ix (.ix (.var 7) (.var 8)) (.cst (.int 1)))) (.bin .Mult (.ix (.ix (.var 7) (.var 8)) (.cst (.int 0))) (.ix (.ix (.var 7) (.var 14)) (.cst (.int 1))))) (.var 14) (.var 8)))
def l_1_11 : T := (.frl (.gt 2 (.con (.gn 14) (.con (.gn 19) .nil))) (.enu (.con (.var 6) .nil)) (.seq l_1_11_0 (.seq l_1_11_1 .skp)))
def l_1_12 : T := (.ifs (.cmp .NotEq (.cal 20 (.con (.var 15) (.con (.var 16) .nil))) (.tup (.con (.var 8) (.con (.ix (.var 7) (.var 8)) .nil)))) (.seq (.ret (.cst (.bool false))) .skp) .skp)
def l_1_13_0 : T := (.set 20 (.lc [14, 25] (.gt 2 (.con (.gn 14) (.con (.gn 25) .nil))) (.enu (.con (.var 7) .nil)) (.cmp .LtE (.ix (.var 25) (.cst (.int 0))) (.bin .Mult (.var 9) (.ix (.var 25) (.cst (.int 1))))) (.var 14)))
def l_1_13_1 : T := (.ifs (.cmp .NotEq (.cal 19 (.con (.var 15) (.con (.var 16) (.con (.var 9) .nil)))) (.ife (.cmp .NotEq (.var 20) (.lst .nil)) (.ix (.var 20) (.cst (.int 0))) (.cst .none))) (.seq (.ret (.cst (.bool false))) .skp) .skp)
def l_1_13 : T := (.frl (.gn 9) (.itr (.tup (.con (.cst (.int 0)) (.con (.cal 27 (.rfc 1 (.con (.bin .Add (.bin .Mult (.cst (.int 2)) (.var 3)) (.cst (.int 1))) .nil))) (.con (.bin .FloorDiv (.ix (.ix (.var 7) (.var 8)) (.cst (.int 0))) (.ix (.ix (.var 7) (.var 8)) (.cst (.int 1)))) (.con (.cst (.int 2000)) .nil)))))) (.seq l_1_13_0 (.seq l_1_13_1 .skp)))
def l_1_14 : T := (.set 10 (.bin .Add (.cst (.int 1)) (.cal 27 (.rfc 1 (.con (.cst (.int 6)) .nil)))))
def l_1_15 : T := (.set 11 (.bi .sorted (.con (.bi .sumL (.con (.lc [12] (.gn 12) (.rg1 (.con (.bi .len (.con (.var 15) .nil)) .nil)) .yes (.lc [13] (.gn 13) (.rg2 (.con (.bin .Add (.var 12) (.var 10)) (.con (.bin .Add (.bi .len (.con (.var 15) .nil)) (.cst (.int 1))) .nil))) .yes (.tup (.con (.bi .abs (.con (.bin .Sub (.ix (.var 15) (.bin .Sub (.var 13) (.cst (.int 1)))) (.ix (.var 15) (.var 12))) .nil)) (.con (.var 12) (.con (.var 13) .nil)))))) (.con (.lst .nil) .nil))) .nil)))
def l_1_16 : T := (.ifs (.cmp .NotEq (.cal 21 (.con (.var 15) (.con (.var 10) .nil))) (.ife (.cmp .NotEq (.var 11) (.lst .nil)) (.ix (.var 11) (.cst (.int 0))) (.cst .none))) (.seq (.ret (.cst (.bool false))) .skp) .skp)
def l_1_17 : T := (.set 12 (.cal 27 (.rfc 1 (.con (.bi .len (.con (.var 15) .nil)) .nil))))
def l_1_18 : T := (.set 13 (.bin .Add (.bin .Add (.var 12) (.cst (.int 1))) (.cal 27 (.rfc 1 (.con (.bin .Sub (.bi .len (.con (.var 15) .nil)) (.var 12)) .nil)))))
def l_1_19 : T := (.set 14 (.cal 27 (.rfc 1 (.con (.bin .Add (.bin .FloorDiv (.bin .Sub (.cst (.int 40)) (.bi .len (.con (.var 15) .nil))) (.bin .Sub (.var 13) (.var 12))) (.cst (.int 1))) .nil))))
def l_1_20 : T := (.ifs (.cmp .NotEq (.cal 22 (.con (.var 15) (.con (.var 12) (.con (.var 13) (.con (.var 14) .nil))))) (.bin .Add (.bin .Add (.sl (.var 15) .nop (.pt (.var 13))) (.bin .Mult (.sl (.var 15) (.pt (.var 12)) (.pt (.var 13))) (.var 14))) (.sl (.var 15) (.pt (.var 13)) .nop))) (.seq (.ret (.cst (.bool false))) .skp) .skp)
def l_1_21 : T := (.par [21, 22] [false, false] (.con (.cal 27 (.rfc 1 (.con (.cst (.int 1001)) .nil))) (.con (.bi .max (.con (.lc [26] (.gn 26) (.itr (.var 15)) .yes (.bi .abs (.con (.var 26) .nil))) .nil)) .nil)))
def l_1_22 : T := (.ifs (.cmp .NotEq (.cal 23 (.con (.var 15) (.con (.var 21) .nil))) (.bi .tuple (.con (.lc [26] (.gn 26) (.itr (.var 15)) .yes (.ife (.cmp .Gt (.var 22) (.cst (.int 0))) (.cal 30 (.con (.bin .Mult (.var 26) (.var 21)) (.con (.var 22) .nil))) (.tup (.con (.cst (.int 0)) (.con (.cst (.int 1)) .nil))))) .nil))) (.seq (.ret (.cst (.bool false))) .skp) .skp)
def l_1 : T := (.frl (.gn 2) (.rg1 (.con (.cst (.int 2)) .nil)) (.seq l_1_0 (.seq l_1_1 (.seq l_1_2 (.seq l_1_3 (.seq l_1_4 (.seq l_1_5 (.seq l_1_6 (.seq l_1_7 (.seq l_1_8 (.seq l_1_9 (.seq l_1_10 (.seq l_1_11 (.seq l_1_12 (.seq l_1_13 (.seq l_1_14 (.seq l_1_15 (.seq l_1_16 (.seq l_1_17 (.seq l_1_18 (.seq l_1_19 (.seq l_1_20 (.seq l_1_21 (.seq l_1_22 .skp))))))))))))))))))))))))
def l_2 : T := (.ret (.cst (.bool true)))
def fd33 : Fd := ⟨("law" : Str), top 44, [("script" : Str), ("draw" : Str), ("turn" : Str), ("high" : Str), ("steps" : Str), ("cuts" : Str), ("rows" : Str), ("clicks" : Str), ("best" : Str), ("bound" : Str), ("least" : Str), ("loops" : Str), ("begin" : Str), ("end" : Str), ("many" : Str), ("one" : Str), ("other" : Str), ("last" : Str), ("first" : Str), ("row" : Str), ("fine" : Str), ("top" : Str), ("most" : Str), ("here" : Str), ("late" : Str), ("click" : Str), ("sample" : Str)], [("script" : Str)],
  (.seq l_0 (.seq l_1 (.seq l_2 .skp)))⟩
def fds : List Fd := [fd0, fd1, fd2, fd3, fd4, fd5, fd6, fd7, fd8, fd9, fd10, fd11, fd12, fd13, fd14, fd15, fd16, fd17, fd18, fd19, fd20, fd21, fd22, fd23, fd24, fd25, fd26, fd27, fd28, fd29, fd30, fd31, fd32, fd33]
def cns : List (Str × D) := [(("MOST" : Str), (.int 1000000000000000000000000000000000000000000000000000000000000)), (("NONE" : Str), (.tuple [(.int 0), (.int 1)])), (("MOST_SAMPLES" : Str), (.int 40))]
def bls : List Str := [("abs" : Str), ("all" : Str), ("bool" : Str), ("enumerate" : Str), ("int" : Str), ("isinstance" : Str), ("len" : Str), ("max" : Str), ("min" : Str), ("range" : Str), ("sorted" : Str), ("sum" : Str), ("tuple" : Str), ("zip" : Str)]
end K76

namespace K76
open PySem Py
theorem chk_ok : fds.all (Fd.ok (gOf fds cns bls)) = true := by decide +kernel
end K76

namespace K76
open PySem Py
def isWhole : D → Bool
  | .int _ => true
  | _ => false
def isFrom (a b : Int) : D → Bool
  | .int i => decide (a ≤ i) && decide (i ≤ b)
  | _ => false
theorem whole_ok (k : Nat) (d : D) : retD (calls fds (k + 1) 0 [.val d]) = some (.bool (isWhole d)) := by
  rw [calls_at (fs := fds) (j := 0) rfl]
  cases d <;> simp [lim, ev, evG, flT, oBo, oSeq, oRet, oSet, oIfS, oAnd, oOr, oNot, oIf, oOp1, oOp2, oVar, oC, oCall, oCons, oNil, oChain, oNxt, oCallF, refs, mkArgs, putBack, oIt, kOf, Out.bnd, Out.bnds, Out.bndb, optO, cmpF, binF, fLt, fLe, fGt, fGe, fIsa, isaB, BF.f, fLen, fInt, fNeg, fTup, fLst, fAdd, fSub, fd0, isWhole, retD]
theorem from_ok (k : Nat) (d : D) (a b : Int) : retD (calls fds (k + 2) 1 [.val d, .val (.int a), .val (.int b)]) = some (.bool (isFrom a b d)) := by
  have h := whole_ok k d
  refine retOf (j := 1) (r := [.val d, .val (.int a), .val (.int b)]) (r' := [.val d, .val (.int a), .val (.int b)]) rfl (seqR (retV ?_))
  have c : Ev (calls fds (k + 1)) (.cal 0 (.con (.var 0) .nil)) [.val d, .val (.int a), .val (.int b)] (.bool (isWhole d)) := Ev.cal (ds := [d]) (EvA.con (Ev.var rfl) .nil) rfl h
  cases d with
  | int i =>
    exact Ev.and (p := true) c fun _ => Ev.b1 (Ev.chn (c := .LtE) (c' := .LtE) (Ev.var (i := 1) (d := .int a) rfl) (Ev.var (i := 0) (d := .int i) rfl) (Ev.var (i := 2) (d := .int b) rfl) (p := decide (a ≤ i)) (q := decide (i ≤ b)) rfl rfl)
  | _ => exact ⟨(Ff.andL ⟨c.h⟩).h⟩
structure OkS (xs : List Int) : Prop where
  pos : 1 ≤ xs.length
  len : xs.length ≤ 40
  all : ∀ x ∈ xs, -1000 ≤ x ∧ x ≤ 1000
theorem row_ok (k : Nat) (xs : List Int) (h : OkS xs) : retD (calls fds (k + 3) 10 [.val (eT xs)]) = some (.bool true) := by
  have h1 := h.pos
  have h2 := h.len
  have c := from_ok k
  refine retOf (j := 10) (f := fd10) (r := [.val (eT xs), .un]) (r' := [.val (eT xs), .un]) rfl ?_
  generalize calls fds (k + 2) = cl at c
  refine Sn.seq (Sn.ifsF (Ff.or (Ff.inv (Tt.of (Ev.isa (x := eT xs) (Ev.var rfl)) rfl)) (Ff.b1 (Ff.inv (Tt.of (p := decide ((1 : Int) ≤ (xs.length : Nat)) && decide (((xs.length : Nat) : Int) ≤ 40)) ?_ (by simp; omega)))))) (seqR (retV ?_))
  · repeat' (first | (exact Ev.cst) | (exact Ev.glo) | (exact Ev.var (by (first | rfl | assumption | exact Kw.k (by assumption) _ _ rfl | (repeat' (first | assumption | exact Kw.k (by assumption) _ _ rfl | (refine lk_eq ?_; first | omega | (simp only [List.length_set]; omega)) | refine lk_ne (by decide) ?_))))) | (exact EvA.nil) | (refine' EvA.con ?_ ?_) | (refine' Ev.bin ?_ ?_ ?_) | (refine' Ev.cmp ?_ ?_ ?_) | (refine' Ev.chn ?_ ?_ ?_ ?_ ?_) | (refine' Ev.neg ?_) | (refine' Ev.inv ?_) | (refine' Ev.isa ?_) | (refine' Ev.b1 ?_) | (refine' Ev.and ?_ (fun _ => ?_)) | (refine' Ev.or ?_ (fun _ => ?_)) | (refine' Ev.ix ?_ ?_ ?_) | (refine' Ev.tup ?_ ?_) | (refine' Ev.lst ?_ ?_) | (refine' Ev.bi ?_ ?_) | (refine' Ev.sl ?_ ?_ ?_ ?_) | (exact EvP.nop) | (refine' EvP.pt ?_) | (refine' EvI.rg1 ?_ ?_) | (refine' EvI.rg1i ?_ ?_ ?_) | (refine' EvI.rg2 ?_ ?_ ?_ ?_) | (refine' EvI.zip ?_ ?_ ?_ ?_) | (refine' EvI.enu ?_ ?_) | (refine' Ev.lc1Y ?_ ?_ (fun _ _ => ?_) ?_) | (refine' Ev.lc1 ?_ ?_ (fun _ _ => ?_) (fun _ _ _ => ?_) ?_) | (refine' Ev.lc2Y ?_ (by decide) ?_ (fun _ _ => ?_) ?_) | (refine' Ev.lc2 ?_ (by decide) ?_ (fun _ _ => ?_) (fun _ _ _ => ?_) ?_) | (refine' Ev.ife ?_ (fun _ => ?_) (fun _ => ?_) ?_) | (refine' Ff.or ?_ ?_) | (refine' Ff.b1 ?_) | (refine' Ff.ne ?_ ?_ ?_ ?_) | (refine' Tt.b1 ?_) | (refine' Tt.and ?_ ?_) | (refine' Tt.eq ?_ ?_ ?_ ?_) | (refine' Ff.inv ?_) | (refine' Tt.inv ?_) | (exact kof_t) | (exact kof_l) | (exact kof_few) | (exact kof_fewL) | (refine' EvI.gen ?_ ?_) | (exact Kw.ok (by assumption) (by decide)) | (refine' okV_set ?_) | (exact sl_t) | (exact sl_l) | (exact max2L_i) | (exact min2L_i) | (exact tup_l) | (exact tup_t) | (exact sumI) | (refine' maxI ?_) | (refine' minI ?_) | (exact len_l) | (exact len_t) | (exact abs_ab) | (exact eq_i) | (exact ne_i) | (exact ifi) | (exact ifb) | (exact max2_i) | (exact min2_i) | (exact max_c) | (exact min_c) | (exact sum_c) | (exact all_c) | (exact any_c) | (refine' max_ne ?_) | (refine' min_ne ?_) | (refine' ix_lD ?_) | (refine' ix_tD ?_) | (refine' add_l ?_) | (refine' add_t ?_) | (refine' div_i ?_ ?_) | (refine' mul_i ?_) | (refine' mod_i ?_) | rfl)
  · have e : (PyData.bool true) = .bool (xs.all fun x => isFrom (-1000) 1000 (.int x)) := by
      congr 1
      refine (List.all_eq_true.mpr fun x hx => ?_).symm
      have := h.all x hx
      simp [isFrom, this.1, this.2]
    rw [e]
    repeat' (first | (exact Ev.cst) | (exact Ev.glo) | (exact Ev.var (by (first | rfl | assumption | exact Kw.k (by assumption) _ _ rfl | (repeat' (first | assumption | exact Kw.k (by assumption) _ _ rfl | (refine lk_eq ?_; first | omega | (simp only [List.length_set]; omega)) | refine lk_ne (by decide) ?_))))) | (exact EvA.nil) | (refine' EvA.con ?_ ?_) | (refine' Ev.bin ?_ ?_ ?_) | (refine' Ev.cmp ?_ ?_ ?_) | (refine' Ev.chn ?_ ?_ ?_ ?_ ?_) | (refine' Ev.neg ?_) | (refine' Ev.inv ?_) | (refine' Ev.isa ?_) | (refine' Ev.b1 ?_) | (refine' Ev.and ?_ (fun _ => ?_)) | (refine' Ev.or ?_ (fun _ => ?_)) | (refine' Ev.ix ?_ ?_ ?_) | (refine' Ev.tup ?_ ?_) | (refine' Ev.lst ?_ ?_) | (refine' Ev.bi ?_ ?_) | (refine' Ev.sl ?_ ?_ ?_ ?_) | (exact EvP.nop) | (refine' EvP.pt ?_) | (refine' EvI.rg1 ?_ ?_) | (refine' EvI.rg1i ?_ ?_ ?_) | (refine' EvI.rg2 ?_ ?_ ?_ ?_) | (refine' EvI.zip ?_ ?_ ?_ ?_) | (refine' EvI.enu ?_ ?_) | (refine' Ev.lc1Y ?_ ?_ (fun _ _ => ?_) ?_) | (refine' Ev.lc1 ?_ ?_ (fun _ _ => ?_) (fun _ _ _ => ?_) ?_) | (refine' Ev.lc2Y ?_ (by decide) ?_ (fun _ _ => ?_) ?_) | (refine' Ev.lc2 ?_ (by decide) ?_ (fun _ _ => ?_) (fun _ _ _ => ?_) ?_) | (refine' Ev.ife ?_ (fun _ => ?_) (fun _ => ?_) ?_) | (refine' Ff.or ?_ ?_) | (refine' Ff.b1 ?_) | (refine' Ff.ne ?_ ?_ ?_ ?_) | (refine' Tt.b1 ?_) | (refine' Tt.and ?_ ?_) | (refine' Tt.eq ?_ ?_ ?_ ?_) | (refine' Ff.inv ?_) | (refine' Tt.inv ?_) | (exact kof_t) | (exact kof_l) | (exact kof_few) | (exact kof_fewL) | (refine' EvI.gen ?_ ?_) | (exact Kw.ok (by assumption) (by decide)) | (refine' okV_set ?_) | (exact sl_t) | (exact sl_l) | (exact max2L_i) | (exact min2L_i) | (exact tup_l) | (exact tup_t) | (exact sumI) | (refine' maxI ?_) | (refine' minI ?_) | (exact len_l) | (exact len_t) | (exact abs_ab) | (exact eq_i) | (exact ne_i) | (exact ifi) | (exact ifb) | (exact max2_i) | (exact min2_i) | (exact max_c) | (exact min_c) | (exact sum_c) | (exact all_c) | (exact any_c) | (refine' max_ne ?_) | (refine' min_ne ?_) | (refine' ix_lD ?_) | (refine' ix_tD ?_) | (refine' add_l ?_) | (refine' add_t ?_) | (refine' div_i ?_ ?_) | (refine' mul_i ?_) | (refine' mod_i ?_) | rfl)
    all_goals first | (simp [lim]; done) | (simp [lim]; omega) | skip
    rename_i x hx
    refine Ev.cal (ds := [.int x, .int (-1000), .int 1000]) ?_ rfl (c (.int x) (-1000) 1000)
    repeat' (first | (exact Ev.cst) | (exact Ev.glo) | (exact Ev.var (by (first | rfl | assumption | exact Kw.k (by assumption) _ _ rfl | (repeat' (first | assumption | exact Kw.k (by assumption) _ _ rfl | (refine lk_eq ?_; first | omega | (simp only [List.length_set]; omega)) | refine lk_ne (by decide) ?_))))) | (exact EvA.nil) | (refine' EvA.con ?_ ?_) | (refine' Ev.bin ?_ ?_ ?_) | (refine' Ev.cmp ?_ ?_ ?_) | (refine' Ev.chn ?_ ?_ ?_ ?_ ?_) | (refine' Ev.neg ?_) | (refine' Ev.inv ?_) | (refine' Ev.isa ?_) | (refine' Ev.b1 ?_) | (refine' Ev.and ?_ (fun _ => ?_)) | (refine' Ev.or ?_ (fun _ => ?_)) | (refine' Ev.ix ?_ ?_ ?_) | (refine' Ev.tup ?_ ?_) | (refine' Ev.lst ?_ ?_) | (refine' Ev.bi ?_ ?_) | (refine' Ev.sl ?_ ?_ ?_ ?_) | (exact EvP.nop) | (refine' EvP.pt ?_) | (refine' EvI.rg1 ?_ ?_) | (refine' EvI.rg1i ?_ ?_ ?_) | (refine' EvI.rg2 ?_ ?_ ?_ ?_) | (refine' EvI.zip ?_ ?_ ?_ ?_) | (refine' EvI.enu ?_ ?_) | (refine' Ev.lc1Y ?_ ?_ (fun _ _ => ?_) ?_) | (refine' Ev.lc1 ?_ ?_ (fun _ _ => ?_) (fun _ _ _ => ?_) ?_) | (refine' Ev.lc2Y ?_ (by decide) ?_ (fun _ _ => ?_) ?_) | (refine' Ev.lc2 ?_ (by decide) ?_ (fun _ _ => ?_) (fun _ _ _ => ?_) ?_) | (refine' Ev.ife ?_ (fun _ => ?_) (fun _ => ?_) ?_) | (refine' Ff.or ?_ ?_) | (refine' Ff.b1 ?_) | (refine' Ff.ne ?_ ?_ ?_ ?_) | (refine' Tt.b1 ?_) | (refine' Tt.and ?_ ?_) | (refine' Tt.eq ?_ ?_ ?_ ?_) | (refine' Ff.inv ?_) | (refine' Tt.inv ?_) | (exact kof_t) | (exact kof_l) | (exact kof_few) | (exact kof_fewL) | (refine' EvI.gen ?_ ?_) | (exact Kw.ok (by assumption) (by decide)) | (refine' okV_set ?_) | (exact sl_t) | (exact sl_l) | (exact max2L_i) | (exact min2L_i) | (exact tup_l) | (exact tup_t) | (exact sumI) | (refine' maxI ?_) | (refine' minI ?_) | (exact len_l) | (exact len_t) | (exact abs_ab) | (exact eq_i) | (exact ne_i) | (exact ifi) | (exact ifb) | (exact max2_i) | (exact min2_i) | (exact max_c) | (exact min_c) | (exact sum_c) | (exact all_c) | (exact any_c) | (refine' max_ne ?_) | (refine' min_ne ?_) | (refine' ix_lD ?_) | (refine' ix_tD ?_) | (refine' add_l ?_) | (refine' add_t ?_) | (refine' div_i ?_ ?_) | (refine' mul_i ?_) | (refine' mod_i ?_) | rfl)
theorem chk_row (k : Nat) (xs : List Int) (h : OkS xs) : retD (calls fds (k + 4) 11 [.val (eT xs)]) = some .none :=
  nxtOf (j := 11) (r := [.val (eT xs)]) rfl (Sn.seq (Sn.ifsF (Ff.inv (Tt.of (p := true) (Ev.cal (ds := [eT xs]) (EvA.con (Ev.var rfl) .nil) rfl (row_ok k xs h)) rfl))) Sn.skp)
theorem from_t {a b i : Int} (h1 : a ≤ i) (h2 : i ≤ b) : isFrom a b (.int i) = true := by simp [isFrom, h1, h2]
theorem chk_both (k : Nat) (xs ys : List Int) (h : OkS xs) (h' : OkS ys) : retD (calls fds (k + 5) 12 [.val (eT xs), .val (eT ys)]) = some .none :=
  nxtOf (j := 12) (r := [.val (eT xs), .val (eT ys)]) rfl (Sn.seq (Sn.drp (Ev.cal (ds := [eT xs]) (EvA.con (Ev.var rfl) .nil) rfl (chk_row k xs h))) (Sn.seq (Sn.drp (Ev.cal (ds := [eT ys]) (EvA.con (Ev.var rfl) .nil) rfl (chk_row k ys h'))) Sn.skp))
/-! fractions -/
abbrev F2 := Int × Int
abbrev eP (p : F2) : D := .tuple [.int p.1, .int p.2]
theorem common_ok (k a b : Nat) (hb : b ≤ 90000) : retD (calls fds (k + 1) 2 [.val (.int (a : Nat)), .val (.int (b : Nat))]) = some (.int (Nat.gcd a b : Nat)) := by
  refine Rt.of (j := 2) (f := fd2) (r := [.val (.int (a : Nat)), .val (.int (b : Nat))]) rfl ?_
  generalize calls fds k = cl
  obtain ⟨r', e, f, h⟩ := gcd_ok (cl := cl) (i := 0) (j := 1) (a := a) (b := b) (r := [.val (.int (a : Nat)), .val (.int (b : Nat))]) (by decide) hb (by simp) (by simp) rfl rfl
  exact Rt.seq e (Rt.ret (Ev.var h))
abbrev BIG : Int := 1000000000000000000000000000000000000000000000000000000000000
theorem lean_ok (k : Nat) (t b : Int) (b0 : 0 < b) (b1 : b ≤ 90000) (ht : ab t ≤ 1000000000) : retD (calls fds (k + 2) 3 [.val (.int t), .val (.int b)]) = some (eP (leanI t b)) := by
  have hb : b = (b.toNat : Nat) := by omega
  have c := common_ok k t.natAbs b.toNat (by omega)
  rw [← hb, ← ab_nat] at c
  have hg : Nat.gcd t.natAbs b.toNat = Int.gcd t b := by
    show _ = Nat.gcd t.natAbs b.natAbs
    congr 1; omega
  rw [hg] at c
  have hg0 : 0 < Int.gcd t b := Int.gcd_pos_of_ne_zero_right t (by omega)
  have hg1 : Int.gcd t b ≤ 90000 := by
    have : ((Int.gcd t b : Nat) : Int) ≤ b := Int.le_of_dvd b0 (Int.gcd_dvd_right ..)
    omega
  have m1 := lean_mag t b b0
  have m2 := lean_le t b b0
  refine Rt.of (j := 3) (f := fd3) (r := [.val (.int t), .val (.int b), .un]) rfl ?_
  generalize calls fds (k + 1) = cl at c
  refine Rt.seq (r1 := [.val (.int t), .val (.int b), .val (.int (Int.gcd t b : Nat))]) (Sn.set (Ev.cal (ds := [.int (ab t), .int b]) (EvA.con (Ev.bi (EvA.con (Ev.var rfl) .nil) abs_ab) (EvA.con (Ev.var rfl) .nil)) rfl c))
    (Rt.seq (r1 := [.val (.int (leanI t b).1), .val (.int (leanI t b).2), .val (.int (Int.gcd t b : Nat))]) (Sn.par (EvA.con (Ev.bin (Ev.var rfl) (Ev.var rfl) (div_i (by omega) (by omega))) (EvA.con (Ev.bin (Ev.var rfl) (Ev.var rfl) (div_i (by omega) (by omega))) .nil)) rfl)
    (Rt.seq (Sn.ifsF (Ff.or (Ff.of (p := decide (BIG < ab (leanI t b).1)) (Ev.cmp (c := .Gt) (Ev.bi (EvA.con (Ev.var rfl) .nil) abs_ab) .glo rfl) (decide_eq_false (by show ¬ (BIG < _); unfold BIG; omega))) (Ff.b1 (Ff.of (p := decide (BIG < (leanI t b).2)) (Ev.cmp (c := .Gt) (Ev.var rfl) .glo rfl) (decide_eq_false (by show ¬ (BIG < _); unfold BIG; omega))))))
    (Rt.ret (Ev.tup (EvA.con (Ev.var rfl) (EvA.con (Ev.var rfl) .nil)) (by simp [lim])))))
section
variable {cl : Nat → O1} {r : Rho} {a : T} {x : F2}
theorem p0 (h : Ev cl a r (eP x)) : Ev cl (.ix a (.cst (.int 0))) r (.int x.1) := Ev.ix h .cst rfl
theorem p1 (h : Ev cl a r (eP x)) : Ev cl (.ix a (.cst (.int 1))) r (.int x.2) := Ev.ix h .cst rfl
end
/-- fit to be added, taken away, compared -/
structure Fr (p : F2) : Prop where
  q0 : 0 < p.2
  q1 : p.2 ≤ 41
  m : ab p.1 ≤ 100000
theorem Fr.w {p : F2} (h : Fr p) : W64 p.2 := w64 (by have := h.q0; omega) (by have := h.q1; omega)
theorem plus_ok (k : Nat) (x y : F2) (hx : Fr x) (hy : Fr y) : retD (calls fds (k + 3) 4 [.val (eP x), .val (eP y)]) = some (eP (leanI (x.1 * y.2 + y.1 * x.2) (x.2 * y.2))) := by
  have b0 := Int.mul_pos hx.q0 hy.q0
  have b1 := mul_bd (Int.le_of_lt hx.q0) hx.q1 (Int.le_of_lt hy.q0) hy.q1
  have c := lean_ok k (x.1 * y.2 + y.1 * x.2) (x.2 * y.2) b0 (by omega) (by
    have := ab_add (x.1 * y.2) (y.1 * x.2)
    rw [ab_mul, ab_mul, ab_pos (Int.le_of_lt hx.q0), ab_pos (Int.le_of_lt hy.q0)] at this
    have h1 := mul_bd (ab_0 x.1) hx.m (Int.le_of_lt hy.q0) hy.q1
    have h2 := mul_bd (ab_0 y.1) hy.m (Int.le_of_lt hx.q0) hx.q1
    omega)
  refine Rt.of (j := 4) (f := fd4) (r := [.val (eP x), .val (eP y)]) rfl ?_
  generalize calls fds (k + 2) = cl at c
  exact Rt.ret (Ev.cal (ds := [.int (x.1 * y.2 + y.1 * x.2), .int (x.2 * y.2)]) (EvA.con (Ev.bin (Ev.bin (p0 (Ev.var rfl)) (p1 (Ev.var rfl)) (mul_i (.inr hy.w))) (Ev.bin (p0 (Ev.var rfl)) (p1 (Ev.var rfl)) (mul_i (.inr hx.w))) rfl) (EvA.con (Ev.bin (p1 (Ev.var rfl)) (p1 (Ev.var rfl)) (mul_i (.inl hx.w))) .nil)) rfl c)
theorem minus_ok (k : Nat) (x y : F2) (hx : Fr x) (hy : Fr y) : retD (calls fds (k + 3) 5 [.val (eP x), .val (eP y)]) = some (eP (leanI (x.1 * y.2 - y.1 * x.2) (x.2 * y.2))) := by
  have b0 := Int.mul_pos hx.q0 hy.q0
  have b1 := mul_bd (Int.le_of_lt hx.q0) hx.q1 (Int.le_of_lt hy.q0) hy.q1
  have c := lean_ok k (x.1 * y.2 - y.1 * x.2) (x.2 * y.2) b0 (by omega) (by
    have := ab_sub (x.1 * y.2) (y.1 * x.2)
    rw [ab_mul, ab_mul, ab_pos (Int.le_of_lt hx.q0), ab_pos (Int.le_of_lt hy.q0)] at this
    have h1 := mul_bd (ab_0 x.1) hx.m (Int.le_of_lt hy.q0) hy.q1
    have h2 := mul_bd (ab_0 y.1) hy.m (Int.le_of_lt hx.q0) hx.q1
    omega)
  refine Rt.of (j := 5) (f := fd5) (r := [.val (eP x), .val (eP y)]) rfl ?_
  generalize calls fds (k + 2) = cl at c
  exact Rt.ret (Ev.cal (ds := [.int (x.1 * y.2 - y.1 * x.2), .int (x.2 * y.2)]) (EvA.con (Ev.bin (Ev.bin (p0 (Ev.var rfl)) (p1 (Ev.var rfl)) (mul_i (.inr hy.w))) (Ev.bin (p0 (Ev.var rfl)) (p1 (Ev.var rfl)) (mul_i (.inr hx.w))) rfl) (EvA.con (Ev.bin (p1 (Ev.var rfl)) (p1 (Ev.var rfl)) (mul_i (.inl hx.w))) .nil)) rfl c)
theorem times_ok (k : Nat) (x y : F2) (x0 : ab x.1 ≤ 1000) (x1 : x.2 = 1) (y0 : ab y.1 ≤ 1000) (y1 : 0 < y.2) (y2 : y.2 ≤ 1000) : retD (calls fds (k + 3) 6 [.val (eP x), .val (eP y)]) = some (eP (leanI (x.1 * y.1) y.2)) := by
  have c := lean_ok k (x.1 * y.1) y.2 y1 (by omega) (by
    rw [ab_mul]
    have := mul_bd (ab_0 x.1) x0 (ab_0 y.1) y0
    omega)
  have e2 : x.2 * y.2 = y.2 := by rw [x1, Int.one_mul]
  have hw : W64 x.1 := by
    have := ab_0 x.1
    unfold ab at x0
    split at x0 <;> exact w64 (by omega) (by omega)
  refine Rt.of (j := 6) (f := fd6) (r := [.val (eP x), .val (eP y)]) rfl ?_
  generalize calls fds (k + 2) = cl at c
  rw [← e2] at c ⊢
  exact Rt.ret (Ev.cal (ds := [.int (x.1 * y.1), .int (x.2 * y.2)]) (EvA.con (Ev.bin (p0 (Ev.var rfl)) (p0 (Ev.var rfl)) (mul_i (.inl hw))) (EvA.con (Ev.bin (p1 (Ev.var rfl)) (p1 (Ev.var rfl)) (mul_i (.inl (by rw [x1]; decide)))) .nil)) rfl c)
/-- fit to be compared -/
structure Fw (p : F2) : Prop where
  q0 : 0 < p.2
  q1 : p.2 ≤ 90000
theorem Fw.w {p : F2} (h : Fw p) : W64 p.2 := w64 (by have := h.q0; omega) (by have := h.q1; omega)
theorem less_ok (k : Nat) (x y : F2) (hx : Fw x) (hy : Fw y) : retD (calls fds (k + 1) 7 [.val (eP x), .val (eP y)]) = some (.bool (decide (x.1 * y.2 < y.1 * x.2))) := by
  refine Rt.of (j := 7) (f := fd7) (r := [.val (eP x), .val (eP y)]) rfl ?_
  exact Rt.ret (Ev.cmp (c := .Lt) (Ev.bin (p0 (Ev.var rfl)) (p1 (Ev.var rfl)) (mul_i (.inr hy.w))) (Ev.bin (p0 (Ev.var rfl)) (p1 (Ev.var rfl)) (mul_i (.inr hx.w))) rfl)
theorem size_ok (k : Nat) (x : F2) : retD (calls fds (k + 1) 8 [.val (eP x)]) = some (eP (ab x.1, x.2)) := by
  refine Rt.of (j := 8) (f := fd8) (r := [.val (eP x)]) rfl ?_
  exact Rt.ret (Ev.tup (ds := [.int (ab x.1), .int x.2]) (EvA.con (Ev.bi (EvA.con (p0 (x := x) (Ev.var rfl)) .nil) abs_ab) (EvA.con (p1 (x := x) (Ev.var rfl)) .nil)) (by simp [lim]))
def grF (o : Option F2) (p : F2) : Option F2 := some (match o with
  | none => p
  | some f => if f.1 * p.2 < p.1 * f.2 then p else f)
def eO : Option F2 → D
  | none => .none
  | some p => eP p
def greatP (ps : List F2) : F2 := (ps.foldl grF none).getD (0, 1)
theorem gr_fr : ∀ (ps : List F2) (o : Option F2), (∀ p ∈ ps, Fw p) → (∀ p, o = some p → Fw p) → ∀ p, ps.foldl grF o = some p → Fw p
  | [], o, _, ho, p, e => ho p e
  | x :: ps, o, h, ho, p, e => by
    refine gr_fr ps (grF o x) (fun y hy => h y (List.mem_cons_of_mem _ hy)) (fun y hy => ?_) p e
    unfold grF at hy
    cases hy
    cases o with
    | none => exact h x List.mem_cons_self
    | some f =>
      dsimp only
      split
      · exact h x List.mem_cons_self
      · exact ho f rfl
theorem greatest_ok (k : Nat) (ps : List F2) (h : ∀ p ∈ ps, Fw p) : retD (calls fds (k + 2) 9 [.val (.list (ps.map eP))]) = some (eP (greatP ps)) := by
  have c := less_ok k
  refine Rt.of (j := 9) (f := fd9) (r := [.val (.list (ps.map eP)), .un, .un]) rfl ?_
  generalize calls fds (k + 1) = cl at c
  refine Rt.seq (r1 := [.val (.list (ps.map eP)), .val .none, .un]) rfl ?_
  refine Rt.loop (itr_v (Ev.var rfl) rfl) (for_pre (en := eP) ps (fun pre r => ∃ a : Slot, r = [.val (.list (ps.map eP)), .val (eO (pre.foldl grF none)), a]) ⟨.un, rfl⟩ ?_) (fun r' ⟨a, e⟩ => ?_)
  · rintro pre x post r he ⟨a, rfl⟩
    rw [fold_snoc]
    have hx : Fw x := h x (by rw [he]; simp)
    have hf := gr_fr pre none (fun p hp => h p (by rw [he]; simp [hp])) (fun p e => by cases e)
    generalize pre.foldl grF none = o at hf
    refine ⟨_, [.val (.list (ps.map eP)), .val (eO (grF o x)), .val (eP x)], rfl, Sn.seq (Sn.set ?_) Sn.skp, .val (eP x), rfl⟩
    cases o with
    | none => exact Ev.ifeT (Tt.orL (Tt.of (Ev.cmp (Ev.var rfl) .cst is_non) rfl)) (Ev.var rfl)
    | some f =>
      have e1 : Ev cl (.cal 7 (.con (.var 1) (.con (.var 2) .nil))) [.val (.list (ps.map eP)), .val (eP f), .val (eP x)] (.bool (decide (f.1 * x.2 < x.1 * f.2))) := Ev.cal (ds := [eP f, eP x]) (EvA.con (Ev.var rfl) (EvA.con (Ev.var rfl) .nil)) rfl (c f x (hf f rfl) hx)
      unfold grF
      dsimp only
      by_cases q : f.1 * x.2 < x.1 * f.2
      · rw [if_pos q]
        exact Ev.ifeT (Tt.orR (Ff.of (Ev.cmp (Ev.var (d := eP f) rfl) .cst is_non) rfl) (Tt.b1 (Tt.of e1 (decide_eq_true q)))) (Ev.var rfl)
      · rw [if_neg q]
        exact Ev.ifeF (Ff.or (Ff.of (Ev.cmp (Ev.var (d := eP f) rfl) .cst is_non) rfl) (Ff.b1 (Ff.of e1 (decide_eq_false q)))) (Ev.var rfl)
  · subst e
    unfold greatP
    cases ps.foldl grF none with
    | none => exact Rt.ret (Ev.ifeT (Tt.of (Ev.cmp (Ev.var (d := .none) rfl) .cst is_non) rfl) .glo)
    | some f => exact Rt.ret (Ev.ifeF (Ff.of (Ev.cmp (Ev.var (d := eP f) rfl) .cst is_non) rfl) (Ev.var rfl))
/-! the law's own -/
theorem mine_ok (k : Nat) (t b : Int) (b0 : 0 < b) (b1 : b ≤ 90000) : retD (calls fds (k + 1) 30 [.val (.int t), .val (.int b)]) = some (eP (leanI t b)) := by
  have hb : b = (b.toNat : Nat) := by omega
  have hg : Nat.gcd t.natAbs b.toNat = Int.gcd t b := by
    show _ = Nat.gcd t.natAbs b.natAbs
    congr 1; omega
  have hg0 : 0 < Int.gcd t b := Int.gcd_pos_of_ne_zero_right t (by omega)
  have hg1 : Int.gcd t b ≤ 90000 := by
    have : ((Int.gcd t b : Nat) : Int) ≤ b := Int.le_of_dvd b0 (Int.gcd_dvd_right ..)
    omega
  refine Rt.of (j := 30) (f := fd30) (r := [.val (.int t), .val (.int b), .un, .un]) rfl ?_
  generalize calls fds k = cl
  obtain ⟨r', e, f, h⟩ := gcd_ok (cl := cl) (i := 2) (j := 3) (a := t.natAbs) (b := b.toNat) (r := [.val (.int t), .val (.int b), .val (.int (ab t)), .val (.int b)]) (by decide) (by omega) (by simp) (by simp) (by rw [ab_nat]; rfl) (by rw [← hb]; rfl)
  rw [hg] at h
  have h0 : r'[0]? = some (.val (.int t)) := f.at (by decide)
  have h1 : r'[1]? = some (.val (.int b)) := f.at (by decide)
  exact Rt.seq (r1 := [.val (.int t), .val (.int b), .val (.int (ab t)), .val (.int b)]) rfl (Rt.seq e (Rt.ret (Ev.tup (EvA.con (Ev.bin (Ev.var h0) (Ev.var h) (div_i (by omega) (by omega))) (EvA.con (Ev.bin (Ev.var h1) (Ev.var h) (div_i (by omega) (by omega))) .nil)) (by simp [lim]))))
end K76

namespace K76
open PySem Py
theorem max_li {xs : List Int} (h : xs ≠ []) : BF.max.f [.list (xs.map .int)] = some (.int (maxL xs)) := by
  have := max_ne (f := fun x : Int => x) h
  rwa [List.map_id'] at this
theorem ok_lI (xs : List Int) : okD (.list (xs.map .int)) = true := okD_ints xs
/-! the greatest step -/
def stepsP (xs : List Int) : List Int := (xs.zip (cutL xs (some 1) none)).map fun p => ab (p.2 - p.1)
def stepD (xs : List Int) : D := if stepsP xs = [] then eP (0, 0) else .tuple [.int (maxL (stepsP xs)), .int (idxM (stepsP xs) : Nat)]
theorem zip_len {α β : Type} (xs : List α) (ys : List β) : (xs.zip ys).length ≤ xs.length := by rw [List.length_zip]; omega
theorem steps_len (xs : List Int) : (stepsP xs).length ≤ xs.length := by unfold stepsP; rw [List.length_map]; exact zip_len _ _
section
variable (k : Nat) (xs : List Int) (h : OkS xs)
include h
theorem gstep_ok : retD (calls fds (k + 5) 13 [.val (eT xs)]) = some (stepD xs) := by
  have h2 := h.len
  have c := chk_row k xs h
  refine Rt.of (j := 13) (f := fd13) (r := [.val (eT xs), .un, .un, .un]) rfl ?_
  generalize calls fds (k + 4) = cl at c
  refine Rt.seq (Sn.drp (Ev.cal (ds := [eT xs]) (EvA.con (Ev.var rfl) .nil) rfl c)) (Rt.seq (r1 := [.val (eT xs), .val (.list ((stepsP xs).map .int)), .un, .un]) ?_ ?_)
  · unfold stepsP
    rw [List.map_map]
    refine Sn.set ?_
    show Ev _ _ _ (.list ((xs.zip (cutL xs (some 1) none)).map fun p => .int (ab (p.2 - p.1))))
    repeat' (first | (exact Ev.cst) | (exact Ev.glo) | (exact Ev.var (by (first | rfl | assumption | exact Kw.k (by assumption) _ _ rfl | (repeat' (first | assumption | exact Kw.k (by assumption) _ _ rfl | (refine lk_eq ?_; first | omega | (simp only [List.length_set]; omega)) | refine lk_ne (by decide) ?_))))) | (exact EvA.nil) | (refine' EvA.con ?_ ?_) | (refine' Ev.bin ?_ ?_ ?_) | (refine' Ev.cmp ?_ ?_ ?_) | (refine' Ev.chn ?_ ?_ ?_ ?_ ?_) | (refine' Ev.neg ?_) | (refine' Ev.inv ?_) | (refine' Ev.isa ?_) | (refine' Ev.b1 ?_) | (refine' Ev.and ?_ (fun _ => ?_)) | (refine' Ev.or ?_ (fun _ => ?_)) | (refine' Ev.ix ?_ ?_ ?_) | (refine' Ev.tup ?_ ?_) | (refine' Ev.lst ?_ ?_) | (refine' Ev.bi ?_ ?_) | (refine' Ev.sl ?_ ?_ ?_ ?_) | (exact EvP.nop) | (refine' EvP.pt ?_) | (refine' EvI.rg1 ?_ ?_) | (refine' EvI.rg1i ?_ ?_ ?_) | (refine' EvI.rg2 ?_ ?_ ?_ ?_) | (refine' EvI.zip ?_ ?_ ?_ ?_) | (refine' EvI.enu ?_ ?_) | (refine' Ev.lc1Y ?_ ?_ (fun _ _ => ?_) ?_) | (refine' Ev.lc1 ?_ ?_ (fun _ _ => ?_) (fun _ _ _ => ?_) ?_) | (refine' Ev.lc2Y ?_ (by decide) ?_ (fun _ _ => ?_) ?_) | (refine' Ev.lc2 ?_ (by decide) ?_ (fun _ _ => ?_) (fun _ _ _ => ?_) ?_) | (refine' Ev.ife ?_ (fun _ => ?_) (fun _ => ?_) ?_) | (refine' Ff.or ?_ ?_) | (refine' Ff.b1 ?_) | (refine' Ff.ne ?_ ?_ ?_ ?_) | (refine' Tt.b1 ?_) | (refine' Tt.and ?_ ?_) | (refine' Tt.eq ?_ ?_ ?_ ?_) | (refine' Ff.inv ?_) | (refine' Tt.inv ?_) | (exact kof_t) | (exact kof_l) | (exact kof_few) | (exact kof_fewL) | (refine' EvI.gen ?_ ?_) | (exact Kw.ok (by assumption) (by decide)) | (refine' okV_set ?_) | (exact sl_t) | (exact sl_l) | (exact max2L_i) | (exact min2L_i) | (exact tup_l) | (exact tup_t) | (exact sumI) | (refine' maxI ?_) | (refine' minI ?_) | (exact len_l) | (exact len_t) | (exact abs_ab) | (exact eq_i) | (exact ne_i) | (exact ifi) | (exact ifb) | (exact max2_i) | (exact min2_i) | (exact max_c) | (exact min_c) | (exact sum_c) | (exact all_c) | (exact any_c) | (refine' max_ne ?_) | (refine' min_ne ?_) | (refine' ix_lD ?_) | (refine' ix_tD ?_) | (refine' add_l ?_) | (refine' add_t ?_) | (refine' div_i ?_ ?_) | (refine' mul_i ?_) | (refine' mod_i ?_) | rfl)
    have := zip_len xs (cutL xs (some 1) none)
    simp [lim] at this ⊢; omega
  · unfold stepD
    by_cases q : stepsP xs = []
    · rw [if_pos q, q]
      exact Rt.ret (Ev.ifeF (Ff.of (Ev.cmp (Ev.var rfl) (Ev.lst .nil (by decide)) rfl) rfl) (Ev.tup (EvA.con .cst (EvA.con .cst .nil)) (by simp [lim])))
    · rw [if_neg q]
      exact Rt.ret (Ev.ifeT (Tt.of (Ev.cmp (Ev.var rfl) (Ev.lst .nil (by decide)) (ne_nl (ok_lI _))) (by simpa using q)) (Ev.tup (EvA.con (Ev.bi (EvA.con (Ev.var rfl) .nil) (max_li q)) (EvA.con (Ev.plc (Ev.var rfl) (Ev.bi (EvA.con (Ev.var rfl) .nil) (max_li q)) (plc_max q)) .nil)) (by simp [lim])))
end
/-! the best cut -/
def minO : List R3 → R3
  | [] => (0, 0, 0)
  | x :: t => min3 x t
theorem minO_ok {l : List R3} (h : l ≠ []) : BF.min.f [.list (l.map eR3)] = some (eR3 (minO l)) := by
  cases l with
  | nil => exact absurd rfl h
  | cons x t => exact minR3 x t
def cutsP (xs ys : List Int) : List R3 := (xs.zipIdx 0).flatMap fun p => (ys.zipIdx 0).map fun q => (ab (q.1 - p.1), (p.2 : Nat), (q.2 : Nat))
theorem cuts_ne {xs ys : List Int} (h : OkS xs) (h' : OkS ys) : cutsP xs ys ≠ [] := by
  have h1 := h.pos
  have h2 := h'.pos
  cases xs with
  | nil => simp at h1
  | cons x xs =>
    cases ys with
    | nil => simp at h2
    | cons y ys =>
      intro e
      have : (ab (y - x), ((0 : Nat) : Int), ((0 : Nat) : Int)) ∈ cutsP (x :: xs) (y :: ys) := List.mem_flatMap.mpr ⟨(x, 0), by rw [List.zipIdx_cons]; exact List.mem_cons_self, List.mem_map.mpr ⟨(y, 0), by rw [List.zipIdx_cons]; exact List.mem_cons_self, rfl⟩⟩
      rw [e] at this
      cases this
theorem cuts_map (xs ys : List Int) : (cutsP xs ys).map eR3 = (xs.zipIdx 0).flatMap fun p => (ys.zipIdx 0).map fun q => .tuple [.int (ab (q.1 - p.1)), .int (p.2 : Nat), .int (q.2 : Nat)] := by
  unfold cutsP
  rw [List.map_flatMap]
  congr 1
  funext p
  rw [List.map_map]; rfl
theorem cuts_len {xs ys : List Int} (h : xs.length ≤ 40) (h' : ys.length ≤ 40) : ((xs.zipIdx 0).flatMap fun p => (ys.zipIdx 0).map fun q => (PyData.tuple [.int (ab (q.1 - p.1)), .int (p.2 : Nat), .int (q.2 : Nat)])).length ≤ lim := by
  refine Nat.le_trans (flat_le (m := 40) _ fun p _ => by simpa using h') ?_
  rw [List.length_zipIdx]
  show _ ≤ 1000000
  omega
section
variable (k : Nat) (xs ys : List Int) (h : OkS xs) (h' : OkS ys)
include h h'
theorem bcut_ok : retD (calls fds (k + 6) 14 [.val (eT xs), .val (eT ys)]) = some (eR3 (minO (cutsP xs ys))) := by
  have h2 := h.len
  have h3 := h'.len
  have c := chk_both k xs ys h h'
  refine Rt.of (j := 14) (f := fd14) (r := [.val (eT xs), .val (eT ys), .un, .un, .un, .un, .un]) rfl ?_
  generalize calls fds (k + 5) = cl at c
  refine Rt.seq (Sn.drp (Ev.cal (ds := [eT xs, eT ys]) (EvA.con (Ev.var rfl) (EvA.con (Ev.var rfl) .nil)) rfl c)) (Rt.seq (r1 := [.val (eT xs), .val (eT ys), .val (.list ((cutsP xs ys).map eR3)), .un, .un, .un, .un]) ?_ (Rt.ret (Ev.bi (EvA.con (Ev.var rfl) .nil) (minO_ok (cuts_ne h h')))))
  rw [cuts_map]
  refine Sn.set (Ev.lcc (en := fun p : Int × Nat => .tuple [.int (p.2 : Nat), .int p.1]) (em := fun _ q => .tuple [.int (q.2 : Nat), .int q.1]) (ys := fun _ => ys.zipIdx 0) (gg := fun p q => .tuple [.int (ab (q.1 - p.1)), .int (p.2 : Nat), .int (q.2 : Nat)])
    (st := fun p => [.val (eT xs), .val (eT ys), .un, .val (.int (p.2 : Nat)), .val (.int p.1), .un, .un]) (st1 := fun p q => [.val (eT xs), .val (eT ys), .un, .val (.int (p.2 : Nat)), .val (.int p.1), .val (.int (q.2 : Nat)), .val (.int q.1)])
    (EvI.enu (Ev.var rfl) kof_t) rfl (fun _ => rfl) (fun _ => rfl) (fun _ _ => EvI.enu (Ev.var rfl) kof_t) (fun _ _ => rfl) (fun _ _ => rfl) (fun p _ q _ => ?_) (cuts_len h2 h3))
  exact Ev.tup (EvA.con (Ev.bi (EvA.con (Ev.bin (Ev.var rfl) (Ev.var rfl) rfl) .nil) abs_ab) (EvA.con (Ev.var rfl) (EvA.con (Ev.var rfl) .nil))) (by simp [lim])
theorem cutj_ok (last first : Int) (a0 : 0 ≤ last) (a1 : last ≤ (xs.length : Int) - 1) (b0 : 0 ≤ first) (b1 : first ≤ (ys.length : Int) - 1) (hl : last + 1 + ys.length - first ≤ 40) : retD (calls fds (k + 6) 15 [.val (eT xs), .val (eT ys), .val (.int last), .val (.int first)]) = some (.tuple ((cutL xs none (some (last + 1))).map .int ++ (cutL ys (some first) none).map .int)) := by
  have h2 := h.len
  have h3 := h'.len
  have c := chk_both k xs ys h h'
  have c1 := from_ok (k + 3) (.int last) 0 ((xs.length : Int) - 1)
  have c2 := from_ok (k + 3) (.int first) 0 ((ys.length : Int) - 1)
  have l1 := cutL_le xs none (some (last + 1))
  have l2 := cutL_le ys (some first) none
  refine Rt.of (j := 15) (f := fd15) (r := [.val (eT xs), .val (eT ys), .val (.int last), .val (.int first)]) rfl ?_
  generalize calls fds (k + 5) = cl at c c1 c2
  refine Rt.seq (Sn.drp (Ev.cal (ds := [eT xs, eT ys]) (EvA.con (Ev.var rfl) (EvA.con (Ev.var rfl) .nil)) rfl c)) (Rt.seq (Sn.ifsF (Ff.inv (Tt.of (Ev.cal (ds := [.int last, .int 0, .int ((xs.length : Int) - 1)]) (EvA.con (Ev.var rfl) (EvA.con .cst (EvA.con (Ev.bin (Ev.bi (EvA.con (Ev.var rfl) .nil) len_t) .cst rfl) .nil))) rfl c1) (from_t a0 a1))))
    (Rt.seq (Sn.ifsF (Ff.or (Ff.inv (Tt.of (Ev.cal (ds := [.int first, .int 0, .int ((ys.length : Int) - 1)]) (EvA.con (Ev.var rfl) (EvA.con .cst (EvA.con (Ev.bin (Ev.bi (EvA.con (Ev.var rfl) .nil) len_t) .cst rfl) .nil))) rfl c2) (from_t b0 b1))) (Ff.b1 (Ff.of (p := decide ((40 : Int) < last + 1 + (ys.length : Nat) - first)) (Ev.cmp (c := .Gt) (Ev.bin (Ev.bin (Ev.bin (Ev.var rfl) .cst rfl) (Ev.bi (EvA.con (Ev.var rfl) .nil) len_t) rfl) (Ev.var rfl) rfl) .glo rfl) (decide_eq_false (by omega))))))
    (Rt.ret (Ev.bin (Ev.sl (Ev.var rfl) .nop (EvP.pt (Ev.bin (Ev.var rfl) .cst rfl)) sl_t) (Ev.sl (Ev.var rfl) (EvP.pt (Ev.var rfl)) .nop sl_t) (add_t (by simp [lim]; omega))))))
end
/-! the best loop -/
def loopsP (xs : List Int) (least : Nat) : List R3 := (List.range xs.length).flatMap fun b => (rgN (b + least) (xs.length + 1)).map fun e => (ab (xs.getD (e - 1) default - xs.getD b default), (b : Nat), (e : Nat))
def loopD (xs : List Int) (least : Nat) : D := if loopsP xs least = [] then .none else eR3 (minO (loopsP xs least))
theorem loops_map (xs : List Int) (least : Nat) : (loopsP xs least).map eR3 = (List.range xs.length).flatMap fun b => (rgN (b + least) (xs.length + 1)).map fun e => .tuple [.int (ab (xs.getD (e - 1) default - xs.getD b default)), .int (b : Nat), .int (e : Nat)] := by
  unfold loopsP
  rw [List.map_flatMap]
  congr 1
  funext p
  rw [List.map_map]; rfl
theorem loops_len {xs : List Int} {least : Nat} (h : xs.length ≤ 40) : ((List.range xs.length).flatMap fun b => (rgN (b + least) (xs.length + 1)).map fun e => (PyData.tuple [.int (ab (xs.getD (e - 1) default - xs.getD b default)), .int (b : Nat), .int (e : Nat)])).length ≤ lim := by
  refine Nat.le_trans (flat_le (m := 41) _ fun p _ => by rw [List.length_map, rgN_len]; omega) ?_
  rw [List.length_range]
  show _ ≤ 1000000
  omega
section
variable (k : Nat) (xs : List Int) (h : OkS xs)
include h
theorem bloop_ok (least : Nat) (a0 : 1 ≤ least) (a1 : least ≤ 39) : retD (calls fds (k + 5) 21 [.val (eT xs), .val (.int (least : Nat))]) = some (loopD xs least) := by
  have h2 := h.len
  have c := chk_row k xs h
  have c1 := from_ok (k + 2) (.int (least : Nat)) 1 39
  refine Rt.of (j := 21) (f := fd21) (r := [.val (eT xs), .val (.int (least : Nat)), .un, .un, .un]) rfl ?_
  generalize calls fds (k + 4) = cl at c c1
  refine Rt.seq (Sn.drp (Ev.cal (ds := [eT xs]) (EvA.con (Ev.var rfl) .nil) rfl c)) (Rt.seq (Sn.ifsF (Ff.inv (Tt.of (Ev.cal (ds := [.int (least : Nat), .int 1, .int 39]) (EvA.con (Ev.var rfl) (EvA.con .cst (EvA.con (Ev.bin .glo .cst rfl) .nil))) rfl c1) (from_t (by omega) (by omega)))))
    (Rt.seq (r1 := [.val (eT xs), .val (.int (least : Nat)), .val (.list ((loopsP xs least).map eR3)), .un, .un]) ?_ ?_))
  · rw [loops_map]
    refine Sn.set (Ev.lcc (en := eN) (em := fun _ => eN) (xs := List.range xs.length) (ys := fun b => rgN (b + least) (xs.length + 1)) (gg := fun b e => .tuple [.int (ab (xs.getD (e - 1) default - xs.getD b default)), .int (b : Nat), .int (e : Nat)])
      (st := fun b => [.val (eT xs), .val (.int (least : Nat)), .un, .val (.int (b : Nat)), .un]) (st1 := fun b e => [.val (eT xs), .val (.int (least : Nat)), .un, .val (.int (b : Nat)), .val (.int (e : Nat))])
      (EvI.rg1 (Ev.bi (EvA.con (Ev.var rfl) .nil) len_t) (by simp [lim]; omega)) rfl (fun _ => rfl) (fun _ => rfl) (fun b hb => EvI.rgN (Ev.bin (Ev.var rfl) (Ev.var rfl) rfl) (Ev.bin (Ev.bi (EvA.con (Ev.var rfl) .nil) len_t) .cst rfl) (by have := List.mem_range.mp hb; omega) (by omega)) (fun _ _ => rfl) (fun _ _ => rfl) (fun b hb e he => ?_) (loops_len h2))
    have hb := List.mem_range.mp hb
    have he := mem_rgN.mp he
    have e9 : fIx (eT xs) (.int ((e : Int) - 1)) = some (.int (xs.getD (e - 1) default)) := by
      rw [show (e : Int) - 1 = ((e - 1 : Nat) : Int) by omega]
      exact ix_tD (by omega)
    exact Ev.tup (EvA.con (Ev.bi (EvA.con (Ev.bin (Ev.ix (Ev.var rfl) (Ev.bin (Ev.var rfl) .cst rfl) e9) (Ev.ix (Ev.var rfl) (Ev.var rfl) (ix_tD hb)) rfl) .nil) abs_ab) (EvA.con (Ev.var rfl) (EvA.con (Ev.var rfl) .nil))) (by simp [lim])
  · unfold loopD
    by_cases q : loopsP xs least = []
    · rw [if_pos q, q]
      exact Rt.ret (Ev.ifeF (Ff.of (Ev.cmp (Ev.var rfl) (Ev.lst .nil (by decide)) rfl) rfl) .cst)
    · rw [if_neg q]
      exact Rt.ret (Ev.ifeT (Tt.of (Ev.cmp (Ev.var rfl) (Ev.lst .nil (by decide)) (ne_nl (okD_sml (sml_lst (n := 1) fun x _ => sml_r3 x) (by decide)))) (by simpa using q)) (Ev.bi (EvA.con (Ev.var rfl) .nil) (minO_ok q)))
theorem looped_ok (b e many : Int) (b0 : 0 ≤ b) (b1 : b ≤ (xs.length : Int) - 1) (e0 : b + 1 ≤ e) (e1 : e ≤ xs.length) (m0 : 0 ≤ many) (m1 : many ≤ 40) (hl : (xs.length : Int) + many * (e - b) ≤ 40) : retD (calls fds (k + 5) 22 [.val (eT xs), .val (.int b), .val (.int e), .val (.int many)]) = some (.tuple ((cutL xs none (some e)).map .int ++ (List.replicate many.toNat ((cutL xs (some b) (some e)).map .int)).flatten ++ (cutL xs (some e) none).map .int)) := by
  have h2 := h.len
  have c := chk_row k xs h
  have c1 := from_ok (k + 2) (.int b) 0 ((xs.length : Int) - 1)
  have c2 := from_ok (k + 2) (.int e) (b + 1) xs.length
  have c3 := from_ok (k + 2) (.int many) 0 40
  have l1 := cutL_le xs none (some e)
  have l2 := cutL_le xs (some b) (some e)
  have l3 := cutL_le xs (some e) none
  have l4 : (List.replicate many.toNat ((cutL xs (some b) (some e)).map PyData.int)).flatten.length ≤ 1600 := by
    rw [List.length_flatten, List.map_replicate, List.sum_replicate_nat, List.length_map]
    exact Nat.le_trans (Nat.mul_le_mul (show many.toNat ≤ 40 by omega) (Nat.le_trans l2 h2)) (by decide)
  have fm : binF .Mult (.tuple ((cutL xs (some b) (some e)).map .int)) (.int many) = some (.tuple (List.replicate many.toNat ((cutL xs (some b) (some e)).map .int)).flatten) := by
    show (if -1000000 ≤ many ∧ many ≤ 1000 ∧ ((cutL xs (some b) (some e)).map PyData.int).length ≤ 1000 then _ else none) = _
    rw [if_pos ⟨by omega, by omega, by simp; omega⟩]
  refine Rt.of (j := 22) (f := fd22) (r := [.val (eT xs), .val (.int b), .val (.int e), .val (.int many)]) rfl ?_
  generalize calls fds (k + 4) = cl at c c1 c2 c3
  refine Rt.seq (Sn.drp (Ev.cal (ds := [eT xs]) (EvA.con (Ev.var rfl) .nil) rfl c)) (Rt.seq (Sn.ifsF (Ff.inv (Tt.of (Ev.cal (ds := [.int b, .int 0, .int ((xs.length : Int) - 1)]) (EvA.con (Ev.var rfl) (EvA.con .cst (EvA.con (Ev.bin (Ev.bi (EvA.con (Ev.var rfl) .nil) len_t) .cst rfl) .nil))) rfl c1) (from_t b0 b1))))
    (Rt.seq (Sn.ifsF (Ff.inv (Tt.of (Ev.cal (ds := [.int e, .int (b + 1), .int xs.length]) (EvA.con (Ev.var rfl) (EvA.con (Ev.bin (Ev.var rfl) .cst rfl) (EvA.con (Ev.bi (EvA.con (Ev.var rfl) .nil) len_t) .nil))) rfl c2) (from_t e0 e1))))
    (Rt.seq (Sn.ifsF (Ff.or (Ff.inv (Tt.of (Ev.cal (ds := [.int many, .int 0, .int 40]) (EvA.con (Ev.var rfl) (EvA.con .cst (EvA.con .glo .nil))) rfl c3) (from_t m0 m1))) (Ff.b1 (Ff.of (p := decide ((40 : Int) < (xs.length : Nat) + many * (e - b))) (Ev.cmp (c := .Gt) (Ev.bin (Ev.bi (EvA.con (Ev.var rfl) .nil) len_t) (Ev.bin (Ev.var rfl) (Ev.bin (Ev.var rfl) (Ev.var rfl) rfl) (mul_i (.inl (w64 (by omega) (by omega))))) rfl) .glo rfl) (decide_eq_false (by omega))))))
    (Rt.ret (Ev.bin (Ev.bin (Ev.sl (Ev.var rfl) .nop (EvP.pt (Ev.var rfl)) sl_t) (Ev.bin (Ev.sl (Ev.var rfl) (EvP.pt (Ev.var rfl)) (EvP.pt (Ev.var rfl)) sl_t) (Ev.var rfl) fm) (add_t (by rw [List.length_map]; simp only [lim]; omega))) (Ev.sl (Ev.var rfl) (EvP.pt (Ev.var rfl)) .nop sl_t) (add_t (by rw [List.length_append, List.length_map, List.length_map]; simp only [lim]; omega)))))))
end
end K76

namespace K76
open PySem Py
/-! sums of fractions with one bottom -/
theorem lean_plus (a b m : Int) (hm : 0 < m) : leanI ((leanI a m).1 * (leanI b m).2 + (leanI b m).1 * (leanI a m).2) ((leanI a m).2 * (leanI b m).2) = leanI (a + b) m := by
  have h1 := lean_cross a m hm
  have h2 := lean_cross b m hm
  have q1 := lean_pos a m hm
  have q2 := lean_pos b m hm
  generalize leanI a m = x at *
  generalize leanI b m = y at *
  refine lean_eq (Int.mul_pos q1 q2) hm ?_
  have e1 : (x.1 * y.2 + y.1 * x.2) * m = x.1 * m * y.2 + y.1 * m * x.2 := by
    rw [Int.add_mul, Int.mul_right_comm x.1, Int.mul_right_comm y.1]
  rw [e1, h1, h2, Int.add_mul]
  congr 1
  · rw [Int.mul_assoc]
  · rw [Int.mul_assoc, Int.mul_comm x.2 y.2]
/-! one laid over the other -/
def midP (xs ys : List Int) (many at_ : Nat) : F2 := leanI (xs.getD (xs.length - many + at_) default * ((many : Int) - at_) + ys.getD at_ default * ((at_ : Int) + 1)) ((many : Int) + 1)
def overP (xs ys : List Int) (many : Nat) : List F2 := ((cutL xs none (some ((xs.length : Int) - many))).map fun s => (s, 1)) ++ (List.range many).map (midP xs ys many) ++ (cutL ys (some (many : Nat)) none).map fun s => (s, 1)
theorem fr_one {s : Int} (h : -1000 ≤ s ∧ s ≤ 1000) : Fr (s, 1) := ⟨by show (0 : Int) < 1; decide, by show (1 : Int) ≤ 41; decide, ab_le (by show -100000 ≤ s; omega) (by show s ≤ 100000; omega)⟩
theorem getD_mem {xs : List Int} {i : Nat} (h : i < xs.length) : xs.getD i default ∈ xs := by
  rw [List.getD_eq_getElem?_getD, List.getElem?_eq_getElem h]
  exact List.getElem_mem h
theorem cut_mem {xs : List Int} {lo hi : Option Int} {x : Int} (h : x ∈ cutL xs lo hi) : x ∈ xs := List.mem_of_mem_drop (List.mem_of_mem_take h)
theorem fr_lean {t m : Int} (m0 : 0 < m) (m1 : m ≤ 41) (ht : ab t ≤ 100000) : Fr (leanI t m) := ⟨lean_pos t m m0, by have := lean_le t m m0; omega, by have := lean_mag t m m0; omega⟩
theorem mul_ab {a b A B : Int} (ha : -A ≤ a ∧ a ≤ A) (b0 : 0 ≤ b) (b1 : b ≤ B) : ab (a * b) ≤ A * B := by
  rw [ab_mul, ab_pos b0]
  exact mul_bd (ab_0 a) (ab_le ha.1 ha.2) b0 b1
section
variable {xs ys : List Int} (h : OkS xs) (h' : OkS ys) {many : Nat} (hm : many ≤ xs.length) (hm' : many ≤ ys.length)
include h h' hm hm'
theorem mid_fr {i : Nat} (hi : i < many) : Fr (midP xs ys many i) := by
  have h2 := h.len
  refine fr_lean (by omega) (by omega) ?_
  have a1 := h.all _ (getD_mem (xs := xs) (i := xs.length - many + i) (by omega))
  have a2 := h'.all _ (getD_mem (xs := ys) (i := i) (by omega))
  have q1 := mul_ab (A := 1000) (B := 40) a1 (b := (many : Int) - i) (by omega) (by omega)
  have q2 := mul_ab (A := 1000) (B := 40) a2 (b := (i : Int) + 1) (by omega) (by omega)
  have := ab_add (xs.getD (xs.length - many + i) default * ((many : Int) - i)) (ys.getD i default * ((i : Int) + 1))
  omega
theorem over_fr : ∀ p ∈ overP xs ys many, Fr p := by
  intro p hp
  rcases List.mem_append.mp hp with hp | hp
  · rcases List.mem_append.mp hp with hp | hp
    · obtain ⟨s, hs, rfl⟩ := List.mem_map.mp hp
      exact fr_one (h.all s (cut_mem hs))
    · obtain ⟨i, hi, rfl⟩ := List.mem_map.mp hp
      exact mid_fr h h' hm hm' (List.mem_range.mp hi)
  · obtain ⟨s, hs, rfl⟩ := List.mem_map.mp hp
    exact fr_one (h'.all s (cut_mem hs))
theorem over_len : (overP xs ys many).length ≤ 120 := by
  have h2 := h.len
  have h3 := h'.len
  have l1 := cutL_le xs none (some ((xs.length : Int) - many))
  have l2 := cutL_le ys (some (many : Nat)) none
  unfold overP
  rw [List.length_append, List.length_append, List.length_map, List.length_map, List.length_map, List.length_range]
  omega
end
theorem one_map (l : List Int) : (l.map fun s => ((s, 1) : F2)).map eP = l.map fun s => .tuple [.int s, .int 1] := by rw [List.map_map]; rfl
theorem retOwn2 {cl : Nat → O1} {r : Rho} {b : T} {i : Nat} {ds es : List D} (h : r[i]? = some (.own (.list ds))) (hb : Ev cl b (r.set i (.val (.list ds))) (.list es)) (hl : ds.length + es.length ≤ lim) : Rt cl (.seq (.ret (.bi .tuple (.con (.bin .Add (.var i) b) .nil))) .skp) r (.tuple (ds ++ es)) := by
  have e : ev cl (.var i) r = .val (.list ds) (r.set i (.val (.list ds))) := by
    show oVar i r = _
    unfold oVar; rw [h]
  have e1 : ev cl (.bin .Add (.var i) b) r = .val (.list (ds ++ es)) (r.set i (.val (.list ds))) := bin_v e hb.h (add_l hl)
  have e2 : ev cl (.bi .tuple (.con (.bin .Add (.var i) b) .nil)) r = .val (.tuple (ds ++ es)) (r.set i (.val (.list ds))) := callv (con_v e1 rfl) rfl
  exact ⟨_, seqR (retV' e2)⟩
section
variable (k : Nat) (xs ys : List Int) (h : OkS xs) (h' : OkS ys) (many : Nat) (hm : many ≤ xs.length) (hm' : many ≤ ys.length)
include h h' hm hm'
theorem chk_over : retD (calls fds (k + 6) 16 [.val (eT xs), .val (eT ys), .val (.int (many : Nat))]) = some .none := by
  have c := chk_both k xs ys h h'
  have c1 := from_ok (k + 3) (.int (many : Nat)) 0 (min (xs.length : Int) (ys.length : Int))
  refine nxtOf (j := 16) (r := [.val (eT xs), .val (eT ys), .val (.int (many : Nat))]) (r' := [.val (eT xs), .val (eT ys), .val (.int (many : Nat))]) (f := fd16) rfl ?_
  generalize calls fds (k + 5) = cl at c c1
  exact Sn.seq (Sn.drp (Ev.cal (ds := [eT xs, eT ys]) (EvA.con (Ev.var rfl) (EvA.con (Ev.var rfl) .nil)) rfl c)) (Sn.seq (Sn.ifsF (Ff.inv (Tt.of (Ev.cal (ds := [.int (many : Nat), .int 0, .int (min (xs.length : Int) (ys.length : Int))]) (EvA.con (Ev.var rfl) (EvA.con .cst (EvA.con (Ev.bi (EvA.con (Ev.bi (EvA.con (Ev.var rfl) .nil) len_t) (EvA.con (Ev.bi (EvA.con (Ev.var rfl) .nil) len_t) .nil)) min2_i) .nil))) rfl c1) (from_t (by omega) (by omega))))) Sn.skp)
theorem laid_ok : retD (calls fds (k + 7) 17 [.val (eT xs), .val (eT ys), .val (.int (many : Nat))]) = some (.tuple ((overP xs ys many).map eP)) := by
  have h2 := h.len
  have h3 := h'.len
  have c := chk_over k xs ys h h' many hm hm'
  have c1 := lean_ok (k + 4)
  have c2 := plus_ok (k + 3)
  have l1 := cutL_le xs none (some ((xs.length : Int) - many))
  have l2 := cutL_le ys (some (many : Nat)) none
  refine Rt.of (j := 17) (f := fd17) (r := [.val (eT xs), .val (eT ys), .val (.int (many : Nat)), .un, .un, .un, .un, .un, .un, .un]) rfl ?_
  generalize calls fds (k + 6) = cl at c c1 c2
  refine Rt.seq (Sn.drp (Ev.cal (ds := [eT xs, eT ys, .int (many : Nat)]) (EvA.con (Ev.var rfl) (EvA.con (Ev.var rfl) (EvA.con (Ev.var rfl) .nil))) rfl c)) ?_
  refine Rt.seq (r1 := [.val (eT xs), .val (eT ys), .val (.int (many : Nat)), .un, .un, .val (eT (cutL xs none (some ((xs.length : Int) - many)))), .val (eT (cutL ys (some (many : Nat)) none)), .un, .un, .un]) (Sn.par (EvA.con (Ev.sl (Ev.var rfl) .nop (EvP.pt (Ev.bin (Ev.bi (EvA.con (Ev.var rfl) .nil) len_t) (Ev.var rfl) rfl)) sl_t) (EvA.con (Ev.sl (Ev.var rfl) (EvP.pt (Ev.var rfl)) .nop sl_t) .nil)) rfl) ?_
  refine Rt.seq (r1 := [.val (eT xs), .val (eT ys), .val (.int (many : Nat)), .own (.list (((cutL xs none (some ((xs.length : Int) - many))).map fun s => ((s, 1) : F2)).map eP)), .un, .val (eT (cutL xs none (some ((xs.length : Int) - many)))), .val (eT (cutL ys (some (many : Nat)) none)), .un, .un, .un]) ?_ ?_
  · rw [one_map]
    refine Sn.sto ?_
    repeat' (first | (exact Ev.cst) | (exact Ev.glo) | (exact Ev.var (by (first | rfl | assumption | exact Kw.k (by assumption) _ _ rfl | (repeat' (first | assumption | exact Kw.k (by assumption) _ _ rfl | (refine lk_eq ?_; first | omega | (simp only [List.length_set]; omega)) | refine lk_ne (by decide) ?_))))) | (exact EvA.nil) | (refine' EvA.con ?_ ?_) | (refine' Ev.bin ?_ ?_ ?_) | (refine' Ev.cmp ?_ ?_ ?_) | (refine' Ev.chn ?_ ?_ ?_ ?_ ?_) | (refine' Ev.neg ?_) | (refine' Ev.inv ?_) | (refine' Ev.isa ?_) | (refine' Ev.b1 ?_) | (refine' Ev.and ?_ (fun _ => ?_)) | (refine' Ev.or ?_ (fun _ => ?_)) | (refine' Ev.ix ?_ ?_ ?_) | (refine' Ev.tup ?_ ?_) | (refine' Ev.lst ?_ ?_) | (refine' Ev.bi ?_ ?_) | (refine' Ev.sl ?_ ?_ ?_ ?_) | (exact EvP.nop) | (refine' EvP.pt ?_) | (refine' EvI.rg1 ?_ ?_) | (refine' EvI.rg1i ?_ ?_ ?_) | (refine' EvI.rg2 ?_ ?_ ?_ ?_) | (refine' EvI.zip ?_ ?_ ?_ ?_) | (refine' EvI.enu ?_ ?_) | (refine' Ev.lc1Y ?_ ?_ (fun _ _ => ?_) ?_) | (refine' Ev.lc1 ?_ ?_ (fun _ _ => ?_) (fun _ _ _ => ?_) ?_) | (refine' Ev.lc2Y ?_ (by decide) ?_ (fun _ _ => ?_) ?_) | (refine' Ev.lc2 ?_ (by decide) ?_ (fun _ _ => ?_) (fun _ _ _ => ?_) ?_) | (refine' Ev.ife ?_ (fun _ => ?_) (fun _ => ?_) ?_) | (refine' Ff.or ?_ ?_) | (refine' Ff.b1 ?_) | (refine' Ff.ne ?_ ?_ ?_ ?_) | (refine' Tt.b1 ?_) | (refine' Tt.and ?_ ?_) | (refine' Tt.eq ?_ ?_ ?_ ?_) | (refine' Ff.inv ?_) | (refine' Tt.inv ?_) | (exact kof_t) | (exact kof_l) | (exact kof_few) | (exact kof_fewL) | (refine' EvI.gen ?_ ?_) | (exact Kw.ok (by assumption) (by decide)) | (refine' okV_set ?_) | (exact sl_t) | (exact sl_l) | (exact max2L_i) | (exact min2L_i) | (exact tup_l) | (exact tup_t) | (exact sumI) | (refine' maxI ?_) | (refine' minI ?_) | (exact len_l) | (exact len_t) | (exact abs_ab) | (exact eq_i) | (exact ne_i) | (exact ifi) | (exact ifb) | (exact max2_i) | (exact min2_i) | (exact max_c) | (exact min_c) | (exact sum_c) | (exact all_c) | (exact any_c) | (refine' max_ne ?_) | (refine' min_ne ?_) | (refine' ix_lD ?_) | (refine' ix_tD ?_) | (refine' add_l ?_) | (refine' add_t ?_) | (refine' div_i ?_ ?_) | (refine' mul_i ?_) | (refine' mod_i ?_) | rfl)
    all_goals first | (simp [lim]; done) | (simp [lim]; omega)
  refine Rt.loop (EvI.rg1 (n := many) (Ev.var rfl) (by simp [lim]; omega)).h (for_pre (en := eN) (List.range many) (fun pre r => ∃ a b d : Slot, r = [.val (eT xs), .val (eT ys), .val (.int (many : Nat)), .own (.list ((((cutL xs none (some ((xs.length : Int) - many))).map fun s => ((s, 1) : F2)) ++ pre.map (midP xs ys many)).map eP)), a, .val (eT (cutL xs none (some ((xs.length : Int) - many)))), .val (eT (cutL ys (some (many : Nat)) none)), .un, b, d]) ⟨.un, .un, .un, by simp⟩ ?_) (fun r' ⟨a, b, d, e⟩ => ?_)
  · rintro pre i post r he ⟨a, b, d, rfl⟩
    have hi : i < many := by
      have : i ∈ List.range many := by rw [he]; simp
      simpa using this
    have hp : pre.length ≤ 40 := by
      have := congrArg List.length he
      simp at this; omega
    have a1 := h.all _ (getD_mem (xs := xs) (i := xs.length - many + i) (by omega))
    have a2 := h'.all _ (getD_mem (xs := ys) (i := i) (by omega))
    have q1 := mul_ab (A := 1000) (B := 40) a1 (b := (many : Int) - i) (by omega) (by omega)
    have q2 := mul_ab (A := 1000) (B := 40) a2 (b := (i : Int) + 1) (by omega) (by omega)
    have w1 : W64 ((many : Int) - i) := w64 (by omega) (by omega)
    have w2 : W64 ((i : Int) + 1) := w64 (by omega) (by omega)
    have e9 : fIx (eT xs) (.int ((xs.length : Int) - many + i)) = some (.int (xs.getD (xs.length - many + i) default)) := by
      rw [show (xs.length : Int) - many + i = ((xs.length - many + i : Nat) : Int) by omega]
      exact ix_tD (by omega)
    refine ⟨_, [.val (eT xs), .val (eT ys), .val (.int (many : Nat)), .own (.list ((((cutL xs none (some ((xs.length : Int) - many))).map fun s => ((s, 1) : F2)) ++ (pre ++ [i]).map (midP xs ys many)).map eP)), .val (.int (i : Nat)), .val (eT (cutL xs none (some ((xs.length : Int) - many)))), .val (eT (cutL ys (some (many : Nat)) none)), .un, .val (.int (xs.getD (xs.length - many + i) default)), .val (.int (ys.getD i default))], rfl, ?_, _, _, _, rfl⟩
    refine Sn.seq (r1 := [.val (eT xs), .val (eT ys), .val (.int (many : Nat)), .own (.list ((((cutL xs none (some ((xs.length : Int) - many))).map fun s => ((s, 1) : F2)) ++ pre.map (midP xs ys many)).map eP)), .val (.int (i : Nat)), .val (eT (cutL xs none (some ((xs.length : Int) - many)))), .val (eT (cutL ys (some (many : Nat)) none)), .un, .val (.int (xs.getD (xs.length - many + i) default)), .val (.int (ys.getD i default))])
      (Sn.par (EvA.con (Ev.ix (Ev.var rfl) (Ev.bin (Ev.bin (Ev.bi (EvA.con (Ev.var rfl) .nil) len_t) (Ev.var rfl) rfl) (Ev.var rfl) rfl) e9) (EvA.con (Ev.ix (Ev.var rfl) (Ev.var rfl) (ix_tD (by omega))) .nil)) rfl) (Sn.seq (Sn.app (x := eP (midP xs ys many i)) rfl ?_ (by simp [lim]; omega)) (by show Out.nxt _ = _; simp))
    unfold midP
    rw [← lean_plus _ _ _ (show (0 : Int) < (many : Int) + 1 by omega)]
    exact Ev.cal (ds := [eP (leanI (xs.getD (xs.length - many + i) default * ((many : Int) - i)) ((many : Int) + 1)), eP (leanI (ys.getD i default * ((i : Int) + 1)) ((many : Int) + 1))]) (EvA.con
      (Ev.cal (ds := [.int (xs.getD (xs.length - many + i) default * ((many : Int) - i)), .int ((many : Int) + 1)]) (EvA.con (Ev.bin (Ev.var rfl) (Ev.bin (Ev.var rfl) (Ev.var rfl) rfl) (mul_i (.inr w1))) (EvA.con (Ev.bin (Ev.var rfl) .cst rfl) .nil)) rfl (c1 _ _ (by omega) (by omega) (by omega)))
      (EvA.con (Ev.cal (ds := [.int (ys.getD i default * ((i : Int) + 1)), .int ((many : Int) + 1)]) (EvA.con (Ev.bin (Ev.var rfl) (Ev.bin (Ev.var rfl) .cst rfl) (mul_i (.inr w2))) (EvA.con (Ev.bin (Ev.var rfl) .cst rfl) .nil)) rfl (c1 _ _ (by omega) (by omega) (by omega))) .nil)) rfl
      (c2 _ _ (fr_lean (by omega) (by omega) (by omega)) (fr_lean (by omega) (by omega) (by omega)))
  · subst e
    unfold overP
    rw [List.map_append (l₂ := (cutL ys (some (many : Nat)) none).map fun s => ((s, 1) : F2)), one_map]
    refine retOwn2 rfl ?_ (by simp [lim]; omega)
    repeat' (first | (exact Ev.cst) | (exact Ev.glo) | (exact Ev.var (by (first | rfl | assumption | exact Kw.k (by assumption) _ _ rfl | (repeat' (first | assumption | exact Kw.k (by assumption) _ _ rfl | (refine lk_eq ?_; first | omega | (simp only [List.length_set]; omega)) | refine lk_ne (by decide) ?_))))) | (exact EvA.nil) | (refine' EvA.con ?_ ?_) | (refine' Ev.bin ?_ ?_ ?_) | (refine' Ev.cmp ?_ ?_ ?_) | (refine' Ev.chn ?_ ?_ ?_ ?_ ?_) | (refine' Ev.neg ?_) | (refine' Ev.inv ?_) | (refine' Ev.isa ?_) | (refine' Ev.b1 ?_) | (refine' Ev.and ?_ (fun _ => ?_)) | (refine' Ev.or ?_ (fun _ => ?_)) | (refine' Ev.ix ?_ ?_ ?_) | (refine' Ev.tup ?_ ?_) | (refine' Ev.lst ?_ ?_) | (refine' Ev.bi ?_ ?_) | (refine' Ev.sl ?_ ?_ ?_ ?_) | (exact EvP.nop) | (refine' EvP.pt ?_) | (refine' EvI.rg1 ?_ ?_) | (refine' EvI.rg1i ?_ ?_ ?_) | (refine' EvI.rg2 ?_ ?_ ?_ ?_) | (refine' EvI.zip ?_ ?_ ?_ ?_) | (refine' EvI.enu ?_ ?_) | (refine' Ev.lc1Y ?_ ?_ (fun _ _ => ?_) ?_) | (refine' Ev.lc1 ?_ ?_ (fun _ _ => ?_) (fun _ _ _ => ?_) ?_) | (refine' Ev.lc2Y ?_ (by decide) ?_ (fun _ _ => ?_) ?_) | (refine' Ev.lc2 ?_ (by decide) ?_ (fun _ _ => ?_) (fun _ _ _ => ?_) ?_) | (refine' Ev.ife ?_ (fun _ => ?_) (fun _ => ?_) ?_) | (refine' Ff.or ?_ ?_) | (refine' Ff.b1 ?_) | (refine' Ff.ne ?_ ?_ ?_ ?_) | (refine' Tt.b1 ?_) | (refine' Tt.and ?_ ?_) | (refine' Tt.eq ?_ ?_ ?_ ?_) | (refine' Ff.inv ?_) | (refine' Tt.inv ?_) | (exact kof_t) | (exact kof_l) | (exact kof_few) | (exact kof_fewL) | (refine' EvI.gen ?_ ?_) | (exact Kw.ok (by assumption) (by decide)) | (refine' okV_set ?_) | (exact sl_t) | (exact sl_l) | (exact max2L_i) | (exact min2L_i) | (exact tup_l) | (exact tup_t) | (exact sumI) | (refine' maxI ?_) | (refine' minI ?_) | (exact len_l) | (exact len_t) | (exact abs_ab) | (exact eq_i) | (exact ne_i) | (exact ifi) | (exact ifb) | (exact max2_i) | (exact min2_i) | (exact max_c) | (exact min_c) | (exact sum_c) | (exact all_c) | (exact any_c) | (refine' max_ne ?_) | (refine' min_ne ?_) | (refine' ix_lD ?_) | (refine' ix_tD ?_) | (refine' add_l ?_) | (refine' add_t ?_) | (refine' div_i ?_ ?_) | (refine' mul_i ?_) | (refine' mod_i ?_) | rfl)
    all_goals first | (simp [lim]; done) | (simp [lim]; omega)
end
/-! the greatest step between -/
def stepF (p : F2 × F2) : F2 := (ab (leanI (p.2.1 * p.1.2 - p.1.1 * p.2.2) (p.2.2 * p.1.2)).1, (leanI (p.2.1 * p.1.2 - p.1.1 * p.2.2) (p.2.2 * p.1.2)).2)
def stepL (row : List F2) : List F2 := (row.zip (cutL row (some 1) none)).map stepF
def clickP (row : List F2) : F2 := greatP (stepL row)
theorem step_fw {x y : F2} (hx : Fr x) (hy : Fr y) : Fw (stepF (x, y)) := by
  have b0 := Int.mul_pos hy.q0 hx.q0
  have b1 := mul_bd (Int.le_of_lt hy.q0) hy.q1 (Int.le_of_lt hx.q0) hx.q1
  refine ⟨lean_pos _ _ b0, ?_⟩
  have := lean_le (y.1 * x.2 - x.1 * y.2) (y.2 * x.2) b0
  show (leanI (y.1 * x.2 - x.1 * y.2) (y.2 * x.2)).2 ≤ 90000
  omega
theorem zip_fr {row : List F2} (h : ∀ p ∈ row, Fr p) : ∀ p ∈ row.zip (cutL row (some 1) none), Fr p.1 ∧ Fr p.2 := fun p hp => by
  have := List.of_mem_zip (a := p.1) (b := p.2) hp
  exact ⟨h _ this.1, h _ (List.mem_of_mem_drop (List.mem_of_mem_take this.2))⟩
theorem steps_fw {row : List F2} (h : ∀ p ∈ row, Fr p) : ∀ p ∈ stepL row, Fw p := fun p hp => by
  obtain ⟨q, hq, rfl⟩ := List.mem_map.mp hp
  have := zip_fr h q hq
  exact step_fw this.1 this.2
theorem click_fw {row : List F2} (h : ∀ p ∈ row, Fr p) : Fw (clickP row) := by
  unfold clickP greatP
  have := gr_fr (stepL row) none (steps_fw h) (fun p e => by cases e)
  cases e : (stepL row).foldl grF none with
  | none => exact ⟨by decide, by decide⟩
  | some p => exact this p e
section
variable (k : Nat) (xs ys : List Int) (h : OkS xs) (h' : OkS ys) (many : Nat) (hm : many ≤ xs.length) (hm' : many ≤ ys.length)
include h h' hm hm'
theorem click_ok : retD (calls fds (k + 8) 18 [.val (eT xs), .val (eT ys), .val (.int (many : Nat))]) = some (eP (clickP (overP xs ys many))) := by
  have c := laid_ok k xs ys h h' many hm hm'
  have c1 := minus_ok (k + 4)
  have c2 := size_ok (k + 6)
  have hf := over_fr h h' hm hm'
  have hl := over_len h h' hm hm'
  have c3 := greatest_ok (k + 5) (stepL (overP xs ys many)) (steps_fw hf)
  refine Rt.of (j := 18) (f := fd18) (r := [.val (eT xs), .val (eT ys), .val (.int (many : Nat)), .un, .un, .un]) rfl ?_
  generalize calls fds (k + 7) = cl at c c1 c2 c3
  unfold clickP
  generalize overP xs ys many = row at *
  refine Rt.seq (r1 := [.val (eT xs), .val (eT ys), .val (.int (many : Nat)), .val (.tuple (row.map eP)), .un, .un]) (Sn.set (Ev.cal (ds := [eT xs, eT ys, .int (many : Nat)]) (EvA.con (Ev.var rfl) (EvA.con (Ev.var rfl) (EvA.con (Ev.var rfl) .nil))) rfl c)) ?_
  refine Rt.ret (Ev.cal (ds := [.list ((stepL row).map eP)]) (EvA.con ?_ .nil) rfl c3)
  unfold stepL
  rw [List.map_map]
  have hz : (row.zip (cutL row (some 1) none)).length ≤ 120 := Nat.le_trans (zip_len _ _) hl
  refine Ev.lc2Y (ea := fun p : F2 × F2 => eP p.1) (eb := fun p => eP p.2) (EvI.zip (en := eP) (eb := eP) (Ev.var rfl) (Ev.sl (Ev.var rfl) (EvP.pt .cst) .nop sl_t) kof_t kof_t) (by decide) rfl (fun p hp => ?_) (by show _ ≤ 1000000; omega)
  have := zip_fr hf p hp
  exact Ev.cal (ds := [eP (leanI (p.2.1 * p.1.2 - p.1.1 * p.2.2) (p.2.2 * p.1.2))]) (EvA.con (Ev.cal (ds := [eP p.2, eP p.1]) (EvA.con (Ev.var rfl) (EvA.con (Ev.var rfl) .nil)) rfl (c1 p.2 p.1 this.2 this.1)) .nil) rfl (c2 _)
end
end K76

namespace K76
open PySem Py
/-! the least overlap that is fine -/
abbrev clickO (xs ys : List Int) (many : Nat) : F2 := clickP (overP xs ys many)
def fineB (xs ys : List Int) (bound : Int) (many : Nat) : Bool := decide ((clickO xs ys many).1 ≤ bound * (clickO xs ys many).2)
def eON : Option Nat → D
  | none => .none
  | some n => .int (n : Nat)
theorem find_go {f : Bd} {b : O1} {p : Nat → Bool} {P : Rho → Prop} : ∀ (L : List Nat) (r : Rho), P r → (∀ i ∈ L, ∀ r, P r → (p i = false → ∃ r1 r2, f (eN i) r = some r1 ∧ b r1 = .nxt r2 ∧ P r2) ∧ (p i = true → ∃ r1 r2, f (eN i) r = some r1 ∧ b r1 = .ret (eN i) r2)) →
    (∃ i r', L.find? p = some i ∧ forGo f b (L.map eN) r = .ret (eN i) r') ∨ (L.find? p = none ∧ ∃ r', forGo f b (L.map eN) r = .nxt r' ∧ P r')
  | [], r, hP, _ => .inr ⟨rfl, r, rfl, hP⟩
  | i :: L, r, hP, hs => by
    obtain ⟨h1, h2⟩ := hs i List.mem_cons_self r hP
    cases hp : p i with
    | true =>
      obtain ⟨r1, r2, e1, e2⟩ := h2 hp
      exact .inl ⟨i, r2, by rw [List.find?_cons, hp], forGo_ret e1 e2⟩
    | false =>
      obtain ⟨r1, r2, e1, e2, h3⟩ := h1 hp
      rw [List.find?_cons, hp, List.map_cons, forGo_nxt e1 e2]
      exact find_go L r2 h3 fun j hj => hs j (List.mem_cons_of_mem _ hj)
theorem for_retV {cl : Nat → O1} {tg it b c : T} {r r' : Rho} {ds : List D} {d : D} (hi : ev cl it r = .vals ds r) (h : forGo (evG tg).1 (ev cl b) ds r = .ret d r') : Rt cl (.seq (.frl tg it b) c) r d := by
  refine ⟨r', seqR ?_⟩
  show oFor _ _ _ r = _
  unfold oFor
  rw [hi]
  exact h
section
variable (k : Nat) (xs ys : List Int) (h : OkS xs) (h' : OkS ys)
include h h'
theorem leasto_ok (bound : Int) (b0 : 0 ≤ bound) (b1 : bound ≤ 2000) : retD (calls fds (k + 9) 19 [.val (eT xs), .val (eT ys), .val (.int bound)]) = some (eON ((List.range (min xs.length ys.length + 1)).find? (fineB xs ys bound))) := by
  have h2 := h.len
  have h3 := h'.len
  have c := chk_both (k + 3) xs ys h h'
  have c1 := from_ok (k + 6) (.int bound) 0 2000
  have c2 := click_ok k xs ys h h'
  refine Rt.of (j := 19) (f := fd19) (r := [.val (eT xs), .val (eT ys), .val (.int bound), .un, .un]) rfl ?_
  generalize calls fds (k + 8) = cl at c c1 c2
  refine Rt.seq (Sn.drp (Ev.cal (ds := [eT xs, eT ys]) (EvA.con (Ev.var rfl) (EvA.con (Ev.var rfl) .nil)) rfl c)) (Rt.seq (Sn.ifsF (Ff.inv (Tt.of (Ev.cal (ds := [.int bound, .int 0, .int 2000]) (EvA.con (Ev.var rfl) (EvA.con .cst (EvA.con .cst .nil))) rfl c1) (from_t b0 b1)))) ?_)
  have hi : EvI cl (.rg1 (.con (.bin .Add (.bi .min (.con (.bi .len (.con (.var 0) .nil)) (.con (.bi .len (.con (.var 1) .nil)) .nil))) (.cst (.int 1))) .nil)) [.val (eT xs), .val (eT ys), .val (.int bound), .un, .un] eN (List.range (min xs.length ys.length + 1)) := by
    refine EvI.rg1 (n := min xs.length ys.length + 1) ?_ (by simp only [lim]; omega)
    have : (((min xs.length ys.length + 1 : Nat)) : Int) = min (xs.length : Int) (ys.length : Int) + 1 := by omega
    rw [this]
    repeat' (first | (exact Ev.cst) | (exact Ev.glo) | (exact Ev.var (by (first | rfl | assumption | exact Kw.k (by assumption) _ _ rfl | (repeat' (first | assumption | exact Kw.k (by assumption) _ _ rfl | (refine lk_eq ?_; first | omega | (simp only [List.length_set]; omega)) | refine lk_ne (by decide) ?_))))) | (exact EvA.nil) | (refine' EvA.con ?_ ?_) | (refine' Ev.bin ?_ ?_ ?_) | (refine' Ev.cmp ?_ ?_ ?_) | (refine' Ev.chn ?_ ?_ ?_ ?_ ?_) | (refine' Ev.neg ?_) | (refine' Ev.inv ?_) | (refine' Ev.isa ?_) | (refine' Ev.b1 ?_) | (refine' Ev.and ?_ (fun _ => ?_)) | (refine' Ev.or ?_ (fun _ => ?_)) | (refine' Ev.ix ?_ ?_ ?_) | (refine' Ev.tup ?_ ?_) | (refine' Ev.lst ?_ ?_) | (refine' Ev.bi ?_ ?_) | (refine' Ev.sl ?_ ?_ ?_ ?_) | (exact EvP.nop) | (refine' EvP.pt ?_) | (refine' EvI.rg1 ?_ ?_) | (refine' EvI.rg1i ?_ ?_ ?_) | (refine' EvI.rg2 ?_ ?_ ?_ ?_) | (refine' EvI.zip ?_ ?_ ?_ ?_) | (refine' EvI.enu ?_ ?_) | (refine' Ev.lc1Y ?_ ?_ (fun _ _ => ?_) ?_) | (refine' Ev.lc1 ?_ ?_ (fun _ _ => ?_) (fun _ _ _ => ?_) ?_) | (refine' Ev.lc2Y ?_ (by decide) ?_ (fun _ _ => ?_) ?_) | (refine' Ev.lc2 ?_ (by decide) ?_ (fun _ _ => ?_) (fun _ _ _ => ?_) ?_) | (refine' Ev.ife ?_ (fun _ => ?_) (fun _ => ?_) ?_) | (refine' Ff.or ?_ ?_) | (refine' Ff.b1 ?_) | (refine' Ff.ne ?_ ?_ ?_ ?_) | (refine' Tt.b1 ?_) | (refine' Tt.and ?_ ?_) | (refine' Tt.eq ?_ ?_ ?_ ?_) | (refine' Ff.inv ?_) | (refine' Tt.inv ?_) | (exact kof_t) | (exact kof_l) | (exact kof_few) | (exact kof_fewL) | (refine' EvI.gen ?_ ?_) | (exact Kw.ok (by assumption) (by decide)) | (refine' okV_set ?_) | (exact sl_t) | (exact sl_l) | (exact max2L_i) | (exact min2L_i) | (exact tup_l) | (exact tup_t) | (exact sumI) | (refine' maxI ?_) | (refine' minI ?_) | (exact len_l) | (exact len_t) | (exact abs_ab) | (exact eq_i) | (exact ne_i) | (exact ifi) | (exact ifb) | (exact max2_i) | (exact min2_i) | (exact max_c) | (exact min_c) | (exact sum_c) | (exact all_c) | (exact any_c) | (refine' max_ne ?_) | (refine' min_ne ?_) | (refine' ix_lD ?_) | (refine' ix_tD ?_) | (refine' add_l ?_) | (refine' add_t ?_) | (refine' div_i ?_ ?_) | (refine' mul_i ?_) | (refine' mod_i ?_) | rfl)
  rcases find_go (f := (evG (.gn 3)).1) (b := ev cl (.seq (.set 4 (.cal 18 (.con (.var 0) (.con (.var 1) (.con (.var 3) .nil))))) (.seq (.ifs (.cmp .LtE (.ix (.var 4) (.cst (.int 0))) (.bin .Mult (.var 2) (.ix (.var 4) (.cst (.int 1))))) (.seq (.ret (.var 3)) .skp) .skp) .skp)))
    (p := fineB xs ys bound) (P := fun r => ∃ a b : Slot, r = [.val (eT xs), .val (eT ys), .val (.int bound), a, b]) (List.range (min xs.length ys.length + 1)) [.val (eT xs), .val (eT ys), .val (.int bound), .un, .un] ⟨.un, .un, rfl⟩ (by
      rintro i hi r ⟨a, b, rfl⟩
      have hi := List.mem_range.mp hi
      have w : W64 bound := w64 (by omega) (by omega)
      have e1 : Sn cl (.set 4 (.cal 18 (.con (.var 0) (.con (.var 1) (.con (.var 3) .nil))))) [.val (eT xs), .val (eT ys), .val (.int bound), .val (.int (i : Nat)), b] [.val (eT xs), .val (eT ys), .val (.int bound), .val (.int (i : Nat)), .val (eP (clickO xs ys i))] :=
        Sn.set (Ev.cal (ds := [eT xs, eT ys, .int (i : Nat)]) (EvA.con (Ev.var rfl) (EvA.con (Ev.var rfl) (EvA.con (Ev.var rfl) .nil))) rfl (c2 i (by omega) (by omega)))
      have e2 : Ev cl (.cmp .LtE (.ix (.var 4) (.cst (.int 0))) (.bin .Mult (.var 2) (.ix (.var 4) (.cst (.int 1))))) [.val (eT xs), .val (eT ys), .val (.int bound), .val (.int (i : Nat)), .val (eP (clickO xs ys i))] (.bool (fineB xs ys bound i)) :=
        Ev.cmp (c := .LtE) (p0 (x := clickO xs ys i) (Ev.var rfl)) (Ev.bin (Ev.var rfl) (p1 (x := clickO xs ys i) (Ev.var rfl)) (mul_i (.inl w))) rfl
      refine ⟨fun hp => ⟨_, _, rfl, Sn.seq e1 (Sn.seq (Sn.ifsF (Ff.of e2 hp)) Sn.skp), _, _, rfl⟩, fun hp => ⟨_, _, rfl, Sn.seq e1 (seqR (Py.ifsT (Tt.of e2 hp) (seqR (retV (Ev.var rfl)))))⟩⟩) with ⟨i, r', e1, e2⟩ | ⟨e1, r', e2, a, b, e3⟩
  · rw [e1]
    exact for_retV hi.h e2
  · rw [e1]
    subst e3
    exact Rt.seq (Sn.for hi.h e2) (Rt.ret .cst)
end
/-! the best overlap -/
def bestF (c : Nat → F2) (o : Option (Nat × F2)) (i : Nat) : Option (Nat × F2) := match o with
  | none => some (i, c i)
  | some b => if (c i).1 * b.2.2 < b.2.1 * (c i).2 then some (i, c i) else o
def bestI (c : Nat → F2) (b i : Nat) : Nat := if (c i).1 * (c b).2 < (c b).1 * (c i).2 then i else b
theorem best_eq (c : Nat → F2) : ∀ n, (List.range (n + 1)).foldl (bestF c) none = some ((List.range (n + 1)).foldl (bestI c) 0, c ((List.range (n + 1)).foldl (bestI c) 0))
  | 0 => by
    show some (0, c 0) = some (bestI c 0 0, c (bestI c 0 0))
    have : bestI c 0 0 = 0 := by unfold bestI; split <;> rfl
    rw [this]
  | n + 1 => by
    rw [List.range_succ, fold_snoc, fold_snoc, best_eq c n]
    generalize (List.range (n + 1)).foldl (bestI c) 0 = b
    unfold bestF bestI
    dsimp only
    split <;> rfl
def eBO : Option (Nat × F2) → D
  | none => .none
  | some b => .tuple [.int (b.1 : Nat), eP b.2]
theorem best_fw {c : Nat → F2} : ∀ (L : List Nat) (o : Option (Nat × F2)), (∀ i ∈ L, Fw (c i)) → (∀ b, o = some b → Fw b.2) → ∀ b, L.foldl (bestF c) o = some b → Fw b.2
  | [], o, _, ho, b, e => ho b e
  | i :: L, o, h, ho, b, e => by
    refine best_fw L (bestF c o i) (fun j hj => h j (List.mem_cons_of_mem _ hj)) (fun d hd => ?_) b e
    unfold bestF at hd
    cases o with
    | none => cases hd; exact h i List.mem_cons_self
    | some f =>
      dsimp only at hd
      split at hd
      · cases hd; exact h i List.mem_cons_self
      · exact ho d hd
section
variable (k : Nat) (xs ys : List Int) (h : OkS xs) (h' : OkS ys)
include h h'
theorem besto_ok : retD (calls fds (k + 9) 20 [.val (eT xs), .val (eT ys)]) = some (eBO ((List.range (min xs.length ys.length + 1)).foldl (bestF (clickO xs ys)) none)) := by
  have h2 := h.len
  have h3 := h'.len
  have c := chk_both (k + 3) xs ys h h'
  have c2 := click_ok k xs ys h h'
  refine Rt.of (j := 20) (f := fd20) (r := [.val (eT xs), .val (eT ys), .un, .un, .un]) rfl ?_
  generalize calls fds (k + 8) = cl at c c2
  refine Rt.seq (Sn.drp (Ev.cal (ds := [eT xs, eT ys]) (EvA.con (Ev.var rfl) (EvA.con (Ev.var rfl) .nil)) rfl c)) (Rt.seq (r1 := [.val (eT xs), .val (eT ys), .val .none, .un, .un]) rfl ?_)
  have hi : EvI cl (.rg1 (.con (.bin .Add (.bi .min (.con (.bi .len (.con (.var 0) .nil)) (.con (.bi .len (.con (.var 1) .nil)) .nil))) (.cst (.int 1))) .nil)) [.val (eT xs), .val (eT ys), .val .none, .un, .un] eN (List.range (min xs.length ys.length + 1)) := by
    refine EvI.rg1 (n := min xs.length ys.length + 1) ?_ (by simp only [lim]; omega)
    have : (((min xs.length ys.length + 1 : Nat)) : Int) = min (xs.length : Int) (ys.length : Int) + 1 := by omega
    rw [this]
    repeat' (first | (exact Ev.cst) | (exact Ev.glo) | (exact Ev.var (by (first | rfl | assumption | exact Kw.k (by assumption) _ _ rfl | (repeat' (first | assumption | exact Kw.k (by assumption) _ _ rfl | (refine lk_eq ?_; first | omega | (simp only [List.length_set]; omega)) | refine lk_ne (by decide) ?_))))) | (exact EvA.nil) | (refine' EvA.con ?_ ?_) | (refine' Ev.bin ?_ ?_ ?_) | (refine' Ev.cmp ?_ ?_ ?_) | (refine' Ev.chn ?_ ?_ ?_ ?_ ?_) | (refine' Ev.neg ?_) | (refine' Ev.inv ?_) | (refine' Ev.isa ?_) | (refine' Ev.b1 ?_) | (refine' Ev.and ?_ (fun _ => ?_)) | (refine' Ev.or ?_ (fun _ => ?_)) | (refine' Ev.ix ?_ ?_ ?_) | (refine' Ev.tup ?_ ?_) | (refine' Ev.lst ?_ ?_) | (refine' Ev.bi ?_ ?_) | (refine' Ev.sl ?_ ?_ ?_ ?_) | (exact EvP.nop) | (refine' EvP.pt ?_) | (refine' EvI.rg1 ?_ ?_) | (refine' EvI.rg1i ?_ ?_ ?_) | (refine' EvI.rg2 ?_ ?_ ?_ ?_) | (refine' EvI.zip ?_ ?_ ?_ ?_) | (refine' EvI.enu ?_ ?_) | (refine' Ev.lc1Y ?_ ?_ (fun _ _ => ?_) ?_) | (refine' Ev.lc1 ?_ ?_ (fun _ _ => ?_) (fun _ _ _ => ?_) ?_) | (refine' Ev.lc2Y ?_ (by decide) ?_ (fun _ _ => ?_) ?_) | (refine' Ev.lc2 ?_ (by decide) ?_ (fun _ _ => ?_) (fun _ _ _ => ?_) ?_) | (refine' Ev.ife ?_ (fun _ => ?_) (fun _ => ?_) ?_) | (refine' Ff.or ?_ ?_) | (refine' Ff.b1 ?_) | (refine' Ff.ne ?_ ?_ ?_ ?_) | (refine' Tt.b1 ?_) | (refine' Tt.and ?_ ?_) | (refine' Tt.eq ?_ ?_ ?_ ?_) | (refine' Ff.inv ?_) | (refine' Tt.inv ?_) | (exact kof_t) | (exact kof_l) | (exact kof_few) | (exact kof_fewL) | (refine' EvI.gen ?_ ?_) | (exact Kw.ok (by assumption) (by decide)) | (refine' okV_set ?_) | (exact sl_t) | (exact sl_l) | (exact max2L_i) | (exact min2L_i) | (exact tup_l) | (exact tup_t) | (exact sumI) | (refine' maxI ?_) | (refine' minI ?_) | (exact len_l) | (exact len_t) | (exact abs_ab) | (exact eq_i) | (exact ne_i) | (exact ifi) | (exact ifb) | (exact max2_i) | (exact min2_i) | (exact max_c) | (exact min_c) | (exact sum_c) | (exact all_c) | (exact any_c) | (refine' max_ne ?_) | (refine' min_ne ?_) | (refine' ix_lD ?_) | (refine' ix_tD ?_) | (refine' add_l ?_) | (refine' add_t ?_) | (refine' div_i ?_ ?_) | (refine' mul_i ?_) | (refine' mod_i ?_) | rfl)
  refine Rt.loop hi.h (for_pre (en := eN) (List.range (min xs.length ys.length + 1)) (fun pre r => ∃ a b : Slot, r = [.val (eT xs), .val (eT ys), .val (eBO (pre.foldl (bestF (clickO xs ys)) none)), a, b]) ⟨.un, .un, rfl⟩ ?_) (fun r' ⟨a, b, e⟩ => by subst e; exact Rt.ret (Ev.var rfl))
  rintro pre i post r he ⟨a, b, rfl⟩
  have hr : ∀ j ∈ List.range (min xs.length ys.length + 1), Fw (clickO xs ys j) := fun j hj => by
    have := List.mem_range.mp hj
    exact click_fw (over_fr h h' (by omega) (by omega))
  have hin : i ∈ List.range (min xs.length ys.length + 1) := by rw [he]; simp
  have hf := best_fw (c := clickO xs ys) pre none (fun j hj => hr j (by rw [he]; simp [hj])) (fun b e => by cases e)
  have hi := List.mem_range.mp hin
  have hwi := hr i hin
  rw [fold_snoc]
  generalize pre.foldl (bestF (clickO xs ys)) none = o at hf
  have e1 : Sn cl (.set 4 (.cal 18 (.con (.var 0) (.con (.var 1) (.con (.var 3) .nil))))) [.val (eT xs), .val (eT ys), .val (eBO o), .val (.int (i : Nat)), b] [.val (eT xs), .val (eT ys), .val (eBO o), .val (.int (i : Nat)), .val (eP (clickO xs ys i))] :=
    Sn.set (Ev.cal (ds := [eT xs, eT ys, .int (i : Nat)]) (EvA.con (Ev.var rfl) (EvA.con (Ev.var rfl) (EvA.con (Ev.var rfl) .nil))) rfl (c2 i (by omega) (by omega)))
  refine ⟨_, [.val (eT xs), .val (eT ys), .val (eBO (bestF (clickO xs ys) o i)), .val (.int (i : Nat)), .val (eP (clickO xs ys i))], rfl, Sn.seq e1 (Sn.seq (r1 := _) ?_ Sn.skp), _, _, rfl⟩
  have e3 : Sn cl (.seq (.set 2 (.tup (.con (.var 3) (.con (.var 4) .nil)))) .skp) [.val (eT xs), .val (eT ys), .val (eBO o), .val (.int (i : Nat)), .val (eP (clickO xs ys i))] [.val (eT xs), .val (eT ys), .val (eBO (some (i, clickO xs ys i))), .val (.int (i : Nat)), .val (eP (clickO xs ys i))] :=
    Sn.seq (Sn.set (Ev.tup (EvA.con (Ev.var rfl) (EvA.con (Ev.var rfl) .nil)) (by simp [lim]))) Sn.skp
  cases o with
  | none => exact Sn.ifT (Tt.orL (Tt.of (Ev.cmp (Ev.var (d := .none) rfl) .cst is_non) rfl)) e3
  | some f =>
    have hwf := hf f rfl
    have v4 : Ev cl (.var 4) [.val (eT xs), .val (eT ys), .val (eBO (some f)), .val (.int (i : Nat)), .val (eP (clickO xs ys i))] (eP (clickO xs ys i)) := Ev.var rfl
    have v2 : Ev cl (.ix (.var 2) (.cst (.int 1))) [.val (eT xs), .val (eT ys), .val (eBO (some f)), .val (.int (i : Nat)), .val (eP (clickO xs ys i))] (eP f.2) := Ev.ix (Ev.var rfl) .cst rfl
    have e2 := Ev.cmp (c := .Lt) (Ev.bin (p0 v4) (p1 v2) (mul_i (.inr hwf.w))) (Ev.bin (p0 v2) (p1 v4) (mul_i (.inr hwi.w))) rfl
    unfold bestF
    dsimp only
    by_cases q : (clickO xs ys i).1 * f.2.2 < f.2.1 * (clickO xs ys i).2
    · rw [if_pos q]
      exact Sn.ifT (Tt.orR (Ff.of (Ev.cmp (Ev.var (d := eBO (some f)) rfl) .cst is_non) rfl) (Tt.b1 (Tt.of e2 (decide_eq_true q)))) e3
    · rw [if_neg q]
      exact Sn.ifsF (Ff.or (Ff.of (Ev.cmp (Ev.var (d := eBO (some f)) rfl) .cst is_non) rfl) (Ff.b1 (Ff.of e2 (decide_eq_false q))))
end
/-! scaled -/
def mostP (xs : List Int) : Int := maxL (xs.map ab)
def scaleP (xs : List Int) (high : Int) : List F2 := xs.map fun x => if 0 < mostP xs then leanI (x * high) (mostP xs) else (0, 1)
theorem ne_of {xs : List Int} (h : OkS xs) : xs ≠ [] := fun e => by have := h.pos; rw [e] at this; simp at this
theorem most_le {xs : List Int} (h : OkS xs) : 0 ≤ mostP xs ∧ mostP xs ≤ 1000 := by
  unfold mostP
  have := maxL_mem (xs := xs.map ab) (by simpa using ne_of h)
  obtain ⟨x, hx, e⟩ := List.mem_map.mp this
  rw [← e]
  have a := h.all x hx
  exact ⟨ab_0 x, ab_le a.1 a.2⟩
theorem scale_eq (x high most : Int) (hm : 0 < most) : leanI (x * (leanI high most).1) (leanI high most).2 = leanI (x * high) most := by
  refine lean_eq (lean_pos high most hm) hm ?_
  rw [Int.mul_assoc, lean_cross high most hm, Int.mul_assoc]
section
variable (k : Nat) (xs : List Int) (h : OkS xs)
include h
theorem scaled_ok (high : Int) (a0 : 0 ≤ high) (a1 : high ≤ 1000) : retD (calls fds (k + 5) 23 [.val (eT xs), .val (.int high)]) = some (.tuple ((scaleP xs high).map eP)) := by
  have h2 := h.len
  have hm := most_le h
  have c := chk_row k xs h
  have c1 := from_ok (k + 2) (.int high) 0 1000
  have c2 := lean_ok (k + 2)
  have c3 := times_ok (k + 1)
  refine Rt.of (j := 23) (f := fd23) (r := [.val (eT xs), .val (.int high), .un, .un]) rfl ?_
  generalize calls fds (k + 4) = cl at c c1 c2 c3
  refine Rt.seq (Sn.drp (Ev.cal (ds := [eT xs]) (EvA.con (Ev.var rfl) .nil) rfl c)) (Rt.seq (Sn.ifsF (Ff.inv (Tt.of (Ev.cal (ds := [.int high, .int 0, .int 1000]) (EvA.con (Ev.var rfl) (EvA.con .cst (EvA.con .cst .nil))) rfl c1) (from_t a0 a1)))) (Rt.seq (r1 := [.val (eT xs), .val (.int high), .val (.int (mostP xs)), .un]) ?_ (Rt.ret (Ev.bi (EvA.con (x := .list ((scaleP xs high).map eP)) ?_ .nil) tup_l))))
  · unfold mostP
    refine Sn.set ?_
    repeat' (first | (exact Ev.cst) | (exact Ev.glo) | (exact Ev.var (by (first | rfl | assumption | exact Kw.k (by assumption) _ _ rfl | (repeat' (first | assumption | exact Kw.k (by assumption) _ _ rfl | (refine lk_eq ?_; first | omega | (simp only [List.length_set]; omega)) | refine lk_ne (by decide) ?_))))) | (exact EvA.nil) | (refine' EvA.con ?_ ?_) | (refine' Ev.bin ?_ ?_ ?_) | (refine' Ev.cmp ?_ ?_ ?_) | (refine' Ev.chn ?_ ?_ ?_ ?_ ?_) | (refine' Ev.neg ?_) | (refine' Ev.inv ?_) | (refine' Ev.isa ?_) | (refine' Ev.b1 ?_) | (refine' Ev.and ?_ (fun _ => ?_)) | (refine' Ev.or ?_ (fun _ => ?_)) | (refine' Ev.ix ?_ ?_ ?_) | (refine' Ev.tup ?_ ?_) | (refine' Ev.lst ?_ ?_) | (refine' Ev.bi ?_ ?_) | (refine' Ev.sl ?_ ?_ ?_ ?_) | (exact EvP.nop) | (refine' EvP.pt ?_) | (refine' EvI.rg1 ?_ ?_) | (refine' EvI.rg1i ?_ ?_ ?_) | (refine' EvI.rg2 ?_ ?_ ?_ ?_) | (refine' EvI.zip ?_ ?_ ?_ ?_) | (refine' EvI.enu ?_ ?_) | (refine' Ev.lc1Y ?_ ?_ (fun _ _ => ?_) ?_) | (refine' Ev.lc1 ?_ ?_ (fun _ _ => ?_) (fun _ _ _ => ?_) ?_) | (refine' Ev.lc2Y ?_ (by decide) ?_ (fun _ _ => ?_) ?_) | (refine' Ev.lc2 ?_ (by decide) ?_ (fun _ _ => ?_) (fun _ _ _ => ?_) ?_) | (refine' Ev.ife ?_ (fun _ => ?_) (fun _ => ?_) ?_) | (refine' Ff.or ?_ ?_) | (refine' Ff.b1 ?_) | (refine' Ff.ne ?_ ?_ ?_ ?_) | (refine' Tt.b1 ?_) | (refine' Tt.and ?_ ?_) | (refine' Tt.eq ?_ ?_ ?_ ?_) | (refine' Ff.inv ?_) | (refine' Tt.inv ?_) | (exact kof_t) | (exact kof_l) | (exact kof_few) | (exact kof_fewL) | (refine' EvI.gen ?_ ?_) | (exact Kw.ok (by assumption) (by decide)) | (refine' okV_set ?_) | (exact sl_t) | (exact sl_l) | (exact max2L_i) | (exact min2L_i) | (exact tup_l) | (exact tup_t) | (exact sumI) | (refine' maxI ?_) | (refine' minI ?_) | (exact len_l) | (exact len_t) | (exact abs_ab) | (exact eq_i) | (exact ne_i) | (exact ifi) | (exact ifb) | (exact max2_i) | (exact min2_i) | (exact max_c) | (exact min_c) | (exact sum_c) | (exact all_c) | (exact any_c) | (refine' max_ne ?_) | (refine' min_ne ?_) | (refine' ix_lD ?_) | (refine' ix_tD ?_) | (refine' add_l ?_) | (refine' add_t ?_) | (refine' div_i ?_ ?_) | (refine' mul_i ?_) | (refine' mod_i ?_) | rfl)
    all_goals first | (simp [lim]; omega) | exact ne_of h
  · unfold scaleP
    rw [List.map_map]
    refine Ev.lc1Y (en := PyData.int) (EvI.gen (Ev.var rfl) kof_t) rfl (fun x hx => ?_) (by simp [lim]; omega)
    have hx := h.all x hx
    have et : Ev cl (.cmp .Gt (.var 2) (.cst (.int 0))) [.val (eT xs), .val (.int high), .val (.int (mostP xs)), .val (.int x)] (.bool (decide (0 < mostP xs))) := Ev.cmp (c := .Gt) (Ev.var rfl) .cst rfl
    show Ev cl _ [.val (eT xs), .val (.int high), .val (.int (mostP xs)), .val (.int x)] (eP (if 0 < mostP xs then leanI (x * high) (mostP xs) else (0, 1)))
    by_cases q : 0 < mostP xs
    · rw [if_pos q, ← scale_eq x high _ q]
      have m1 := lean_mag high (mostP xs) q
      have m2 := lean_le high (mostP xs) q
      rw [ab_pos a0] at m1
      exact Ev.ifeT (Tt.of et (decide_eq_true q)) (Ev.cal (ds := [eP (x, 1), eP (leanI high (mostP xs))]) (EvA.con (Ev.tup (EvA.con (Ev.var rfl) (EvA.con .cst .nil)) (by simp [lim])) (EvA.con (Ev.cal (ds := [.int high, .int (mostP xs)]) (EvA.con (Ev.var rfl) (EvA.con (Ev.var rfl) .nil)) rfl (c2 high (mostP xs) q (by omega) (by rw [ab_pos a0]; omega))) .nil)) rfl
        (c3 (x, 1) (leanI high (mostP xs)) (ab_le hx.1 hx.2) rfl (by omega) (lean_pos _ _ q) (by omega)))
    · rw [if_neg q]
      exact Ev.ifeF (Ff.of et (decide_eq_false q)) (Ev.tup (EvA.con .cst (EvA.con .cst .nil)) (by simp [lim]))
end
end K76

namespace K76
open PySem Py
/-! the law's own overlap -/
section
variable (k : Nat) (xs ys : List Int) (h : OkS xs) (h' : OkS ys) (many : Nat) (hm : many ≤ xs.length) (hm' : many ≤ ys.length)
include h h' hm hm'
theorem mover_ok : retD (calls fds (k + 2) 31 [.val (eT xs), .val (eT ys), .val (.int (many : Nat))]) = some (.list ((overP xs ys many).map eP)) := by
  have h2 := h.len
  have h3 := h'.len
  have c := mine_ok k
  have l1 := cutL_le xs none (some ((xs.length : Int) - many))
  have l2 := cutL_le ys (some (many : Nat)) none
  refine Rt.of (j := 31) (f := fd31) (r := [.val (eT xs), .val (eT ys), .val (.int (many : Nat)), .un, .un, .un, .un, .un]) rfl ?_
  generalize calls fds (k + 1) = cl at c
  have one : ∀ (l : List Int) (r : Rho), r.length = 8 → l.length ≤ 40 → (∀ it : T, EvI cl it r PyData.int l → okV r [5] = true → Ev cl (.lc [5] (.gn 5) it .yes (.cal 30 (.con (.var 5) (.con (.cst (.int 1)) .nil)))) r (.list ((l.map fun s => ((s, 1) : F2)).map eP))) := fun l r hr hl it hi ok => by
    rw [List.map_map]
    refine Ev.lc1Y hi ok (fun x hx => ?_) (by show _ ≤ 1000000; omega)
    show Ev cl _ _ (eP (x, 1))
    rw [← lean_one x]
    exact Ev.cal (ds := [.int x, .int 1]) (EvA.con (Ev.var (lk_eq (by omega))) (EvA.con .cst .nil)) rfl (c x 1 (by decide) (by decide))
  refine Rt.seq (r1 := [.val (eT xs), .val (eT ys), .val (.int (many : Nat)), .val (.list (((cutL xs none (some ((xs.length : Int) - many))).map fun s => ((s, 1) : F2)).map eP)), .un, .un, .un, .un]) (Sn.set (one _ _ rfl (by omega) _ (EvI.gen (Ev.sl (Ev.var rfl) .nop (EvP.pt (Ev.bin (Ev.bi (EvA.con (Ev.var rfl) .nil) len_t) (Ev.var rfl) rfl)) sl_t) kof_t) rfl)) ?_
  refine Rt.loop (EvI.rg1 (n := many) (Ev.var rfl) (by simp [lim]; omega)).h (for_pre (en := eN) (List.range many) (fun pre r => ∃ a b d : Slot, r = [.val (eT xs), .val (eT ys), .val (.int (many : Nat)), .val (.list ((((cutL xs none (some ((xs.length : Int) - many))).map fun s => ((s, 1) : F2)) ++ pre.map (midP xs ys many)).map eP)), a, .un, b, d]) ⟨.un, .un, .un, by simp⟩ ?_) (fun r' ⟨a, b, d, e⟩ => ?_)
  · rintro pre i post r he ⟨a, b, d, rfl⟩
    have hi : i < many := by
      have : i ∈ List.range many := by rw [he]; simp
      simpa using this
    have hp : pre.length ≤ 40 := by
      have := congrArg List.length he
      simp at this; omega
    have w1 : W64 ((many : Int) - i) := w64 (by omega) (by omega)
    have w2 : W64 ((i : Int) + 1) := w64 (by omega) (by omega)
    have e9 : fIx (eT xs) (.int ((xs.length : Int) - many + i)) = some (.int (xs.getD (xs.length - many + i) default)) := by
      rw [show (xs.length : Int) - many + i = ((xs.length - many + i : Nat) : Int) by omega]
      exact ix_tD (by omega)
    refine ⟨_, [.val (eT xs), .val (eT ys), .val (.int (many : Nat)), .val (.list ((((cutL xs none (some ((xs.length : Int) - many))).map fun s => ((s, 1) : F2)) ++ (pre ++ [i]).map (midP xs ys many)).map eP)), .val (.int (i : Nat)), .un, .val (.int (xs.getD (xs.length - many + i) default)), .val (.int (ys.getD i default))], rfl, ?_, _, _, _, rfl⟩
    refine Sn.seq (r1 := [.val (eT xs), .val (eT ys), .val (.int (many : Nat)), .val (.list ((((cutL xs none (some ((xs.length : Int) - many))).map fun s => ((s, 1) : F2)) ++ pre.map (midP xs ys many)).map eP)), .val (.int (i : Nat)), .un, .val (.int (xs.getD (xs.length - many + i) default)), .val (.int (ys.getD i default))])
      (Sn.par (EvA.con (Ev.ix (Ev.var rfl) (Ev.bin (Ev.bin (Ev.bi (EvA.con (Ev.var rfl) .nil) len_t) (Ev.var rfl) rfl) (Ev.var rfl) rfl) e9) (EvA.con (Ev.ix (Ev.var rfl) (Ev.var rfl) (ix_tD (by omega))) .nil)) rfl) (Sn.seq (Sn.set (x := .list ((((cutL xs none (some ((xs.length : Int) - many))).map fun s => ((s, 1) : F2)) ++ pre.map (midP xs ys many)).map eP ++ [eP (midP xs ys many i)])) (Ev.bin (Ev.var rfl) (Ev.lst (EvA.con ?_ .nil) (by simp [lim])) (add_l (by simp [lim]; omega)))) (by show Out.nxt _ = _; simp))
    exact Ev.cal (ds := [.int (xs.getD (xs.length - many + i) default * ((many : Int) - i) + ys.getD i default * ((i : Int) + 1)), .int ((many : Int) + 1)]) (EvA.con (Ev.bin (Ev.bin (Ev.var rfl) (Ev.bin (Ev.var rfl) (Ev.var rfl) rfl) (mul_i (.inr w1))) (Ev.bin (Ev.var rfl) (Ev.bin (Ev.var rfl) .cst rfl) (mul_i (.inr w2))) rfl) (EvA.con (Ev.bin (Ev.var rfl) .cst rfl) .nil)) rfl (c _ _ (by omega) (by omega))
  · subst e
    unfold overP
    rw [List.map_append (l₂ := (cutL ys (some (many : Nat)) none).map fun s => ((s, 1) : F2))]
    exact Rt.ret (Ev.bin (Ev.var rfl) (one _ _ rfl (by omega) _ (EvI.gen (Ev.sl (Ev.var rfl) (EvP.pt (Ev.var rfl)) .nop sl_t) kof_t) rfl) (add_l (by simp [lim]; omega)))
end
/-! the law's own greatest step -/
def mstF (best : F2) (p : F2 × F2) : F2 :=
  if best.1 * (stepF p).2 < (stepF p).1 * best.2 then stepF p else best
theorem stepF_eq {p : F2 × F2} (h1 : 0 < p.1.2) (h2 : 0 < p.2.2) : leanI (ab (p.2.1 * p.1.2 - p.1.1 * p.2.2)) (p.1.2 * p.2.2) = stepF p := by
  rw [Int.mul_comm p.1.2 p.2.2, lean_ab _ _ (Int.mul_pos h2 h1)]; rfl
theorem stepF_0 {p : F2 × F2} (h1 : 0 < p.1.2) (h2 : 0 < p.2.2) : 0 ≤ (stepF p).1 ∧ ((stepF p).1 = 0 → stepF p = (0, 1)) := by
  have hb := Int.mul_pos h2 h1
  refine ⟨ab_0 _, fun z => ?_⟩
  obtain ⟨g, g0, _, e1, e2, q0, c⟩ := lean_ex (p.2.1 * p.1.2 - p.1.1 * p.2.2) (p.2.2 * p.1.2) hb
  have z1 : (leanI (p.2.1 * p.1.2 - p.1.1 * p.2.2) (p.2.2 * p.1.2)).1 = 0 := by
    have : ab (leanI (p.2.1 * p.1.2 - p.1.1 * p.2.2) (p.2.2 * p.1.2)).1 = 0 := z
    rw [ab_nat] at this
    omega
  have z2 : p.2.1 * p.1.2 - p.1.1 * p.2.2 = 0 := by rw [e1, z1]; simp
  unfold stepF
  rw [z2, lean_zero _ hb]; rfl
def pickF (best s : F2) : F2 := if best.1 * s.2 < s.1 * best.2 then s else best
theorem gr_some : ∀ (ps : List F2) (f : F2), ps.foldl grF (some f) = some (ps.foldl pickF f)
  | [], f => rfl
  | p :: ps, f => by
    rw [List.foldl_cons, List.foldl_cons]
    exact gr_some ps _
theorem gr_eq : ∀ (ps : List F2), (∀ p ∈ ps, 0 ≤ p.1 ∧ (p.1 = 0 → p = (0, 1))) → greatP ps = ps.foldl pickF (0, 1)
  | [], _ => rfl
  | p :: ps, h => by
    have hp := h p List.mem_cons_self
    show ((p :: ps).foldl grF none).getD (0, 1) = _
    rw [List.foldl_cons, List.foldl_cons]
    have e1 : grF none p = some p := rfl
    have e2 : pickF (0, 1) p = p := by
      unfold pickF
      by_cases q : p.1 = 0
      · rw [hp.2 q]; rfl
      · rw [if_pos (by omega)]
    rw [e1, e2, gr_some]; rfl
theorem mst_eq {row : List F2} (h : ∀ p ∈ row, Fr p) : (row.zip (cutL row (some 1) none)).foldl mstF (0, 1) = clickP row := by
  unfold clickP
  rw [gr_eq]
  · unfold stepL
    rw [List.foldl_map]
    rfl
  · intro p hp
    obtain ⟨q, hq, rfl⟩ := List.mem_map.mp hp
    have := zip_fr h q hq
    exact stepF_0 this.1.q0 this.2.q0
theorem mst_fw {row : List F2} (h : ∀ p ∈ row, Fr p) : ∀ (L : List (F2 × F2)) (best : F2), (∀ p ∈ L, Fr p.1 ∧ Fr p.2) → Fw best → Fw (L.foldl mstF best)
  | [], b, _, hb => hb
  | p :: L, b, hL, hb => by
    refine mst_fw h L _ (fun q hq => hL q (List.mem_cons_of_mem _ hq)) ?_
    have hp := hL p List.mem_cons_self
    unfold mstF
    split
    · exact step_fw hp.1 hp.2
    · exact hb
theorem mstep_ok (k : Nat) (row : List F2) (h : ∀ p ∈ row, Fr p) (hl : row.length ≤ 120) : retD (calls fds (k + 2) 32 [.val (.list (row.map eP))]) = some (eP (clickP row)) := by
  have c := mine_ok k
  rw [← mst_eq h]
  refine Rt.of (j := 32) (f := fd32) (r := [.val (.list (row.map eP)), .un, .un, .un, .un]) rfl ?_
  generalize calls fds (k + 1) = cl at c
  refine Rt.seq (r1 := [.val (.list (row.map eP)), .val (eP (0, 1)), .un, .un, .un]) rfl ?_
  refine Rt.loop (EvI.zip (en := eP) (eb := eP) (Ev.var rfl) (Ev.sl (Ev.var rfl) (EvP.pt .cst) .nop sl_l) kof_l kof_l).h (for_pre (en := fun p : F2 × F2 => .tuple [eP p.1, eP p.2]) (row.zip (cutL row (some 1) none)) (fun pre r => ∃ a b d : Slot, r = [.val (.list (row.map eP)), .val (eP (pre.foldl mstF (0, 1))), a, b, d]) ⟨.un, .un, .un, rfl⟩ ?_) (fun r' ⟨a, b, d, e⟩ => by subst e; exact Rt.ret (Ev.var rfl))
  rintro pre p post r he ⟨a, b, d, rfl⟩
  have hz := zip_fr h
  have hp := hz p (by rw [he]; simp)
  have hb := mst_fw h pre (0, 1) (fun q hq => hz q (by rw [he]; simp [hq])) ⟨by decide, by decide⟩
  have hs := step_fw hp.1 hp.2
  rw [fold_snoc]
  generalize pre.foldl mstF (0, 1) = best at hb
  have b0 := Int.mul_pos hp.1.q0 hp.2.q0
  have b1 := mul_bd (Int.le_of_lt hp.1.q0) hp.1.q1 (Int.le_of_lt hp.2.q0) hp.2.q1
  have cc := c (ab (p.2.1 * p.1.2 - p.1.1 * p.2.2)) (p.1.2 * p.2.2) b0 (by omega)
  rw [stepF_eq hp.1.q0 hp.2.q0] at cc
  have v2 : Ev cl (.var 2) [.val (.list (row.map eP)), .val (eP best), .val (eP p.1), .val (eP p.2), d] (eP p.1) := Ev.var rfl
  have v3 : Ev cl (.var 3) [.val (.list (row.map eP)), .val (eP best), .val (eP p.1), .val (eP p.2), d] (eP p.2) := Ev.var rfl
  have w4 : Ev cl (.var 4) [.val (.list (row.map eP)), .val (eP best), .val (eP p.1), .val (eP p.2), .val (eP (stepF p))] (eP (stepF p)) := Ev.var rfl
  have w1 : Ev cl (.var 1) [.val (.list (row.map eP)), .val (eP best), .val (eP p.1), .val (eP p.2), .val (eP (stepF p))] (eP best) := Ev.var rfl
  refine ⟨[.val (.list (row.map eP)), .val (eP best), .val (eP p.1), .val (eP p.2), d], [.val (.list (row.map eP)), .val (eP (mstF best p)), .val (eP p.1), .val (eP p.2), .val (eP (stepF p))], rfl, Sn.seq (r1 := [.val (.list (row.map eP)), .val (eP best), .val (eP p.1), .val (eP p.2), .val (eP (stepF p))]) (Sn.set ?_) (Sn.seq (Sn.set ?_) Sn.skp), _, _, _, rfl⟩
  · exact Ev.cal (ds := [.int (ab (p.2.1 * p.1.2 - p.1.1 * p.2.2)), .int (p.1.2 * p.2.2)]) (EvA.con (Ev.bi (EvA.con (Ev.bin (Ev.bin (p0 v3) (p1 v2) (mul_i (.inr hp.1.w))) (Ev.bin (p0 v2) (p1 v3) (mul_i (.inr hp.2.w))) rfl) .nil) abs_ab) (EvA.con (Ev.bin (p1 v2) (p1 v3) (mul_i (.inr hp.2.w))) .nil)) rfl cc
  · have et := Ev.cmp (c := .Gt) (Ev.bin (p0 w4) (p1 w1) (mul_i (.inr hb.w))) (Ev.bin (p0 w1) (p1 w4) (mul_i (.inr hs.w))) rfl
    unfold mstF
    by_cases q : best.1 * (stepF p).2 < (stepF p).1 * best.2
    · rw [if_pos q]
      exact Ev.ifeT (Tt.of et (decide_eq_true q)) w4
    · rw [if_neg q]
      exact Ev.ifeF (Ff.of et (decide_eq_false q)) w1
/-! all that the law leans on -/
structure Lib (cl : Nat → O1) : Prop where
  row : ∀ xs, OkS xs → retD (cl 10 [.val (eT xs)]) = some (.bool true)
  gstep : ∀ xs, OkS xs → retD (cl 13 [.val (eT xs)]) = some (stepD xs)
  bcut : ∀ xs ys, OkS xs → OkS ys → retD (cl 14 [.val (eT xs), .val (eT ys)]) = some (eR3 (minO (cutsP xs ys)))
  cutj : ∀ xs ys, OkS xs → OkS ys → ∀ last first : Int, 0 ≤ last → last ≤ (xs.length : Int) - 1 → 0 ≤ first → first ≤ (ys.length : Int) - 1 → last + 1 + ys.length - first ≤ 40 → retD (cl 15 [.val (eT xs), .val (eT ys), .val (.int last), .val (.int first)]) = some (.tuple ((cutL xs none (some (last + 1))).map .int ++ (cutL ys (some first) none).map .int))
  laid : ∀ xs ys, OkS xs → OkS ys → ∀ many : Nat, many ≤ xs.length → many ≤ ys.length → retD (cl 17 [.val (eT xs), .val (eT ys), .val (.int (many : Nat))]) = some (.tuple ((overP xs ys many).map eP))
  click : ∀ xs ys, OkS xs → OkS ys → ∀ many : Nat, many ≤ xs.length → many ≤ ys.length → retD (cl 18 [.val (eT xs), .val (eT ys), .val (.int (many : Nat))]) = some (eP (clickO xs ys many))
  leasto : ∀ xs ys, OkS xs → OkS ys → ∀ bound : Int, 0 ≤ bound → bound ≤ 2000 → retD (cl 19 [.val (eT xs), .val (eT ys), .val (.int bound)]) = some (eON ((List.range (min xs.length ys.length + 1)).find? (fineB xs ys bound)))
  besto : ∀ xs ys, OkS xs → OkS ys → retD (cl 20 [.val (eT xs), .val (eT ys)]) = some (eBO ((List.range (min xs.length ys.length + 1)).foldl (bestF (clickO xs ys)) none))
  bloop : ∀ xs, OkS xs → ∀ least : Nat, 1 ≤ least → least ≤ 39 → retD (cl 21 [.val (eT xs), .val (.int (least : Nat))]) = some (loopD xs least)
  looped : ∀ xs, OkS xs → ∀ b e many : Int, 0 ≤ b → b ≤ (xs.length : Int) - 1 → b + 1 ≤ e → e ≤ xs.length → 0 ≤ many → many ≤ 40 → (xs.length : Int) + many * (e - b) ≤ 40 → retD (cl 22 [.val (eT xs), .val (.int b), .val (.int e), .val (.int many)]) = some (.tuple ((cutL xs none (some e)).map .int ++ (List.replicate many.toNat ((cutL xs (some b) (some e)).map .int)).flatten ++ (cutL xs (some e) none).map .int))
  scaled : ∀ xs, OkS xs → ∀ high : Int, 0 ≤ high → high ≤ 1000 → retD (cl 23 [.val (eT xs), .val (.int high)]) = some (.tuple ((scaleP xs high).map eP))
  mine : ∀ t b : Int, 0 < b → b ≤ 90000 → retD (cl 30 [.val (.int t), .val (.int b)]) = some (eP (leanI t b))
  mover : ∀ xs ys, OkS xs → OkS ys → ∀ many : Nat, many ≤ xs.length → many ≤ ys.length → retD (cl 31 [.val (eT xs), .val (eT ys), .val (.int (many : Nat))]) = some (.list ((overP xs ys many).map eP))
  mstep : ∀ row : List F2, (∀ p ∈ row, Fr p) → row.length ≤ 120 → retD (cl 32 [.val (.list (row.map eP))]) = some (eP (clickP row))
theorem lib_ok : Lib (calls fds 20) where
  row xs h := row_ok 17 xs h
  gstep xs h := gstep_ok 15 xs h
  bcut xs ys h h' := bcut_ok 14 xs ys h h'
  cutj xs ys h h' := cutj_ok 14 xs ys h h'
  laid xs ys h h' := laid_ok 13 xs ys h h'
  click xs ys h h' := click_ok 12 xs ys h h'
  leasto xs ys h h' := leasto_ok 11 xs ys h h'
  besto xs ys h h' := besto_ok 11 xs ys h h'
  bloop xs h := bloop_ok 15 xs h
  looped xs h := looped_ok 15 xs h
  scaled xs h := scaled_ok 15 xs h
  mine := mine_ok 19
  mover xs ys h h' := mover_ok 18 xs ys h h'
  mstep := mstep_ok 18
end K76

namespace K76
open PySem Py
theorem sorted_head {l : List R3} (h : l ≠ []) : fIx (.list ((l.mergeSort le3).map eR3)) (.int 0) = some (eR3 (minO l)) := by
  cases l with
  | nil => exact absurd rfl h
  | cons x t =>
    obtain ⟨u, e⟩ := sort3_head x t
    rw [e]
    exact ix_l (i := 0) rfl
theorem sorted_nil {l : List R3} : l.mergeSort le3 = [] ↔ l = [] := by
  constructor
  · intro e
    have := congrArg List.length e
    rw [List.length_mergeSort] at this
    exact List.eq_nil_of_length_eq_zero this
  · rintro rfl; simp
/-! how great a click may be -/
def Unit1 (p : F2) : Prop := ab p.1 ≤ 1000 * p.2
theorem lean_unit {t m : Int} (hm : 0 < m) (h : ab t ≤ 1000 * m) : Unit1 (leanI t m) := by
  obtain ⟨g, g0, _, e1, e2, q0, c⟩ := lean_ex t m hm
  unfold Unit1
  generalize leanI t m = x at *
  have h1 : ab t = ab x.1 * g := by rw [e1, ab_mul, ab_pos (Int.le_of_lt g0)]
  rw [h1, e2] at h
  have : ab x.1 * g ≤ (1000 * x.2) * g := by rw [Int.mul_assoc]; exact h
  exact Int.le_of_mul_le_mul_right this g0
section
variable {xs ys : List Int} (h : OkS xs) (h' : OkS ys) {many : Nat} (hm : many ≤ xs.length) (hm' : many ≤ ys.length)
include h h' hm hm'
theorem over_unit : ∀ p ∈ overP xs ys many, Unit1 p := by
  have one : ∀ s : Int, -1000 ≤ s ∧ s ≤ 1000 → Unit1 (s, 1) := fun s hs => by
    show ab s ≤ 1000 * 1
    exact ab_le hs.1 hs.2
  intro p hp
  rcases List.mem_append.mp hp with hp | hp
  · rcases List.mem_append.mp hp with hp | hp
    · obtain ⟨s, hs, rfl⟩ := List.mem_map.mp hp
      exact one s (h.all s (cut_mem hs))
    · obtain ⟨i, hi, rfl⟩ := List.mem_map.mp hp
      have hi := List.mem_range.mp hi
      refine lean_unit (by omega) ?_
      have a1 := h.all _ (getD_mem (xs := xs) (i := xs.length - many + i) (by omega))
      have a2 := h'.all _ (getD_mem (xs := ys) (i := i) (by omega))
      have q1 := mul_ab (A := 1000) a1 (b := (many : Int) - i) (by omega) (Int.le_refl _)
      have q2 := mul_ab (A := 1000) a2 (b := (i : Int) + 1) (by omega) (Int.le_refl _)
      have := ab_add (xs.getD (xs.length - many + i) default * ((many : Int) - i)) (ys.getD i default * ((i : Int) + 1))
      omega
  · obtain ⟨s, hs, rfl⟩ := List.mem_map.mp hp
    exact one s (h'.all s (cut_mem hs))
end
def Unit2 (p : F2) : Prop := 0 ≤ p.1 ∧ p.1 ≤ 2000 * p.2
theorem step_unit {x y : F2} (hx : Fr x) (hy : Fr y) (ux : Unit1 x) (uy : Unit1 y) : Unit2 (stepF (x, y)) := by
  have b0 := Int.mul_pos hy.q0 hx.q0
  refine ⟨ab_0 _, ?_⟩
  obtain ⟨g, g0, _, e1, e2, q0, c⟩ := lean_ex (y.1 * x.2 - x.1 * y.2) (y.2 * x.2) b0
  show ab (leanI (y.1 * x.2 - x.1 * y.2) (y.2 * x.2)).1 ≤ 2000 * (leanI (y.1 * x.2 - x.1 * y.2) (y.2 * x.2)).2
  have h1 : ab (y.1 * x.2 - x.1 * y.2) ≤ 2000 * (y.2 * x.2) := by
    have a := ab_sub (y.1 * x.2) (x.1 * y.2)
    rw [ab_mul, ab_mul, ab_pos (Int.le_of_lt hx.q0), ab_pos (Int.le_of_lt hy.q0)] at a
    have b1 : ab y.1 * x.2 ≤ 1000 * y.2 * x.2 := Int.mul_le_mul_of_nonneg_right uy (Int.le_of_lt hx.q0)
    have b2 : ab x.1 * y.2 ≤ 1000 * x.2 * y.2 := Int.mul_le_mul_of_nonneg_right ux (Int.le_of_lt hy.q0)
    rw [Int.mul_assoc] at b1 b2
    rw [Int.mul_comm x.2 y.2] at b2
    omega
  generalize leanI (y.1 * x.2 - x.1 * y.2) (y.2 * x.2) = z at *
  rw [e1, e2, ab_mul, ab_pos (Int.le_of_lt g0), ← Int.mul_assoc] at h1
  exact Int.le_of_mul_le_mul_right h1 g0
theorem gr_unit : ∀ (ps : List F2) (f : F2), (∀ p ∈ ps, Unit2 p) → Unit2 f → Unit2 (ps.foldl pickF f)
  | [], f, _, hf => hf
  | p :: ps, f, h, hf => by
    refine gr_unit ps _ (fun q hq => h q (List.mem_cons_of_mem _ hq)) ?_
    unfold pickF
    split
    · exact h p List.mem_cons_self
    · exact hf
theorem click_unit {row : List F2} (h : ∀ p ∈ row, Fr p) (hu : ∀ p ∈ row, Unit1 p) : Unit2 (clickP row) := by
  rw [← mst_eq h]
  have e : (row.zip (cutL row (some 1) none)).foldl mstF (0, 1) = (stepL row).foldl pickF (0, 1) := by
    unfold stepL
    rw [List.foldl_map]
    rfl
  rw [e]
  refine gr_unit _ _ (fun p hp => ?_) ⟨by decide, by decide⟩
  obtain ⟨q, hq, rfl⟩ := List.mem_map.mp hp
  have hf := zip_fr h q hq
  have := List.of_mem_zip (a := q.1) (b := q.2) hq
  exact step_unit hf.1 hf.2 (hu _ this.1) (hu _ (List.mem_of_mem_drop (List.mem_of_mem_take this.2)))
/-! loops over what was drawn; over enumerate -/
theorem for_walkV {cl : Nat → O1} {α : Type} {en : α → D} {xs : List α} {i : Nat} {it b : T} {r r0 : Rho} (vs : List Nat) (P : List α → Rho → Prop) (hi : ev cl it r = .vals (xs.map en) r0) (h0 : P [] r0)
    (hs : ∀ pre a post r1, xs = pre ++ a :: post → Frm vs r0 r1 → P pre r1 → ∃ r2, ev cl b (r1.set i (.val (en a))) = .nxt r2 ∧ Frm vs r1 r2 ∧ P (pre ++ [a]) r2) : ∃ r', Sn cl (.frl (.gn i) it b) r r' ∧ Frm vs r0 r' ∧ P xs r' := by
  obtain ⟨r', e, h⟩ := for_pre (en := en) (f := gNm i) (b := ev cl b) xs (fun pre r1 => Frm vs r0 r1 ∧ P pre r1) ⟨.refl _ _, h0⟩ (fun pre x post r1 he h1 => by
    obtain ⟨r2, e2, h2, h3⟩ := hs pre x post r1 he h1.1 h1.2
    exact ⟨_, r2, rfl, e2, h1.1.trans h2, h3⟩)
  refine ⟨r', ?_, h⟩
  show oFor _ (gNm i) (ev cl b) r = _
  unfold oFor
  rw [hi]
  exact e
theorem for_walk2 {cl : Nat → O1} {α : Type} {ea eb : α → D} {xs : List α} {i j : Nat} {it b : T} {r : Rho} (vs : List Nat) (P : List α → Rho → Prop) (hi : EvI cl it r (fun x => .tuple [ea x, eb x]) xs) (h0 : P [] r)
    (hs : ∀ pre a post r1, xs = pre ++ a :: post → Frm vs r r1 → P pre r1 → ∃ r2, ev cl b ((r1.set i (.val (ea a))).set j (.val (eb a))) = .nxt r2 ∧ Frm vs r1 r2 ∧ P (pre ++ [a]) r2) : ∃ r', Sn cl (.frl (.gt 2 (.con (.gn i) (.con (.gn j) .nil))) it b) r r' ∧ Frm vs r r' ∧ P xs r' := by
  obtain ⟨r', e, h⟩ := for_pre (en := fun x => .tuple [ea x, eb x]) (f := (evG (.gt 2 (.con (.gn i) (.con (.gn j) .nil)))).1) (b := ev cl b) xs (fun pre r1 => Frm vs r r1 ∧ P pre r1) ⟨.refl _ _, h0⟩ (fun pre x post r1 he h1 => by
    obtain ⟨r2, e2, h2, h3⟩ := hs pre x post r1 he h1.1 h1.2
    exact ⟨_, r2, rfl, e2, h1.1.trans h2, h3⟩)
  exact ⟨r', Sn.for hi.h e, h⟩
theorem enu_range {cl : Nat → O1} {r : Rho} {a : T} {n : Nat} {g : Nat → D} (ha : Ev cl a r (.list ((List.range n).map g))) : EvI cl (.enu (.con a .nil)) r (fun i : Nat => .tuple [eN i, g i]) (List.range n) := by
  refine EvI.conv (EvI.enu ha kof_l) ?_
  rw [zipIdx_eq, List.map_map, List.length_range]
  refine List.map_congr_left fun i hi => ?_
  have := List.mem_range.mp hi
  simp [List.getD_eq_getElem?_getD, this]
section
variable {cl : Nat → O1} {ns : List Int} {n : Nat} {kn : List (Nat × D)} {r : Rho} {xs ys : List Int} {H bound : Int} {least : Nat}
theorem l0 (S : Kw 27 ns n kn r) (hk : kn.lookup 1 = none) (hp : PkI cl 28 ns) : ∃ n' H r', (3 ≤ H ∧ H ≤ 1000) ∧ Sn cl l_1_0 r r' ∧ Kw 27 ns n' ((3, .int H) :: kn) r' := by
  obtain ⟨d, hd, e⟩ := pkO_at hp n [.int 3, .int 40, .int 1000] (by simp) (by simp)
  have e := e (.lst (.con (.cst (.int 3)) (.con (.cst (.int 40)) (.con (.cst (.int 1000)) .nil)))) r r ⟨n, S.d⟩ S.d (Ev.lst (EvA.con .cst (EvA.con .cst (EvA.con .cst .nil))) (by simp [lim])).h
  have : ∃ H : Int, d = .int H ∧ 3 ≤ H ∧ H ≤ 1000 := by
    simp only [List.mem_cons, List.not_mem_nil, or_false] at hd
    rcases hd with rfl | rfl | rfl
    · exact ⟨3, rfl, by decide, by decide⟩
    · exact ⟨40, rfl, by decide, by decide⟩
    · exact ⟨1000, rfl, by decide, by decide⟩
  obtain ⟨H, rfl, h1, h2⟩ := this
  exact ⟨n + 1, H, _, ⟨h1, h2⟩, Sn.set' e, (S.dr (n + 1) hk).set 3 _⟩
theorem l1 (S : Kw 27 ns n kn r) (hk : kn.lookup 1 = none) (hs : SmO cl 29 ns) (h3 : r[3]? = some (.val (.int H))) (H1 : 3 ≤ H) (H2 : H ≤ 1000) : ∃ n' xs ys r', OkS xs ∧ xs.length ≤ 12 ∧ OkS ys ∧ ys.length ≤ 12 ∧ Sn cl l_1_1 r r' ∧ Kw 27 ns n' ((16, eT ys) :: (15, eT xs) :: kn) r' := by
  obtain ⟨xs, n1, a1, a2, e⟩ := hs n 12 H (by decide) (by decide) (by omega) (by omega)
  obtain ⟨ys, n2, b1, b2, e'⟩ := hs n1 12 H (by decide) (by decide) (by omega) (by omega)
  have S1 := S.dr n1 hk
  have S2 := S1.dr n2 hk
  have h3' : (r.set 1 (.own (dr ns n1)))[3]? = some (.val (.int H)) := lk_ne (by decide) h3
  exact ⟨n2, xs, ys, _, ⟨a1.1, by omega, fun x hx => by have := a2 x hx; omega⟩, by omega, ⟨b1.1, by omega, fun x hx => by have := b2 x hx; omega⟩, by omega, Sn.par' (con_v (e _ _ r S.d .cst (Ev.var h3)) (con_v (e' _ _ _ S1.d .cst (Ev.var h3')) rfl)) rfl, (S2.set 15 _).set 16 _⟩
theorem l2 (ok : OkS xs) (S : Kw 27 ns n kn r) (h15 : r[15]? = some (.val (eT xs))) : Sn cl l_1_2 r (r.set 4 (.val (.list ((stepsP xs).map .int)))) := by
  have hlen := S.len
  have hl := ok.len
  unfold stepsP
  rw [List.map_map]
  refine Sn.set ?_
  show Ev _ _ _ (.list ((xs.zip (cutL xs (some 1) none)).map fun p => .int (ab (p.2 - p.1))))
  repeat' (first | (exact Ev.cst) | (exact Ev.glo) | (exact Ev.var (by (first | rfl | assumption | exact Kw.k (by assumption) _ _ rfl | (repeat' (first | assumption | exact Kw.k (by assumption) _ _ rfl | (refine lk_eq ?_; first | omega | (simp only [List.length_set]; omega)) | refine lk_ne (by decide) ?_))))) | (exact EvA.nil) | (refine' EvA.con ?_ ?_) | (refine' Ev.bin ?_ ?_ ?_) | (refine' Ev.cmp ?_ ?_ ?_) | (refine' Ev.chn ?_ ?_ ?_ ?_ ?_) | (refine' Ev.neg ?_) | (refine' Ev.inv ?_) | (refine' Ev.isa ?_) | (refine' Ev.b1 ?_) | (refine' Ev.and ?_ (fun _ => ?_)) | (refine' Ev.or ?_ (fun _ => ?_)) | (refine' Ev.ix ?_ ?_ ?_) | (refine' Ev.tup ?_ ?_) | (refine' Ev.lst ?_ ?_) | (refine' Ev.bi ?_ ?_) | (refine' Ev.sl ?_ ?_ ?_ ?_) | (exact EvP.nop) | (refine' EvP.pt ?_) | (refine' EvI.rg1 ?_ ?_) | (refine' EvI.rg1i ?_ ?_ ?_) | (refine' EvI.rg2 ?_ ?_ ?_ ?_) | (refine' EvI.zip ?_ ?_ ?_ ?_) | (refine' EvI.enu ?_ ?_) | (refine' Ev.lc1Y ?_ ?_ (fun _ _ => ?_) ?_) | (refine' Ev.lc1 ?_ ?_ (fun _ _ => ?_) (fun _ _ _ => ?_) ?_) | (refine' Ev.lc2Y ?_ (by decide) ?_ (fun _ _ => ?_) ?_) | (refine' Ev.lc2 ?_ (by decide) ?_ (fun _ _ => ?_) (fun _ _ _ => ?_) ?_) | (refine' Ev.ife ?_ (fun _ => ?_) (fun _ => ?_) ?_) | (refine' Ff.or ?_ ?_) | (refine' Ff.b1 ?_) | (refine' Ff.ne ?_ ?_ ?_ ?_) | (refine' Tt.b1 ?_) | (refine' Tt.and ?_ ?_) | (refine' Tt.eq ?_ ?_ ?_ ?_) | (refine' Ff.inv ?_) | (refine' Tt.inv ?_) | (exact kof_t) | (exact kof_l) | (exact kof_few) | (exact kof_fewL) | (refine' EvI.gen ?_ ?_) | (exact Kw.ok (by assumption) (by decide)) | (refine' okV_set ?_) | (exact sl_t) | (exact sl_l) | (exact max2L_i) | (exact min2L_i) | (exact tup_l) | (exact tup_t) | (exact sumI) | (refine' maxI ?_) | (refine' minI ?_) | (exact len_l) | (exact len_t) | (exact abs_ab) | (exact eq_i) | (exact ne_i) | (exact ifi) | (exact ifb) | (exact max2_i) | (exact min2_i) | (exact max_c) | (exact min_c) | (exact sum_c) | (exact all_c) | (exact any_c) | (refine' max_ne ?_) | (refine' min_ne ?_) | (refine' ix_lD ?_) | (refine' ix_tD ?_) | (refine' add_l ?_) | (refine' add_t ?_) | (refine' div_i ?_ ?_) | (refine' mul_i ?_) | (refine' mod_i ?_) | rfl)
  have := zip_len xs (cutL xs (some 1) none)
  show _ ≤ 1000000
  omega
theorem l3 (L : Lib cl) (ok : OkS xs) (h4 : r[4]? = some (.val (.list ((stepsP xs).map .int)))) (h15 : r[15]? = some (.val (eT xs))) : Sn cl l_1_3 r r := by
  refine Sn.ifsF (Ff.or (Ff.inv (Tt.of (Ev.cal (ds := [eT xs]) (EvA.con (Ev.var h15) .nil) rfl (L.row xs ok)) rfl)) (Ff.b1 (Ff.ne (Ev.cal (ds := [eT xs]) (EvA.con (Ev.var h15) .nil) rfl (L.gstep xs ok)) (y := stepD xs) ?_ rfl ?_)))
  · unfold stepD
    by_cases q : stepsP xs = []
    · rw [if_pos q]
      rw [q] at h4
      exact Ev.ifeF (Ff.of (Ev.cmp (Ev.var h4) (Ev.lst .nil (by decide)) rfl) rfl) (Ev.tup (EvA.con .cst (EvA.con .cst .nil)) (by simp [lim]))
    · rw [if_neg q]
      exact Ev.ifeT (Tt.of (Ev.cmp (Ev.var h4) (Ev.lst .nil (by decide)) (ne_nl (ok_lI _))) (by simpa using q)) (Ev.tup (EvA.con (Ev.bi (EvA.con (Ev.var h4) .nil) (max_li q)) (EvA.con (Ev.plc (Ev.var h4) (Ev.bi (EvA.con (Ev.var h4) .nil) (max_li q)) (plc_max q)) .nil)) (by simp [lim]))
  · unfold stepD
    split <;> exact okD_sml (sml_tup2 (n := 0) (sml_int _) (sml_int _)) (by decide)
theorem l4 (ok : OkS xs) (ok' : OkS ys) (S : Kw 27 ns n kn r) (h15 : r[15]? = some (.val (eT xs))) (h16 : r[16]? = some (.val (eT ys))) : Sn cl l_1_4 r (r.set 5 (.val (.list (((cutsP xs ys).mergeSort le3).map eR3)))) := by
  have hlen := S.len
  have hl := ok.len
  have hl' := ok'.len
  have hc : (cutsP xs ys).length ≤ lim := by
    have := cuts_len hl hl'
    rw [← cuts_map, List.length_map] at this
    exact this
  have hf : ((xs.zipIdx 0).map fun p => (ys.zipIdx 0).map fun q => (PyData.tuple [.int (ab (q.1 - p.1)), .int (p.2 : Nat), .int (q.2 : Nat)])).flatten = (cutsP xs ys).map eR3 := by
    rw [cuts_map, List.flatMap_def]
  refine Sn.set (Ev.bi (EvA.con (x := .list ((cutsP xs ys).map eR3)) ?_ .nil) (sorted3 _ hc))
  rw [← hf]
  refine Ev.bi (EvA.con (Ev.lc2Y (ea := fun p : Int × Nat => .int (p.2 : Nat)) (eb := fun p => .int p.1) (gg := fun p => .list ((ys.zipIdx 0).map fun q => .tuple [.int (ab (q.1 - p.1)), .int (p.2 : Nat), .int (q.2 : Nat)])) (EvI.enu (Ev.var h15) kof_t) (by decide) (Kw.ok (by assumption) (by decide)) (fun p _ => ?_) (by rw [List.length_zipIdx]; show _ ≤ 1000000; omega)) (EvA.con (Ev.lst .nil (by decide)) .nil)) (sumL_c ?_)
  · refine Ev.lc2Y (ea := fun p : Int × Nat => .int (p.2 : Nat)) (eb := fun p => .int p.1) (EvI.enu (Ev.var (lk_ne (by decide) (lk_ne (by decide) h16))) kof_t) (by decide) (okV_set (okV_set (Kw.ok (by assumption) (by decide)))) (fun q _ => ?_) (by rw [List.length_zipIdx]; show _ ≤ 1000000; omega)
    repeat' (first | (exact Ev.cst) | (exact Ev.glo) | (exact Ev.var (by (first | rfl | assumption | exact Kw.k (by assumption) _ _ rfl | (repeat' (first | assumption | exact Kw.k (by assumption) _ _ rfl | (refine lk_eq ?_; first | omega | (simp only [List.length_set]; omega)) | refine lk_ne (by decide) ?_))))) | (exact EvA.nil) | (refine' EvA.con ?_ ?_) | (refine' Ev.bin ?_ ?_ ?_) | (refine' Ev.cmp ?_ ?_ ?_) | (refine' Ev.chn ?_ ?_ ?_ ?_ ?_) | (refine' Ev.neg ?_) | (refine' Ev.inv ?_) | (refine' Ev.isa ?_) | (refine' Ev.b1 ?_) | (refine' Ev.and ?_ (fun _ => ?_)) | (refine' Ev.or ?_ (fun _ => ?_)) | (refine' Ev.ix ?_ ?_ ?_) | (refine' Ev.tup ?_ ?_) | (refine' Ev.lst ?_ ?_) | (refine' Ev.bi ?_ ?_) | (refine' Ev.sl ?_ ?_ ?_ ?_) | (exact EvP.nop) | (refine' EvP.pt ?_) | (refine' EvI.rg1 ?_ ?_) | (refine' EvI.rg1i ?_ ?_ ?_) | (refine' EvI.rg2 ?_ ?_ ?_ ?_) | (refine' EvI.zip ?_ ?_ ?_ ?_) | (refine' EvI.enu ?_ ?_) | (refine' Ev.lc1Y ?_ ?_ (fun _ _ => ?_) ?_) | (refine' Ev.lc1 ?_ ?_ (fun _ _ => ?_) (fun _ _ _ => ?_) ?_) | (refine' Ev.lc2Y ?_ (by decide) ?_ (fun _ _ => ?_) ?_) | (refine' Ev.lc2 ?_ (by decide) ?_ (fun _ _ => ?_) (fun _ _ _ => ?_) ?_) | (refine' Ev.ife ?_ (fun _ => ?_) (fun _ => ?_) ?_) | (refine' Ff.or ?_ ?_) | (refine' Ff.b1 ?_) | (refine' Ff.ne ?_ ?_ ?_ ?_) | (refine' Tt.b1 ?_) | (refine' Tt.and ?_ ?_) | (refine' Tt.eq ?_ ?_ ?_ ?_) | (refine' Ff.inv ?_) | (refine' Tt.inv ?_) | (exact kof_t) | (exact kof_l) | (exact kof_few) | (exact kof_fewL) | (refine' EvI.gen ?_ ?_) | (exact Kw.ok (by assumption) (by decide)) | (refine' okV_set ?_) | (exact sl_t) | (exact sl_l) | (exact max2L_i) | (exact min2L_i) | (exact tup_l) | (exact tup_t) | (exact sumI) | (refine' maxI ?_) | (refine' minI ?_) | (exact len_l) | (exact len_t) | (exact abs_ab) | (exact eq_i) | (exact ne_i) | (exact ifi) | (exact ifb) | (exact max2_i) | (exact min2_i) | (exact max_c) | (exact min_c) | (exact sum_c) | (exact all_c) | (exact any_c) | (refine' max_ne ?_) | (refine' min_ne ?_) | (refine' ix_lD ?_) | (refine' ix_tD ?_) | (refine' add_l ?_) | (refine' add_t ?_) | (refine' div_i ?_ ?_) | (refine' mul_i ?_) | (refine' mod_i ?_) | rfl)
    all_goals first | (simp [lim]; done) | (simp only [List.length_set]; omega)
  · rw [hf, List.length_map]; exact hc
theorem l5 (L : Lib cl) (ok : OkS xs) (ok' : OkS ys) (h5 : r[5]? = some (.val (.list (((cutsP xs ys).mergeSort le3).map eR3)))) (h15 : r[15]? = some (.val (eT xs))) (h16 : r[16]? = some (.val (eT ys))) : Sn cl l_1_5 r r :=
  Sn.ifsF (Ff.ne (Ev.cal (ds := [eT xs, eT ys]) (EvA.con (Ev.var h15) (EvA.con (Ev.var h16) .nil)) rfl (L.bcut xs ys ok ok')) (Ev.ix (Ev.var h5) .cst (sorted_head (cuts_ne ok ok'))) rfl (okD_sml (sml_r3 _) (by decide)))
theorem l6 (ok : OkS xs) (ok' : OkS ys) (S : Kw 27 ns n kn r) (hk : kn.lookup 1 = none) (hd : DrO cl 27 ns) (h15 : r[15]? = some (.val (eT xs))) (h16 : r[16]? = some (.val (eT ys))) : ∃ n' last first r', (0 ≤ last ∧ last < (xs.length : Int)) ∧ (0 ≤ first ∧ first < (ys.length : Int)) ∧ Sn cl l_1_6 r r' ∧ Kw 27 ns n' ((18, .int first) :: (17, .int last) :: kn) r' := by
  have p1 := ok.pos
  have p2 := ok'.pos
  obtain ⟨v, v0, v1, hv⟩ := hd n (xs.length : Int) (by omega)
  obtain ⟨w, w0, w1, hw⟩ := hd (n + 1) (ys.length : Int) (by omega)
  have S1 := S.dr (n + 1) hk
  have S2 := S1.dr (n + 1 + 1) hk
  have h16' : (r.set 1 (.own (dr ns (n + 1))))[16]? = some (.val (eT ys)) := lk_ne (by decide) h16
  exact ⟨n + 1 + 1, v, w, _, ⟨v0, v1⟩, ⟨w0, w1⟩, Sn.par' (con_v (hv _ r S.d (Ev.bi (EvA.con (Ev.var h15) .nil) len_t)) (con_v (hw _ _ S1.d (Ev.bi (EvA.con (Ev.var h16') .nil) len_t)) rfl)) rfl, (S2.set 17 _).set 18 _⟩
theorem l7 (L : Lib cl) (ok : OkS xs) (ok' : OkS ys) (hl : xs.length ≤ 12) (hl' : ys.length ≤ 12) {last first : Int} (a0 : 0 ≤ last) (a1 : last < (xs.length : Int)) (b0 : 0 ≤ first) (b1 : first < (ys.length : Int)) (h15 : r[15]? = some (.val (eT xs))) (h16 : r[16]? = some (.val (eT ys))) (h17 : r[17]? = some (.val (.int last))) (h18 : r[18]? = some (.val (.int first))) : Sn cl l_1_7 r r := by
  have l1 := cutL_le xs none (some (last + 1))
  have l2 := cutL_le ys (some first) none
  exact Sn.ifsF (Ff.ne (Ev.cal (ds := [eT xs, eT ys, .int last, .int first]) (EvA.con (Ev.var h15) (EvA.con (Ev.var h16) (EvA.con (Ev.var h17) (EvA.con (Ev.var h18) .nil)))) rfl (L.cutj xs ys ok ok' last first a0 (by omega) b0 (by omega) (by omega))) (Ev.bin (Ev.sl (Ev.var h15) .nop (EvP.pt (Ev.bin (Ev.var h17) .cst rfl)) sl_t) (Ev.sl (Ev.var h16) (EvP.pt (Ev.var h18)) .nop sl_t) (add_t (by simp [lim]; omega))) rfl (by rw [← List.map_append]; exact ok_eT _))
abbrev rowsD (xs ys : List Int) : D := .list ((List.range (min xs.length ys.length + 1)).map fun i => .list ((overP xs ys i).map eP))
abbrev clicksD (xs ys : List Int) : D := .list ((List.range (min xs.length ys.length + 1)).map fun i => eP (clickO xs ys i))
theorem l8 (L : Lib cl) (ok : OkS xs) (ok' : OkS ys) (S : Kw 27 ns n kn r) (h15 : r[15]? = some (.val (eT xs))) (h16 : r[16]? = some (.val (eT ys))) : Sn cl l_1_8 r (r.set 6 (.val (rowsD xs ys))) := by
  have hlen := S.len
  have hl := ok.len
  have hl' := ok'.len
  refine Sn.set (Ev.lc1Y (en := eN) (EvI.rg1 (n := min xs.length ys.length + 1) ?_ (by show _ ≤ 1000000; omega)) (Kw.ok (by assumption) (by decide)) (fun i hi => ?_) (by rw [List.length_range]; show _ ≤ 1000000; omega))
  · have : (((min xs.length ys.length + 1 : Nat)) : Int) = min (xs.length : Int) (ys.length : Int) + 1 := by omega
    rw [this]
    repeat' (first | (exact Ev.cst) | (exact Ev.glo) | (exact Ev.var (by (first | rfl | assumption | exact Kw.k (by assumption) _ _ rfl | (repeat' (first | assumption | exact Kw.k (by assumption) _ _ rfl | (refine lk_eq ?_; first | omega | (simp only [List.length_set]; omega)) | refine lk_ne (by decide) ?_))))) | (exact EvA.nil) | (refine' EvA.con ?_ ?_) | (refine' Ev.bin ?_ ?_ ?_) | (refine' Ev.cmp ?_ ?_ ?_) | (refine' Ev.chn ?_ ?_ ?_ ?_ ?_) | (refine' Ev.neg ?_) | (refine' Ev.inv ?_) | (refine' Ev.isa ?_) | (refine' Ev.b1 ?_) | (refine' Ev.and ?_ (fun _ => ?_)) | (refine' Ev.or ?_ (fun _ => ?_)) | (refine' Ev.ix ?_ ?_ ?_) | (refine' Ev.tup ?_ ?_) | (refine' Ev.lst ?_ ?_) | (refine' Ev.bi ?_ ?_) | (refine' Ev.sl ?_ ?_ ?_ ?_) | (exact EvP.nop) | (refine' EvP.pt ?_) | (refine' EvI.rg1 ?_ ?_) | (refine' EvI.rg1i ?_ ?_ ?_) | (refine' EvI.rg2 ?_ ?_ ?_ ?_) | (refine' EvI.zip ?_ ?_ ?_ ?_) | (refine' EvI.enu ?_ ?_) | (refine' Ev.lc1Y ?_ ?_ (fun _ _ => ?_) ?_) | (refine' Ev.lc1 ?_ ?_ (fun _ _ => ?_) (fun _ _ _ => ?_) ?_) | (refine' Ev.lc2Y ?_ (by decide) ?_ (fun _ _ => ?_) ?_) | (refine' Ev.lc2 ?_ (by decide) ?_ (fun _ _ => ?_) (fun _ _ _ => ?_) ?_) | (refine' Ev.ife ?_ (fun _ => ?_) (fun _ => ?_) ?_) | (refine' Ff.or ?_ ?_) | (refine' Ff.b1 ?_) | (refine' Ff.ne ?_ ?_ ?_ ?_) | (refine' Tt.b1 ?_) | (refine' Tt.and ?_ ?_) | (refine' Tt.eq ?_ ?_ ?_ ?_) | (refine' Ff.inv ?_) | (refine' Tt.inv ?_) | (exact kof_t) | (exact kof_l) | (exact kof_few) | (exact kof_fewL) | (refine' EvI.gen ?_ ?_) | (exact Kw.ok (by assumption) (by decide)) | (refine' okV_set ?_) | (exact sl_t) | (exact sl_l) | (exact max2L_i) | (exact min2L_i) | (exact tup_l) | (exact tup_t) | (exact sumI) | (refine' maxI ?_) | (refine' minI ?_) | (exact len_l) | (exact len_t) | (exact abs_ab) | (exact eq_i) | (exact ne_i) | (exact ifi) | (exact ifb) | (exact max2_i) | (exact min2_i) | (exact max_c) | (exact min_c) | (exact sum_c) | (exact all_c) | (exact any_c) | (refine' max_ne ?_) | (refine' min_ne ?_) | (refine' ix_lD ?_) | (refine' ix_tD ?_) | (refine' add_l ?_) | (refine' add_t ?_) | (refine' div_i ?_ ?_) | (refine' mul_i ?_) | (refine' mod_i ?_) | rfl)
    all_goals (simp [lim]; done)
  · have := List.mem_range.mp hi
    exact Ev.cal (ds := [eT xs, eT ys, .int (i : Nat)]) (EvA.con (Ev.var (lk_ne (by decide) h15)) (EvA.con (Ev.var (lk_ne (by decide) h16)) (EvA.con (Ev.var (lk_eq (by omega))) .nil))) rfl (L.mover xs ys ok ok' i (by omega) (by omega))
theorem l9 (L : Lib cl) (ok : OkS xs) (ok' : OkS ys) (S : Kw 27 ns n kn r) (h6 : r[6]? = some (.val (rowsD xs ys))) : Sn cl l_1_9 r (r.set 7 (.val (clicksD xs ys))) := by
  have hlen := S.len
  have hl := ok.len
  refine Sn.set (Ev.lc1Y (en := fun i => .list ((overP xs ys i).map eP)) (EvI.gen (Ev.var h6) kof_l) (Kw.ok (by assumption) (by decide)) (fun i hi => ?_) (by rw [List.length_range]; show _ ≤ 1000000; omega))
  have := List.mem_range.mp hi
  exact Ev.cal (ds := [.list ((overP xs ys i).map eP)]) (EvA.con (Ev.var (lk_eq (by omega))) .nil) rfl (L.mstep _ (over_fr ok ok' (by omega) (by omega)) (over_len ok ok' (by omega) (by omega)))
abbrev bI (xs ys : List Int) (pre : List Nat) : Nat := pre.foldl (bestI (clickO xs ys)) 0
theorem bI_lt {xs ys : List Int} {m : Nat} : ∀ (pre : List Nat) (b : Nat), (∀ i ∈ pre, i < m) → b < m → pre.foldl (bestI (clickO xs ys)) b < m
  | [], b, _, hb => hb
  | i :: pre, b, h, hb => by
    refine bI_lt pre _ (fun j hj => h j (List.mem_cons_of_mem _ hj)) ?_
    unfold bestI
    split
    · exact h i List.mem_cons_self
    · exact hb
theorem ix_click {m i : Nat} {f : Nat → D} (h : i < m) : fIx (.list ((List.range m).map f)) (.int (i : Nat)) = some (f i) := ix_l (by rw [List.getElem?_range h])
theorem l11 (L : Lib cl) (ok : OkS xs) (ok' : OkS ys) (S : Kw 27 ns n kn r) (h6 : r[6]? = some (.val (rowsD xs ys))) (h7 : r[7]? = some (.val (clicksD xs ys))) (h8 : r[8]? = some (.val (.int (0 : Nat)))) (h15 : r[15]? = some (.val (eT xs))) (h16 : r[16]? = some (.val (eT ys))) : ∃ r', Sn cl l_1_11 r r' ∧ Frm [8, 14, 19] r r' ∧ r'[8]? = some (.val (.int (bI xs ys (List.range (min xs.length ys.length + 1)) : Nat))) := by
  refine for_walk2 [8, 14, 19] (fun pre r1 => r1[8]? = some (.val (.int (bI xs ys pre : Nat)))) (enu_range (Ev.var h6)) h8 ?_
  intro pre i post r1 he f p
  have hall : ∀ j ∈ List.range (min xs.length ys.length + 1), j < min xs.length ys.length + 1 := fun j hj => List.mem_range.mp hj
  have hi := hall i (by rw [he]; simp)
  have hb : bI xs ys pre < min xs.length ys.length + 1 := bI_lt pre 0 (fun j hj => hall j (by rw [he]; simp [hj])) (by omega)
  have hlen : r1.length = 27 := (S.none.fr f).len
  have v14 : ((r1.set 14 (.val (eN i))).set 19 (.val (.list ((overP xs ys i).map eP))))[14]? = some (.val (.int (i : Nat))) := lk_ne (by decide) (lk_eq (by omega))
  have v19 : ((r1.set 14 (.val (eN i))).set 19 (.val (.list ((overP xs ys i).map eP))))[19]? = some (.val (.list ((overP xs ys i).map eP))) := lk_eq (by rw [List.length_set]; omega)
  have v15 : ((r1.set 14 (.val (eN i))).set 19 (.val (.list ((overP xs ys i).map eP))))[15]? = some (.val (eT xs)) := lk_ne (by decide) (lk_ne (by decide) ((f.at (by decide)).trans h15))
  have v16 : ((r1.set 14 (.val (eN i))).set 19 (.val (.list ((overP xs ys i).map eP))))[16]? = some (.val (eT ys)) := lk_ne (by decide) (lk_ne (by decide) ((f.at (by decide)).trans h16))
  have v7 : ((r1.set 14 (.val (eN i))).set 19 (.val (.list ((overP xs ys i).map eP))))[7]? = some (.val (clicksD xs ys)) := lk_ne (by decide) (lk_ne (by decide) ((f.at (by decide)).trans h7))
  have v8 : ((r1.set 14 (.val (eN i))).set 19 (.val (.list ((overP xs ys i).map eP))))[8]? = some (.val (.int (bI xs ys pre : Nat))) := lk_ne (by decide) (lk_ne (by decide) p)
  have hl2 : ((r1.set 14 (.val (eN i))).set 19 (.val (.list ((overP xs ys i).map eP)))).length = 27 := by rw [List.length_set, List.length_set]; exact hlen
  have hfr : Frm [8, 14, 19] r1 ((r1.set 14 (.val (eN i))).set 19 (.val (.list ((overP xs ys i).map eP)))) := ((Frm.refl _ _).set (by decide) _).set (by decide) _
  generalize (r1.set 14 (.val (eN i))).set 19 (.val (.list ((overP xs ys i).map eP))) = r2 at *
  have ha : EvA cl (.con (.var 15) (.con (.var 16) (.con (.var 14) .nil))) r2 [eT xs, eT ys, .int (i : Nat)] := EvA.con (Ev.var v15) (EvA.con (Ev.var v16) (EvA.con (Ev.var v14) .nil))
  have x1 : Ev cl (.ix (.var 7) (.var 14)) r2 (eP (clickO xs ys i)) := Ev.ix (Ev.var v7) (Ev.var v14) (ix_click hi)
  have x2 : Ev cl (.ix (.var 7) (.var 8)) r2 (eP (clickO xs ys (bI xs ys pre))) := Ev.ix (Ev.var v7) (Ev.var v8) (ix_click hb)
  have e0 : Sn cl l_1_11_0 r2 r2 := Sn.ifsF (Ff.or (Ff.ne (Ev.cal ha rfl (L.laid xs ys ok ok' i (by omega) (by omega))) (Ev.bi (EvA.con (Ev.var v19) .nil) tup_l) rfl (okD_sml (n := 2) (sml_tup fun p _ => sml_tup2 (n := 0) (sml_int _) (sml_int _)) (by decide)))
    (Ff.b1 (Ff.ne (Ev.cal ha rfl (L.click xs ys ok ok' i (by omega) (by omega))) x1 rfl (okD_sml (sml_tup2 (n := 0) (sml_int _) (sml_int _)) (by decide)))))
  have wi : W64 (clickO xs ys i).2 := (click_fw (over_fr ok ok' (many := i) (by omega) (by omega))).w
  have wb : W64 (clickO xs ys (bI xs ys pre)).2 := (click_fw (over_fr ok ok' (many := bI xs ys pre) (by omega) (by omega))).w
  have et := Ev.cmp (cl := cl) (c := .Lt) (Ev.bin (p0 x1) (p1 x2) (mul_i (.inr wb))) (Ev.bin (p0 x2) (p1 x1) (mul_i (.inr wi))) rfl
  have e1 : Sn cl l_1_11_1 r2 (r2.set 8 (.val (.int (bI xs ys (pre ++ [i]) : Nat)))) := by
    refine Sn.set ?_
    show Ev cl _ _ (.int ((pre ++ [i]).foldl (bestI (clickO xs ys)) 0 : Nat))
    rw [fold_snoc]
    show Ev cl _ _ (.int (bestI (clickO xs ys) (bI xs ys pre) i : Nat))
    unfold bestI
    by_cases q : (clickO xs ys i).1 * (clickO xs ys (bI xs ys pre)).2 < (clickO xs ys (bI xs ys pre)).1 * (clickO xs ys i).2
    · rw [if_pos q]
      exact Ev.ifeT (Tt.of et (decide_eq_true q)) (Ev.var v14)
    · rw [if_neg q]
      exact Ev.ifeF (Ff.of et (decide_eq_false q)) (Ev.var v8)
  exact ⟨_, Sn.seq e0 (Sn.seq e1 Sn.skp), hfr.set (by decide) _, lk_eq (by omega)⟩
end
end K76

namespace K76
open PySem Py
section
variable {cl : Nat → O1} {ns : List Int} {n : Nat} {kn : List (Nat × D)} {r : Rho} {xs ys : List Int} {H bound : Int} {least : Nat}
theorem l12 (L : Lib cl) (ok : OkS xs) (ok' : OkS ys) (h7 : r[7]? = some (.val (clicksD xs ys))) (h8 : r[8]? = some (.val (.int (bI xs ys (List.range (min xs.length ys.length + 1)) : Nat)))) (h15 : r[15]? = some (.val (eT xs))) (h16 : r[16]? = some (.val (eT ys))) : Sn cl l_1_12 r r := by
  have hb : bI xs ys (List.range (min xs.length ys.length + 1)) < min xs.length ys.length + 1 := bI_lt _ 0 (fun j hj => List.mem_range.mp hj) (by omega)
  have e := best_eq (clickO xs ys) (min xs.length ys.length)
  have c := L.besto xs ys ok ok'
  rw [e] at c
  refine Sn.ifsF (Ff.ne (Ev.cal (ds := [eT xs, eT ys]) (EvA.con (Ev.var h15) (EvA.con (Ev.var h16) .nil)) rfl c) (Ev.tup (EvA.con (Ev.var h8) (EvA.con (Ev.ix (Ev.var h7) (Ev.var h8) (ix_click hb)) .nil)) (by simp [lim])) rfl ?_)
  exact okD_sml (sml_tup2 (n := 1) ((sml_int _).up (by decide)) (sml_tup2 (n := 0) (sml_int _) (sml_int _))) (by decide)
theorem fine_head (l : List Nat) : ∀ {p : Nat → Bool}, l.find? p = (l.filter p).head? := by
  intro p
  rw [List.head?_filter]
theorem l13b (L : Lib cl) (ok : OkS xs) (ok' : OkS ys) (b0 : 0 ≤ bound) (b1 : bound ≤ 2000) (S : Kw 27 ns n kn r) (h7 : r[7]? = some (.val (clicksD xs ys))) (h9 : r[9]? = some (.val (.int bound))) (h15 : r[15]? = some (.val (eT xs))) (h16 : r[16]? = some (.val (eT ys))) : Sn cl (.seq l_1_13_0 (.seq l_1_13_1 .skp)) r (r.set 20 (.val (.list (((List.range (min xs.length ys.length + 1)).filter (fineB xs ys bound)).map eN)))) := by
  have hlen := S.len
  have hl := ok.len
  have w : W64 bound := w64 (by omega) (by omega)
  have e0 : Sn cl l_1_13_0 r (r.set 20 (.val (.list (((List.range (min xs.length ys.length + 1)).filter (fineB xs ys bound)).map eN)))) := by
    refine Sn.set (Ev.lc2 (ea := eN) (eb := fun i => eP (clickO xs ys i)) (enu_range (Ev.var h7)) (by decide) (Kw.ok (by assumption) (by decide)) (fun i hi => ?_) (fun i hi _ => Ev.var (lk_ne (by decide) (lk_eq (by omega)))) (by rw [List.length_range]; show _ ≤ 1000000; omega))
    have x : Ev cl (.var 25) ((r.set 14 (.val (eN i))).set 25 (.val (eP (clickO xs ys i)))) (eP (clickO xs ys i)) := Ev.var (lk_eq (by rw [List.length_set]; omega))
    exact Ev.cmp (c := .LtE) (p0 x) (Ev.bin (Ev.var (lk_ne (by decide) (lk_ne (by decide) h9))) (p1 x) (mul_i (.inl w))) rfl
  have S1 := S.set 20 (.list (((List.range (min xs.length ys.length + 1)).filter (fineB xs ys bound)).map eN))
  have v20 : (r.set 20 (.val (.list (((List.range (min xs.length ys.length + 1)).filter (fineB xs ys bound)).map eN))))[20]? = some (.val (.list (((List.range (min xs.length ys.length + 1)).filter (fineB xs ys bound)).map eN))) := lk_eq (by omega)
  have v15 : (r.set 20 (.val (.list (((List.range (min xs.length ys.length + 1)).filter (fineB xs ys bound)).map eN))))[15]? = some (.val (eT xs)) := lk_ne (by decide) h15
  have v16 : (r.set 20 (.val (.list (((List.range (min xs.length ys.length + 1)).filter (fineB xs ys bound)).map eN))))[16]? = some (.val (eT ys)) := lk_ne (by decide) h16
  have v9 : (r.set 20 (.val (.list (((List.range (min xs.length ys.length + 1)).filter (fineB xs ys bound)).map eN))))[9]? = some (.val (.int bound)) := lk_ne (by decide) h9
  have c := L.leasto xs ys ok ok' bound b0 b1
  rw [fine_head] at c
  generalize r.set 20 (.val (.list (((List.range (min xs.length ys.length + 1)).filter (fineB xs ys bound)).map eN))) = r2 at *
  generalize (List.range (min xs.length ys.length + 1)).filter (fineB xs ys bound) = l at *
  refine Sn.seq e0 (Sn.seq (Sn.ifsF (Ff.ne (Ev.cal (ds := [eT xs, eT ys, .int bound]) (EvA.con (Ev.var v15) (EvA.con (Ev.var v16) (EvA.con (Ev.var v9) .nil))) rfl c) (y := eON l.head?) ?_ rfl ?_)) Sn.skp)
  · cases l with
    | nil => exact Ev.ifeF (Ff.of (Ev.cmp (Ev.var v20) (Ev.lst .nil (by decide)) rfl) rfl) .cst
    | cons i t => exact Ev.ifeT (Tt.of (Ev.cmp (Ev.var v20) (Ev.lst .nil (by decide)) (ne_nl (okD_sml (sml_lst (n := 0) fun x _ => sml_int _) (by decide)))) (by simp)) (Ev.ix (Ev.var v20) .cst (ix_l (i := 0) (x := i) rfl))
  · cases l <;> rfl
theorem l13 (L : Lib cl) (ok : OkS xs) (ok' : OkS ys) (S : Kw 27 ns n kn r) (hk : kn.lookup 1 = none) (hd : DrO cl 27 ns) (h3 : r[3]? = some (.val (.int H))) (H1 : 3 ≤ H) (H2 : H ≤ 1000) (h7 : r[7]? = some (.val (clicksD xs ys))) (h8 : r[8]? = some (.val (.int (bI xs ys (List.range (min xs.length ys.length + 1)) : Nat)))) (h15 : r[15]? = some (.val (eT xs))) (h16 : r[16]? = some (.val (eT ys))) :
    ∃ n' r0 r', Kw 27 ns n' kn r0 ∧ Sn cl l_1_13 r r' ∧ Frm [9, 20] r0 r' := by
  obtain ⟨v, v0, v1, hv⟩ := hd n (2 * H + 1) (by omega)
  have S1 := S.dr (n + 1) hk
  have hb : bI xs ys (List.range (min xs.length ys.length + 1)) < min xs.length ys.length + 1 := bI_lt _ 0 (fun j hj => List.mem_range.mp hj) (by omega)
  have hfr := over_fr ok ok' (many := bI xs ys (List.range (min xs.length ys.length + 1))) (by omega) (by omega)
  have hun : Unit2 (clickO xs ys (bI xs ys (List.range (min xs.length ys.length + 1)))) := click_unit hfr (over_unit ok ok' (by omega) (by omega))
  have hfw : Fw (clickO xs ys (bI xs ys (List.range (min xs.length ys.length + 1)))) := click_fw hfr
  have w3 : W64 2 := by decide
  have ed := hv (.bin .Add (.bin .Mult (.cst (.int 2)) (.var 3)) (.cst (.int 1))) r S.d (Ev.bin (Ev.bin .cst (Ev.var h3) (mul_i (.inl w3))) .cst rfl)
  have u7 : (r.set 1 (.own (dr ns (n + 1))))[7]? = some (.val (clicksD xs ys)) := lk_ne (by decide) h7
  have u8 : (r.set 1 (.own (dr ns (n + 1))))[8]? = some (.val (.int (bI xs ys (List.range (min xs.length ys.length + 1)) : Nat))) := lk_ne (by decide) h8
  have u15 : (r.set 1 (.own (dr ns (n + 1))))[15]? = some (.val (eT xs)) := lk_ne (by decide) h15
  have u16 : (r.set 1 (.own (dr ns (n + 1))))[16]? = some (.val (eT ys)) := lk_ne (by decide) h16
  generalize r.set 1 (.own (dr ns (n + 1))) = r0 at *
  have x := Ev.ix (cl := cl) (Ev.var u7) (Ev.var u8) (ix_click hb)
  have q0 : 0 ≤ (clickO xs ys (bI xs ys (List.range (min xs.length ys.length + 1)))).1 / (clickO xs ys (bI xs ys (List.range (min xs.length ys.length + 1)))).2 := Int.ediv_nonneg hun.1 (Int.le_of_lt hfw.q0)
  have q1 : (clickO xs ys (bI xs ys (List.range (min xs.length ys.length + 1)))).1 / (clickO xs ys (bI xs ys (List.range (min xs.length ys.length + 1)))).2 ≤ 2000 := Int.ediv_le_of_le_mul hfw.q0 hun.2
  have xd : Ev cl (.bin .FloorDiv (.ix (.ix (.var 7) (.var 8)) (.cst (.int 0))) (.ix (.ix (.var 7) (.var 8)) (.cst (.int 1)))) r0 (.int ((clickO xs ys (bI xs ys (List.range (min xs.length ys.length + 1)))).1 / (clickO xs ys (bI xs ys (List.range (min xs.length ys.length + 1)))).2)) := Ev.bin (p0 x) (p1 x) (div_i hfw.q0 (by have := hfw.q1; omega))
  generalize (clickO xs ys (bI xs ys (List.range (min xs.length ys.length + 1)))).1 / (clickO xs ys (bI xs ys (List.range (min xs.length ys.length + 1)))).2 = z at *
  have ei : ev cl (.itr (.tup (.con (.cst (.int 0)) (.con (.cal 27 (.rfc 1 (.con (.bin .Add (.bin .Mult (.cst (.int 2)) (.var 3)) (.cst (.int 1))) .nil))) (.con (.bin .FloorDiv (.ix (.ix (.var 7) (.var 8)) (.cst (.int 0))) (.ix (.ix (.var 7) (.var 8)) (.cst (.int 1)))) (.con (.cst (.int 2000)) .nil)))))) r = .vals ([0, v, z, 2000].map PyData.int) r0 := by
    have e1 : ev cl (.tup (.con (.cst (.int 0)) (.con (.cal 27 (.rfc 1 (.con (.bin .Add (.bin .Mult (.cst (.int 2)) (.var 3)) (.cst (.int 1))) .nil))) (.con (.bin .FloorDiv (.ix (.ix (.var 7) (.var 8)) (.cst (.int 0))) (.ix (.ix (.var 7) (.var 8)) (.cst (.int 1)))) (.con (.cst (.int 2000)) .nil))))) r = .val (.tuple ([0, v, z, 2000].map PyData.int)) r0 :=
      callv (con_v (a := .cst (.int 0)) rfl (con_v ed (con_v xd.h (con_v (a := .cst (.int 2000)) rfl rfl)))) rfl
    show oIt _ r = _
    unfold oIt
    rw [e1]; rfl
  obtain ⟨r', e, f, _⟩ := for_walkV (cl := cl) (i := 9) (b := .seq l_1_13_0 (.seq l_1_13_1 .skp)) [9, 20] (fun _ _ => True) ei trivial (by
    intro pre b post r1 he f _
    have hb : 0 ≤ b ∧ b ≤ 2000 := by
      have : b ∈ [0, v, z, 2000] := by rw [he]; simp
      simp only [List.mem_cons, List.not_mem_nil, or_false] at this
      rcases this with rfl | rfl | rfl | rfl
      · decide
      · omega
      · exact ⟨q0, q1⟩
      · decide
    have S2 := (S1.none.fr f).set 9 (.int b)
    have hlen := (S1.none.fr f).len
    exact ⟨_, l13b L ok ok' hb.1 hb.2 S2 (lk_ne (by decide) ((f.at (by decide)).trans u7)) (lk_eq (by omega)) (lk_ne (by decide) ((f.at (by decide)).trans u15)) (lk_ne (by decide) ((f.at (by decide)).trans u16)), ((Frm.refl _ _).set (by decide) _).set (by decide) _, trivial⟩)
  exact ⟨n + 1, r0, r', S1, e, f⟩
theorem l14 (S : Kw 27 ns n kn r) (hk : kn.lookup 1 = none) (hd : DrO cl 27 ns) : ∃ n', ∃ least : Nat, ∃ r', (1 ≤ least ∧ least ≤ 6) ∧ Sn cl l_1_14 r r' ∧ Kw 27 ns n' ((10, .int (least : Nat)) :: kn) r' := by
  obtain ⟨w, w0, w1, hw⟩ := hd n 6 (by omega)
  have ew : 1 + w = ((1 + w).toNat : Int) := by omega
  refine ⟨n + 1, (1 + w).toNat, _, by omega, Sn.set' (bin_v (x := .int 1) (y := .int w) rfl (hw _ _ S.d .cst) rfl), ?_⟩
  rw [← ew]
  exact (S.dr (n + 1) hk).set 10 _
theorem l15 (ok : OkS xs) (a0 : 1 ≤ least) (a1 : least ≤ 39) (S : Kw 27 ns n kn r) (h10 : r[10]? = some (.val (.int (least : Nat)))) (h15 : r[15]? = some (.val (eT xs))) : Sn cl l_1_15 r (r.set 11 (.val (.list (((loopsP xs least).mergeSort le3).map eR3)))) := by
  have hlen := S.len
  have hl := ok.len
  have hc : (loopsP xs least).length ≤ lim := by
    have := loops_len (least := least) hl
    rw [← loops_map, List.length_map] at this
    exact this
  have hf : ((List.range xs.length).map fun b => (rgN (b + least) (xs.length + 1)).map fun e => (PyData.tuple [.int (ab (xs.getD (e - 1) default - xs.getD b default)), .int (b : Nat), .int (e : Nat)])).flatten = (loopsP xs least).map eR3 := by
    rw [loops_map, List.flatMap_def]
  refine Sn.set (Ev.bi (EvA.con (x := .list ((loopsP xs least).map eR3)) ?_ .nil) (sorted3 _ hc))
  rw [← hf]
  refine Ev.bi (EvA.con (Ev.lc1Y (en := eN) (gg := fun b => .list ((rgN (b + least) (xs.length + 1)).map fun e => .tuple [.int (ab (xs.getD (e - 1) default - xs.getD b default)), .int (b : Nat), .int (e : Nat)])) (EvI.rg1 (n := xs.length) (Ev.bi (EvA.con (Ev.var h15) .nil) len_t) (by show _ ≤ 1000000; omega)) (Kw.ok (by assumption) (by decide)) (fun b hb => ?_) (by rw [List.length_range]; show _ ≤ 1000000; omega)) (EvA.con (Ev.lst .nil (by decide)) .nil)) (sumL_c ?_)
  · have hb := List.mem_range.mp hb
    have v12 : (r.set 12 (.val (eN b)))[12]? = some (.val (.int (b : Nat))) := lk_eq (by omega)
    refine Ev.lc1Y (en := eN) (EvI.rgN (m := b + least) (n := xs.length + 1) (Ev.bin (x := .int (b : Nat)) (Ev.var v12) (Ev.var (lk_ne (by decide) h10)) rfl) (Ev.bin (Ev.bi (EvA.con (Ev.var (lk_ne (by decide) h15)) .nil) len_t) .cst rfl) (by omega) (by omega)) (okV_set (Kw.ok (by assumption) (by decide))) (fun e he => ?_) (by rw [rgN_len]; show _ ≤ 1000000; omega)
    have he := mem_rgN.mp he
    have e9 : fIx (eT xs) (.int ((e : Int) - 1)) = some (.int (xs.getD (e - 1) default)) := by
      rw [show (e : Int) - 1 = ((e - 1 : Nat) : Int) by omega]
      exact ix_tD (by omega)
    have j12 : ((r.set 12 (.val (eN b))).set 13 (.val (eN e)))[12]? = some (.val (.int (b : Nat))) := lk_ne (by decide) v12
    have j13 : ((r.set 12 (.val (eN b))).set 13 (.val (eN e)))[13]? = some (.val (.int (e : Nat))) := lk_eq (by rw [List.length_set]; omega)
    have j15 : ((r.set 12 (.val (eN b))).set 13 (.val (eN e)))[15]? = some (.val (eT xs)) := lk_ne (by decide) (lk_ne (by decide) h15)
    exact Ev.tup (EvA.con (Ev.bi (EvA.con (Ev.bin (Ev.ix (Ev.var j15) (Ev.bin (Ev.var j13) .cst rfl) e9) (Ev.ix (Ev.var j15) (Ev.var j12) (ix_tD hb)) rfl) .nil) abs_ab) (EvA.con (Ev.var j12) (EvA.con (Ev.var j13) .nil))) (by simp [lim])
  · rw [hf, List.length_map]; exact hc
theorem l16 (L : Lib cl) (ok : OkS xs) (a0 : 1 ≤ least) (a1 : least ≤ 39) (h10 : r[10]? = some (.val (.int (least : Nat)))) (h11 : r[11]? = some (.val (.list (((loopsP xs least).mergeSort le3).map eR3)))) (h15 : r[15]? = some (.val (eT xs))) : Sn cl l_1_16 r r := by
  refine Sn.ifsF (Ff.ne (Ev.cal (ds := [eT xs, .int (least : Nat)]) (EvA.con (Ev.var h15) (EvA.con (Ev.var h10) .nil)) rfl (L.bloop xs ok least a0 a1)) (y := loopD xs least) ?_ rfl ?_)
  · unfold loopD
    have et := Ev.cmp (cl := cl) (c := .NotEq) (Ev.var h11) (Ev.lst .nil (by decide)) (ne_nl (okD_sml (sml_lst (n := 1) fun x _ => sml_r3 x) (by decide)))
    have e : decide (((loopsP xs least).mergeSort le3).map eR3 = []) = decide (loopsP xs least = []) := by
      rw [decide_eq_decide, List.map_eq_nil_iff]; exact sorted_nil
    rw [e] at et
    by_cases q : loopsP xs least = []
    · rw [if_pos q]
      exact Ev.ifeF (Ff.of et (by simp [q])) .cst
    · rw [if_neg q]
      exact Ev.ifeT (Tt.of et (by simp [q])) (Ev.ix (Ev.var h11) .cst (sorted_head q))
  · unfold loopD
    split
    · rfl
    · exact okD_sml (sml_r3 _) (by decide)
theorem l17 (ok : OkS xs) (S : Kw 27 ns n kn r) (hk : kn.lookup 1 = none) (hd : DrO cl 27 ns) (h15 : r[15]? = some (.val (eT xs))) : ∃ n' b r', (0 ≤ b ∧ b < (xs.length : Int)) ∧ Sn cl l_1_17 r r' ∧ Kw 27 ns n' ((12, .int b) :: kn) r' := by
  have p1 := ok.pos
  obtain ⟨v, v0, v1, hv⟩ := hd n (xs.length : Int) (by omega)
  exact ⟨n + 1, v, _, ⟨v0, v1⟩, Sn.set' (hv _ r S.d (Ev.bi (EvA.con (Ev.var h15) .nil) len_t)), (S.dr (n + 1) hk).set 12 _⟩
theorem l18 (ok : OkS xs) {b : Int} (b0 : 0 ≤ b) (b1 : b < (xs.length : Int)) (S : Kw 27 ns n kn r) (hk : kn.lookup 1 = none) (hd : DrO cl 27 ns) (h12 : r[12]? = some (.val (.int b))) (h15 : r[15]? = some (.val (eT xs))) : ∃ n' e r', (b + 1 ≤ e ∧ e ≤ (xs.length : Int)) ∧ Sn cl l_1_18 r r' ∧ Kw 27 ns n' ((13, .int e) :: kn) r' := by
  obtain ⟨v, v0, v1, hv⟩ := hd n ((xs.length : Int) - b) (by omega)
  exact ⟨n + 1, b + 1 + v, _, by omega, Sn.set' (bin_v (x := .int (b + 1)) (y := .int v) (Ev.bin (Ev.var h12) .cst rfl).h (hv _ r S.d (Ev.bin (Ev.bi (EvA.con (Ev.var h15) .nil) len_t) (Ev.var h12) rfl)) rfl), (S.dr (n + 1) hk).set 13 _⟩
theorem l19 (ok : OkS xs) {b e : Int} (e0 : b + 1 ≤ e) (b0 : 0 ≤ b) (e1 : e ≤ (xs.length : Int)) (S : Kw 27 ns n kn r) (hk : kn.lookup 1 = none) (hd : DrO cl 27 ns) (h12 : r[12]? = some (.val (.int b))) (h13 : r[13]? = some (.val (.int e))) (h15 : r[15]? = some (.val (eT xs))) : ∃ n' many r', (0 ≤ many ∧ many ≤ 40 ∧ (xs.length : Int) + many * (e - b) ≤ 40) ∧ Sn cl l_1_19 r r' ∧ Kw 27 ns n' ((14, .int many) :: kn) r' := by
  have hl := ok.len
  have q0 : 0 ≤ (40 - (xs.length : Int)) / (e - b) := Int.ediv_nonneg (by omega) (by omega)
  have q1 : (40 - (xs.length : Int)) / (e - b) * (e - b) ≤ 40 - (xs.length : Int) := Int.ediv_mul_le _ (by omega)
  have q2 : (40 - (xs.length : Int)) / (e - b) ≤ 40 - (xs.length : Int) := Int.ediv_le_self _ (by omega)
  obtain ⟨v, v0, v1, hv⟩ := hd n ((40 - (xs.length : Int)) / (e - b) + 1) (by omega)
  refine ⟨n + 1, v, _, ⟨v0, by omega, ?_⟩, Sn.set' (hv _ r S.d (Ev.bin (Ev.bin (Ev.bin .cst (Ev.bi (EvA.con (Ev.var h15) .nil) len_t) rfl) (Ev.bin (Ev.var h13) (Ev.var h12) rfl) (div_i (by omega) (by omega))) .cst rfl)), (S.dr (n + 1) hk).set 14 _⟩
  have : v * (e - b) ≤ (40 - (xs.length : Int)) / (e - b) * (e - b) := Int.mul_le_mul_of_nonneg_right (by omega) (by omega)
  omega
theorem l20 (L : Lib cl) (ok : OkS xs) {b e many : Int} (b0 : 0 ≤ b) (b1 : b < (xs.length : Int)) (e0 : b + 1 ≤ e) (e1 : e ≤ (xs.length : Int)) (m0 : 0 ≤ many) (m1 : many ≤ 40) (hm : (xs.length : Int) + many * (e - b) ≤ 40) (h12 : r[12]? = some (.val (.int b))) (h13 : r[13]? = some (.val (.int e))) (h14 : r[14]? = some (.val (.int many))) (h15 : r[15]? = some (.val (eT xs))) : Sn cl l_1_20 r r := by
  have h2 := ok.len
  have l1 := cutL_le xs none (some e)
  have l2 := cutL_le xs (some b) (some e)
  have l3 := cutL_le xs (some e) none
  have l4 : (List.replicate many.toNat ((cutL xs (some b) (some e)).map PyData.int)).flatten.length ≤ 1600 := by
    rw [List.length_flatten, List.map_replicate, List.sum_replicate_nat, List.length_map]
    exact Nat.le_trans (Nat.mul_le_mul (show many.toNat ≤ 40 by omega) (Nat.le_trans l2 h2)) (by decide)
  have fm : binF .Mult (.tuple ((cutL xs (some b) (some e)).map .int)) (.int many) = some (.tuple (List.replicate many.toNat ((cutL xs (some b) (some e)).map .int)).flatten) := by
    show (if -1000000 ≤ many ∧ many ≤ 1000 ∧ ((cutL xs (some b) (some e)).map PyData.int).length ≤ 1000 then _ else none) = _
    rw [if_pos ⟨by omega, by omega, by simp; omega⟩]
  refine Sn.ifsF (Ff.ne (Ev.cal (ds := [eT xs, .int b, .int e, .int many]) (EvA.con (Ev.var h15) (EvA.con (Ev.var h12) (EvA.con (Ev.var h13) (EvA.con (Ev.var h14) .nil)))) rfl (L.looped xs ok b e many b0 (by omega) e0 e1 m0 m1 hm))
    (Ev.bin (Ev.bin (Ev.sl (Ev.var h15) .nop (EvP.pt (Ev.var h13)) sl_t) (Ev.bin (Ev.sl (Ev.var h15) (EvP.pt (Ev.var h12)) (EvP.pt (Ev.var h13)) sl_t) (Ev.var h14) fm) (add_t (by rw [List.length_map]; simp only [lim]; omega))) (Ev.sl (Ev.var h15) (EvP.pt (Ev.var h13)) .nop sl_t) (add_t (by rw [List.length_append, List.length_map, List.length_map]; simp only [lim]; omega))) rfl ?_)
  have e9 : (List.replicate many.toNat ((cutL xs (some b) (some e)).map PyData.int)).flatten = ((List.replicate many.toNat (cutL xs (some b) (some e))).flatten).map PyData.int := by
    rw [List.map_flatten, List.map_replicate]
  rw [e9, ← List.map_append, ← List.map_append]
  exact ok_eT _
theorem l21 (ok : OkS xs) (S : Kw 27 ns n kn r) (hk : kn.lookup 1 = none) (hd : DrO cl 27 ns) (h15 : r[15]? = some (.val (eT xs))) : ∃ n' top r', (0 ≤ top ∧ top ≤ 1000) ∧ Sn cl l_1_21 r r' ∧ Kw 27 ns n' ((22, .int (mostP xs)) :: (21, .int top) :: kn) r' := by
  have hl := ok.len
  obtain ⟨v, v0, v1, hv⟩ := hd n 1001 (by decide)
  have S1 := S.dr (n + 1) hk
  have u15 : (r.set 1 (.own (dr ns (n + 1))))[15]? = some (.val (eT xs)) := lk_ne (by decide) h15
  have hlen := S1.len
  have e2 : Ev cl (.bi .max (.con (.lc [26] (.gn 26) (.itr (.var 15)) .yes (.bi .abs (.con (.var 26) .nil))) .nil)) (r.set 1 (.own (dr ns (n + 1)))) (.int (mostP xs)) := by
    unfold mostP
    generalize r.set 1 (.own (dr ns (n + 1))) = r0 at *
    refine Ev.bi (EvA.con (Ev.lc1Y (en := PyData.int) (xs := xs) (EvI.gen (Ev.var u15) kof_t) (Kw.ok S1 (by decide)) (fun x _ => Ev.bi (EvA.con (Ev.var (lk_eq (by omega))) .nil) abs_ab) (by show _ ≤ 1000000; omega)) .nil) (max_ne (ne_of ok))
  exact ⟨n + 1, v, _, by omega, Sn.par' (con_v (hv _ r S.d .cst) (con_v e2.h rfl)) rfl, (S1.set 21 _).set 22 _⟩
theorem l22 (L : Lib cl) (ok : OkS xs) {top : Int} (t0 : 0 ≤ top) (t1 : top ≤ 1000) (S : Kw 27 ns n kn r) (h15 : r[15]? = some (.val (eT xs))) (h21 : r[21]? = some (.val (.int top))) (h22 : r[22]? = some (.val (.int (mostP xs)))) : Sn cl l_1_22 r r := by
  have hl := ok.len
  have hlen := S.len
  have hm := most_le ok
  have w : W64 top := w64 (by omega) (by omega)
  refine Sn.ifsF (Ff.ne (Ev.cal (ds := [eT xs, .int top]) (EvA.con (Ev.var h15) (EvA.con (Ev.var h21) .nil)) rfl (L.scaled xs ok top t0 t1)) (Ev.bi (EvA.con (x := .list ((scaleP xs top).map eP)) ?_ .nil) tup_l) rfl (okD_sml (n := 2) (sml_tup fun p _ => sml_tup2 (n := 0) (sml_int _) (sml_int _)) (by decide)))
  unfold scaleP
  rw [List.map_map]
  refine Ev.lc1Y (en := PyData.int) (EvI.gen (Ev.var h15) kof_t) (Kw.ok S (by decide)) (fun x hx => ?_) (by show _ ≤ 1000000; omega)
  have v26 : (r.set 26 (.val (.int x)))[26]? = some (.val (.int x)) := lk_eq (by omega)
  have v21 : (r.set 26 (.val (.int x)))[21]? = some (.val (.int top)) := lk_ne (by decide) h21
  have v22 : (r.set 26 (.val (.int x)))[22]? = some (.val (.int (mostP xs))) := lk_ne (by decide) h22
  have et : Ev cl (.cmp .Gt (.var 22) (.cst (.int 0))) (r.set 26 (.val (.int x))) (.bool (decide (0 < mostP xs))) := Ev.cmp (c := .Gt) (Ev.var v22) .cst rfl
  show Ev cl _ (r.set 26 (.val (.int x))) (eP (if 0 < mostP xs then leanI (x * top) (mostP xs) else (0, 1)))
  by_cases q : 0 < mostP xs
  · rw [if_pos q]
    exact Ev.ifeT (Tt.of et (decide_eq_true q)) (Ev.cal (ds := [.int (x * top), .int (mostP xs)]) (EvA.con (Ev.bin (Ev.var v26) (Ev.var v21) (mul_i (.inr w))) (EvA.con (Ev.var v22) .nil)) rfl (L.mine _ _ q (by omega)))
  · rw [if_neg q]
    exact Ev.ifeF (Ff.of et (decide_eq_false q)) (Ev.tup (EvA.con .cst (EvA.con .cst .nil)) (by simp [lim]))
theorem turn (L : Lib cl) (hd : DrO cl 27 ns) (hp : PkI cl 28 ns) (hs : SmO cl 29 ns) (S : Kw 27 ns n [] r) : ∃ n' r', ev cl (.seq l_1_0 (.seq l_1_1 (.seq l_1_2 (.seq l_1_3 (.seq l_1_4 (.seq l_1_5 (.seq l_1_6 (.seq l_1_7 (.seq l_1_8 (.seq l_1_9 (.seq l_1_10 (.seq l_1_11 (.seq l_1_12 (.seq l_1_13 (.seq l_1_14 (.seq l_1_15 (.seq l_1_16 (.seq l_1_17 (.seq l_1_18 (.seq l_1_19 (.seq l_1_20 (.seq l_1_21 (.seq l_1_22 .skp))))))))))))))))))))))) r = .nxt r' ∧ Kw 27 ns n' [] r' := by
  obtain ⟨n0, H, r0, ⟨H1, H2⟩, e0, S⟩ := l0 (cl := cl) S rfl hp
  obtain ⟨n1, xs, ys, r1, ok, hx, ok', hy, e1, S⟩ := l1 S rfl hs (S.k 3 _ rfl) H1 H2
  have e2 := l2 (cl := cl) ok S (S.k 15 _ rfl)
  have S := S.set 4 (.list ((stepsP xs).map .int))
  have e3 := l3 L ok (S.k 4 _ rfl) (S.k 15 _ rfl)
  have e4 := l4 (cl := cl) ok ok' S (S.k 15 _ rfl) (S.k 16 _ rfl)
  have S := S.set 5 (.list (((cutsP xs ys).mergeSort le3).map eR3))
  have e5 := l5 L ok ok' (S.k 5 _ rfl) (S.k 15 _ rfl) (S.k 16 _ rfl)
  obtain ⟨n6, last, first, r6, ⟨a0, a1⟩, ⟨b0, b1⟩, e6, S⟩ := l6 ok ok' S rfl hd (S.k 15 _ rfl) (S.k 16 _ rfl)
  have e7 := l7 L ok ok' hx hy a0 a1 b0 b1 (S.k 15 _ rfl) (S.k 16 _ rfl) (S.k 17 _ rfl) (S.k 18 _ rfl)
  have e8 := l8 L ok ok' S (S.k 15 _ rfl) (S.k 16 _ rfl)
  have S := S.set 6 (rowsD xs ys)
  have e9 := l9 L ok ok' S (S.k 6 _ rfl)
  have S := S.set 7 (clicksD xs ys)
  have e10 := Sn.set (cl := cl) (i := 8) (r := (r6.set 6 (.val (rowsD xs ys))).set 7 (.val (clicksD xs ys))) (.cst (d := .int 0))
  have S := S.set 8 (.int (0 : Nat))
  obtain ⟨r11, e11, f11, h8⟩ := l11 L ok ok' S (S.k 6 _ rfl) (S.k 7 _ rfl) (S.k 8 _ rfl) (S.k 15 _ rfl) (S.k 16 _ rfl)
  have S := ((S.sub (kn' := [(7, clicksD xs ys), (16, eT ys), (15, eT xs), (3, .int H)]) ⟨rfl, rfl, rfl, rfl, trivial⟩).fr f11).add 8 _ h8
  have e12 := l12 L ok ok' (S.k 7 _ rfl) (S.k 8 _ rfl) (S.k 15 _ rfl) (S.k 16 _ rfl)
  obtain ⟨n13, r130, r13, S, e13, f13⟩ := l13 L ok ok' S rfl hd (S.k 3 _ rfl) H1 H2 (S.k 7 _ rfl) (S.k 8 _ rfl) (S.k 15 _ rfl) (S.k 16 _ rfl)
  have S := S.fr f13
  obtain ⟨n14, least, r14, ⟨c0, c1⟩, e14, S⟩ := l14 S rfl hd
  have e15 := l15 (cl := cl) ok c0 (by omega) S (S.k 10 _ rfl) (S.k 15 _ rfl)
  have S := S.set 11 (.list (((loopsP xs least).mergeSort le3).map eR3))
  have e16 := l16 L ok c0 (by omega) (S.k 10 _ rfl) (S.k 11 _ rfl) (S.k 15 _ rfl)
  obtain ⟨n17, b, r17, ⟨d0, d1⟩, e17, S⟩ := l17 ok S rfl hd (S.k 15 _ rfl)
  obtain ⟨n18, e, r18, ⟨g0, g1⟩, e18, S⟩ := l18 ok d0 d1 S rfl hd (S.k 12 _ rfl) (S.k 15 _ rfl)
  obtain ⟨n19, many, r19, ⟨m0, m1, m2⟩, e19, S⟩ := l19 ok g0 d0 g1 S rfl hd (S.k 12 _ rfl) (S.k 13 _ rfl) (S.k 15 _ rfl)
  have e20 := l20 L ok d0 d1 g0 g1 m0 m1 m2 (S.k 12 _ rfl) (S.k 13 _ rfl) (S.k 14 _ rfl) (S.k 15 _ rfl)
  obtain ⟨n21, top, r21, ⟨t0, t1⟩, e21, S⟩ := l21 ok S rfl hd (S.k 15 _ rfl)
  have e22 := l22 L ok t0 t1 S (S.k 15 _ rfl) (S.k 21 _ rfl) (S.k 22 _ rfl)
  exact ⟨_, _, Sn.seq e0 (Sn.seq e1 (Sn.seq e2 (Sn.seq e3 (Sn.seq e4 (Sn.seq e5 (Sn.seq e6 (Sn.seq e7 (Sn.seq e8 (Sn.seq e9 (Sn.seq e10 (Sn.seq e11 (Sn.seq e12 (Sn.seq e13 (Sn.seq e14 (Sn.seq e15 (Sn.seq e16 (Sn.seq e17 (Sn.seq e18 (Sn.seq e19 (Sn.seq e20 (Sn.seq e21 (Sn.seq e22 Sn.skp)))))))))))))))))))))), S.none⟩
end
theorem drw : Draws fds 24 := ⟨⟨fd24, rfl, rfl, rfl⟩, ⟨fd25, rfl, rfl, rfl⟩, ⟨fd26, rfl, rfl, rfl⟩, ⟨fd27, rfl, rfl, rfl⟩⟩
theorem law_true : ∀ ns : List Int, ns.length ≤ 63 → ∃ r, (fun as : Rho => ev (calls fds 20) fd33.t (as ++ List.replicate (fd33.N.length - as.length) .un)) [.scr ns] = .ret (.bool true) r := by
  intro ns hl
  have hd : DrO (calls fds 20) 27 ns := drO_ok drw 17 ns
  have hp : PkI (calls fds 20) 28 ns := fun n xs hx hl => pick_io drw (jp := 28) (f := fd28) rfl rfl rfl 16 ns n xs hx hl
  have hs : SmO (calls fds 20) 29 ns := smO_ok drw (jp := 28) (js := 29) (f := fd28) (g := fd29) rfl rfl rfl rfl rfl rfl 15 ns
  have L := lib_ok
  generalize calls fds 20 = cl at hd hp hs L
  have e0 : Sn cl l_0 (.scr ns :: List.replicate 26 .un) (.scr ns :: .own (dr ns 0) :: List.replicate 25 .un) := by
    show ev cl l_0 _ = _
    simp [lim, ev, evG, flT, oBo, oSeq, oRet, oSet, oIfS, oAnd, oOr, oNot, oIf, oOp1, oOp2, oVar, oC, oCall, oCons, oNil, oChain, oNxt, oCallF, refs, mkArgs, putBack, oIt, kOf, Out.bnd, Out.bnds, Out.bndb, optO, cmpF, binF, fLt, fLe, fGt, fGe, fIsa, isaB, BF.f, fLen, fInt, fNeg, fTup, fLst, fAdd, fSub, l_0, oSetO, oScr, cut63 ns hl, dr]
  obtain ⟨n', r', e1, S⟩ := Kw.turns (cl := cl) (i := 2) (it := .rg1 (.con (.cst (.int 2)) .nil)) (EvI.rg1 (n := 2) .cst (by decide)) (Kw.init 25 ns) (fun a n1 r1 _ S => turn L hd hp hs ((S.set 2 (eN a)).none))
  exact ⟨_, Sn.seq e0 (Sn.seq e1 (seqR (retV .cst)))⟩
end K76

namespace K76
open PySem L2 Py
theorem all_mk {l : PySem.W.OpenLaw} {w : World} {K : PySem.W.Frag} {h : Heap} {mg : Str → Option Value} {fa : Addr} {cls : Nat → Addr} (X : K.In h) (G : h.Ns mainGlobals mg) (hfa : mg ("law" : Str) = some (.ref fa))
    {f0 : Addr} {oc0 kV0 dc0 cd0 pm0 ct0 : Value} {od0 an0 : Option Addr} {sl0 : Array (Option Value)} (a0 : PySem.W.nsIn K mainGlobals ("is_whole" : Str) = some (some (.ref f0))) (l0 : K.lookup f0 = some ⟨oc0, od0, .func (PySem.W.fnOf ("is_whole" : Str) ("is_whole" : Str) (defArgs (top 6)) (defBody (top 6)) (defScope (top 6)) .none kV0 dc0 pm0 an0 cd0 ct0), sl0⟩) (c0 : PySem.W.codeIn K cd0 ("is_whole" : Str) = true) (k0 : PySem.W.keepIn K (.ref f0) = true)
    {f1 : Addr} {oc1 kV1 dc1 cd1 pm1 ct1 : Value} {od1 an1 : Option Addr} {sl1 : Array (Option Value)} (a1 : PySem.W.nsIn K mainGlobals ("is_from" : Str) = some (some (.ref f1))) (l1 : K.lookup f1 = some ⟨oc1, od1, .func (PySem.W.fnOf ("is_from" : Str) ("is_from" : Str) (defArgs (top 7)) (defBody (top 7)) (defScope (top 7)) .none kV1 dc1 pm1 an1 cd1 ct1), sl1⟩) (c1 : PySem.W.codeIn K cd1 ("is_from" : Str) = true) (k1 : PySem.W.keepIn K (.ref f1) = true)
    {f2 : Addr} {oc2 kV2 dc2 cd2 pm2 ct2 : Value} {od2 an2 : Option Addr} {sl2 : Array (Option Value)} (a2 : PySem.W.nsIn K mainGlobals ("common" : Str) = some (some (.ref f2))) (l2 : K.lookup f2 = some ⟨oc2, od2, .func (PySem.W.fnOf ("common" : Str) ("common" : Str) (defArgs (top 8)) (defBody (top 8)) (defScope (top 8)) .none kV2 dc2 pm2 an2 cd2 ct2), sl2⟩) (c2 : PySem.W.codeIn K cd2 ("common" : Str) = true) (k2 : PySem.W.keepIn K (.ref f2) = true)
    {f3 : Addr} {oc3 kV3 dc3 cd3 pm3 ct3 : Value} {od3 an3 : Option Addr} {sl3 : Array (Option Value)} (a3 : PySem.W.nsIn K mainGlobals ("lean" : Str) = some (some (.ref f3))) (l3 : K.lookup f3 = some ⟨oc3, od3, .func (PySem.W.fnOf ("lean" : Str) ("lean" : Str) (defArgs (top 11)) (defBody (top 11)) (defScope (top 11)) .none kV3 dc3 pm3 an3 cd3 ct3), sl3⟩) (c3 : PySem.W.codeIn K cd3 ("lean" : Str) = true) (k3 : PySem.W.keepIn K (.ref f3) = true)
    {f4 : Addr} {oc4 kV4 dc4 cd4 pm4 ct4 : Value} {od4 an4 : Option Addr} {sl4 : Array (Option Value)} (a4 : PySem.W.nsIn K mainGlobals ("plus" : Str) = some (some (.ref f4))) (l4 : K.lookup f4 = some ⟨oc4, od4, .func (PySem.W.fnOf ("plus" : Str) ("plus" : Str) (defArgs (top 12)) (defBody (top 12)) (defScope (top 12)) .none kV4 dc4 pm4 an4 cd4 ct4), sl4⟩) (c4 : PySem.W.codeIn K cd4 ("plus" : Str) = true) (k4 : PySem.W.keepIn K (.ref f4) = true)
    {f5 : Addr} {oc5 kV5 dc5 cd5 pm5 ct5 : Value} {od5 an5 : Option Addr} {sl5 : Array (Option Value)} (a5 : PySem.W.nsIn K mainGlobals ("minus" : Str) = some (some (.ref f5))) (l5 : K.lookup f5 = some ⟨oc5, od5, .func (PySem.W.fnOf ("minus" : Str) ("minus" : Str) (defArgs (top 13)) (defBody (top 13)) (defScope (top 13)) .none kV5 dc5 pm5 an5 cd5 ct5), sl5⟩) (c5 : PySem.W.codeIn K cd5 ("minus" : Str) = true) (k5 : PySem.W.keepIn K (.ref f5) = true)
    {f6 : Addr} {oc6 kV6 dc6 cd6 pm6 ct6 : Value} {od6 an6 : Option Addr} {sl6 : Array (Option Value)} (a6 : PySem.W.nsIn K mainGlobals ("times" : Str) = some (some (.ref f6))) (l6 : K.lookup f6 = some ⟨oc6, od6, .func (PySem.W.fnOf ("times" : Str) ("times" : Str) (defArgs (top 14)) (defBody (top 14)) (defScope (top 14)) .none kV6 dc6 pm6 an6 cd6 ct6), sl6⟩) (c6 : PySem.W.codeIn K cd6 ("times" : Str) = true) (k6 : PySem.W.keepIn K (.ref f6) = true)
    {f7 : Addr} {oc7 kV7 dc7 cd7 pm7 ct7 : Value} {od7 an7 : Option Addr} {sl7 : Array (Option Value)} (a7 : PySem.W.nsIn K mainGlobals ("less" : Str) = some (some (.ref f7))) (l7 : K.lookup f7 = some ⟨oc7, od7, .func (PySem.W.fnOf ("less" : Str) ("less" : Str) (defArgs (top 15)) (defBody (top 15)) (defScope (top 15)) .none kV7 dc7 pm7 an7 cd7 ct7), sl7⟩) (c7 : PySem.W.codeIn K cd7 ("less" : Str) = true) (k7 : PySem.W.keepIn K (.ref f7) = true)
    {f8 : Addr} {oc8 kV8 dc8 cd8 pm8 ct8 : Value} {od8 an8 : Option Addr} {sl8 : Array (Option Value)} (a8 : PySem.W.nsIn K mainGlobals ("size" : Str) = some (some (.ref f8))) (l8 : K.lookup f8 = some ⟨oc8, od8, .func (PySem.W.fnOf ("size" : Str) ("size" : Str) (defArgs (top 16)) (defBody (top 16)) (defScope (top 16)) .none kV8 dc8 pm8 an8 cd8 ct8), sl8⟩) (c8 : PySem.W.codeIn K cd8 ("size" : Str) = true) (k8 : PySem.W.keepIn K (.ref f8) = true)
    {f9 : Addr} {oc9 kV9 dc9 cd9 pm9 ct9 : Value} {od9 an9 : Option Addr} {sl9 : Array (Option Value)} (a9 : PySem.W.nsIn K mainGlobals ("greatest" : Str) = some (some (.ref f9))) (l9 : K.lookup f9 = some ⟨oc9, od9, .func (PySem.W.fnOf ("greatest" : Str) ("greatest" : Str) (defArgs (top 17)) (defBody (top 17)) (defScope (top 17)) .none kV9 dc9 pm9 an9 cd9 ct9), sl9⟩) (c9 : PySem.W.codeIn K cd9 ("greatest" : Str) = true) (k9 : PySem.W.keepIn K (.ref f9) = true)
    {f10 : Addr} {oc10 kV10 dc10 cd10 pm10 ct10 : Value} {od10 an10 : Option Addr} {sl10 : Array (Option Value)} (a10 : PySem.W.nsIn K mainGlobals ("is_sample_row" : Str) = some (some (.ref f10))) (l10 : K.lookup f10 = some ⟨oc10, od10, .func (PySem.W.fnOf ("is_sample_row" : Str) ("is_sample_row" : Str) (defArgs (top 20)) (defBody (top 20)) (defScope (top 20)) .none kV10 dc10 pm10 an10 cd10 ct10), sl10⟩) (c10 : PySem.W.codeIn K cd10 ("is_sample_row" : Str) = true) (k10 : PySem.W.keepIn K (.ref f10) = true)
    {f11 : Addr} {oc11 kV11 dc11 cd11 pm11 ct11 : Value} {od11 an11 : Option Addr} {sl11 : Array (Option Value)} (a11 : PySem.W.nsIn K mainGlobals ("check_sample_row" : Str) = some (some (.ref f11))) (l11 : K.lookup f11 = some ⟨oc11, od11, .func (PySem.W.fnOf ("check_sample_row" : Str) ("check_sample_row" : Str) (defArgs (top 21)) (defBody (top 21)) (defScope (top 21)) .none kV11 dc11 pm11 an11 cd11 ct11), sl11⟩) (c11 : PySem.W.codeIn K cd11 ("check_sample_row" : Str) = true) (k11 : PySem.W.keepIn K (.ref f11) = true)
    {f12 : Addr} {oc12 kV12 dc12 cd12 pm12 ct12 : Value} {od12 an12 : Option Addr} {sl12 : Array (Option Value)} (a12 : PySem.W.nsIn K mainGlobals ("check_both" : Str) = some (some (.ref f12))) (l12 : K.lookup f12 = some ⟨oc12, od12, .func (PySem.W.fnOf ("check_both" : Str) ("check_both" : Str) (defArgs (top 22)) (defBody (top 22)) (defScope (top 22)) .none kV12 dc12 pm12 an12 cd12 ct12), sl12⟩) (c12 : PySem.W.codeIn K cd12 ("check_both" : Str) = true) (k12 : PySem.W.keepIn K (.ref f12) = true)
    {f13 : Addr} {oc13 kV13 dc13 cd13 pm13 ct13 : Value} {od13 an13 : Option Addr} {sl13 : Array (Option Value)} (a13 : PySem.W.nsIn K mainGlobals ("greatest_step" : Str) = some (some (.ref f13))) (l13 : K.lookup f13 = some ⟨oc13, od13, .func (PySem.W.fnOf ("greatest_step" : Str) ("greatest_step" : Str) (defArgs (top 23)) (defBody (top 23)) (defScope (top 23)) .none kV13 dc13 pm13 an13 cd13 ct13), sl13⟩) (c13 : PySem.W.codeIn K cd13 ("greatest_step" : Str) = true) (k13 : PySem.W.keepIn K (.ref f13) = true)
    {f14 : Addr} {oc14 kV14 dc14 cd14 pm14 ct14 : Value} {od14 an14 : Option Addr} {sl14 : Array (Option Value)} (a14 : PySem.W.nsIn K mainGlobals ("best_cut" : Str) = some (some (.ref f14))) (l14 : K.lookup f14 = some ⟨oc14, od14, .func (PySem.W.fnOf ("best_cut" : Str) ("best_cut" : Str) (defArgs (top 24)) (defBody (top 24)) (defScope (top 24)) .none kV14 dc14 pm14 an14 cd14 ct14), sl14⟩) (c14 : PySem.W.codeIn K cd14 ("best_cut" : Str) = true) (k14 : PySem.W.keepIn K (.ref f14) = true)
    {f15 : Addr} {oc15 kV15 dc15 cd15 pm15 ct15 : Value} {od15 an15 : Option Addr} {sl15 : Array (Option Value)} (a15 : PySem.W.nsIn K mainGlobals ("cut_joined" : Str) = some (some (.ref f15))) (l15 : K.lookup f15 = some ⟨oc15, od15, .func (PySem.W.fnOf ("cut_joined" : Str) ("cut_joined" : Str) (defArgs (top 25)) (defBody (top 25)) (defScope (top 25)) .none kV15 dc15 pm15 an15 cd15 ct15), sl15⟩) (c15 : PySem.W.codeIn K cd15 ("cut_joined" : Str) = true) (k15 : PySem.W.keepIn K (.ref f15) = true)
    {f16 : Addr} {oc16 kV16 dc16 cd16 pm16 ct16 : Value} {od16 an16 : Option Addr} {sl16 : Array (Option Value)} (a16 : PySem.W.nsIn K mainGlobals ("check_over" : Str) = some (some (.ref f16))) (l16 : K.lookup f16 = some ⟨oc16, od16, .func (PySem.W.fnOf ("check_over" : Str) ("check_over" : Str) (defArgs (top 26)) (defBody (top 26)) (defScope (top 26)) .none kV16 dc16 pm16 an16 cd16 ct16), sl16⟩) (c16 : PySem.W.codeIn K cd16 ("check_over" : Str) = true) (k16 : PySem.W.keepIn K (.ref f16) = true)
    {f17 : Addr} {oc17 kV17 dc17 cd17 pm17 ct17 : Value} {od17 an17 : Option Addr} {sl17 : Array (Option Value)} (a17 : PySem.W.nsIn K mainGlobals ("laid_over" : Str) = some (some (.ref f17))) (l17 : K.lookup f17 = some ⟨oc17, od17, .func (PySem.W.fnOf ("laid_over" : Str) ("laid_over" : Str) (defArgs (top 27)) (defBody (top 27)) (defScope (top 27)) .none kV17 dc17 pm17 an17 cd17 ct17), sl17⟩) (c17 : PySem.W.codeIn K cd17 ("laid_over" : Str) = true) (k17 : PySem.W.keepIn K (.ref f17) = true)
    {f18 : Addr} {oc18 kV18 dc18 cd18 pm18 ct18 : Value} {od18 an18 : Option Addr} {sl18 : Array (Option Value)} (a18 : PySem.W.nsIn K mainGlobals ("click_over" : Str) = some (some (.ref f18))) (l18 : K.lookup f18 = some ⟨oc18, od18, .func (PySem.W.fnOf ("click_over" : Str) ("click_over" : Str) (defArgs (top 28)) (defBody (top 28)) (defScope (top 28)) .none kV18 dc18 pm18 an18 cd18 ct18), sl18⟩) (c18 : PySem.W.codeIn K cd18 ("click_over" : Str) = true) (k18 : PySem.W.keepIn K (.ref f18) = true)
    {f19 : Addr} {oc19 kV19 dc19 cd19 pm19 ct19 : Value} {od19 an19 : Option Addr} {sl19 : Array (Option Value)} (a19 : PySem.W.nsIn K mainGlobals ("least_over" : Str) = some (some (.ref f19))) (l19 : K.lookup f19 = some ⟨oc19, od19, .func (PySem.W.fnOf ("least_over" : Str) ("least_over" : Str) (defArgs (top 29)) (defBody (top 29)) (defScope (top 29)) .none kV19 dc19 pm19 an19 cd19 ct19), sl19⟩) (c19 : PySem.W.codeIn K cd19 ("least_over" : Str) = true) (k19 : PySem.W.keepIn K (.ref f19) = true)
    {f20 : Addr} {oc20 kV20 dc20 cd20 pm20 ct20 : Value} {od20 an20 : Option Addr} {sl20 : Array (Option Value)} (a20 : PySem.W.nsIn K mainGlobals ("best_over" : Str) = some (some (.ref f20))) (l20 : K.lookup f20 = some ⟨oc20, od20, .func (PySem.W.fnOf ("best_over" : Str) ("best_over" : Str) (defArgs (top 30)) (defBody (top 30)) (defScope (top 30)) .none kV20 dc20 pm20 an20 cd20 ct20), sl20⟩) (c20 : PySem.W.codeIn K cd20 ("best_over" : Str) = true) (k20 : PySem.W.keepIn K (.ref f20) = true)
    {f21 : Addr} {oc21 kV21 dc21 cd21 pm21 ct21 : Value} {od21 an21 : Option Addr} {sl21 : Array (Option Value)} (a21 : PySem.W.nsIn K mainGlobals ("best_loop" : Str) = some (some (.ref f21))) (l21 : K.lookup f21 = some ⟨oc21, od21, .func (PySem.W.fnOf ("best_loop" : Str) ("best_loop" : Str) (defArgs (top 31)) (defBody (top 31)) (defScope (top 31)) .none kV21 dc21 pm21 an21 cd21 ct21), sl21⟩) (c21 : PySem.W.codeIn K cd21 ("best_loop" : Str) = true) (k21 : PySem.W.keepIn K (.ref f21) = true)
    {f22 : Addr} {oc22 kV22 dc22 cd22 pm22 ct22 : Value} {od22 an22 : Option Addr} {sl22 : Array (Option Value)} (a22 : PySem.W.nsIn K mainGlobals ("looped" : Str) = some (some (.ref f22))) (l22 : K.lookup f22 = some ⟨oc22, od22, .func (PySem.W.fnOf ("looped" : Str) ("looped" : Str) (defArgs (top 32)) (defBody (top 32)) (defScope (top 32)) .none kV22 dc22 pm22 an22 cd22 ct22), sl22⟩) (c22 : PySem.W.codeIn K cd22 ("looped" : Str) = true) (k22 : PySem.W.keepIn K (.ref f22) = true)
    {f23 : Addr} {oc23 kV23 dc23 cd23 pm23 ct23 : Value} {od23 an23 : Option Addr} {sl23 : Array (Option Value)} (a23 : PySem.W.nsIn K mainGlobals ("scaled_to" : Str) = some (some (.ref f23))) (l23 : K.lookup f23 = some ⟨oc23, od23, .func (PySem.W.fnOf ("scaled_to" : Str) ("scaled_to" : Str) (defArgs (top 33)) (defBody (top 33)) (defScope (top 33)) .none kV23 dc23 pm23 an23 cd23 ct23), sl23⟩) (c23 : PySem.W.codeIn K cd23 ("scaled_to" : Str) = true) (k23 : PySem.W.keepIn K (.ref f23) = true)
    {f24 : Addr} {oc24 kV24 dc24 cd24 pm24 ct24 : Value} {od24 an24 : Option Addr} {sl24 : Array (Option Value)} (a24 : PySem.W.nsIn K mainGlobals ("_law_cell_at" : Str) = some (some (.ref f24))) (l24 : K.lookup f24 = some ⟨oc24, od24, .func (PySem.W.fnOf ("_law_cell_at" : Str) ("_law_cell_at" : Str) (defArgs (top 35)) (defBody (top 35)) (defScope (top 35)) .none kV24 dc24 pm24 an24 cd24 ct24), sl24⟩) (c24 : PySem.W.codeIn K cd24 ("_law_cell_at" : Str) = true) (k24 : PySem.W.keepIn K (.ref f24) = true)
    {f25 : Addr} {oc25 kV25 dc25 cd25 pm25 ct25 : Value} {od25 an25 : Option Addr} {sl25 : Array (Option Value)} (a25 : PySem.W.nsIn K mainGlobals ("_law_draw" : Str) = some (some (.ref f25))) (l25 : K.lookup f25 = some ⟨oc25, od25, .func (PySem.W.fnOf ("_law_draw" : Str) ("_law_draw" : Str) (defArgs (top 36)) (defBody (top 36)) (defScope (top 36)) .none kV25 dc25 pm25 an25 cd25 ct25), sl25⟩) (c25 : PySem.W.codeIn K cd25 ("_law_draw" : Str) = true) (k25 : PySem.W.keepIn K (.ref f25) = true)
    {f26 : Addr} {oc26 kV26 dc26 cd26 pm26 ct26 : Value} {od26 an26 : Option Addr} {sl26 : Array (Option Value)} (a26 : PySem.W.nsIn K mainGlobals ("_law_number" : Str) = some (some (.ref f26))) (l26 : K.lookup f26 = some ⟨oc26, od26, .func (PySem.W.fnOf ("_law_number" : Str) ("_law_number" : Str) (defArgs (top 37)) (defBody (top 37)) (defScope (top 37)) .none kV26 dc26 pm26 an26 cd26 ct26), sl26⟩) (c26 : PySem.W.codeIn K cd26 ("_law_number" : Str) = true) (k26 : PySem.W.keepIn K (.ref f26) = true)
    {f27 : Addr} {oc27 kV27 dc27 cd27 pm27 ct27 : Value} {od27 an27 : Option Addr} {sl27 : Array (Option Value)} (a27 : PySem.W.nsIn K mainGlobals ("_law_next" : Str) = some (some (.ref f27))) (l27 : K.lookup f27 = some ⟨oc27, od27, .func (PySem.W.fnOf ("_law_next" : Str) ("_law_next" : Str) (defArgs (top 38)) (defBody (top 38)) (defScope (top 38)) .none kV27 dc27 pm27 an27 cd27 ct27), sl27⟩) (c27 : PySem.W.codeIn K cd27 ("_law_next" : Str) = true) (k27 : PySem.W.keepIn K (.ref f27) = true)
    {f28 : Addr} {oc28 kV28 dc28 cd28 pm28 ct28 : Value} {od28 an28 : Option Addr} {sl28 : Array (Option Value)} (a28 : PySem.W.nsIn K mainGlobals ("_law_pick" : Str) = some (some (.ref f28))) (l28 : K.lookup f28 = some ⟨oc28, od28, .func (PySem.W.fnOf ("_law_pick" : Str) ("_law_pick" : Str) (defArgs (top 39)) (defBody (top 39)) (defScope (top 39)) .none kV28 dc28 pm28 an28 cd28 ct28), sl28⟩) (c28 : PySem.W.codeIn K cd28 ("_law_pick" : Str) = true) (k28 : PySem.W.keepIn K (.ref f28) = true)
    {f29 : Addr} {oc29 kV29 dc29 cd29 pm29 ct29 : Value} {od29 an29 : Option Addr} {sl29 : Array (Option Value)} (a29 : PySem.W.nsIn K mainGlobals ("_law_samples" : Str) = some (some (.ref f29))) (l29 : K.lookup f29 = some ⟨oc29, od29, .func (PySem.W.fnOf ("_law_samples" : Str) ("_law_samples" : Str) (defArgs (top 40)) (defBody (top 40)) (defScope (top 40)) .none kV29 dc29 pm29 an29 cd29 ct29), sl29⟩) (c29 : PySem.W.codeIn K cd29 ("_law_samples" : Str) = true) (k29 : PySem.W.keepIn K (.ref f29) = true)
    {f30 : Addr} {oc30 kV30 dc30 cd30 pm30 ct30 : Value} {od30 an30 : Option Addr} {sl30 : Array (Option Value)} (a30 : PySem.W.nsIn K mainGlobals ("_law_lean" : Str) = some (some (.ref f30))) (l30 : K.lookup f30 = some ⟨oc30, od30, .func (PySem.W.fnOf ("_law_lean" : Str) ("_law_lean" : Str) (defArgs (top 41)) (defBody (top 41)) (defScope (top 41)) .none kV30 dc30 pm30 an30 cd30 ct30), sl30⟩) (c30 : PySem.W.codeIn K cd30 ("_law_lean" : Str) = true) (k30 : PySem.W.keepIn K (.ref f30) = true)
    {f31 : Addr} {oc31 kV31 dc31 cd31 pm31 ct31 : Value} {od31 an31 : Option Addr} {sl31 : Array (Option Value)} (a31 : PySem.W.nsIn K mainGlobals ("_law_over" : Str) = some (some (.ref f31))) (l31 : K.lookup f31 = some ⟨oc31, od31, .func (PySem.W.fnOf ("_law_over" : Str) ("_law_over" : Str) (defArgs (top 42)) (defBody (top 42)) (defScope (top 42)) .none kV31 dc31 pm31 an31 cd31 ct31), sl31⟩) (c31 : PySem.W.codeIn K cd31 ("_law_over" : Str) = true) (k31 : PySem.W.keepIn K (.ref f31) = true)
    {f32 : Addr} {oc32 kV32 dc32 cd32 pm32 ct32 : Value} {od32 an32 : Option Addr} {sl32 : Array (Option Value)} (a32 : PySem.W.nsIn K mainGlobals ("_law_step" : Str) = some (some (.ref f32))) (l32 : K.lookup f32 = some ⟨oc32, od32, .func (PySem.W.fnOf ("_law_step" : Str) ("_law_step" : Str) (defArgs (top 43)) (defBody (top 43)) (defScope (top 43)) .none kV32 dc32 pm32 an32 cd32 ct32), sl32⟩) (c32 : PySem.W.codeIn K cd32 ("_law_step" : Str) = true) (k32 : PySem.W.keepIn K (.ref f32) = true)
    {f33 : Addr} {oc33 kV33 dc33 cd33 pm33 ct33 : Value} {od33 an33 : Option Addr} {sl33 : Array (Option Value)} (a33 : PySem.W.nsIn K mainGlobals ("law" : Str) = some (some (.ref f33))) (l33 : K.lookup f33 = some ⟨oc33, od33, .func (PySem.W.fnOf ("law" : Str) ("law" : Str) (defArgs (top 44)) (defBody (top 44)) (defScope (top 44)) .none kV33 dc33 pm33 an33 cd33 ct33), sl33⟩) (c33 : PySem.W.codeIn K cd33 ("law" : Str) = true) (k33 : PySem.W.keepIn K (.ref f33) = true)
    {t0 : Tok} (m0 : PySem.W.nsIn K mainGlobals ("MOST" : Str) = some (some (.int 1000000000000000000000000000000000000000000000000000000000000 t0)))
    {t1 : Addr} {td1 : Option Addr} {tn1 : Nat} {ts1 : Array (Option Value)} {tk1_0 tk1_1 : Tok} (m1 : PySem.W.nsIn K mainGlobals ("NONE" : Str) = some (some (.ref t1))) (tl1 : K.lookup t1 = some ⟨.type "tuple", td1, .seq #[.int 0 tk1_0, .int 1 tk1_1] tn1, ts1⟩)
    {t2 : Tok} (m2 : PySem.W.nsIn K mainGlobals ("MOST_SAMPLES" : Str) = some (some (.int 40 t2)))
    (z0 : PySem.W.nsIn K mainGlobals ("abs" : Str) = some none)
    (z1 : PySem.W.nsIn K mainGlobals ("all" : Str) = some none)
    (z2 : PySem.W.nsIn K mainGlobals ("bool" : Str) = some none)
    (z3 : PySem.W.nsIn K mainGlobals ("enumerate" : Str) = some none)
    (z4 : PySem.W.nsIn K mainGlobals ("int" : Str) = some none)
    (z5 : PySem.W.nsIn K mainGlobals ("isinstance" : Str) = some none)
    (z6 : PySem.W.nsIn K mainGlobals ("len" : Str) = some none)
    (z7 : PySem.W.nsIn K mainGlobals ("max" : Str) = some none)
    (z8 : PySem.W.nsIn K mainGlobals ("min" : Str) = some none)
    (z9 : PySem.W.nsIn K mainGlobals ("range" : Str) = some none)
    (z10 : PySem.W.nsIn K mainGlobals ("sorted" : Str) = some none)
    (z11 : PySem.W.nsIn K mainGlobals ("sum" : Str) = some none)
    (z12 : PySem.W.nsIn K mainGlobals ("tuple" : Str) = some none)
    (z13 : PySem.W.nsIn K mainGlobals ("zip" : Str) = some none)
    : ∃ fd : FuncData, (∀ (s : Shared) (v : Value), BindsTo s fd ⟨[v], []⟩ [("script", v)]) ∧ ∀ base : Heap, K.In base → base.Ns mainGlobals mg → FnOk l.prog w K mg base (L2.CX l.prog w) 21 fa fd ["script"] (spG K cls 1 fun as => ev (calls fds 20) fd33.t (as ++ List.replicate (fd33.N.length - as.length) .un)) := by
  have hb : ∀ x ∈ bls, mg x = none := by
    intro x hx
    simp only [bls, List.mem_cons, List.not_mem_nil, or_false] at hx
    rcases hx with rfl | rfl | rfl | rfl | rfl | rfl | rfl | rfl | rfl | rfl | rfl | rfl | rfl | rfl
    · exact PySem.W.mg_none_of X G z0
    · exact PySem.W.mg_none_of X G z1
    · exact PySem.W.mg_none_of X G z2
    · exact PySem.W.mg_none_of X G z3
    · exact PySem.W.mg_none_of X G z4
    · exact PySem.W.mg_none_of X G z5
    · exact PySem.W.mg_none_of X G z6
    · exact PySem.W.mg_none_of X G z7
    · exact PySem.W.mg_none_of X G z8
    · exact PySem.W.mg_none_of X G z9
    · exact PySem.W.mg_none_of X G z10
    · exact PySem.W.mg_none_of X G z11
    · exact PySem.W.mg_none_of X G z12
    · exact PySem.W.mg_none_of X G z13
  have hc : ∀ x d, cns.lookup x = some d → ∃ u v, mg x = some u ∧ RelV v u ∧ ∀ B H, Rep K B H d v := by
    refine cns_mk fun p hp => ?_
    simp only [cns, List.mem_cons, List.not_mem_nil, or_false] at hp
    rcases hp with rfl | rfl | rfl
    · exact ⟨_, (.int 1000000000000000000000000000000000000000000000000000000000000), PySem.W.mg_of X G m0, ⟨_, rfl⟩, fun _ _ => .int _⟩
    · exact ⟨_, .ref t1, PySem.W.mg_of X G m1, rfl, fun _ _ => .ctup (xs := [.int 0, .int 1]) ⟨_, _, _, tl1, rfl, rfl, (by show 2 ≤ sizeLine; decide), (.cons ⟨_, rfl⟩ (.cons ⟨_, rfl⟩ .nil))⟩ (.cons (.int _) (.cons (.int _) .nil))⟩
    · exact ⟨_, (.int 40), PySem.W.mg_of X G m2, ⟨_, rfl⟩, fun _ _ => .int _⟩
  have hf : ∀ f ∈ fds, FdAt K mg f := by
    intro f hf
    simp only [fds, List.mem_cons, List.not_mem_nil, or_false] at hf
    rcases hf with rfl | rfl | rfl | rfl | rfl | rfl | rfl | rfl | rfl | rfl | rfl | rfl | rfl | rfl | rfl | rfl | rfl | rfl | rfl | rfl | rfl | rfl | rfl | rfl | rfl | rfl | rfl | rfl | rfl | rfl | rfl | rfl | rfl | rfl
    · exact fdAt (x := ("is_whole" : Str)) (st := top 6) X G a0 l0 c0 k0 fun us hl => match us, hl with | [_], _ => rfl
    · exact fdAt (x := ("is_from" : Str)) (st := top 7) X G a1 l1 c1 k1 fun us hl => match us, hl with | [_, _, _], _ => rfl
    · exact fdAt (x := ("common" : Str)) (st := top 8) X G a2 l2 c2 k2 fun us hl => match us, hl with | [_, _], _ => rfl
    · exact fdAt (x := ("lean" : Str)) (st := top 11) X G a3 l3 c3 k3 fun us hl => match us, hl with | [_, _], _ => rfl
    · exact fdAt (x := ("plus" : Str)) (st := top 12) X G a4 l4 c4 k4 fun us hl => match us, hl with | [_, _], _ => rfl
    · exact fdAt (x := ("minus" : Str)) (st := top 13) X G a5 l5 c5 k5 fun us hl => match us, hl with | [_, _], _ => rfl
    · exact fdAt (x := ("times" : Str)) (st := top 14) X G a6 l6 c6 k6 fun us hl => match us, hl with | [_, _], _ => rfl
    · exact fdAt (x := ("less" : Str)) (st := top 15) X G a7 l7 c7 k7 fun us hl => match us, hl with | [_, _], _ => rfl
    · exact fdAt (x := ("size" : Str)) (st := top 16) X G a8 l8 c8 k8 fun us hl => match us, hl with | [_], _ => rfl
    · exact fdAt (x := ("greatest" : Str)) (st := top 17) X G a9 l9 c9 k9 fun us hl => match us, hl with | [_], _ => rfl
    · exact fdAt (x := ("is_sample_row" : Str)) (st := top 20) X G a10 l10 c10 k10 fun us hl => match us, hl with | [_], _ => rfl
    · exact fdAt (x := ("check_sample_row" : Str)) (st := top 21) X G a11 l11 c11 k11 fun us hl => match us, hl with | [_], _ => rfl
    · exact fdAt (x := ("check_both" : Str)) (st := top 22) X G a12 l12 c12 k12 fun us hl => match us, hl with | [_, _], _ => rfl
    · exact fdAt (x := ("greatest_step" : Str)) (st := top 23) X G a13 l13 c13 k13 fun us hl => match us, hl with | [_], _ => rfl
    · exact fdAt (x := ("best_cut" : Str)) (st := top 24) X G a14 l14 c14 k14 fun us hl => match us, hl with | [_, _], _ => rfl
    · exact fdAt (x := ("cut_joined" : Str)) (st := top 25) X G a15 l15 c15 k15 fun us hl => match us, hl with | [_, _, _, _], _ => rfl
    · exact fdAt (x := ("check_over" : Str)) (st := top 26) X G a16 l16 c16 k16 fun us hl => match us, hl with | [_, _, _], _ => rfl
    · exact fdAt (x := ("laid_over" : Str)) (st := top 27) X G a17 l17 c17 k17 fun us hl => match us, hl with | [_, _, _], _ => rfl
    · exact fdAt (x := ("click_over" : Str)) (st := top 28) X G a18 l18 c18 k18 fun us hl => match us, hl with | [_, _, _], _ => rfl
    · exact fdAt (x := ("least_over" : Str)) (st := top 29) X G a19 l19 c19 k19 fun us hl => match us, hl with | [_, _, _], _ => rfl
    · exact fdAt (x := ("best_over" : Str)) (st := top 30) X G a20 l20 c20 k20 fun us hl => match us, hl with | [_, _], _ => rfl
    · exact fdAt (x := ("best_loop" : Str)) (st := top 31) X G a21 l21 c21 k21 fun us hl => match us, hl with | [_, _], _ => rfl
    · exact fdAt (x := ("looped" : Str)) (st := top 32) X G a22 l22 c22 k22 fun us hl => match us, hl with | [_, _, _, _], _ => rfl
    · exact fdAt (x := ("scaled_to" : Str)) (st := top 33) X G a23 l23 c23 k23 fun us hl => match us, hl with | [_, _], _ => rfl
    · exact fdAt (x := ("_law_cell_at" : Str)) (st := top 35) X G a24 l24 c24 k24 fun us hl => match us, hl with | [_, _], _ => rfl
    · exact fdAt (x := ("_law_draw" : Str)) (st := top 36) X G a25 l25 c25 k25 fun us hl => match us, hl with | [_, _, _], _ => rfl
    · exact fdAt (x := ("_law_number" : Str)) (st := top 37) X G a26 l26 c26 k26 fun us hl => match us, hl with | [_, _, _], _ => rfl
    · exact fdAt (x := ("_law_next" : Str)) (st := top 38) X G a27 l27 c27 k27 fun us hl => match us, hl with | [_, _], _ => rfl
    · exact fdAt (x := ("_law_pick" : Str)) (st := top 39) X G a28 l28 c28 k28 fun us hl => match us, hl with | [_, _], _ => rfl
    · exact fdAt (x := ("_law_samples" : Str)) (st := top 40) X G a29 l29 c29 k29 fun us hl => match us, hl with | [_, _, _], _ => rfl
    · exact fdAt (x := ("_law_lean" : Str)) (st := top 41) X G a30 l30 c30 k30 fun us hl => match us, hl with | [_, _], _ => rfl
    · exact fdAt (x := ("_law_over" : Str)) (st := top 42) X G a31 l31 c31 k31 fun us hl => match us, hl with | [_, _, _], _ => rfl
    · exact fdAt (x := ("_law_step" : Str)) (st := top 43) X G a32 l32 c32 k32 fun us hl => match us, hl with | [_], _ => rfl
    · exact fdAt (x := ("law" : Str)) (st := top 44) X G a33 l33 c33 k33 fun us hl => match us, hl with | [_], _ => rfl
  obtain ⟨fd, h1, h2⟩ := law_mk (P := l.prog) (w := w) (cls := cls) (f := fd33) (k := 20) hb hc hf chk_ok (by simp [fds]) rfl hfa
  exact ⟨fd, h1, fun base _ _ => h2 base⟩
theorem walk {l : PySem.W.OpenLaw} {q : Program} {loose : List Str} {XP : (Str → Option Value) → Heap → Prop} {YP : World → Heap → Prop} {d : DefRec} {K : Params → PySem.W.Frag} (hn : l.most = some 63) (hdf : d.params.defaults = [])
    (hg : ∀ ns : List Int, ns.length ≤ 63 → ∃ r, (fun as : Rho => ev (calls fds 20) fd33.t (as ++ List.replicate (fd33.N.length - as.length) .un)) [.scr ns] = .ret (.bool true) r)
    (hY : ∀ (w : World) (h : Heap), YP w h → (K w.params).In h)
    (F : ∀ (w : World) (mg : Str → Option Value) (fa : Addr) (h : Heap), (K w.params).In h → h.Ns mainGlobals mg → mg d.name = some (.ref fa) →
      ∃ fd : FuncData, (∀ (s : Shared) (u : Value), BindsTo s fd ⟨[u], []⟩ [("script", u)]) ∧ ∀ base : Heap, (K w.params).In base → base.Ns mainGlobals mg → FnOk l.prog w (K w.params) mg base (L2.CX l.prog w) 21 fa fd ["script"] (spG (K w.params) (fun _ => 0) 1 fun as => ev (calls fds 20) fd33.t (as ++ List.replicate (fd33.N.length - as.length) .un))) :
    PySem.W.WalkO q loose XP YP l.row.toRowW d [] (fun f vs => PySem.call f vs) :=
  L2.walk_of (n := 63) (k := 21) (x := "script") (CX := fun w => L2.CX l.prog w) (sp := fun w => spG (K w.params) (fun _ => 0) 1 fun as => ev (calls fds 20) fd33.t (as ++ List.replicate (fd33.N.length - as.length) .un)) hn (by decide) hdf ⟨rfl, by decide, by decide⟩ hY F (fun w H a ns hl hO hS => law_sp hg H a ns hl hO hS) fun w H s e s' z => no_CX H s e s' z
end K76

open PySem PySem.W PyProof.Rows in
set_option maxRecDepth 100000 in
set_option maxHeartbeats 0 in
theorem PySem.Challenge.cw_noclicks_k76_whole_joins_holds : PySem.Challenge.rw_noclicks_k76_whole_joins.Holds := by
  w_on; o_law; k_head; (case hw => w_witness2)
  k_fill
  refine K76.walk (l := PySem.Challenge.rw_noclicks_k76_whole_joins) rfl rfl K76.law_true (fun w h Y => PySem.W.kIn_of Y) ?F
  case F =>
    intro w mg fa h KX G hmg
    refine' K76.all_mk KX G hmg ?a0 ?l0 ?c0 ?k0 ?a1 ?l1 ?c1 ?k1 ?a2 ?l2 ?c2 ?k2 ?a3 ?l3 ?c3 ?k3 ?a4 ?l4 ?c4 ?k4 ?a5 ?l5 ?c5 ?k5 ?a6 ?l6 ?c6 ?k6 ?a7 ?l7 ?c7 ?k7 ?a8 ?l8 ?c8 ?k8 ?a9 ?l9 ?c9 ?k9 ?a10 ?l10 ?c10 ?k10 ?a11 ?l11 ?c11 ?k11 ?a12 ?l12 ?c12 ?k12 ?a13 ?l13 ?c13 ?k13 ?a14 ?l14 ?c14 ?k14 ?a15 ?l15 ?c15 ?k15 ?a16 ?l16 ?c16 ?k16 ?a17 ?l17 ?c17 ?k17 ?a18 ?l18 ?c18 ?k18 ?a19 ?l19 ?c19 ?k19 ?a20 ?l20 ?c20 ?k20 ?a21 ?l21 ?c21 ?k21 ?a22 ?l22 ?c22 ?k22 ?a23 ?l23 ?c23 ?k23 ?a24 ?l24 ?c24 ?k24 ?a25 ?l25 ?c25 ?k25 ?a26 ?l26 ?c26 ?k26 ?a27 ?l27 ?c27 ?k27 ?a28 ?l28 ?c28 ?k28 ?a29 ?l29 ?c29 ?k29 ?a30 ?l30 ?c30 ?k30 ?a31 ?l31 ?c31 ?k31 ?a32 ?l32 ?c32 ?k32 ?a33 ?l33 ?c33 ?k33 ?m0 ?m1 ?tl1 ?m2 ?z0 ?z1 ?z2 ?z3 ?z4 ?z5 ?z6 ?z7 ?z8 ?z9 ?z10 ?z11 ?z12 ?z13
    (case a0 => k_is)
    (case l0 => k_is)
    (case c0 => k_is)
    (case k0 => k_is)
    (case a1 => k_is)
    (case l1 => k_is)
    (case c1 => k_is)
    (case k1 => k_is)
    (case a2 => k_is)
    (case l2 => k_is)
    (case c2 => k_is)
    (case k2 => k_is)
    (case a3 => k_is)
    (case l3 => k_is)
    (case c3 => k_is)
    (case k3 => k_is)
    (case a4 => k_is)
    (case l4 => k_is)
    (case c4 => k_is)
    (case k4 => k_is)
    (case a5 => k_is)
    (case l5 => k_is)
    (case c5 => k_is)
    (case k5 => k_is)
    (case a6 => k_is)
    (case l6 => k_is)
    (case c6 => k_is)
    (case k6 => k_is)
    (case a7 => k_is)
    (case l7 => k_is)
    (case c7 => k_is)
    (case k7 => k_is)
    (case a8 => k_is)
    (case l8 => k_is)
    (case c8 => k_is)
    (case k8 => k_is)
    (case a9 => k_is)
    (case l9 => k_is)
    (case c9 => k_is)
    (case k9 => k_is)
    (case a10 => k_is)
    (case l10 => k_is)
    (case c10 => k_is)
    (case k10 => k_is)
    (case a11 => k_is)
    (case l11 => k_is)
    (case c11 => k_is)
    (case k11 => k_is)
    (case a12 => k_is)
    (case l12 => k_is)
    (case c12 => k_is)
    (case k12 => k_is)
    (case a13 => k_is)
    (case l13 => k_is)
    (case c13 => k_is)
    (case k13 => k_is)
    (case a14 => k_is)
    (case l14 => k_is)
    (case c14 => k_is)
    (case k14 => k_is)
    (case a15 => k_is)
    (case l15 => k_is)
    (case c15 => k_is)
    (case k15 => k_is)
    (case a16 => k_is)
    (case l16 => k_is)
    (case c16 => k_is)
    (case k16 => k_is)
    (case a17 => k_is)
    (case l17 => k_is)
    (case c17 => k_is)
    (case k17 => k_is)
    (case a18 => k_is)
    (case l18 => k_is)
    (case c18 => k_is)
    (case k18 => k_is)
    (case a19 => k_is)
    (case l19 => k_is)
    (case c19 => k_is)
    (case k19 => k_is)
    (case a20 => k_is)
    (case l20 => k_is)
    (case c20 => k_is)
    (case k20 => k_is)
    (case a21 => k_is)
    (case l21 => k_is)
    (case c21 => k_is)
    (case k21 => k_is)
    (case a22 => k_is)
    (case l22 => k_is)
    (case c22 => k_is)
    (case k22 => k_is)
    (case a23 => k_is)
    (case l23 => k_is)
    (case c23 => k_is)
    (case k23 => k_is)
    (case a24 => k_is)
    (case l24 => k_is)
    (case c24 => k_is)
    (case k24 => k_is)
    (case a25 => k_is)
    (case l25 => k_is)
    (case c25 => k_is)
    (case k25 => k_is)
    (case a26 => k_is)
    (case l26 => k_is)
    (case c26 => k_is)
    (case k26 => k_is)
    (case a27 => k_is)
    (case l27 => k_is)
    (case c27 => k_is)
    (case k27 => k_is)
    (case a28 => k_is)
    (case l28 => k_is)
    (case c28 => k_is)
    (case k28 => k_is)
    (case a29 => k_is)
    (case l29 => k_is)
    (case c29 => k_is)
    (case k29 => k_is)
    (case a30 => k_is)
    (case l30 => k_is)
    (case c30 => k_is)
    (case k30 => k_is)
    (case a31 => k_is)
    (case l31 => k_is)
    (case c31 => k_is)
    (case k31 => k_is)
    (case a32 => k_is)
    (case l32 => k_is)
    (case c32 => k_is)
    (case k32 => k_is)
    (case a33 => k_is)
    (case l33 => k_is)
    (case c33 => k_is)
    (case k33 => k_is)
    (case m0 => k_is)
    (case m1 => k_is)
    (case tl1 => k_is)
    (case m2 => k_is)
    (case z0 => k_is)
    (case z1 => k_is)
    (case z2 => k_is)
    (case z3 => k_is)
    (case z4 => k_is)
    (case z5 => k_is)
    (case z6 => k_is)
    (case z7 => k_is)
    (case z8 => k_is)
    (case z9 => k_is)
    (case z10 => k_is)
    (case z11 => k_is)
    (case z12 => k_is)
    (case z13 => k_is)
