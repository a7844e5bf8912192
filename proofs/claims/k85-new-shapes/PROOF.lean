import PyProof.Rows.All
import Wide.All
import OpenK.AllK
import Wide.FinOn
import HandS.ForMost
import HandS.Wide
import HandS.IsInst
import HandS.Walk
import HandS.Exc
import HandS.Flow
import HandS.Style
import HandS.Conv
import HandS.Zip
import HandS.TupAny
import HandS.TupMul
import HandS.WordsExc
import KE.DataEq
import KE.DataFind
import KE.DataMinMax
import KE.SortData
import KE.DataCmp
import KE.GoesNew
import KE.GoesMore
import KE.GoesEnum
import KE.GoesZip
import HandS.TryOnly
import PyProof.FactsAll.tuple_2
import KE.KTupSum
import PySem.Challenge.RW_noclicks_k85_new_shapes
set_option Elab.async false
set_option linter.all false
set_option maxRecDepth 100000
set_option maxHeartbeats 4000000
/-! Py, part A: data, slots, outcomes; how data lie on the abstract heap; a frame's relation; steps. -/
namespace Py
open PySem L2

abbrev D := PyData
/-- what a name holds: nothing known, a value, a list or dict that this name alone holds, one that a caller lends -/
inductive Slot where
  | un | val (d : D) | own (d : D) | io (d : D)
  /-- the script, as it was handed in -/
  | scr (ns : List Int)
abbrev Rho := List Slot
inductive Out where
  | val (d : D) (r : Rho) | vals (ds : List D) (r : Rho)
  | nxt (r : Rho) | ret (d : D) (r : Rho) | brk (r : Rho) | cnt (r : Rho)
  | exc (n : Nat) (d : D) | bad
def Slot.excl : Slot → Bool
  | .own _ => true
  | .io _ => true
  | _ => false

/-- b: what no value may hold; m: of these, what the frame may change -/
structure Av where
  b : Addr → Prop
  m : Addr → Prop
structure Step (B : Av) (H : Hp) (B' : Av) (H' : Hp) : Prop where
  stay : ∀ a o, ¬ B.m a → H a = some o → H' a = some o
  keep : ∀ a o, B.b a → ¬ B.m a → H a = some o → B'.b a
  dom : ∀ a o, H a = some o → ∃ o', H' a = some o'
  sub : ∀ a, B'.b a → B.b a ∨ H a = none
  subm : ∀ a, B'.m a → B.m a ∨ H a = none
theorem Step.refl (B : Av) (H : Hp) : Step B H B H := ⟨fun _ o _ e => e, fun _ o b _ e => b, fun _ o e => ⟨o, e⟩, fun _ h => .inl h, fun _ h => .inl h⟩
theorem Step.back {B B' : Av} {H H' : Hp} (s : Step B H B' H') {a : Addr} (h : H' a = Option.none) : H a = Option.none := by
  cases q : H a with
  | none => rfl
  | some o => obtain ⟨o1, e1⟩ := s.dom a o q; rw [h] at e1; cases e1
theorem Step.trans {B B1 B2 : Av} {H H1 H2 : Hp} (s : Step B H B1 H1) (t : Step B1 H1 B2 H2) : Step B H B2 H2 where
  stay a o nb e := by
    have nb1 : ¬ B1.m a := fun h => (s.subm a h).elim nb (fun z => by rw [e] at z; cases z)
    exact t.stay a o nb1 (s.stay a o nb e)
  keep a o b nm e := by
    have nm1 : ¬ B1.m a := fun h => (s.subm a h).elim nm (fun z => by rw [e] at z; cases z)
    exact t.keep a o (s.keep a o b nm e) nm1 (s.stay a o nm e)
  dom a o e := by
    obtain ⟨o1, e1⟩ := s.dom a o e
    exact t.dom a o1 e1
  sub a h := (t.sub a h).elim (s.sub a) fun h1 => .inr (s.back h1)
  subm a h := (t.subm a h).elim (s.subm a) fun h1 => .inr (s.back h1)
def Ext (H H' : Hp) : Prop := ∀ a o, H a = some o → H' a = some o
theorem Ext.refl (H : Hp) : Ext H H := fun _ _ h => h
theorem Ext.trans {H H1 H2 : Hp} (a : Ext H H1) (b : Ext H1 H2) : Ext H H2 := fun x o h => b x o (a x o h)
theorem Ext.new {H : Hp} {p : Addr} {o : HO} (h : H p = none) : Ext H (upd H p o) := fun a u e => by
  rw [upd_ne (ne_of_none e h)]; exact e
theorem Ext.step {B : Av} {H H' : Hp} (e : Ext H H') : Step B H B H' := ⟨fun a o _ q => e a o q, fun a o b _ q => b, fun a o q => ⟨o, e a o q⟩, fun _ h => .inl h, fun _ h => .inl h⟩

/-! ### data on the abstract heap -/
def kD : Key → D
  | .inl i => .int i
  | .inr s => .str s
mutual
inductive Rep (K : PySem.W.Frag) (B : Av) (H : Hp) : D → V → Prop
  | non : Rep K B H .none .non
  | bl (b : Bool) : Rep K B H (.bool b) (.bl b)
  | int (i : Int) : Rep K B H (.int i) (.int i)
  | str (x : Str) : Rep K B H (.str x) (.str x)
  | tup {a : Addr} {xs : List V} {ds : List D} : ¬ B.b a → Rd H a (.tup xs) → Reps K B H ds xs → Rep K B H (.tuple ds) (.ref a)
  | ctup {a : Addr} {xs : List V} {ds : List D} : (∃ (o : Obj) (its : Array Value) (n : Nat), K.lookup a = some o ∧ o.cls = .type "tuple" ∧ o.data = .seq its n ∧ its.size ≤ sizeLine ∧ Vals xs its.toList) → Reps K B H ds xs → Rep K B H (.tuple ds) (.ref a)
  | lst {a : Addr} {xs : List V} {ds : List D} : ¬ B.b a → H a = some (.lst xs) → Reps K B H ds xs → Rep K B H (.list ds) (.ref a)
  | dK {a : Addr} {ks : List (Key × V)} {kvs : List (D × D)} : ¬ B.b a → Rd H a (.dK ks) → RepKV K B H kvs ks → Rep K B H (.dict kvs) (.ref a)
  | dT {a : Addr} {ks : List (List Key × V)} {kvs : List (D × D)} : ¬ B.b a → Rd H a (.dT ks) → RepKT K B H kvs ks → Rep K B H (.dict kvs) (.ref a)
inductive Reps (K : PySem.W.Frag) (B : Av) (H : Hp) : List D → List V → Prop
  | nil : Reps K B H [] []
  | cons {d : D} {v : V} {ds : List D} {vs : List V} : Rep K B H d v → Reps K B H ds vs → Reps K B H (d :: ds) (v :: vs)
inductive RepKV (K : PySem.W.Frag) (B : Av) (H : Hp) : List (D × D) → List (Key × V) → Prop
  | nil : RepKV K B H [] []
  | cons {k : Key} {d : D} {v : V} {ds : List (D × D)} {vs : List (Key × V)} : Rep K B H d v → RepKV K B H ds vs → RepKV K B H ((kD k, d) :: ds) ((k, v) :: vs)
inductive RepKT (K : PySem.W.Frag) (B : Av) (H : Hp) : List (D × D) → List (List Key × V) → Prop
  | nil : RepKT K B H [] []
  | cons {k : List Key} {d : D} {v : V} {ds : List (D × D)} {vs : List (List Key × V)} : Rep K B H d v → RepKT K B H ds vs → RepKT K B H ((.tuple (k.map kD), d) :: ds) ((k, v) :: vs)
end
section
variable {K : PySem.W.Frag} {B B' : Av} {H H' : Hp}
/-- what values lean on: the wishes of a step without its own things -/
structure Vst (B : Av) (H : Hp) (B' : Av) (H' : Hp) : Prop where
  stay : ∀ a o, ¬ B.b a → H a = some o → H' a = some o
  sub : ∀ a, B'.b a → B.b a ∨ H a = none
theorem Step.v (s : Step B H B' H') (mb : ∀ a, B.m a → B.b a) : Vst B H B' H' := ⟨fun a o nb e => s.stay a o (fun h => nb (mb a h)) e, s.sub⟩
theorem Ext.v {B : Av} (e : Ext H H') : Vst B H B H' := ⟨fun a o _ q => e a o q, fun _ h => .inl h⟩
theorem Vst.nb (s : Vst B H B' H') {a : Addr} {o : HO} (nb : ¬ B.b a) (e : H a = some o) : ¬ B'.b a := fun h => (s.sub a h).elim nb fun z => by rw [e] at z; cases z
theorem Vst.rd (s : Vst B H B' H') {a : Addr} {u : HO} (nb : ¬ B.b a) (r : Rd H a u) : ¬ B'.b a ∧ Rd H' a u := by
  rcases r with e | ⟨b, e⟩
  · exact ⟨s.nb nb e, .inl (s.stay a _ nb e)⟩
  · exact ⟨s.nb nb e, .inr ⟨b, s.stay a _ nb e⟩⟩
mutual
theorem Rep.step (s : Vst B H B' H') : ∀ {d : D} {v : V}, Rep K B H d v → Rep K B' H' d v
  | _, _, .non => .non
  | _, _, .bl b => .bl b
  | _, _, .int i => .int i
  | _, _, .str x => .str x
  | _, _, .tup nb r rs => .tup (s.rd nb r).1 (s.rd nb r).2 (Reps.step s rs)
  | _, _, .ctup c rs => .ctup c (Reps.step s rs)
  | _, _, .lst nb e rs => .lst (s.nb nb e) (s.stay _ _ nb e) (Reps.step s rs)
  | _, _, .dK nb r rs => .dK (s.rd nb r).1 (s.rd nb r).2 (RepKV.step s rs)
  | _, _, .dT nb r rs => .dT (s.rd nb r).1 (s.rd nb r).2 (RepKT.step s rs)
theorem Reps.step (s : Vst B H B' H') : ∀ {ds : List D} {vs : List V}, Reps K B H ds vs → Reps K B' H' ds vs
  | _, _, .nil => .nil
  | _, _, .cons r rs => .cons (Rep.step s r) (Reps.step s rs)
theorem RepKV.step (s : Vst B H B' H') : ∀ {ds : List (D × D)} {vs : List (Key × V)}, RepKV K B H ds vs → RepKV K B' H' ds vs
  | _, _, .nil => .nil
  | _, _, .cons r rs => .cons (Rep.step s r) (RepKV.step s rs)
theorem RepKT.step (s : Vst B H B' H') : ∀ {ds : List (D × D)} {vs : List (List Key × V)}, RepKT K B H ds vs → RepKT K B' H' ds vs
  | _, _, .nil => .nil
  | _, _, .cons r rs => .cons (Rep.step s r) (RepKT.step s rs)
end
mutual
theorem Rep.dp : ∀ {d : D} {v : V}, Rep K B H d v → d.plain = true → Dp K H v d
  | _, _, .non, _ => .non
  | _, _, .bl b, _ => .bl b
  | _, _, .int i, _ => .int i
  | _, _, .str x, _ => .str x
  | _, _, .tup _ r rs, h => .tup (.inl r) (Reps.dp rs (by simpa [PyData.plain] using h))
  | _, _, .ctup c rs, h => .tup (.inr c) (Reps.dp rs (by simpa [PyData.plain] using h))
  | _, _, .lst _ r rs, h => .lst (.inl (.inl r)) (Reps.dp rs (by simpa [PyData.plain] using h))
  | _, _, .dK _ _ _, h => by simp [PyData.plain] at h
  | _, _, .dT _ _ _, h => by simp [PyData.plain] at h
theorem Reps.dp : ∀ {ds : List D} {vs : List V}, Reps K B H ds vs → PyData.plainAll ds = true → DpAll K H vs ds
  | _, _, .nil, _ => .nil
  | _, _, .cons r rs, h => by
    rw [PyData.plainAll, Bool.and_eq_true] at h
    exact .cons (Rep.dp r h.1) (Reps.dp rs h.2)
end
theorem Reps.length : ∀ {ds : List D} {vs : List V}, Reps K B H ds vs → ds.length = vs.length
  | _, _, .nil => rfl
  | _, _, .cons _ rs => by simp [Reps.length rs]
theorem Reps.get : ∀ {ds : List D} {vs : List V} {i : Nat} {d : D}, Reps K B H ds vs → ds[i]? = some d → ∃ v, vs[i]? = some v ∧ Rep K B H d v
  | _, _, _, _, .nil, h => by simp at h
  | _, _, 0, _, .cons r _, h => by simp at h; subst h; exact ⟨_, rfl, r⟩
  | _, _, i + 1, _, .cons _ rs, h => by
    obtain ⟨v, e, r⟩ := Reps.get (i := i) rs (by simpa using h)
    exact ⟨v, by simpa using e, r⟩
theorem Reps.get' : ∀ {ds : List D} {vs : List V} {i : Nat} {v : V}, Reps K B H ds vs → vs[i]? = some v → ∃ d, ds[i]? = some d ∧ Rep K B H d v
  | _, _, _, _, .nil, h => by simp at h
  | _, _, 0, _, .cons r _, h => by simp at h; subst h; exact ⟨_, rfl, r⟩
  | _, _, i + 1, _, .cons _ rs, h => by
    obtain ⟨v, e, r⟩ := Reps.get' (i := i) rs (by simpa using h)
    exact ⟨v, by simpa using e, r⟩
theorem Reps.app : ∀ {ds es : List D} {vs us : List V}, Reps K B H ds vs → Reps K B H es us → Reps K B H (ds ++ es) (vs ++ us)
  | _, _, _, _, .nil, t => t
  | _, _, _, _, .cons r rs, t => .cons r (Reps.app rs t)
theorem Reps.take : ∀ {ds : List D} {vs : List V} (n : Nat), Reps K B H ds vs → Reps K B H (ds.take n) (vs.take n)
  | _, _, 0, _ => .nil
  | _, _, _ + 1, .nil => .nil
  | _, _, n + 1, .cons r rs => .cons r (Reps.take n rs)
theorem Reps.drop : ∀ {ds : List D} {vs : List V} (n : Nat), Reps K B H ds vs → Reps K B H (ds.drop n) (vs.drop n)
  | _, _, 0, h => h
  | _, _, _ + 1, .nil => .nil
  | _, _, n + 1, .cons _ rs => Reps.drop n rs
theorem Reps.set {d : D} {v : V} (r : Rep K B H d v) : ∀ {ds : List D} {vs : List V} (n : Nat), Reps K B H ds vs → Reps K B H (ds.set n d) (vs.set n v)
  | _, _, _, .nil => .nil
  | _, _, 0, .cons _ rs => .cons r rs
  | _, _, n + 1, .cons q rs => .cons q (Reps.set r n rs)
theorem Reps.one {d : D} {v : V} (r : Rep K B H d v) : Reps K B H [d] [v] := .cons r .nil
theorem Reps.two {d e : D} {v u : V} (r : Rep K B H d v) (q : Rep K B H e u) : Reps K B H [d, e] [v, u] := .cons r (.cons q .nil)
theorem Reps.ints : ∀ {ns : List Int} {vs : List V}, Reps K B H (ns.map .int) vs → vs = ns.map V.int
  | [], _, .nil => rfl
  | _ :: _, _, .cons r rs => by cases r; rw [Reps.ints rs]; rfl
theorem Reps.bls : ∀ {bs : List Bool} {vs : List V}, Reps K B H (bs.map .bool) vs → vs = bs.map V.bl
  | [], _, .nil => rfl
  | _ :: _, _, .cons r rs => by cases r; rw [Reps.bls rs]; rfl
/-- a tuple, a list by its address -/
theorem Rep.tupI {ds : List D} {v : V} (h : Rep K B H (.tuple ds) v) : ∃ a xs, v = .ref a ∧ SqT K H a xs ∧ Reps K B H ds xs := by
  cases h with
  | tup nb r rs => exact ⟨_, _, rfl, .inl r, rs⟩
  | ctup c rs => exact ⟨_, _, rfl, .inr c, rs⟩
theorem Rep.lstI {ds : List D} {v : V} (h : Rep K B H (.list ds) v) : ∃ a xs, v = .ref a ∧ ¬ B.b a ∧ H a = some (.lst xs) ∧ Reps K B H ds xs := by
  cases h with
  | lst nb r rs => exact ⟨_, _, rfl, nb, r, rs⟩
end

/-! ### a frame: slots, exclusive addresses, the heap -/
structure Cfg where
  K : PySem.W.Frag
  /-- lent by the caller -/
  I : Addr → Prop
  /-- exclusive to the callers, the lent ones among them -/
  B0 : Addr → Prop
  H0 : Hp
  /-- where what is lent in a slot stands -/
  ad : Nat → Addr
  /-- the classes of errors, by numbers -/
  cls : Nat → Addr
/-- what stands at an address of one's own -/
inductive Cont (K : PySem.W.Frag) (B : Av) (H : Hp) : D → Addr → Prop
  | lst {a : Addr} {xs : List V} {ds : List D} : H a = some (.lst xs) → Reps K B H ds xs → Cont K B H (.list ds) a
  | dK {a : Addr} {ks : List (Key × V)} {kvs : List (D × D)} : H a = some (.dK ks) → RepKV K B H kvs ks → Cont K B H (.dict kvs) a
  | dT {a : Addr} {ks : List (List Key × V)} {kvs : List (D × D)} : H a = some (.dT ks) → RepKT K B H kvs ks → Cont K B H (.dict kvs) a
def ScrAt (K : PySem.W.Frag) (B : Av) (H : Hp) (a : Addr) (xs : List V) : Prop := (¬ B.b a ∧ Rd H a (.lst xs)) ∨
  ∃ (o : Obj) (its : Array Value) (n : Nat), K.lookup a = some o ∧ o.cls = .type "list" ∧ o.dict = none ∧ o.data = .seq its n ∧ its.size ≤ sizeLine ∧ Vals xs its.toList
theorem ScrAt.step {K : PySem.W.Frag} {B B' : Av} {H H' : Hp} {a : Addr} {xs : List V} (s : Vst B H B' H') (h : ScrAt K B H a xs) : ScrAt K B' H' a xs := by
  rcases h with ⟨b, r⟩ | h
  · exact .inl (s.rd b r)
  · exact .inr h
theorem ScrAt.sq {K : PySem.W.Frag} {B : Av} {H : Hp} {a : Addr} {xs : List V} (h : ScrAt K B H a xs) : SqL K H a xs := by
  rcases h with ⟨b, r⟩ | h
  · exact .inl r
  · exact .inr h
def SlotOk (c : Cfg) (B : Av) (H : Hp) (i : Nat) : Slot → Option V → Prop
  | .un, _ => True
  | .val d, o => ∃ v, o = some v ∧ Rep c.K B H d v
  | .own d, o => ∃ a, o = some (.ref a) ∧ B.m a ∧ c.H0 a = none ∧ Cont c.K B H d a
  | .io d, o => o = some (.ref (c.ad i)) ∧ B.m (c.ad i) ∧ c.I (c.ad i) ∧ Cont c.K B H d (c.ad i)
  | .scr ns, o => ∃ a, o = some (.ref a) ∧ ScrAt c.K B H a (ns.map V.int)
structure Rel (c : Cfg) (r : Rho) (B : Av) (σ : St) (H : Hp) : Prop where
  len : r.length = σ.length
  slot : ∀ (i : Nat) s o, r[i]? = some s → σ[i]? = some o → SlotOk c B H i s o
  apart : ∀ (i j : Nat) s t a, i ≠ j → r[i]? = some s → r[j]? = some t → s.excl = true → t.excl = true → σ[i]? = some (some (.ref a)) → σ[j]? ≠ some (some (.ref a))
  mb : ∀ a, B.m a → B.b a
  bk : ∀ a, B.b a → ∃ o, H a = some o
  b0 : ∀ a, c.B0 a → B.b a
  b0h : ∀ a, c.B0 a → ∃ o, c.H0 a = some o
  bsub : ∀ a, B.b a → c.B0 a ∨ c.H0 a = none
  msub : ∀ a, B.m a → c.I a ∨ c.H0 a = none
  i0 : ∀ a, c.I a → c.B0 a
  fr : ∀ a o, ¬ c.I a → c.H0 a = some o → H a = some o
  dom : ∀ a o, c.H0 a = some o → ∃ o', H a = some o'
section
variable {c : Cfg} {r : Rho} {B B' : Av} {σ : St} {H H' : Hp}
theorem Rel.v (R : Rel c r B σ H) (s : Step B H B' H') : Vst B H B' H' := s.v R.mb
/-- an exclusive thing that the step keeps -/
theorem Cont.step {K : PySem.W.Frag} {d : D} {a : Addr} (h : Cont K B H d a) (s : Vst B H B' H') (e : ∀ o, H a = some o → H' a = some o) : Cont K B' H' d a := by
  cases h with
  | lst q rs => exact .lst (e _ q) (rs.step s)
  | dK q rs => exact .dK (e _ q) (rs.step s)
  | dT q rs => exact .dT (e _ q) (rs.step s)
theorem Cont.ext {K : PySem.W.Frag} {d : D} {a : Addr} (h : Cont K B H d a) (e : Ext H H') : Cont K B H' d a := h.step e.v (e a)
theorem Cont.there {K : PySem.W.Frag} {d : D} {a : Addr} (h : Cont K B H d a) : ∃ o, H a = some o := by
  cases h with
  | lst q rs => exact ⟨_, q⟩
  | dK q rs => exact ⟨_, q⟩
  | dT q rs => exact ⟨_, q⟩
theorem SlotOk.ext {i : Nat} {s : Slot} {o : Option V} (h : SlotOk c B H i s o) (e : Ext H H') : SlotOk c B H' i s o := by
  cases s with
  | un => trivial
  | val d => obtain ⟨v, e1, q⟩ := h; exact ⟨v, e1, q.step e.v⟩
  | own d => obtain ⟨a, e1, b, n, q⟩ := h; exact ⟨a, e1, b, n, q.ext e⟩
  | io d => obtain ⟨e1, b, n, q⟩ := h; exact ⟨e1, b, n, q.ext e⟩
  | scr ns => obtain ⟨a, e1, q⟩ := h; exact ⟨a, e1, q.step e.v⟩
/-- new objects alone -/
theorem Rel.ext (R : Rel c r B σ H) (e : Ext H H') : Rel c r B σ H' where
  len := R.len
  slot i s o h1 h2 := (R.slot i s o h1 h2).ext e
  apart := R.apart
  mb := R.mb
  bk a b := by obtain ⟨o, q⟩ := R.bk a b; exact ⟨o, e _ _ q⟩
  b0 := R.b0
  b0h := R.b0h
  bsub := R.bsub
  msub := R.msub
  i0 := R.i0
  fr a o n q := e _ _ (R.fr a o n q)
  dom a o q := by obtain ⟨o', q'⟩ := R.dom a o q; exact ⟨o', e _ _ q'⟩
theorem Rel.fresh (R : Rel c r B σ H) {p : Addr} (h : H p = none) : ¬ B.b p := fun b => by obtain ⟨o, e⟩ := R.bk p b; rw [h] at e; cases e
theorem Rel.fresh0 (R : Rel c r B σ H) {p : Addr} (h : H p = none) : c.H0 p = none := by
  cases q : c.H0 p with
  | none => rfl
  | some o => obtain ⟨o', e⟩ := R.dom p o q; rw [h] at e; cases e
end
/-- a new tuple, a new list -/
theorem Rep.newT {K : PySem.W.Frag} {B : Av} {H : Hp} {ds : List D} {xs : List V} {p : Addr} (nb : ¬ B.b p) (h : H p = none) (rs : Reps K B H ds xs) : Rep K B (upd H p (.tup xs)) (.tuple ds) (.ref p) :=
  .tup nb (.inl upd_same) (rs.step (Ext.new h).v)
theorem Rep.newL {K : PySem.W.Frag} {B : Av} {H : Hp} {ds : List D} {xs : List V} {p : Addr} (nb : ¬ B.b p) (h : H p = none) (rs : Reps K B H ds xs) : Rep K B (upd H p (.lst xs)) (.list ds) (.ref p) :=
  .lst nb upd_same (rs.step (Ext.new h).v)
end Py

/-! Py, part B: what is wanted of an outcome; readings; names, constants, operators, tests, displays. -/
namespace Py
open PySem L2

abbrev O1 := Rho → Out
def Out.bnd (o : Out) (k : D → Rho → Out) : Out := match o with
  | .val d r => k d r
  | .exc n d => .exc n d
  | _ => .bad
def Out.bnds (o : Out) (k : List D → Rho → Out) : Out := match o with
  | .vals d r => k d r
  | .exc n d => .exc n d
  | _ => .bad
def optO (o : Option D) (r : Rho) : Out := match o with
  | some d => .val d r
  | none => .bad

/-- what the caller is told of the heap -/
structure Fr (c : Cfg) (H : Hp) : Prop where
  fr : ∀ a o, ¬ c.I a → c.H0 a = some o → H a = some o
  dom : ∀ a o, c.H0 a = some o → ∃ o', H a = some o'
theorem Rel.toFr {c : Cfg} {r : Rho} {B : Av} {σ : St} {H : Hp} (R : Rel c r B σ H) : Fr c H := ⟨R.fr, R.dom⟩
/-- what is wished of an exception: its class by number, what it carries -/
abbrev EX := Nat → D → Hp → Prop
def PostE (c : Cfg) (E : EX) (σ : St) (B : Av) (H : Hp) (Q : VK) : Out → Prop
  | .val d r => ∀ v H' B', Rel c r B' σ H' → Step B H B' H' → Rep c.K B' H' d v → Q v H'
  | .exc n d => ∀ H', Fr c H' → E n d H'
  | _ => False
def PostA (c : Cfg) (E : EX) (σ : St) (B : Av) (H : Hp) (Q : List V → Hp → Prop) : Out → Prop
  | .vals ds r => ∀ vs H' B', Rel c r B' σ H' → Step B H B' H' → Reps c.K B' H' ds vs → Q vs H'
  | .exc n d => ∀ H', Fr c H' → E n d H'
  | _ => False
def PostT (c : Cfg) (E : EX) (σ : St) (B : Av) (H : Hp) (Q : Bool → Hp → Prop) : Out → Prop
  | .val (.bool b) r => ∀ H' B', Rel c r B' σ H' → Step B H B' H' → Q b H'
  | .exc n d => ∀ H', Fr c H' → E n d H'
  | _ => False
/-- a family of wishes over the state from which one goes -/
structure PP (c : Cfg) (E : EX) (P : Av → Hp → Out → Prop) : Prop where
  exc : ∀ B H n d, P B H (.exc n d) → ∀ H', Fr c H' → E n d H'
  bad : ∀ B H, ¬ P B H .bad
  frm : ∀ B H B1 H1 o, Step B H B1 H1 → P B H o → P B1 H1 o
section
variable {c : Cfg} {E : EX} {σ : St}
theorem ppE {Q : VK} : PP c E (fun B H o => PostE c E σ B H Q o) where
  exc _ _ _ _ h := h
  bad _ _ h := h
  frm B H B1 H1 o S h := by
    cases o with
    | val d r => exact fun v H' B' R S' q => h v H' B' R (S.trans S') q
    | exc n d => exact h
    | _ => exact h.elim
theorem ppA {Q : List V → Hp → Prop} : PP c E (fun B H o => PostA c E σ B H Q o) where
  exc _ _ _ _ h := h
  bad _ _ h := h
  frm B H B1 H1 o S h := by
    cases o with
    | vals d r => exact fun v H' B' R S' q => h v H' B' R (S.trans S') q
    | exc n d => exact h
    | _ => exact h.elim
theorem ppT {Q : Bool → Hp → Prop} : PP c E (fun B H o => PostT c E σ B H Q o) where
  exc _ _ _ _ h := h
  bad _ _ h := h
  frm B H B1 H1 o S h := by
    cases o with
    | val d r =>
      cases d with
      | bool b => exact fun H' B' R S' => h H' B' R (S.trans S')
      | _ => exact h.elim
    | exc n d => exact h
    | _ => exact h.elim
variable {P : Av → Hp → Out → Prop} {B : Av} {H : Hp} {o : Out}
theorem bndE (pp : PP c E P) {k : D → Rho → Out} (h : P B H (o.bnd k)) {Q : VK}
    (hk : ∀ d r v H1 B1, o = .val d r → Rel c r B1 σ H1 → Step B H B1 H1 → Rep c.K B1 H1 d v → P B1 H1 (k d r) → Q v H1) : PostE c E σ B H Q o := by
  cases o with
  | val d r => exact fun v H' B' R S q => hk d r v H' B' rfl R S q (pp.frm _ _ _ _ _ S h)
  | exc n d => exact pp.exc _ _ _ _ h
  | _ => exact (pp.bad _ _ h).elim
theorem bndA (pp : PP c E P) {k : List D → Rho → Out} (h : P B H (o.bnds k)) {Q : List V → Hp → Prop}
    (hk : ∀ d r v H1 B1, o = .vals d r → Rel c r B1 σ H1 → Step B H B1 H1 → Reps c.K B1 H1 d v → P B1 H1 (k d r) → Q v H1) : PostA c E σ B H Q o := by
  cases o with
  | vals d r => exact fun v H' B' R S q => hk d r v H' B' rfl R S q (pp.frm _ _ _ _ _ S h)
  | exc n d => exact pp.exc _ _ _ _ h
  | _ => exact (pp.bad _ _ h).elim
def Out.bndb (o : Out) (k : Bool → Rho → Out) : Out := match o with
  | .val (.bool b) r => k b r
  | .exc n d => .exc n d
  | _ => .bad
theorem bndT (pp : PP c E P) {k : Bool → Rho → Out} (h : P B H (o.bndb k)) {Q : Bool → Hp → Prop}
    (hk : ∀ b r H1 B1, o = .val (.bool b) r → Rel c r B1 σ H1 → Step B H B1 H1 → P B1 H1 (k b r) → Q b H1) : PostT c E σ B H Q o := by
  cases o with
  | val d r =>
    cases d with
    | bool b => exact fun H' B' R S => hk b r H' B' rfl R S (pp.frm _ _ _ _ _ S h)
    | _ => exact (pp.bad _ _ h).elim
  | exc n d => exact pp.exc _ _ _ _ h
  | _ => exact (pp.bad _ _ h).elim
/-- the same, read as a value -/
theorem bndTE (pp : PP c E P) {k : Bool → Rho → Out} (h : P B H (o.bndb k)) {Q : VK}
    (hk : ∀ b r H1 B1, o = .val (.bool b) r → Rel c r B1 σ H1 → Step B H B1 H1 → P B1 H1 (k b r) → Q (.bl b) H1) : PostE c E σ B H Q o := by
  cases o with
  | val d r =>
    cases d with
    | bool b => exact fun v H' B' R S q => by cases q; exact hk b r H' B' rfl R S (pp.frm _ _ _ _ _ S h)
    | _ => exact (pp.bad _ _ h).elim
  | exc n d => exact pp.exc _ _ _ _ h
  | _ => exact (pp.bad _ _ h).elim
end
def denE (c : Cfg) (E : EX) (o : O1) : TE := fun σ H Q => ∃ r B, Rel c r B σ H ∧ PostE c E σ B H Q (o r)
def denT (c : Cfg) (E : EX) (o : O1) : TT := fun σ H Q => ∃ r B, Rel c r B σ H ∧ PostT c E σ B H Q (o r)
def denA (c : Cfg) (E : EX) (o : O1) : TA := fun σ H Q => ∃ r B, Rel c r B σ H ∧ PostA c E σ B H Q (o r)
section
variable {X : Cx} {e : Expr} {es : List Expr}
theorem pe_mono {t t' : TE} (h : PE X e t) (m : ∀ σ H Q, t' σ H Q → t σ H Q) : PE X e t' := ⟨fun pins s σ H Q I q => h.run pins s σ H Q I (m σ H Q q)⟩
theorem pt_mono {t t' : TT} (h : PT X e t) (m : ∀ σ H Q, t' σ H Q → t σ H Q) : PT X e t' := ⟨fun pins s σ H Q I q => h.run pins s σ H Q I (m σ H Q q)⟩
theorem pw_mono {t t' : TT} (h : PW X e t) (m : ∀ σ H Q, t' σ H Q → t σ H Q) : PW X e t' := ⟨fun wh pins s σ H Q I q => h.run wh pins s σ H Q I (m σ H Q q)⟩
theorem pa_mono {t t' : TA} (h : PA X es t) (m : ∀ σ H Q, t' σ H Q → t σ H Q) : PA X es t' := ⟨fun pos pins s σ H Q I q => h.run pos pins s σ H Q I (m σ H Q q)⟩
end

/-! ### names -/
def oVar (i : Nat) : O1 := fun r => match r[i]? with
  | some (.val d) => .val d r
  | some (.own d) => .val d (r.set i (.val d))
  | _ => .bad
section
variable {c : Cfg} {E : EX} {r : Rho} {B : Av} {σ : St} {H : Hp}
theorem Rel.at (R : Rel c r B σ H) {i : Nat} {s : Slot} (h : r[i]? = some s) : ∃ o, σ[i]? = some o ∧ SlotOk c B H i s o := by
  have hi : i < r.length := (List.getElem?_eq_some_iff.mp h).1
  have hs : i < σ.length := by rw [← R.len]; exact hi
  exact ⟨σ[i], by simp [hs], R.slot i s σ[i] h (by simp [hs])⟩
theorem subV {B B' : Av} {H : Hp} (s : ∀ a, B'.b a → B.b a) : Vst B H B' H := ⟨fun _ o _ e => e, fun a b => .inl (s a b)⟩
theorem Cont.sub {K : PySem.W.Frag} {B B' : Av} {H : Hp} (s : ∀ a, B'.b a → B.b a) {d : D} {a : Addr} (h : Cont K B H d a) : Cont K B' H d a := h.step (subV s) fun _ e => e
def Av.less (B : Av) (a : Addr) : Av := ⟨fun x => B.b x ∧ x ≠ a, fun x => B.m x ∧ x ≠ a⟩
/-- what one held alone is now a value -/
theorem Rel.freeze (R : Rel c r B σ H) {i : Nat} {d : D} (h : r[i]? = some (.own d)) :
    ∃ B' v, σ[i]? = some (some v) ∧ Rel c (r.set i (.val d)) B' σ H ∧ Step B H B' H ∧ Rep c.K B' H d v := by
  obtain ⟨o, ho, a, rfl, ba, h0, ct⟩ := R.at h
  have s : ∀ x, (B.less a).b x → B.b x := fun x h => h.1
  have hi : i < r.length := (List.getElem?_eq_some_iff.mp h).1
  have rep : Rep c.K (B.less a) H d (.ref a) := by
    cases ct with
    | lst e rs => exact .lst (fun z => z.2 rfl) e (rs.step (subV s))
    | dK e rs => exact .dK (fun z => z.2 rfl) (.inl e) (rs.step (subV s))
    | dT e rs => exact .dT (fun z => z.2 rfl) (.inl e) (rs.step (subV s))
  have nb0 : ∀ x, c.B0 x → x ≠ a := fun x b e => by
    obtain ⟨o, q⟩ := R.b0h x b
    rw [e, h0] at q; cases q
  have st : Step B H (B.less a) H := ⟨fun _ o _ e => e, fun x o b nm e => ⟨b, fun z => nm (by rw [z]; exact ba)⟩, fun _ o e => ⟨o, e⟩, fun x b => .inl b.1, fun x b => .inl b.1⟩
  refine ⟨B.less a, .ref a, ho, ⟨by simpa using R.len, ?_, ?_, fun x b => ⟨R.mb x b.1, b.2⟩, fun x b => R.bk x b.1, fun x b => ⟨R.b0 x b, nb0 x b⟩, R.b0h, fun x b => R.bsub x b.1, fun x b => R.msub x b.1, R.i0, R.fr, R.dom⟩, st, rep⟩
  · intro j t u hj hu
    by_cases e : j = i
    · subst e
      rw [List.getElem?_set_self hi] at hj; cases hj
      rw [ho] at hu; cases hu
      exact ⟨_, rfl, rep⟩
    · rw [List.getElem?_set_ne (Ne.symm e)] at hj
      have q := R.slot j t u hj hu
      cases t with
      | un => trivial
      | val d' => obtain ⟨v, e1, q⟩ := q; exact ⟨v, e1, q.step (subV s)⟩
      | own d' =>
        obtain ⟨b, e1, q1, q2, q3⟩ := q
        subst e1
        refine ⟨b, rfl, ⟨q1, fun z => ?_⟩, q2, q3.sub s⟩
        rw [z] at hu
        exact R.apart i j _ _ a (Ne.symm e) h hj rfl rfl ho hu
      | io d' =>
        obtain ⟨e1, q1, q2, q3⟩ := q
        subst e1
        refine ⟨rfl, ⟨q1, fun z => ?_⟩, q2, q3.sub s⟩
        rw [z] at hu
        exact R.apart i j _ _ a (Ne.symm e) h hj rfl rfl ho hu
      | scr ns => obtain ⟨b, e1, q1⟩ := q; exact ⟨b, e1, q1.step ⟨fun _ _ _ e => e, fun _ z => .inl z.1⟩⟩
  · intro j k t u b hne hj hk ht hu
    by_cases e : j = i
    · subst e; rw [List.getElem?_set_self hi] at hj; cases hj; cases ht
    · by_cases e2 : k = i
      · subst e2; rw [List.getElem?_set_self hi] at hk; cases hk; cases hu
      · rw [List.getElem?_set_ne (Ne.symm e)] at hj
        rw [List.getElem?_set_ne (Ne.symm e2)] at hk
        exact R.apart j k t u b hne hj hk ht hu
end
section
variable {X : Cx} {c : Cfg} {E : EX}
theorem snd_var {i : Nat} {x : Str} {pos : Pos} (hN : X.N[i]? = some x) (hv : Vis X.env.scope x) (hd : (x == ("__debug__" : Str)) = false) (hcd : (x == ("__classdict__" : Str)) = false) :
    PE X (.Name x pos) (denE c E (oVar i)) := by
  refine pe_mono (pe_var hN hv hd hcd) fun σ H Q ⟨r, B, R, h⟩ => ?_
  unfold oVar at h
  split at h
  · rename_i d e
    obtain ⟨o, ho, v, rfl, q⟩ := R.at e
    exact ⟨v, ho, h v H B R (Step.refl _ _) q⟩
  · rename_i d e
    obtain ⟨B', v, ho, R', s, q⟩ := R.freeze e
    exact ⟨v, ho, h v H B' R' s q⟩
  · exact h.elim
def oC (d : D) : O1 := fun r => .val d r
theorem snd_c {e : Expr} {d : D} {v : V} (h : PE X e (tC v)) (hr : ∀ K B H, Rep K B H d v) : PE X e (denE c E (oC d)) :=
  pe_mono h fun σ H Q ⟨r, B, R, h⟩ => h v H B R (Step.refl _ _) (hr _ _ _)

/-! ### operators -/
def oOp2 (f : D → D → Option D) (a b : O1) : O1 := fun r => (a r).bnd fun x r1 => (b r1).bnd fun y r2 => optO (f x y) r2
/-- by values: what is asked of a two-place operation -/
def Op2 (c : Cfg) (q : R2) (f : D → D → Option D) : Prop := ∀ (B : Av) (H : Hp) (x y : V) (d e g : D) (Q : VK), (∀ p, H p = none → ¬ B.b p) → Rep c.K B H d x → Rep c.K B H e y → f d e = some g →
  (∀ v H', Ext H H' → Rep c.K B H' g v → Q v H') → q x y H Q
theorem op2_end {q : R2} {f : D → D → Option D} (h2 : Op2 c q f) {r : Rho} {B : Av} {σ : St} {H : Hp} {x y : V} {d e : D} {Q : VK} (R : Rel c r B σ H) (rx : Rep c.K B H d x) (ry : Rep c.K B H e y)
    (h : PostE c E σ B H Q (optO (f d e) r)) : q x y H Q := by
  unfold optO at h
  split at h
  · rename_i g eg
    exact h2 B H x y d e g Q (fun p hp => R.fresh hp) rx ry eg fun v H' ex rv => h v H' B (R.ext ex) ex.step rv
  · exact h.elim
theorem den2 {ta tb : O1} {q : R2} {f : D → D → Option D} (h2 : Op2 c q f) {σ : St} {H : Hp} {Q : VK} (h : denE c E (oOp2 f ta tb) σ H Q) : tOp q (denE c E ta) (denE c E tb) σ H Q := by
  obtain ⟨r, B, R, h⟩ := h
  refine ⟨r, B, R, bndE ppE h fun d1 r1 v1 H1 B1 _ R1 S1 q1 h1 => ?_⟩
  refine ⟨r1, B1, R1, bndE ppE h1 fun d2 r2 v2 H2 B2 _ R2 S2 q2 h2' => ?_⟩
  exact op2_end h2 R2 (q1.step (R1.v S2)) q2 h2'
theorem snd_bin {op : Operator} {a b : Expr} {oa ob : O1} {pos : Pos} {q : R2} {f : D → D → Option D} (ho : OpR X (binaryOp op) q) (h2 : Op2 c q f) (ha : PE X a (denE c E oa)) (hb : PE X b (denE c E ob)) :
    PE X (.BinOp a op b pos) (denE c E (oOp2 f oa ob)) := pe_mono (pe_op ho ha hb) fun σ H Q h => den2 h2 h
theorem snd_cmp {op : CmpOp} {a b : Expr} {oa ob : O1} {pos : Pos} {q : R2} {f : D → D → Option D} (ho : OpR X (compareOp op) q) (h2 : Op2 c q f) (ha : PE X a (denE c E oa)) (hb : PE X b (denE c E ob)) (hm : behindInMarks op b = false) :
    PE X (.Compare a [op] [b] pos) (denE c E (oOp2 f oa ob)) := pe_mono (pe_cmpR ho ha hb hm) fun σ H Q h => den2 h2 h
theorem PostT.toE {σ : St} {B : Av} {H : Hp} {Q : Bool → Hp → Prop} {o : Out} (h : PostT c E σ B H Q o) : PostE c E σ B H (fun x H' => ∃ k, x = .bl k ∧ Q k H') o := by
  cases o with
  | val d r =>
    cases d with
    | bool b => exact fun v H' B' R S q => by cases q; exact ⟨b, rfl, h H' B' R S⟩
    | _ => exact h.elim
  | exc n d => exact h
  | _ => exact h.elim
theorem snd_cmpT {op : CmpOp} {a b : Expr} {oa ob : O1} {pos : Pos} {q : R2} {f : D → D → Option D} (ho : OpR X (compareOp op) q) (h2 : Op2 c q f) (ha : PE X a (denE c E oa)) (hb : PE X b (denE c E ob)) (hm : behindInMarks op b = false) :
    PT X (.Compare a [op] [b] pos) (denT c E (oOp2 f oa ob)) := pt_mono (pt_cmpR ho ha hb hm) fun σ H Q ⟨r, B, R, h⟩ => den2 h2 ⟨r, B, R, h.toE⟩
/-- a test of an expression that is read as a value -/
theorem snd_tv {e : Expr} {o : O1} (h : PE X e (denE c E o)) (he : ∀ whole, isTrue e X.env whole = (do let v ← whole; standAt e.pos; holding [v] (truthy v))) : PT X e (denT c E o) :=
  pt_mono (pt_val h he) fun σ H Q ⟨r, B, R, h⟩ => ⟨r, B, R, h.toE⟩
def oOp1 (f : D → Option D) (a : O1) : O1 := fun r => (a r).bnd fun x r1 => optO (f x) r1
def Op1 (c : Cfg) (q : V → Hp → VK → Prop) (f : D → Option D) : Prop := ∀ (B : Av) (H : Hp) (x : V) (d g : D) (Q : VK), (∀ p, H p = none → ¬ B.b p) → Rep c.K B H d x → f d = some g →
  (∀ v H', Ext H H' → Rep c.K B H' g v → Q v H') → q x H Q
theorem op1_end {q : V → Hp → VK → Prop} {f : D → Option D} (h2 : Op1 c q f) {r : Rho} {B : Av} {σ : St} {H : Hp} {x : V} {d : D} {Q : VK} (R : Rel c r B σ H) (rx : Rep c.K B H d x)
    (h : PostE c E σ B H Q (optO (f d) r)) : q x H Q := by
  unfold optO at h
  split at h
  · rename_i g eg
    exact h2 B H x d g Q (fun p hp => R.fresh hp) rx eg fun v H' ex rv => h v H' B (R.ext ex) ex.step rv
  · exact h.elim
theorem snd_un {op : UnaryOp} {a : Expr} {oa : O1} {pos : Pos} {q : V → Hp → VK → Prop} {f : D → Option D} (ho : UnR X (unaryOp op) q) (h1 : Op1 c q f) (ha : PE X a (denE c E oa)) :
    PE X (.UnaryOp op a pos) (denE c E (oOp1 f oa)) := pe_mono (pe_un ho ha) fun σ H Q ⟨r, B, R, h⟩ =>
  ⟨r, B, R, bndE ppE h fun d1 r1 v1 H1 B1 _ R1 S1 q1 h' => op1_end h1 R1 q1 h'⟩
/-- a call of a built-in by values -/
def oCall (f : List D → Option D) (a : O1) : O1 := fun r => (a r).bnds fun xs r1 => optO (f xs) r1
def OpN (c : Cfg) (q : List V → Hp → VK → Prop) (f : List D → Option D) : Prop := ∀ (B : Av) (H : Hp) (xs : List V) (ds : List D) (g : D) (Q : VK), (∀ p, H p = none → ¬ B.b p) → Reps c.K B H ds xs → f ds = some g →
  (∀ v H', Ext H H' → Rep c.K B H' g v → Q v H') → q xs H Q
theorem opN_end {q : List V → Hp → VK → Prop} {f : List D → Option D} (h2 : OpN c q f) {r : Rho} {B : Av} {σ : St} {H : Hp} {x : List V} {d : List D} {Q : VK} (R : Rel c r B σ H) (rx : Reps c.K B H d x)
    (h : PostE c E σ B H Q (optO (f d) r)) : q x H Q := by
  unfold optO at h
  split at h
  · rename_i g eg
    exact h2 B H x d g Q (fun p hp => R.fresh hp) rx eg fun v H' ex rv => h v H' B (R.ext ex) ex.step rv
  · exact h.elim
theorem denCB {q : List V → Hp → VK → Prop} {f : List D → Option D} {oa : O1} (h2 : OpN c q f) {σ : St} {H : Hp} {Q : VK} (h : denE c E (oCall f oa) σ H Q) : tCB q (denA c E oa) σ H Q := by
  obtain ⟨r, B, R, h⟩ := h
  exact ⟨r, B, R, bndA ppE h fun d1 r1 v1 H1 B1 _ R1 S1 q1 h' => opN_end h2 R1 q1 h'⟩
theorem snd_callB {id : String} {x : Str} {e : Expr} {es : List Expr} {oa : O1} {p pos : Pos} {q : List V → Hp → VK → Prop} {f : List D → Option D} (hc : CallR X (.builtin id) q) (h2 : OpN c q f) (hg : Gl X x) (hm : X.mg x = none) (hv : bootBuiltins x = some (.builtin id))
    (ha : PA X (e :: es) (denA c E oa)) (hn : x ≠ "__name__") (hdb : (x == ("__debug__" : Str)) = false) (he : starEach (e :: es) X.env = (false, eval e X.env) :: starEach es X.env) (hpl : (backTo pos (starEach es X.env)).any (·.1) = false) :
    PE X (.Call (.Name x p) (e :: es) [] pos) (denE c E (oCall f oa)) := pe_mono (pe_callB hc hg hm hv ha hn hdb he hpl) fun σ H Q h => denCB h2 h
theorem snd_callTy {T : String} {x : Str} {e : Expr} {es : List Expr} {oa : O1} {p pos : Pos} {q : List V → Hp → VK → Prop} {f : List D → Option D} (hc : CallR X (.type T) q) (h2 : OpN c q f) (hg : Gl X x) (hm : X.mg x = none) (hv : bootBuiltins x = some (.type T))
    (ha : PA X (e :: es) (denA c E oa)) (hn : x ≠ "__name__") (hdb : (x == ("__debug__" : Str)) = false) (he : starEach (e :: es) X.env = (false, eval e X.env) :: starEach es X.env) (hpl : (backTo pos (starEach es X.env)).any (·.1) = false) :
    PE X (.Call (.Name x p) (e :: es) [] pos) (denE c E (oCall f oa)) := pe_mono (pe_callTy hc hg hm hv ha hn hdb he hpl) fun σ H Q h => denCB h2 h

/-! ### argument lists, displays -/
def oNil : O1 := fun r => .vals [] r
def oCons (a t : O1) : O1 := fun r => (a r).bnd fun x r1 => (t r1).bnds fun xs r2 => .vals (x :: xs) r2
theorem snd_nil : PA X [] (denA c E oNil) := pa_mono pa_nil fun σ H Q ⟨r, B, R, h⟩ => h [] H B R (Step.refl _ _) .nil
theorem snd_cons {e : Expr} {es : List Expr} {oa ot : O1} (ha : PE X e (denE c E oa)) (ht : PA X es (denA c E ot)) (hs : starEach (e :: es) X.env = (false, eval e X.env) :: starEach es X.env) :
    PA X (e :: es) (denA c E (oCons oa ot)) := pa_mono (pa_cons ha ht hs) fun σ H Q ⟨r, B, R, h⟩ =>
  ⟨r, B, R, bndE ppA h fun d1 r1 v1 H1 B1 _ R1 S1 q1 h1 => ⟨r1, B1, R1, bndA ppA h1 fun d2 r2 v2 H2 B2 _ R2 S2 q2 h2 => h2 (v1 :: v2) H2 B2 R2 (Step.refl _ _) (.cons (q1.step (R1.v S2)) q2)⟩⟩
def lim : Nat := 1000000
theorem lim_line {n : Nat} (h : n ≤ lim) : n ≤ sizeLine := Nat.le_trans h (by decide)
def fTup (xs : List D) : Option D := if xs.length ≤ lim then some (.tuple xs) else none
def fLst (xs : List D) : Option D := if xs.length ≤ lim then some (.list xs) else none
theorem snd_tup {es : List Expr} {k : Nat} {pos : Pos} {ot : O1} (h : PA X es (denA c E ot)) : PE X (.Tuple es k pos) (denE c E (oCall fTup ot)) := by
  refine pe_mono (pe_tup h) fun σ H Q ⟨r, B, R, h⟩ => ⟨r, B, R, bndA ppE h fun ds r1 vs H1 B1 _ R1 S1 q1 h1 => ?_⟩
  unfold fTup optO at h1
  by_cases hl : ds.length ≤ lim
  · rw [if_pos hl] at h1
    refine ⟨by rw [← q1.length]; exact lim_line hl, fun p hp => ?_⟩
    exact h1 _ _ B1 (R1.ext (Ext.new hp)) (Ext.new hp).step (Rep.newT (R1.fresh hp) hp q1)
  · rw [if_neg hl] at h1; exact h1.elim
theorem snd_lst {es : List Expr} {pos : Pos} {ot : O1} (h : PA X es (denA c E ot)) : PE X (.List es pos) (denE c E (oCall fLst ot)) := by
  refine pe_mono (pe_lst h) fun σ H Q ⟨r, B, R, h⟩ => ⟨r, B, R, bndA ppE h fun ds r1 vs H1 B1 _ R1 S1 q1 h1 => ?_⟩
  unfold fLst optO at h1
  by_cases hl : ds.length ≤ lim
  · rw [if_pos hl] at h1
    refine ⟨by rw [← q1.length]; exact lim_line hl, fun p hp => ?_⟩
    exact h1 _ _ B1 (R1.ext (Ext.new hp)) (Ext.new hp).step (Rep.newL (R1.fresh hp) hp q1)
  · rw [if_neg hl] at h1; exact h1.elim

/-! ### and, or, not, if .. else, chains -/
def oAnd (a b : O1) : O1 := fun r => (a r).bndb fun k r1 => if k = true then b r1 else .val (.bool false) r1
def oOr (a b : O1) : O1 := fun r => (a r).bndb fun k r1 => if k = true then .val (.bool true) r1 else b r1
def oNot (a : O1) : O1 := fun r => (a r).bndb fun k r1 => .val (.bool (!k)) r1
def oIf (t a b : O1) : O1 := fun r => (t r).bndb fun k r1 => if k = true then a r1 else b r1
theorem snd_one {op : BoolOp} {a : Expr} {oa : O1} {pos : Pos} (ha : PE X a (denE c E oa)) : PE X (.BoolOp op [a] pos) (denE c E oa) := pe_one ha
theorem snd_and {a b : Expr} {rest : List Expr} {oa ob : O1} {pos : Pos} (ha : PE X a (denE c E oa)) (hb : PE X (.BoolOp .And (b :: rest) pos) (denE c E ob)) : PE X (.BoolOp .And (a :: b :: rest) pos) (denE c E (oAnd oa ob)) := by
  refine pe_mono (pe_and ha hb) fun σ H Q ⟨r, B, R, h⟩ => ⟨r, B, R, bndTE ppE h fun k r1 H1 B1 _ R1 S1 h1 => ⟨k, rfl, ?_⟩⟩
  cases k with
  | true => exact ⟨r1, B1, R1, h1⟩
  | false => exact h1 _ H1 B1 R1 (Step.refl _ _) (.bl false)
theorem snd_or {a b : Expr} {rest : List Expr} {oa ob : O1} {pos : Pos} (ha : PE X a (denE c E oa)) (hb : PE X (.BoolOp .Or (b :: rest) pos) (denE c E ob)) : PE X (.BoolOp .Or (a :: b :: rest) pos) (denE c E (oOr oa ob)) := by
  refine pe_mono (pe_or ha hb) fun σ H Q ⟨r, B, R, h⟩ => ⟨r, B, R, bndTE ppE h fun k r1 H1 B1 _ R1 S1 h1 => ⟨k, rfl, ?_⟩⟩
  cases k with
  | true => exact h1 _ H1 B1 R1 (Step.refl _ _) (.bl true)
  | false => exact ⟨r1, B1, R1, h1⟩
theorem snd_not {a : Expr} {oa : O1} {pos : Pos} (ha : PE X a (denE c E oa)) : PE X (.UnaryOp .Not a pos) (denE c E (oNot oa)) :=
  pe_mono (pe_not ha) fun σ H Q ⟨r, B, R, h⟩ => ⟨r, B, R, bndTE ppE h fun k r1 H1 B1 _ R1 S1 h1 => ⟨k, rfl, h1 _ H1 B1 R1 (Step.refl _ _) (.bl _)⟩⟩
theorem snd_and1T {a : Expr} {oa : O1} {pos : Pos} (ha : PT X a (denT c E oa)) : PW X (.BoolOp .And [a] pos) (denT c E oa) := pw_and1 ha
theorem snd_or1T {a : Expr} {oa : O1} {pos : Pos} (ha : PT X a (denT c E oa)) : PW X (.BoolOp .Or [a] pos) (denT c E oa) := pw_or1 ha
theorem snd_andT {a b : Expr} {rest : List Expr} {oa ob : O1} {pos : Pos} (ha : PT X a (denT c E oa)) (hb : PW X (.BoolOp .And (b :: rest) pos) (denT c E ob)) : PW X (.BoolOp .And (a :: b :: rest) pos) (denT c E (oAnd oa ob)) := by
  refine pw_mono (pw_and ha hb) fun σ H Q ⟨r, B, R, h⟩ => ⟨r, B, R, bndT ppT h fun k r1 H1 B1 _ R1 S1 h1 => ?_⟩
  cases k with
  | true => exact ⟨r1, B1, R1, h1⟩
  | false => exact h1 H1 B1 R1 (Step.refl _ _)
theorem snd_orT {a b : Expr} {rest : List Expr} {oa ob : O1} {pos : Pos} (ha : PT X a (denT c E oa)) (hb : PW X (.BoolOp .Or (b :: rest) pos) (denT c E ob)) : PW X (.BoolOp .Or (a :: b :: rest) pos) (denT c E (oOr oa ob)) := by
  refine pw_mono (pw_or ha hb) fun σ H Q ⟨r, B, R, h⟩ => ⟨r, B, R, bndT ppT h fun k r1 H1 B1 _ R1 S1 h1 => ?_⟩
  cases k with
  | true => exact h1 H1 B1 R1 (Step.refl _ _)
  | false => exact ⟨r1, B1, R1, h1⟩
theorem snd_notT {a : Expr} {oa : O1} {pos : Pos} (ha : PT X a (denT c E oa)) : PT X (.UnaryOp .Not a pos) (denT c E (oNot oa)) :=
  pt_mono (pt_not ha) fun σ H Q ⟨r, B, R, h⟩ => ⟨r, B, R, bndT ppT h fun k r1 H1 B1 _ R1 S1 h1 => h1 H1 B1 R1 (Step.refl _ _)⟩
theorem snd_if {t a b : Expr} {ot oa ob : O1} {pos : Pos} (ht : PT X t (denT c E ot)) (ha : PE X a (denE c E oa)) (hb : PE X b (denE c E ob)) : PE X (.IfExp t a b pos) (denE c E (oIf ot oa ob)) := by
  refine pe_mono (pe_ifExp ht ha hb) fun σ H Q ⟨r, B, R, h⟩ => ⟨r, B, R, bndT ppE h fun k r1 H1 B1 _ R1 S1 h1 => ?_⟩
  cases k with
  | true => exact ⟨r1, B1, R1, h1⟩
  | false => exact ⟨r1, B1, R1, h1⟩
def oChain (f g : D → D → Option D) (a b k : O1) : O1 := fun r => (a r).bnd fun x r1 => (b r1).bnd fun y r2 => (optO (f x y) r2).bndb fun t r3 => if t = true then (k r3).bnd fun z r4 => optO (g y z) r4 else .val (.bool false) r3
theorem chain_go {q q' : R2} {f g : D → D → Option D} {oa ob oc : O1} (h2 : Op2 c q f) (h3 : Op2 c q' g) {σ : St} {H : Hp} {Q : VK} (h : denE c E (oChain f g oa ob oc) σ H Q) :
    tChain q q' (denE c E oa) (denE c E ob) (denE c E oc) σ H Q := by
  obtain ⟨r, B, R, h⟩ := h
  refine ⟨r, B, R, bndE ppE h fun d1 r1 v1 H1 B1 _ R1 S1 q1 h1 => ⟨r1, B1, R1, bndE ppE h1 fun d2 r2 v2 H2 B2 _ R2 S2 q2 h4 => ?_⟩⟩
  refine op2_end (E := E) (σ := σ) (r := r2) (B := B2) (d := d1) (e := d2) h2 R2 (q1.step (R1.v S2)) q2 ?_
  refine bndTE ppE h4 fun k r3 H3 B3 _ R3 S3 h5 => ⟨k, rfl, ?_⟩
  cases k with
  | true =>
    refine ⟨r3, B3, R3, bndE ppE h5 fun d4 r4 v4 H4 B4 _ R4 S4 q4 h6 => ?_⟩
    exact op2_end h3 R4 (q2.step (R2.v (S3.trans S4))) q4 h6
  | false => exact h5 _ H3 B3 R3 (Step.refl _ _) (.bl false)
theorem snd_chain {op op' : CmpOp} {q q' : R2} {f g : D → D → Option D} {a b k : Expr} {oa ob oc : O1} {pos : Pos} (ho : OpR X (compareOp op) q) (ho' : OpR X (compareOp op') q') (h2 : Op2 c q f) (h3 : Op2 c q' g)
    (ha : PE X a (denE c E oa)) (hb : PE X b (denE c E ob)) (hc : PE X k (denE c E oc)) (h : PE X (.Compare a [op, op'] [b, k] pos) (tChain q q' (denE c E oa) (denE c E ob) (denE c E oc))) :
    PE X (.Compare a [op, op'] [b, k] pos) (denE c E (oChain f g oa ob oc)) := pe_mono h fun σ H Q h => chain_go h2 h3 h
end
end Py

/-! Py, part C: statements, names of one's own, targets, loops. -/
namespace Py
open PySem L2

def PostS (c : Cfg) (E : EX) (B : Av) (H : Hp) (G : Ends) : Out → Prop
  | .nxt r => ∀ σ' H' B', Rel c r B' σ' H' → Step B H B' H' → G.nx σ' H'
  | .brk r => ∀ σ' H' B', Rel c r B' σ' H' → Step B H B' H' → G.bk σ' H'
  | .cnt r => ∀ σ' H' B', Rel c r B' σ' H' → Step B H B' H' → G.ct σ' H'
  | .ret d r => ∀ v σ' H' B', Rel c r B' σ' H' → Step B H B' H' → Rep c.K B' H' d v → G.rt v H'
  | .exc n d => ∀ H', Fr c H' → E n d H'
  | _ => False
theorem ppS {c : Cfg} {E : EX} {G : Ends} : PP c E (fun B H o => PostS c E B H G o) where
  exc _ _ _ _ h := h
  bad _ _ h := h
  frm B H B1 H1 o S h := by
    cases o with
    | nxt r => exact fun σ' H' B' R S' => h σ' H' B' R (S.trans S')
    | brk r => exact fun σ' H' B' R S' => h σ' H' B' R (S.trans S')
    | cnt r => exact fun σ' H' B' R S' => h σ' H' B' R (S.trans S')
    | ret d r => exact fun v σ' H' B' R S' q => h v σ' H' B' R (S.trans S') q
    | exc n d => exact h
    | _ => exact h.elim
def denS (c : Cfg) (E : EX) (o : O1) : TS := fun G σ H => ∃ r B, Rel c r B σ H ∧ PostS c E B H G (o r)
theorem ps_mono {X : Cx} {st : Stmt} {t t' : TS} (h : PS X st t) (m : ∀ G σ H, t' G σ H → t G σ H) : PS X st t' := ⟨fun pins s σ H G I q => h.run pins s σ H G I (m G σ H q)⟩
theorem pss_mono {X : Cx} {st : List Stmt} {t t' : TS} (h : PSs X st t) (m : ∀ G σ H, t' G σ H → t G σ H) : PSs X st t' := ⟨fun pins s σ H G I q => h.run pins s σ H G I (m G σ H q)⟩

/-! ### slots are stored -/
section
variable {c : Cfg} {E : EX} {r : Rho} {B : Av} {σ : St} {H : Hp}
theorem Rel.exm (R : Rel c r B σ H) {j : Nat} {t : Slot} {a : Addr} (hj : r[j]? = some t) (ht : t.excl = true) (hu : σ[j]? = some (some (.ref a))) : B.m a := by
  have q := R.slot j t _ hj hu
  cases t with
  | own d => obtain ⟨b, e1, q1, _⟩ := q; cases e1; exact q1
  | io d => obtain ⟨e1, q1, _⟩ := q; cases e1; exact q1
  | _ => cases ht
theorem Rel.set (R : Rel c r B σ H) {i : Nat} {s : Slot} {v : V} (ok : SlotOk c B H i s (some v)) (ap : s.excl = true → ∀ (j : Nat) t, j ≠ i → r[j]? = some t → t.excl = true → σ[j]? ≠ some (some v)) :
    Rel c (r.set i s) B (σ.set i (some v)) H := by
  refine ⟨by simpa using R.len, ?_, ?_, R.mb, R.bk, R.b0, R.b0h, R.bsub, R.msub, R.i0, R.fr, R.dom⟩
  · intro j t u hj hu
    by_cases e : j = i
    · subst e
      have hl : j < r.length := by
        have := (List.getElem?_eq_some_iff.mp hj).1
        simpa using this
      rw [List.getElem?_set_self hl] at hj; cases hj
      rw [List.getElem?_set_self (by rw [← R.len]; exact hl)] at hu; cases hu
      exact ok
    · rw [List.getElem?_set_ne (Ne.symm e)] at hj
      rw [List.getElem?_set_ne (Ne.symm e)] at hu
      exact R.slot j t u hj hu
  · intro j k t u a hne hj hk ht hu e1 e2
    by_cases e : j = i
    · subst e
      have hl : j < r.length := by
        have := (List.getElem?_eq_some_iff.mp hj).1
        simpa using this
      rw [List.getElem?_set_self hl] at hj; cases hj
      rw [List.getElem?_set_self (by rw [← R.len]; exact hl)] at e1; cases e1
      rw [List.getElem?_set_ne hne] at hk e2
      exact ap ht k u (Ne.symm hne) hk hu e2
    · rw [List.getElem?_set_ne (Ne.symm e)] at hj e1
      by_cases e3 : k = i
      · subst e3
        have hl : k < r.length := by
          have := (List.getElem?_eq_some_iff.mp hk).1
          simpa using this
        rw [List.getElem?_set_self hl] at hk; cases hk
        rw [List.getElem?_set_self (by rw [← R.len]; exact hl)] at e2; cases e2
        exact ap hu j t e hj ht e1
      · rw [List.getElem?_set_ne (Ne.symm e3)] at hk e2
        exact R.apart j k t u a hne hj hk ht hu e1 e2
theorem Rel.setV (R : Rel c r B σ H) {i : Nat} {d : D} {v : V} (q : Rep c.K B H d v) : Rel c (r.set i (.val d)) B (σ.set i (some v)) H :=
  R.set ⟨v, rfl, q⟩ fun h => by cases h
def Av.plus (B : Av) (p : Addr) : Av := ⟨B.b, fun x => B.m x ∨ x = p⟩
def Av.priv (B : Av) (p : Addr) : Av := ⟨fun x => B.b x ∨ x = p, B.m⟩
theorem Rel.plus (R : Rel c r B σ H) {p : Addr} (hb : B.b p) (h0 : c.H0 p = none) : Rel c r (B.plus p) σ H := by
  refine ⟨R.len, ?_, R.apart, fun a h => h.elim (R.mb a) (fun e => by rw [e]; exact hb), R.bk, R.b0, R.b0h, R.bsub, fun a h => h.elim (R.msub a) (fun e => .inr (by rw [e]; exact h0)), R.i0, R.fr, R.dom⟩
  intro j t u hj hu
  have q := R.slot j t u hj hu
  have st : Vst B H (B.plus p) H := ⟨fun _ o _ e => e, fun _ h => .inl h⟩
  cases t with
  | un => trivial
  | val d => obtain ⟨v, e1, q⟩ := q; exact ⟨v, e1, q.step st⟩
  | own d => obtain ⟨b, e1, q1, q2, q3⟩ := q; exact ⟨b, e1, .inl q1, q2, q3.step st fun _ e => e⟩
  | io d => obtain ⟨e1, q1, q2, q3⟩ := q; exact ⟨e1, .inl q1, q2, q3.step st fun _ e => e⟩
  | scr ns => exact q
theorem Rel.setOwn (R : Rel c r B σ H) {i : Nat} {d : D} {p : Addr} (hb : B.b p) (hm : ¬ B.m p) (h0 : c.H0 p = none) (q : Cont c.K B H d p) : Rel c (r.set i (.own d)) (B.plus p) (σ.set i (some (.ref p))) H := by
  have st : Vst B H (B.plus p) H := ⟨fun _ o _ e => e, fun _ h => .inl h⟩
  refine (R.plus hb h0).set (i := i) (s := .own d) ⟨p, rfl, .inr rfl, h0, q.step st fun _ e => e⟩ fun _ j t hj ht hx hu => ?_
  exact hm (R.exm ht hx hu)
/-- a new private object -/
theorem Rel.alloc (R : Rel c r B σ H) {p : Addr} {o : HO} (hp : H p = none) : Rel c r (B.priv p) σ (upd H p o) := by
  have R' := R.ext (Ext.new (o := o) hp)
  have st : Vst B (upd H p o) (B.priv p) (upd H p o) → True := fun _ => trivial
  refine ⟨R'.len, ?_, R'.apart, fun a h => .inl (R.mb a h), fun a h => h.elim (R'.bk a) (fun e => by rw [e]; exact ⟨o, upd_same⟩), fun a h => .inl (R.b0 a h), R.b0h, fun a h => h.elim (R.bsub a) (fun e => .inr (by rw [e]; exact R.fresh0 hp)), R.msub, R.i0, R'.fr, R'.dom⟩
  intro j t u hj hu
  have q := R.slot j t u hj hu
  have st : Vst B H (B.priv p) (upd H p o) := ⟨fun a o' _ e => Ext.new hp a o' e, fun a h => h.elim .inl (fun e => .inr (by rw [e]; exact hp))⟩
  cases t with
  | un => trivial
  | val d => obtain ⟨v, e1, q⟩ := q; exact ⟨v, e1, q.step st⟩
  | own d => obtain ⟨b, e1, q1, q2, q3⟩ := q; exact ⟨b, e1, q1, q2, q3.step st (Ext.new hp b)⟩
  | io d => obtain ⟨e1, q1, q2, q3⟩ := q; exact ⟨e1, q1, q2, q3.step st (Ext.new hp _)⟩
  | scr ns =>
    obtain ⟨b, e1, q1⟩ := q
    exact ⟨b, e1, q1.step st⟩
theorem privStep {p : Addr} {o : HO} (hp : H p = none) : Step B H (B.priv p) (upd H p o) :=
  ⟨fun a o' _ e => Ext.new hp a o' e, fun a o' b _ e => .inl b, fun a o' e => ⟨o', Ext.new hp a o' e⟩, fun a h => h.elim .inl (fun e => .inr (by rw [e]; exact hp)), fun a h => .inl h⟩
theorem Step.plus {B' : Av} {H' : Hp} (S : Step B H B' H') {p : Addr} (hp : H p = none) : Step B H (B'.plus p) H' :=
  ⟨S.stay, S.keep, S.dom, S.sub, fun a h => h.elim (S.subm a) fun e => .inr (by rw [e]; exact hp)⟩
/-- the thing in slot i is changed -/
theorem Rel.mut (R : Rel c r B σ H) {i : Nat} {s s' : Slot} {a : Addr} {o o' : HO} {d : D} (hi : r[i]? = some s) (hs : s.excl = true) (ha : σ[i]? = some (some (.ref a))) (he : H a = some o)
    (hs' : (∃ d0, s = .own d0 ∧ s' = .own d) ∨ ∃ d0, s = .io d0 ∧ s' = .io d) (ct : Cont c.K B (upd H a o') d a) : Rel c (r.set i s') B σ (upd H a o') ∧ Step B H B (upd H a o') := by
  have hil : i < r.length := (List.getElem?_eq_some_iff.mp hi).1
  have ba := R.exm hi hs ha
  have st : Step B H B (upd H a o') := by
    refine ⟨fun x u nm e => ?_, fun x u b nm e => b, fun x u e => ?_, fun x h => .inl h, fun x h => .inl h⟩
    · rw [upd_ne (fun z => nm (by rw [z]; exact ba))]; exact e
    · by_cases z : x = a
      · rw [z]; exact ⟨o', upd_same⟩
      · rw [upd_ne z]; exact ⟨u, e⟩
  have vs := R.v st
  have h0 : c.I a ∨ c.H0 a = none := R.msub a ba
  refine ⟨⟨by simpa using R.len, ?_, ?_, R.mb, fun x b => ?_, R.b0, R.b0h, R.bsub, R.msub, R.i0, fun x u n e => ?_, fun x u e => ?_⟩, st⟩
  · intro j t u hj hu
    by_cases e : j = i
    · subst e
      rw [List.getElem?_set_self hil] at hj; cases hj
      rw [ha] at hu; cases hu
      have q := R.slot j s _ hi ha
      rcases hs' with ⟨d0, rfl, rfl⟩ | ⟨d0, rfl, rfl⟩
      · obtain ⟨b, e1, q1, q2, q3⟩ := q
        cases e1
        exact ⟨a, rfl, ba, q2, ct⟩
      · obtain ⟨e1, q1, q2, q3⟩ := q
        cases e1
        exact ⟨rfl, ba, q2, ct⟩
    · rw [List.getElem?_set_ne (Ne.symm e)] at hj
      have q := R.slot j t u hj hu
      cases t with
      | un => trivial
      | val d => obtain ⟨v, e1, q⟩ := q; exact ⟨v, e1, q.step vs⟩
      | own d =>
        obtain ⟨b, e1, q1, q2, q3⟩ := q
        subst e1
        have hne : b ≠ a := fun z => by rw [z] at hu; exact R.apart i j _ _ a (Ne.symm e) hi hj hs rfl ha hu
        exact ⟨b, rfl, q1, q2, q3.step vs fun _ e => by rw [upd_ne hne]; exact e⟩
      | io d =>
        obtain ⟨e1, q1, q2, q3⟩ := q
        subst e1
        have hne : c.ad j ≠ a := fun z => by rw [z] at hu; exact R.apart i j _ _ a (Ne.symm e) hi hj hs rfl ha hu
        exact ⟨rfl, q1, q2, q3.step vs fun _ e => by rw [upd_ne hne]; exact e⟩
      | scr ns => obtain ⟨b, e1, q1⟩ := q; exact ⟨b, e1, q1.step vs⟩
  · intro j k t u b hne hj hk ht hu
    have sx : s'.excl = true := by rcases hs' with ⟨d0, rfl, rfl⟩ | ⟨d0, rfl, rfl⟩ <;> rfl
    by_cases e : j = i
    · subst e
      rw [List.getElem?_set_ne hne] at hk
      exact R.apart j k s u b hne hi hk hs hu
    · rw [List.getElem?_set_ne (Ne.symm e)] at hj
      by_cases e2 : k = i
      · subst e2
        exact R.apart j k t s b hne hj hi ht hs
      · rw [List.getElem?_set_ne (Ne.symm e2)] at hk
        exact R.apart j k t u b hne hj hk ht hu
  · by_cases z : x = a
    · rw [z]; exact ⟨o', upd_same⟩
    · rw [upd_ne z]; exact R.bk x b
  · rw [upd_ne]
    · exact R.fr x u n e
    · intro w
      rw [w] at n e
      rcases h0 with h | h
      · exact n h
      · rw [h] at e; cases e
  · obtain ⟨u', q⟩ := R.dom x u e
    by_cases z : x = a
    · rw [z]; exact ⟨o', upd_same⟩
    · rw [upd_ne z]; exact ⟨u', q⟩
end

/-! ### a new thing for a name of one's own -/
def PostF (c : Cfg) (E : EX) (σ : St) (B : Av) (H : Hp) (Q : VK) : Out → Prop
  | .val d r => ∀ p H' B', Rel c r B' σ H' → Step B H B' H' → B'.b p → ¬ B'.m p → H p = none → Cont c.K B' H' d p → Q (.ref p) H'
  | .exc n d => ∀ H', Fr c H' → E n d H'
  | _ => False
def denF (c : Cfg) (E : EX) (o : O1) : TE := fun σ H Q => ∃ r B, Rel c r B σ H ∧ PostF c E σ B H Q (o r)
theorem ppF {c : Cfg} {E : EX} {σ : St} {Q : VK} : PP c E (fun B H o => PostF c E σ B H Q o) where
  exc _ _ _ _ h := h
  bad _ _ h := h
  frm B H B1 H1 o S h := by
    cases o with
    | val d r => exact fun p H' B' R S' b m n q => h p H' B' R (S.trans S') b m (S.back n) q
    | exc n d => exact h
    | _ => exact h.elim
section
variable {X : Cx} {c : Cfg} {E : EX}
theorem snd_lstF {es : List Expr} {pos : Pos} {ot : O1} (h : PA X es (denA c E ot)) : PE X (.List es pos) (denF c E (oCall fLst ot)) := by
  refine pe_mono (pe_lst h) fun σ H Q ⟨r, B, R, h⟩ => ⟨r, B, R, bndA ppF h fun ds r1 vs H1 B1 _ R1 S1 q1 h1 => ?_⟩
  unfold fLst optO at h1
  by_cases hl : ds.length ≤ lim
  · rw [if_pos hl] at h1
    refine ⟨by rw [← q1.length]; exact lim_line hl, fun p hp => ?_⟩
    have st := privStep (B := B1) (o := .lst vs) hp
    exact h1 p _ (B1.priv p) (R1.alloc hp) st (.inr rfl) (fun z => R1.fresh hp (R1.mb p z)) hp (.lst upd_same (q1.step (st.v R1.mb)))
  · rw [if_neg hl] at h1; exact h1.elim

/-! ### plain statements -/
def oSeq (a b : O1) : O1 := fun r => match a r with
  | .nxt r1 => b r1
  | o => o
def oNxt : O1 := fun r => .nxt r
theorem snd_snil : PSs X [] (denS c E oNxt) := pss_mono pss_nil fun G σ H ⟨r, B, R, h⟩ => h σ H B R (Step.refl _ _)
theorem seq_go {a b : O1} {r : Rho} {B : Av} {H : Hp} {G : Ends} (h : PostS c E B H G (oSeq a b r)) : PostS c E B H { G with nx := denS c E b G } (a r) := by
  unfold oSeq at h
  cases e : a r with
  | nxt r1 => rw [e] at h; exact fun σ' H' B' R S => ⟨r1, B', R, ppS.frm _ _ _ _ _ S h⟩
  | val d r => rw [e] at h; exact h.elim
  | vals d r => rw [e] at h; exact h.elim
  | brk r => rw [e] at h; exact h
  | cnt r => rw [e] at h; exact h
  | ret d r => rw [e] at h; exact h
  | exc n d => rw [e] at h; exact h
  | bad => rw [e] at h; exact h.elim
theorem snd_scons {s : Stmt} {ss : List Stmt} {a b : O1} (ha : PS X s (denS c E a)) (hb : PSs X ss (denS c E b)) : PSs X (s :: ss) (denS c E (oSeq a b)) :=
  pss_mono (pss_cons ha hb) fun G σ H ⟨r, B, R, h⟩ => ⟨r, B, R, seq_go h⟩
theorem snd_sone {s : Stmt} {a : O1} (ha : PS X s (denS c E a)) : PSs X [s] (denS c E a) := pss_one ha
def oRet (a : O1) : O1 := fun r => (a r).bnd fun d r1 => .ret d r1
theorem snd_ret {e : Expr} {o : O1} {pos : Pos} (h : PE X e (denE c E o)) : PS X (.Return (some e) pos) (denS c E (oRet o)) :=
  ps_mono (ps_ret h) fun G σ H ⟨r, B, R, h⟩ => ⟨r, B, R, bndE ppS h fun d r1 v H1 B1 _ R1 S1 q1 h1 => h1 v σ H1 B1 R1 (Step.refl _ _) q1⟩
def oRetN : O1 := fun r => .ret .none r
theorem snd_retN {pos : Pos} : PS X (.Return none pos) (denS c E oRetN) := ps_mono ps_retN fun G σ H ⟨r, B, R, h⟩ => h .non σ H B R (Step.refl _ _) .non
def oBrk : O1 := fun r => .brk r
def oCnt : O1 := fun r => .cnt r
theorem snd_brk {pos : Pos} : PS X (.Break pos) (denS c E oBrk) := ps_mono ps_break fun G σ H ⟨r, B, R, h⟩ => h σ H B R (Step.refl _ _)
theorem snd_cnt {pos : Pos} : PS X (.Continue pos) (denS c E oCnt) := ps_mono ps_continue fun G σ H ⟨r, B, R, h⟩ => h σ H B R (Step.refl _ _)
theorem snd_pass {pos : Pos} : PS X (.Pass pos) (denS c E oNxt) := ps_mono ps_pass fun G σ H ⟨r, B, R, h⟩ => h σ H B R (Step.refl _ _)
def oBad : O1 := fun _ => .bad
theorem snd_never {s : Stmt} : PS X s (denS c E oBad) := ps_mono ps_never fun G σ H ⟨r, B, R, h⟩ => h.elim
def oIfS (t a b : O1) : O1 := fun r => (t r).bndb fun k r1 => if k = true then a r1 else b r1
theorem snd_ifS {t : Expr} {a b : List Stmt} {ot oa ob : O1} {pos : Pos} (ht : PT X t (denT c E ot)) (ha : PSs X a (denS c E oa)) (hb : PSs X b (denS c E ob)) : PS X (.If t a b pos) (denS c E (oIfS ot oa ob)) := by
  refine ps_mono (ps_if ht ha hb) fun G σ H ⟨r, B, R, h⟩ => ⟨r, B, R, bndT ppS h fun k r1 H1 B1 _ R1 S1 h1 => ?_⟩
  cases k with
  | true => exact ⟨r1, B1, R1, h1⟩
  | false => exact ⟨r1, B1, R1, h1⟩
def oDrop (a : O1) : O1 := fun r => (a r).bnd fun _ r1 => .nxt r1
theorem snd_drop {e : Expr} {o : O1} {pos : Pos} (h : PE X e (denE c E o)) (hs : swapsWith e none pos.line X.env = pure false) : PS X (.Expr e pos) (denS c E (oDrop o)) :=
  ps_mono (ps_expr h hs) fun G σ H ⟨r, B, R, h⟩ => ⟨r, B, R, bndE ppS h fun d r1 v H1 B1 _ R1 S1 q1 h1 => h1 σ H1 B1 R1 (Step.refl _ _)⟩
theorem snd_doc {x j pos pos'} : PS X (.Expr (.Constant (.str x) j pos) pos') (denS c E oNxt) := ps_mono ps_doc fun G σ H ⟨r, B, R, h⟩ => h σ H B R (Step.refl _ _)
/-- a name that is stored -/
structure Stor (X : Cx) (i : Nat) (x : Str) : Prop where
  nd : X.N.Nodup
  at' : X.N[i]? = some x
  loc : Loc X.env.scope x
  fn : X.fn x = true ∨ X.env.scope.names.lookup x = some .local
def oSet (i : Nat) (a : O1) : O1 := fun r => (a r).bnd fun d r1 => .nxt (r1.set i (.val d))
theorem snd_set {i : Nat} {x : Str} {e : Expr} {o : O1} {pos pos' : Pos} (n : Stor X i x) (h : PE X e (denE c E o)) (hs : swapsWith e (some (.Name x pos')) pos.line X.env = pure false) (hw : swappedStores [.Name x pos'] e X.env = pure none) :
    PS X (.Assign [.Name x pos'] e pos) (denS c E (oSet i o)) :=
  ps_mono (ps_asg h (pg_name n.nd n.at' n.loc n.fn) hs hw rfl) fun G σ H ⟨r, B, R, h⟩ => ⟨r, B, R, bndE ppS h fun d r1 v H1 B1 _ R1 S1 q1 h1 => h1 _ H1 B1 (R1.setV q1) (Step.refl _ _)⟩
def oSetO (i : Nat) (a : O1) : O1 := fun r => (a r).bnd fun d r1 => .nxt (r1.set i (.own d))
theorem setO_go {i : Nat} {o : Out} {σ : St} {B : Av} {H : Hp} {G : Ends} {k : O1} (R0 : ∀ p, H p = none → c.H0 p = none) (h : PostS c E B H G (o.bnd fun d r1 => .nxt (r1.set i (.own d)))) : PostF c E σ B H (fun x H1 => G.nx (σ.set i (some x)) H1) o := by
  cases o with
  | val d r1 => exact fun p H' B' R S hb hm hn q => h _ H' (B'.plus p) (R.setOwn hb hm (R0 p hn) q) (S.plus hn)
  | exc n d => exact h
  | _ => exact h.elim
theorem snd_setO {i : Nat} {x : Str} {e : Expr} {o : O1} {pos pos' : Pos} (n : Stor X i x) (h : PE X e (denF c E o)) (hs : swapsWith e (some (.Name x pos')) pos.line X.env = pure false) (hw : swappedStores [.Name x pos'] e X.env = pure none) :
    PS X (.Assign [.Name x pos'] e pos) (denS c E (oSetO i o)) :=
  ps_mono (ps_asg h (pg_name n.nd n.at' n.loc n.fn) hs hw rfl) fun G σ H ⟨r, B, R, h⟩ => ⟨r, B, R, setO_go (k := oBad) (fun p hp => R.fresh0 hp) h⟩
/-- name op= e -/
def oAug (i : Nat) (f : D → D → Option D) (a : O1) : O1 := fun r => match r[i]? with
  | some (.val d) => (a r).bnd fun e r1 => (optO (f d e) r1).bnd fun g r2 => .nxt (r2.set i (.val g))
  | _ => .bad
theorem snd_aug {i : Nat} {x : Str} {e : Expr} {o : O1} {op : Operator} {ti : TIp} {f : D → D → Option D} {pos pos' : Pos} (n : Stor X i x) (h : PE X e (denE c E o)) (ho : PIp X op ti) (h2 : Op2 c ti f) :
    PS X (.AugAssign (.Name x pos') op e pos) (denS c E (oAug i f o)) := by
  refine ps_mono (ps_aug n.nd n.at' n.loc h ho n.fn) fun G σ H ⟨r, B, R, h⟩ => ?_
  unfold oAug at h
  split at h
  · rename_i d e1
    obtain ⟨u, hu, v, rfl, q⟩ := R.at e1
    refine ⟨v, hu, r, B, R, bndE ppS h fun d2 r1 v2 H1 B1 _ R1 S1 q1 h1 => ?_⟩
    refine op2_end (E := E) (σ := σ) (d := d) (e := d2) h2 R1 (q.step (R.v S1)) q1 (bndE ppS h1 fun g r2 z H2 B2 _ R2 S2 q2 h3 => ?_)
    exact h3 _ H2 B2 (R2.setV q2) (Step.refl _ _)
  · exact h.elim
/-- x.append(e), x a list of one's own -/
def Slot.app (d : D) : Slot → Option Slot
  | .own (.list ds) => if ds.length < lim then some (.own (.list (ds ++ [d]))) else none
  | .io (.list ds) => if ds.length < lim then some (.io (.list (ds ++ [d]))) else none
  | _ => none
def Slot.isL : Slot → Bool
  | .own (.list _) => true
  | .io (.list _) => true
  | _ => false
def oApp (i : Nat) (a : O1) : O1 := fun r => match r[i]? with
  | some s => if s.isL = true then (a r).bnd fun d r1 => match r1[i]?.bind (Slot.app d) with
    | some s' => .nxt (r1.set i s')
    | none => .bad
    else .bad
  | none => .bad
theorem Rel.lst {r : Rho} {B : Av} {σ : St} {H : Hp} (R : Rel c r B σ H) {i : Nat} {s : Slot} (h : r[i]? = some s) (hl : s.isL = true) :
    ∃ a xs ds, σ[i]? = some (some (.ref a)) ∧ H a = some (.lst xs) ∧ Reps c.K B H ds xs ∧ (s = .own (.list ds) ∨ s = .io (.list ds)) := by
  obtain ⟨u, hu, q⟩ := R.at h
  cases s with
  | own d =>
    cases d with
    | list ds =>
      obtain ⟨a, rfl, _, _, q⟩ := q
      cases q with
      | lst e rs => exact ⟨a, _, ds, hu, e, rs, .inl rfl⟩
    | _ => cases hl
  | io d =>
    cases d with
    | list ds =>
      obtain ⟨rfl, _, _, q⟩ := q
      cases q with
      | lst e rs => exact ⟨_, _, ds, hu, e, rs, .inr rfl⟩
    | _ => cases hl
  | _ => cases hl
theorem snd_app {i : Nat} {x : Str} {e : Expr} {o : O1} {p apos cpos pos : Pos} (hN : X.N[i]? = some x) (hv : Vis X.env.scope x) (hd : (x == ("__debug__" : Str)) = false) (hcd : (x == ("__classdict__" : Str)) = false) (h : PE X e (denE c E o)) (hK : X.K = c.K)
    (hs : swapsWith (.Call (.Attribute (.Name x p) "append" apos) [e] [] cpos) none pos.line X.env = pure false)
    (hp : PE X (.Call (.Attribute (.Name x p) "append" apos) [e] [] cpos) (tBM X.K "list" rAppend (tVar i) (tCons (denE c E o) tNil))) :
    PS X (.Expr (.Call (.Attribute (.Name x p) "append" apos) [e] [] cpos) pos) (denS c E (oApp i o)) := by
  refine ps_mono (ps_expr hp hs) fun G σ H ⟨r, B, R, h⟩ => ?_
  unfold oApp at h
  split at h
  · rename_i s e1
    split at h
    · rename_i hl
      obtain ⟨a, xs, ds, hu, ha, rs, hsl⟩ := R.lst e1 hl
      refine ⟨.ref a, hu, .inl ⟨rfl, _, SqL.of ha⟩, r, B, R, bndE ppS h fun d r1 v H1 B1 _ R1 S1 q1 h1 => ?_⟩
      cases e2 : r1[i]? with
      | none => rw [e2] at h1; exact h1.elim
      | some s1 =>
        rw [e2] at h1
        by_cases hl1 : s1.isL = true
        · obtain ⟨a1, xs1, ds1, hu1, ha1, rs1, hs1⟩ := R1.lst e2 hl1
          rw [hu] at hu1; cases hu1
          have fin : ∀ s', s1.app d = some s' → ds1.length < lim ∧ ((∃ d0, s1 = .own d0 ∧ s' = .own (.list (ds1 ++ [d]))) ∨ ∃ d0, s1 = .io d0 ∧ s' = .io (.list (ds1 ++ [d]))) := fun s' e => by
            rcases hs1 with rfl | rfl
            · simp only [Slot.app] at e
              split at e
              · rename_i hz; cases e; exact ⟨hz, .inl ⟨_, rfl, rfl⟩⟩
              · cases e
            · simp only [Slot.app] at e
              split at e
              · rename_i hz; cases e; exact ⟨hz, .inr ⟨_, rfl, rfl⟩⟩
              · cases e
          cases e3 : s1.app d with
          | none => simp only [Option.bind, e3] at h1; exact h1.elim
          | some s' =>
            simp only [Option.bind, e3] at h1
            obtain ⟨hz, hk⟩ := fin s' e3
            have hx : s1.excl = true := by rcases hs1 with rfl | rfl <;> rfl
            have hv1 : Vst B1 H1 B1 (upd H1 a (.lst (xs1 ++ [v]))) := by
              have ba := R1.exm e2 hx hu
              exact ⟨fun y o nb e => by rw [upd_ne (fun z => nb (by rw [z]; exact R1.mb a ba))]; exact e, fun _ h => .inl h⟩
            obtain ⟨R2, S2⟩ := R1.mut (d := .list (ds1 ++ [d])) e2 hx hu ha1 hk (.lst upd_same ((rs1.app (.one q1)).step hv1))
            refine ⟨a, xs1, v, rfl, rfl, ha1, Nat.lt_of_lt_of_le (by rw [← rs1.length]; exact hz) (by decide), ?_⟩
            exact h1 σ _ B1 R2 S2
        · have : s1.app d = none := by
            cases s1 with
            | own d1 => cases d1 <;> first | rfl | exact absurd rfl hl1
            | io d1 => cases d1 <;> first | rfl | exact absurd rfl hl1
            | _ => rfl
          simp only [Option.bind, this] at h1
          exact h1.elim
    · exact h.elim
  · exact h.elim
end
end Py

/-! Py, part D: what is walked: enumerate and zip over lists and tuples in any mix. -/
namespace Py
open PySem L2

inductive SK where
  | l | t
  deriving DecidableEq
def Sq (K : PySem.W.Frag) (H : Hp) : SK → Addr → List V → Prop
  | .l => SqL K H
  | .t => SqT K H
def SIt (h : Heap) : SK → Addr → Addr → Nat → Prop
  | .l, it, a, i => h.IsListIter it a i
  | .t, it, a, i => h.IsTupleIter it a i
def SIs (h : Heap) : SK → Addr → Array Value → Prop
  | .l => h.IsList
  | .t => h.IsTuple
def SO : SK → Addr → Obj
  | .l, a => { cls := .type "list_iterator", data := .fields #[.ref a, .int 0 0] }
  | .t, a => { cls := .type "tuple_iterator", data := .fields #[.ref a, .int 0 0] }
section
variable {prog : Program} {w : World} {A : Around}
theorem drawsS (k : SK) (hh : A.handled = none) (it a : Addr) (hne : a ≠ it) (items : Array Value) :
    Draws prog w A it [it, a] items.size (fun i v => items[i]? = some v) (fun i h => SIt h k it a i ∧ SIs h k a items) := by
  cases k with
  | l => exact Draws.list hh it a hne items
  | t => exact Draws.tuple hh it a hne items
theorem beginsS (k : SK) (a : Addr) (items : Array Value) : Begins (.ref a) (SO k a) fun h => SIs h k a items := by
  cases k with
  | l => exact begins_list a items
  | t => exact begins_tuple a items
theorem SIt.start {h : Heap} {k : SK} {it a : Addr} (e : h.get? it = some (SO k a)) : SIt h k it a 0 := by
  cases k with
  | l => exact ⟨_, e, rfl, rfl⟩
  | t => exact ⟨_, e, rfl, rfl⟩
theorem SIt.at' {h h' : Heap} {k : SK} {it a : Addr} {i : Nat} (x : SIt h k it a i) (e : ∀ o, h.get? it = some o → h'.get? it = some o) : SIt h' k it a i := by
  cases k with
  | l => obtain ⟨o, q, r⟩ := x; exact ⟨o, e o q, r⟩
  | t => obtain ⟨o, q, r⟩ := x; exact ⟨o, e o q, r⟩
theorem SIt.obj {h : Heap} {k : SK} {it a : Addr} {i : Nat} (x : SIt h k it a i) : ∃ o, h.get? it = some o ∧ ∀ v, o.data ≠ .cell v := by
  cases k with
  | l => obtain ⟨o, q, _, r⟩ := x; exact ⟨o, q, fun v z => by rw [r] at z; cases z⟩
  | t => obtain ⟨o, q, _, r⟩ := x; exact ⟨o, q, fun v z => by rw [r] at z; cases z⟩
theorem SIs.lt {h : Heap} {k : SK} {a : Addr} {its : Array Value} (x : SIs h k a its) : a < h.objs.size := by
  cases k with
  | l => obtain ⟨o, q, _⟩ := x; exact Heap.lt_size q
  | t => obtain ⟨o, q, _⟩ := x; exact Heap.lt_size q
end
section
variable {X : Cx} {pins : List (Addr × Obj)} {σ : St} {H : Hp} {s : Shared} {a : Addr} {xs ys : List V} {k : SK}
theorem Sq.items (I : Inv X pins σ H s) (h : Sq X.K H k a xs) : ∃ its : List Value, Vals xs its ∧ SIs s.heap k a its.toArray := by
  cases k with
  | l => obtain ⟨its, r, p, _⟩ := I.list h; exact ⟨its, r, p.isList⟩
  | t => obtain ⟨its, r, p, _⟩ := I.tuple h; exact ⟨its, r, p⟩
theorem Sq.inj (I : Inv X pins σ H s) (h : Sq X.K H k a xs) (h' : Sq X.K H k a ys) : xs = ys := by
  cases k with
  | l => exact I.list_inj h h'
  | t => exact I.tuple_inj h h'
end
/-! ### zip -/
def ItZ (K : PySem.W.Frag) (k1 k2 : SK) (a b : Addr) : It :=
  ⟨fun i H => ∃ (xs ys : List V) (x y : V), Sq K H k1 a xs ∧ Sq K H k2 b ys ∧ xs[i]? = some x ∧ ys[i]? = some y,
    fun i H v H' => ∃ T x y, v = .ref T ∧ H T = none ∧ H' = upd H T (.tup [x, y]) ∧ (∀ xs, Sq K H k1 a xs → xs[i]? = some x) ∧ ∀ ys, Sq K H k2 b ys → ys[i]? = some y,
    fun i H => ∃ xs ys : List V, Sq K H k1 a xs ∧ Sq K H k2 b ys ∧ i = min xs.length ys.length⟩
theorem turn_zipG {P : Program} {w : World} {K : PySem.W.Frag} {elts : List Expr} {kk : Nat} {tpos : Pos} {k1 k2 : SK} {a b z TI TO i1 i2 : Addr} (S : ZipSep2 z TI TO i1 i2 [i1, a] [i2, b]) (n1 : a ≠ i1) (n2 : b ≠ i2) :
    Turn P w K (.Tuple elts kk tpos) (ItZ K k1 k2 a b) [z, TI, TO, i1, i2] z (fun i h => IsZip h z TI TO .none ∧ IsTupOf2 h TI (.ref i1) (.ref i2) ∧ (∃ x y, IsTupOf2 h TO x y) ∧ SIt h k1 i1 a i ∧ SIt h k2 i2 b i) where
  mem := by simp
  obj i h st c hc := by
    obtain ⟨hz, hTI, ⟨x, y, hTO⟩, h1, h2⟩ := st
    have e' : c = z ∨ c = TI ∨ c = TO ∨ c = i1 ∨ c = i2 := by simpa using hc
    rcases e' with q | q | q | q | q
    · rw [q]; exact ⟨_, hz, fun v q => nomatch q⟩
    · rw [q]; exact ⟨_, hTI, fun v q => nomatch q⟩
    · rw [q]; exact ⟨_, hTO, fun v q => nomatch q⟩
    · rw [q]; exact h1.obj
    · rw [q]; exact h2.obj
  keep i h h' st kp := by
    obtain ⟨hz, hTI, ⟨x, y, hTO⟩, h1, h2⟩ := st
    exact ⟨kp z (by simp) _ hz, kp TI (by simp) _ hTI, ⟨x, y, kp TO (by simp) _ hTO⟩, h1.at' (kp i1 (by simp)), h2.at' (kp i2 (by simp))⟩
  item := by
    intro X hP hw hK hc i pins s σ H E I hf st hg
    subst hP hw hK
    obtain ⟨xs, ys, x, y, hqx, hqy, hx, hy⟩ := hg
    obtain ⟨its, rv, p1⟩ := hqx.items I
    obtain ⟨its2, rv2, p2⟩ := hqy.items I
    obtain ⟨u, hu, ru⟩ := rv.get hx
    obtain ⟨u2, hu2, ru2⟩ := rv2.get hy
    have D1 := drawsS (prog := X.prog) (w := X.w) (A := X.A.in1) k1 (I.ok.hd hc) i1 a n1 its.toArray
    have D2 := drawsS (prog := X.prog) (w := X.w) (A := X.A.in1) k2 (I.ok.hd hc) i2 b n2 its2.toArray
    obtain ⟨hz, hTI, hTO, h1, h2⟩ := st
    have l1 : i < its.toArray.size := by simpa using (List.getElem?_eq_some_iff.mp hu).1
    have l2 : i < its2.toArray.size := by simpa using (List.getElem?_eq_some_iff.mp hu2).1
    refine (GoesN.zip2 (elts := elts) (x1 := kk) (pos := tpos) S D1 D2).goes i s _ E (by omega) ⟨hz, hTI, hTO, ⟨h1, p1⟩, h2, p2⟩ fun v h' tk hY st' hk _ => ?_
    obtain ⟨T, v1, v2, rfl, hTn, e1, e2, hT⟩ := hY
    have e1' : v1 = u := by
      have q : its[i]? = some v1 := by simpa using e1
      rw [hu] at q; exact (Option.some.inj q).symm
    have e2' : v2 = u2 := by
      have q : its2[i]? = some v2 := by simpa using e2
      rw [hu2] at q; exact (Option.some.inj q).symm
    subst e1' e2'
    have new : ObjOk X.prog X.w (upd H T (.tup [x, y])) h' T (.tup [x, y]) :=
      ⟨by show 2 ≤ sizeLine; decide, [v1, v2], .cons ru (.cons ru2 .nil), hT⟩
    have I1 : Inv X pins σ (upd H T (.tup [x, y])) { s with heap := h', toks := tk } :=
      I.turnedNew (ch := [z, TI, TO, i1, i2]) (fun c o hb q => hk c o (fun m => hb (by
        have : c = z ∨ c = TO ∨ c = i1 ∨ c = i2 := by simpa using m
        rcases this with e | e | e | e <;> simp [e])) q) hf hTn new
    refine ⟨.ref T, _, I1, rfl, ⟨T, x, y, rfl, I.hok.fresh hTn, rfl, fun l hl => by rw [hl.inj I hqx]; exact hx, fun l hl => by rw [hl.inj I hqy]; exact hy⟩, ⟨st'.1, st'.2.1, st'.2.2.1, st'.2.2.2.1.1, st'.2.2.2.2.1⟩, fun c hcm => ?_⟩
    have hlt : c < s.heap.objs.size := by
      have e' : c = z ∨ c = TI ∨ c = TO ∨ c = i1 ∨ c = i2 := by simpa using hcm
      rcases e' with q | q | q | q | q
      · rw [q]; exact Heap.lt_size hz
      · rw [q]; exact Heap.lt_size hTI
      · rw [q]; obtain ⟨_, _, hTO⟩ := hTO; exact Heap.lt_size hTO
      · rw [q]; obtain ⟨_, e, _⟩ := h1.obj; exact Heap.lt_size e
      · rw [q]; obtain ⟨_, e, _⟩ := h2.obj; exact Heap.lt_size e
    rw [upd_ne (Nat.ne_of_lt (Nat.lt_of_lt_of_le hlt hTn))]
    exact (hf c hcm).1
  done := by
    intro X hP hw hK hc i pins s σ H E I hf st hg
    subst hP hw hK
    obtain ⟨xs, ys, hqx, hqy, hend⟩ := hg
    obtain ⟨its, rv, p1⟩ := hqx.items I
    obtain ⟨its2, rv2, p2⟩ := hqy.items I
    have D1 := drawsS (prog := X.prog) (w := X.w) (A := X.A.in1) k1 (I.ok.hd hc) i1 a n1 its.toArray
    have D2 := drawsS (prog := X.prog) (w := X.w) (A := X.A.in1) k2 (I.ok.hd hc) i2 b n2 its2.toArray
    obtain ⟨hz, hTI, hTO, h1, h2⟩ := st
    have l1 := rv.length
    have l2 := rv2.length
    have en : i = min its.toArray.size its2.toArray.size := by simp; omega
    subst en
    refine (GoesN.zip2 (elts := elts) (x1 := kk) (pos := tpos) S D1 D2).stops s _ E ⟨hz, hTI, hTO, ⟨h1, p1⟩, h2, p2⟩ fun h' tk hk _ => ?_
    exact I.turnedL (ch := [z, TI, TO, i1, i2]) (fun c o hb q => hk c o (fun m => hb (by
        have : c = z ∨ c = TO ∨ c = i1 ∨ c = i2 := by simpa using m
        rcases this with e | e | e | e <;> simp [e])) q) hf
  self A i s Q E st h := wpAny_pyIter_zip st.1 h
def kOf : D → Option (SK × List D)
  | .list ds => some (.l, ds)
  | .tuple ds => some (.t, ds)
  | _ => none
theorem Rep.sq {K : PySem.W.Frag} {B : Av} {H : Hp} {d : D} {v : V} {k : SK} {ds : List D} (h : Rep K B H d v) (e : kOf d = some (k, ds)) : ∃ a xs, v = .ref a ∧ Sq K H k a xs ∧ Reps K B H ds xs ∧
    (∀ B' H', Vst B H B' H' → Sq K H' k a xs) := by
  cases h with
  | lst nb r rs => cases e; exact ⟨_, _, rfl, .inl (.inl r), rs, fun B' H' s => .inl (s.rd nb (.inl r)).2⟩
  | tup nb r rs => cases e; exact ⟨_, _, rfl, .inl r, rs, fun B' H' s => .inl (s.rd nb r).2⟩
  | ctup c rs => cases e; exact ⟨_, _, rfl, .inr c, rs, fun B' H' s => .inr c⟩
  | _ => cases e
def iZipG (K : PySem.W.Frag) (ta : TA) : TI := fun σ H R => ta σ H fun vs H1 => ∃ a b xs ys k1 k2, vs = [.ref a, .ref b] ∧ Sq K H1 k1 a xs ∧ Sq K H1 k2 b ys ∧ R (ItZ K k1 k2 a b) H1
theorem pi_zipG {X : Cx} {e e2 : Expr} {ta : TA} {p pos tpos : Pos} {elts : List Expr} {kk : Nat} (hg : Gl X "zip") (hm : X.mg "zip" = none) (ha : PA X [e, e2] ta)
    (hs : starEach [e, e2] X.env = (false, eval e X.env) :: starEach [e2] X.env) (hpl : (backTo pos (starEach [e2] X.env)).any (·.1) = false) :
    PI X (.Tuple elts kk tpos) (.Call (.Name "zip" p) [e, e2] [] pos) (iZipG X.K ta) := by
  refine ⟨fun pins s σ H R I h => ?_⟩
  refine PyProof.Rows.Call_ (ld_blt I hg hm PyProof.Rows.boot_zip (PyProof.Rows.callWith_type1 (thn (ha.run pos pins s σ H _ I h) fun us s1 ⟨vs, H1, I1, r1, q1⟩ => ?_) hs hpl))
  obtain ⟨a, b, xs, ys, k1, k2, ex, hqx, hqy, q⟩ := q1
  subst ex
  cases r1 with
  | cons r rr =>
    cases rr with
    | cons r' rr =>
      cases rr
      cases r
      cases r'
      obtain ⟨its, rv, p1⟩ := hqx.items I1
      obtain ⟨its2, rv2, p2⟩ := hqy.items I1
      have la := p1.lt
      have lb := p2.lt
      refine zip_begins2 (beginsS k1 a its.toArray) (beginsS k2 b its2.toArray) p1 p2 fun h' hz hTI hTO h1 h2 hsz hk => wpAny_pyIter_zip hz ?_
      have I2 : Inv X pins σ H1 { s1 with heap := h' } := I1.kept (t' := s1.toks) hk
      have fresh5 : ∀ c, c ∈ [s1.heap.objs.size + 4, s1.heap.objs.size + 2, s1.heap.objs.size + 3, s1.heap.objs.size, s1.heap.objs.size + 1] → FpOk X pins H1 c := fun c hcm => by
        have e' : c = s1.heap.objs.size + 4 ∨ c = s1.heap.objs.size + 2 ∨ c = s1.heap.objs.size + 3 ∨ c = s1.heap.objs.size ∨ c = s1.heap.objs.size + 1 := by simpa using hcm
        have hle : s1.heap.objs.size ≤ c := by
          rcases e' with z | z | z | z | z
          · rw [z]; exact Nat.le_add_right _ _
          · rw [z]; exact Nat.le_add_right _ _
          · rw [z]; exact Nat.le_add_right _ _
          · rw [z]; exact Nat.le_refl _
          · rw [z]; exact Nat.le_add_right _ _
        exact I1.fpOk hle (I1.hok.fresh hle)
      refine ⟨s1.heap.objs.size + 4, [s1.heap.objs.size + 4, s1.heap.objs.size + 2, s1.heap.objs.size + 3, s1.heap.objs.size, s1.heap.objs.size + 1], _, _, H1, rfl, I2,
        turn_zipG (k1 := k1) (k2 := k2) (zip_sep2 (fun c hcm => ?_) (fun c hcm => ?_)) (Nat.ne_of_lt la) (Nat.ne_of_lt (Nat.lt_succ_of_lt lb)), ⟨hz, hTI, ⟨_, _, hTO⟩, SIt.start h1, SIt.start h2⟩, fresh5, q⟩
      · have : c = a := by simpa using hcm
        rw [this]; exact la
      · have : c = b := by simpa using hcm
        rw [this]; exact lb

/-! ### enumerate -/
theorem meets_enum1 {v : Value} {o : Obj} {G : Heap → Prop} (B : Begins v o G) :
    Meets (Builtin.«enumerate.__new__» ⟨[.type "enumerate", v], []⟩) (fun _ R s => G s.heap ∧
      R (.ok (.ret (.ref (s.heap.push o).objs.size))) { s with heap := (s.heap.push o).push { cls := .type "enumerate", data := .fields #[.none, .bool false, .ref s.heap.objs.size, rawInt 0, .none, .none] } }) :=
  .of_wp fun prog w A R s h => by
    obtain ⟨hp, g, d, tk, os⟩ := s; obtain ⟨h1, h⟩ := h
    have hsub := sub_enumerate
    have q1 : ∀ {A' : Around} {E : Value → Shared → Prop} {Q : Value → Shared → Prop}, Q (.ref hp.objs.size) ⟨hp.push o, g, d, tk, os⟩ → wpAny (model prog w) A' (pyIter v) Q E ⟨hp, g, d, tk, os⟩ :=
      fun q => B.iter prog w _ _ ⟨hp, g, d, tk, os⟩ _ h1 q
    wp_walk using q1
    refine wpAny_stack_any fun st => wpAny_pure ?_
    split
    · rename_i c _ _ _ _ _
      cases (c == Value.type "enumerate") <;> (wp_walk using q1; exact ⟨_, rfl, h⟩)
    · wp_walk using q1
      exact ⟨_, rfl, h⟩
theorem call_enum1 {prog : Program} {w : World} {A : Around} {E : Value → Shared → Prop} {s : Shared} {v : Value} {o : Obj} {G : Heap → Prop} {Q : Value → Shared → Prop} (B : Begins v o G) (h1 : G s.heap)
    (h : ∀ h', IsEnum h' (s.heap.objs.size + 1) s.heap.objs.size 0 .none → h'.get? s.heap.objs.size = some o → h'.objs.size = s.heap.objs.size + 2 →
      (∀ b o, s.heap.get? b = some o → h'.get? b = some o) → Q (.ref (s.heap.objs.size + 1)) { s with heap := h' }) :
    wpAny (model prog w) A (call (.type "enumerate") [v]) Q E s := by
  refine callType_new F.called_enumerate (by decide) (F.typeCall_enumerate_1 _) (F.newCall_enumerate_1 _) (fun obj => F.args_object_init_2 obj _) F.entry_enumerate_new (meets_enum1 B) ⟨h1, ?_⟩
  have hz : (s.heap.push o).objs.size = s.heap.objs.size + 1 := Heap.size_push ..
  show _ ∧ _
  rw [hz]
  have he : IsEnum ((s.heap.push o).push { cls := .type "enumerate", data := .fields #[.none, .bool false, .ref s.heap.objs.size, rawInt 0, .none, .none] }) (s.heap.objs.size + 1) s.heap.objs.size 0 .none := by
    have q := Heap.get?_push_size (s.heap.push o) (o := { cls := .type "enumerate", data := .fields #[.none, .bool false, .ref s.heap.objs.size, rawInt 0, .none, .none] }) rfl
    rw [hz] at q; exact q
  exact ⟨⟨_, he, rfl⟩, h _ he (Heap.get?_push_of_some _ (Heap.get?_push_size _ B.free)) (by rw [Heap.size_push, hz]) fun b o x => Heap.get?_push_of_some _ (Heap.get?_push_of_some _ x)⟩
def ItE (K : PySem.W.Frag) (k : SK) (a : Addr) : It :=
  ⟨fun i H => ∃ (xs : List V) (x : V), Sq K H k a xs ∧ xs[i]? = some x,
    fun i H v H' => ∃ T x, v = .ref T ∧ H T = none ∧ H' = upd H T (.tup [.int (i : Nat), x]) ∧ ∀ xs, Sq K H k a xs → xs[i]? = some x,
    fun i H => ∃ xs : List V, Sq K H k a xs ∧ i = xs.length⟩
theorem turn_enumG {P : Program} {w : World} {K : PySem.W.Frag} {elts : List Expr} {kk : Nat} {tpos : Pos} {k : SK} {a e it : Addr} (n1 : a ≠ it) (n2 : e ≠ it) (n3 : e ≠ a) :
    Turn P w K (.Tuple elts kk tpos) (ItE K k a) [e, it] e (fun i h => (∃ old, IsEnum h e it ((i : Nat) : Int) old) ∧ SIt h k it a i) where
  mem := by simp
  obj i h st c hc := by
    obtain ⟨⟨old, he⟩, h1⟩ := st
    have e' : c = e ∨ c = it := by simpa using hc
    rcases e' with q | q
    · rw [q]; exact ⟨_, he, fun v q => nomatch q⟩
    · rw [q]; exact h1.obj
  keep i h h' st kp := by
    obtain ⟨⟨old, he⟩, h1⟩ := st
    exact ⟨⟨old, kp e (by simp) _ he⟩, h1.at' (kp it (by simp))⟩
  item := by
    intro X hP hw hK hc i pins s σ H E I hf st hg
    subst hP hw hK
    obtain ⟨xs, x, hqx, hx⟩ := hg
    obtain ⟨its, rv, p1⟩ := hqx.items I
    obtain ⟨u, hu, ru⟩ := rv.get hx
    have D1 := drawsS (prog := X.prog) (w := X.w) (A := X.A.in1) k (I.ok.hd hc) it a n1 its.toArray
    obtain ⟨he, h1⟩ := st
    have l1 : i < its.toArray.size := by simpa using (List.getElem?_eq_some_iff.mp hu).1
    have G := GoesN.enumFrom (elts := elts) (x1 := kk) (pos := tpos) 0 D1 e n2 (by simp [n2, n3]) (by simp)
    refine G.goes i s _ E l1 ⟨by simpa using he, h1, p1⟩ fun v h' tk hY st' hk _ => ?_
    obtain ⟨T, t, v1, rfl, hTn, e1, hT⟩ := hY
    have e1' : v1 = u := by
      have q : its[i]? = some v1 := by simpa using e1
      rw [hu] at q; exact (Option.some.inj q).symm
    subst e1'
    have hT' : h'.IsTuple T #[.int (i : Nat) t, v1] := by simpa using hT
    have new : ObjOk X.prog X.w (upd H T (.tup [.int (i : Nat), x])) h' T (.tup [.int (i : Nat), x]) :=
      ⟨by show 2 ≤ sizeLine; decide, [.int (i : Nat) t, v1], .cons ⟨_, rfl⟩ (.cons ru .nil), hT'⟩
    have I1 : Inv X pins σ (upd H T (.tup [.int (i : Nat), x])) { s with heap := h', toks := tk } :=
      I.turnedNew (ch := [e, it]) (fun c o hb q => hk c o hb q) hf hTn new
    refine ⟨.ref T, _, I1, rfl, ⟨T, x, rfl, I.hok.fresh hTn, rfl, fun l hl => by rw [hl.inj I hqx]; exact hx⟩, ⟨by simpa using st'.1, st'.2.1⟩, fun c hcm => ?_⟩
    have hlt : c < s.heap.objs.size := by
      have e' : c = e ∨ c = it := by simpa using hcm
      rcases e' with q | q
      · rw [q]; obtain ⟨_, he⟩ := he; exact Heap.lt_size he
      · rw [q]; obtain ⟨_, e, _⟩ := h1.obj; exact Heap.lt_size e
    rw [upd_ne (Nat.ne_of_lt (Nat.lt_of_lt_of_le hlt hTn))]
    exact (hf c hcm).1
  done := by
    intro X hP hw hK hc i pins s σ H E I hf st hg
    subst hP hw hK
    obtain ⟨xs, hqx, hend⟩ := hg
    obtain ⟨its, rv, p1⟩ := hqx.items I
    have D1 := drawsS (prog := X.prog) (w := X.w) (A := X.A.in1) k (I.ok.hd hc) it a n1 its.toArray
    obtain ⟨he, h1⟩ := st
    have l1 := rv.length
    have en : i = its.toArray.size := by simp; omega
    subst en
    have G := GoesN.enumFrom (elts := elts) (x1 := kk) (pos := tpos) 0 D1 e n2 (by simp [n2, n3]) (by simp)
    refine G.stops s _ E ⟨by simpa using he, h1, p1⟩ fun h' tk hk _ => ?_
    exact I.turnedL (ch := [e, it]) (fun c o hb q => hk c o hb q) hf
  self A i s Q E st h := by
    obtain ⟨⟨_, he⟩, _⟩ := st
    exact wpAny_pyIter_enum he h
def iEnumG (K : PySem.W.Frag) (ta : TA) : TI := fun σ H R => ta σ H fun vs H1 => ∃ a xs k, vs = [.ref a] ∧ Sq K H1 k a xs ∧ R (ItE K k a) H1
theorem pi_enumG {X : Cx} {e : Expr} {ta : TA} {p pos tpos : Pos} {elts : List Expr} {kk : Nat} (hg : Gl X "enumerate") (hm : X.mg "enumerate" = none) (ha : PA X [e] ta) (hs : starEach [e] X.env = [(false, eval e X.env)]) :
    PI X (.Tuple elts kk tpos) (.Call (.Name "enumerate" p) [e] [] pos) (iEnumG X.K ta) := by
  refine ⟨fun pins s σ H R I h => ?_⟩
  refine PyProof.Rows.Call_ (ld_blt I hg hm PyProof.Rows.boot_enumerate (PyProof.Rows.callWith_type1 (thn (ha.run pos pins s σ H _ I h) fun us s1 ⟨vs, H1, I1, r1, q1⟩ => ?_) hs rfl))
  obtain ⟨a, xs, k, ex, hq, q⟩ := q1
  subst ex
  cases r1 with
  | cons r rr =>
    cases rr
    cases r
    obtain ⟨its, rv, p1⟩ := hq.items I1
    have la := p1.lt
    refine call_enum1 (beginsS k a its.toArray) p1 fun h' he h1 hsz hk => wpAny_pyIter_enum he ?_
    have I2 : Inv X pins σ H1 { s1 with heap := h' } := I1.kept (t' := s1.toks) hk
    refine ⟨s1.heap.objs.size + 1, [s1.heap.objs.size + 1, s1.heap.objs.size], _, _, H1, rfl, I2, turn_enumG (k := k) (Nat.ne_of_lt la) (Nat.succ_ne_self _) (Nat.ne_of_gt (Nat.lt_succ_of_lt la)), ⟨⟨.none, he⟩, SIt.start h1⟩, fun b hb => ?_, q⟩
    have e' : b = s1.heap.objs.size + 1 ∨ b = s1.heap.objs.size := by simpa using hb
    have hle : s1.heap.objs.size ≤ b := by
      rcases e' with z | z
      · rw [z]; exact Nat.le_add_right _ _
      · rw [z]; exact Nat.le_refl _
    exact I1.fpOk hle (I1.hok.fresh hle)
end Py

/-! Py, part E: targets, walks, for, while, list comprehensions. -/
namespace Py
open PySem L2

/-! ### targets -/
abbrev Bd := D → Rho → Option Rho
abbrev Bds := List D → Rho → Option Rho
/-- the slots stay but those at T -/
def Kp (T : List Nat) (σ σ' : St) : Prop := σ'.length = σ.length ∧ ∀ i, i ∉ T → σ'[i]? = σ[i]?
theorem Kp.refl (T : List Nat) (σ : St) : Kp T σ σ := ⟨rfl, fun _ _ => rfl⟩
theorem Kp.trans {T U : List Nat} {σ σ1 σ2 : St} (a : Kp T σ σ1) (b : Kp U σ1 σ2) : Kp (T ++ U) σ σ2 := ⟨b.1.trans a.1, fun i h =>
  (b.2 i fun z => h (List.mem_append_right _ z)).trans (a.2 i fun z => h (List.mem_append_left _ z))⟩
def PostG (c : Cfg) (T : List Nat) (σ : St) (B : Av) (H : Hp) (Q : St → Hp → Prop) : Option Rho → Prop
  | some r => ∀ σ' H' B', Rel c r B' σ' H' → Step B H B' H' → Kp T σ σ' → Q σ' H'
  | none => False
def denG (c : Cfg) (T : List Nat) (f : Bd) : TG := fun v σ H Q => ∃ r B d, Rel c r B σ H ∧ Rep c.K B H d v ∧ PostG c T σ B H Q (f d r)
def denGs (c : Cfg) (T : List Nat) (f : Bds) : TGs := fun vs σ H Q => ∃ r B ds, Rel c r B σ H ∧ Reps c.K B H ds vs ∧ PostG c T σ B H Q (f ds r)
theorem pg_mono {X : Cx} {e : Expr} {t t' : TG} (h : PG X e t) (m : ∀ v σ H Q, t' v σ H Q → t v σ H Q) : PG X e t' := ⟨fun pins s σ H v u Q I r q => h.run pins s σ H v u Q I r (m v σ H Q q)⟩
theorem pgs_mono {X : Cx} {e : List Expr} {t t' : TGs} (h : PGs X e t) (m : ∀ v σ H Q, t' v σ H Q → t v σ H Q) : PGs X e t' := ⟨fun pins s σ H v u Q I r q => h.run pins s σ H v u Q I r (m v σ H Q q)⟩
def gNm (i : Nat) : Bd := fun d r => some (r.set i (.val d))
def gNilF : Bds := fun ds r => if ds = [] then some r else none
def gNil0 : Bds := fun ds r => match ds with
  | [] => some r
  | _ => none
def gCons0 (f : Bd) (g : Bds) : Bds := fun ds r => match ds with
  | d :: ds => (f d r).bind (g ds)
  | [] => none
def gTup0 (n : Nat) (g : Bds) : Bd := fun d r => match kOf d with
  | some (_, ds) => if ds.length = n then g ds r else none
  | none => none
section
variable {X : Cx} {c : Cfg} {E : EX}
theorem snd_gnm {i : Nat} {x : Str} {pos : Pos} (n : Stor X i x) : PG X (.Name x pos) (denG c [i] (gNm i)) :=
  pg_mono (pg_name n.nd n.at' n.loc n.fn) fun v σ H Q ⟨r, B, d, R, q, h⟩ => h _ H B (R.setV q) (Step.refl _ _) ⟨List.length_set .., fun j hj => List.getElem?_set_ne fun z => hj (by simp [z])⟩
theorem snd_gnil : PGs X [] (denGs c [] gNil0) := by
  refine pgs_mono pgs_nil fun vs σ H Q ⟨r, B, ds, R, q, h⟩ => ?_
  cases q with
  | nil => exact ⟨rfl, h σ H B R (Step.refl _ _) (Kp.refl _ _)⟩
  | cons _ _ => exact h.elim
theorem snd_gcons {e : Expr} {es : List Expr} {f : Bd} {g : Bds} {T U : List Nat} (h1 : PG X e (denG c T f)) (h2 : PGs X es (denGs c U g)) (hs : (assignEach (e :: es) X.env).map (·.2) = assign e X.env :: (assignEach es X.env).map (·.2)) :
    PGs X (e :: es) (denGs c (T ++ U) (gCons0 f g)) := by
  refine pgs_mono (pgs_cons h1 h2 hs) fun vs σ H Q ⟨r, B, ds, R, q, h⟩ => ?_
  cases q with
  | nil => exact h.elim
  | @cons d v ds vs q qs =>
    refine ⟨v, vs, rfl, r, B, d, R, q, ?_⟩
    have h' : PostG c (T ++ U) σ B H Q ((f d r).bind (g ds)) := h
    cases e : f d r with
    | none => rw [e] at h'; exact h'.elim
    | some r1 =>
      rw [e] at h'
      refine fun σ' H' B' R' S' k => ⟨r1, B', ds, R', qs.step (R.v S'), ?_⟩
      have h3 : PostG c (T ++ U) σ B H Q (g ds r1) := h'
      cases e2 : g ds r1 with
      | none => rw [e2] at h3; exact h3.elim
      | some r2 => rw [e2] at h3; exact fun σ2 H2 B2 R2 S2 k2 => h3 σ2 H2 B2 R2 (S'.trans S2) (k.trans k2)
theorem snd_gtup {es : List Expr} {k : Nat} {pos : Pos} {n : Nat} {g : Bds} {T : List Nat} (hK : X.K = c.K) (hc : X.calm = true) (h : PGs X es (denGs c T g)) (hn : (assignEach es X.env).length = n) (hst : (assignEach es X.env).findIdx? (·.1) = none) :
    PG X (.Tuple es k pos) (denG c T (gTup0 n g)) := by
  refine ⟨fun pins s σ H v u Q I rv ⟨r, B, d, R, q, h'⟩ => ?_⟩
  unfold gTup0 at h'
  cases ek : kOf d with
  | none => rw [ek] at h'; exact h'.elim
  | some kd =>
    obtain ⟨sk, ds⟩ := kd
    rw [ek] at h'
    by_cases hl : ds.length = n
    · simp only [hl, if_true] at h'
      obtain ⟨a, xs, rfl, hq, rs, _⟩ := q.sq ek
      have go : denGs c T g xs σ H Q := ⟨r, B, ds, R, rs, h'⟩
      have ln : xs.length = n := by rw [← rs.length]; exact hl
      cases sk with
      | l => exact (pg_lst hc h hn hst).run pins s σ H _ u Q I rv ⟨a, xs, rfl, by rw [hK]; exact hq, ln, go⟩
      | t => exact (pg_tup hc h hn hst).run pins s σ H _ u Q I rv ⟨a, xs, rfl, by rw [hK]; exact hq, ln, go⟩
    · simp only [hl, if_false] at h'; exact h'.elim
end

/-! ### walks -/
structure Wk (K : PySem.W.Frag) (B0 : Av) (H0 : Hp) (J : It) (ds : List D) : Prop where
  goes : ∀ B H i, Vst B0 H0 B H → i < ds.length → J.go i H
  stops : ∀ B H, Vst B0 H0 B H → J.stop ds.length H
  yields : ∀ B H i x H1, Vst B0 H0 B H → (∀ p, H p = none → ¬ B.b p) → i < ds.length → J.yld i H x H1 → ∃ d, ds[i]? = some d ∧ Ext H H1 ∧ Rep K B H1 d x
def PostI (c : Cfg) (E : EX) (σ : St) (B : Av) (H : Hp) (Q : It → Hp → Prop) : Out → Prop
  | .vals ds r => ∀ J H' B', Rel c r B' σ H' → Step B H B' H' → Wk c.K B' H' J ds → Q J H'
  | .exc n d => ∀ H', Fr c H' → E n d H'
  | _ => False
def denI (c : Cfg) (E : EX) (o : O1) : TI := fun σ H Q => ∃ r B, Rel c r B σ H ∧ PostI c E σ B H Q (o r)
theorem pi_mono {X : Cx} {tg e : Expr} {t t' : TI} (h : PI X tg e t) (m : ∀ σ H Q, t' σ H Q → t σ H Q) : PI X tg e t' := ⟨fun pins s σ H R I q => h.run pins s σ H R I (m σ H R q)⟩
theorem ppI {c : Cfg} {E : EX} {σ : St} {Q : It → Hp → Prop} : PP c E (fun B H o => PostI c E σ B H Q o) where
  exc _ _ _ _ h := h
  bad _ _ h := h
  frm B H B1 H1 o S h := by
    cases o with
    | vals d r => exact fun J H' B' R S' w => h J H' B' R (S.trans S') w
    | exc n d => exact h
    | _ => exact h.elim
theorem at_some {α : Type} {l : List α} {i : Nat} (h : i < l.length) : ∃ x, l[i]? = some x := ⟨l[i], by simp [h]⟩
section
variable {K : PySem.W.Frag} {B : Av} {H : Hp} {a b : Addr} {xs ys : List V} {ds es : List D}
theorem Reps.at {i : Nat} (rs : Reps K B H ds xs) (h : i < ds.length) : ∃ d x, ds[i]? = some d ∧ xs[i]? = some x ∧ Rep K B H d x := by
  obtain ⟨d, e⟩ := at_some h
  obtain ⟨x, e2, r⟩ := rs.get e
  exact ⟨d, x, e, e2, r⟩
theorem Wk.list (hq : ∀ B' H', Vst B H B' H' → SqL K H' a xs) (rs : Reps K B H ds xs) : Wk K B H (Itl K a) ds where
  goes B' H' i s hi := by obtain ⟨d, x, _, e, _⟩ := rs.at hi; exact ⟨xs, x, hq _ _ s, e⟩
  stops B' H' s := ⟨xs, hq _ _ s, by rw [rs.length]; exact Nat.le_refl _⟩
  yields B' H' i x H1 s _ hi y := by
    obtain ⟨rfl, y⟩ := y
    obtain ⟨d, x', e1, e2, r⟩ := rs.at hi
    have q := y xs (hq _ _ s)
    rw [e2] at q; cases q
    exact ⟨d, e1, Ext.refl _, r.step s⟩
theorem Wk.tup (hq : ∀ B' H', Vst B H B' H' → SqT K H' a xs) (rs : Reps K B H ds xs) : Wk K B H (Itt K a) ds where
  goes B' H' i s hi := by obtain ⟨d, x, _, e, _⟩ := rs.at hi; exact ⟨xs, x, hq _ _ s, e⟩
  stops B' H' s := ⟨xs, hq _ _ s, by rw [rs.length]; exact Nat.le_refl _⟩
  yields B' H' i x H1 s _ hi y := by
    obtain ⟨rfl, y⟩ := y
    obtain ⟨d, x', e1, e2, r⟩ := rs.at hi
    have q := y xs (hq _ _ s)
    rw [e2] at q; cases q
    exact ⟨d, e1, Ext.refl _, r.step s⟩
def rngD (lo : Int) (n : Nat) : List D := (List.range n).map fun (i : Nat) => .int (lo + i)
def rngC (lo k : Int) (n : Nat) : List D := (List.range n).map fun (i : Nat) => .int (lo + i * k)
theorem Wk.rng {lo : Int} {n : Nat} : Wk K B H (Itr lo n) (rngD lo n) where
  goes B' H' i s hi := by simpa [rngD, Itr] using hi
  stops B' H' s := by simp [rngD, Itr]
  yields B' H' i x H1 s _ hi y := by
    obtain ⟨rfl, rfl⟩ := y
    have hi' : i < n := by simpa [rngD] using hi
    exact ⟨.int (lo + i), by simp [rngD, hi'], Ext.refl _, .int _⟩
theorem Wk.rngC {lo k : Int} {n : Nat} : Wk K B H (Itc lo k n) (rngC lo k n) where
  goes B' H' i s hi := by simpa [Py.rngC, Itc] using hi
  stops B' H' s := by simp [Py.rngC, Itc]
  yields B' H' i x H1 s _ hi y := by
    obtain ⟨rfl, rfl⟩ := y
    have hi' : i < n := by simpa [Py.rngC] using hi
    exact ⟨.int (lo + i * k), by simp [Py.rngC, hi'], Ext.refl _, .int _⟩
def zipD (xs ys : List D) : List D := (xs.zip ys).map fun p => .tuple [p.1, p.2]
def enumD (n : Nat) (xs : List D) : List D := match xs with
  | [] => []
  | x :: xs => .tuple [.int n, x] :: enumD (n + 1) xs
theorem enumD_length : ∀ (xs : List D) (n : Nat), (enumD n xs).length = xs.length
  | [], _ => rfl
  | _ :: xs, n => by simp [enumD, enumD_length xs (n + 1)]
theorem enumD_at : ∀ (xs : List D) (n i : Nat) (d : D), xs[i]? = some d → (enumD n xs)[i]? = some (.tuple [.int (n + i : Nat), d])
  | [], _, _, _, h => by simp at h
  | x :: xs, n, 0, d, h => by simp at h; subst h; simp [enumD]
  | x :: xs, n, i + 1, d, h => by
    have q := enumD_at xs (n + 1) i d (by simpa using h)
    have e : n + 1 + i = n + (i + 1) := by omega
    rw [e] at q
    simpa [enumD] using q
theorem Wk.zip {k1 k2 : SK} (h1 : ∀ B' H', Vst B H B' H' → Sq K H' k1 a xs) (h2 : ∀ B' H', Vst B H B' H' → Sq K H' k2 b ys) (r1 : Reps K B H ds xs) (r2 : Reps K B H es ys) : Wk K B H (ItZ K k1 k2 a b) (zipD ds es) where
  goes B' H' i s hi := by
    have hi' : i < min ds.length es.length := by simpa [zipD] using hi
    obtain ⟨d, x, _, e, _⟩ := r1.at (i := i) (by omega)
    obtain ⟨d2, y, _, e2, _⟩ := r2.at (i := i) (by omega)
    exact ⟨xs, ys, x, y, h1 _ _ s, h2 _ _ s, e, e2⟩
  stops B' H' s := ⟨xs, ys, h1 _ _ s, h2 _ _ s, by simp [zipD, r1.length, r2.length]⟩
  yields B' H' i x H1 s fr hi y := by
    have hi' : i < min ds.length es.length := by simpa [zipD] using hi
    obtain ⟨T, x1, y1, rfl, hT, rfl, f1, f2⟩ := y
    obtain ⟨d, x', e1, e2, q1⟩ := r1.at (i := i) (by omega)
    obtain ⟨d2, y', e3, e4, q2⟩ := r2.at (i := i) (by omega)
    have w1 := f1 xs (h1 _ _ s)
    have w2 := f2 ys (h2 _ _ s)
    rw [e2] at w1; cases w1
    rw [e4] at w2; cases w2
    refine ⟨.tuple [d, d2], ?_, Ext.new hT, Rep.newT (fr T hT) hT (.two (q1.step s) (q2.step s))⟩
    simp only [zipD, List.getElem?_map]
    rw [(List.getElem?_zip_eq_some (z := (d, d2))).mpr ⟨e1, e3⟩]
    rfl
theorem Wk.enum {k : SK} (h1 : ∀ B' H', Vst B H B' H' → Sq K H' k a xs) (r1 : Reps K B H ds xs) : Wk K B H (ItE K k a) (enumD 0 ds) where
  goes B' H' i s hi := by
    obtain ⟨d, x, _, e, _⟩ := r1.at (i := i) (by simpa [enumD_length] using hi)
    exact ⟨xs, x, h1 _ _ s, e⟩
  stops B' H' s := ⟨xs, h1 _ _ s, by simp [enumD_length, r1.length]⟩
  yields B' H' i x H1 s fr hi y := by
    obtain ⟨T, x1, rfl, hT, rfl, f1⟩ := y
    obtain ⟨d, x', e1, e2, q1⟩ := r1.at (i := i) (by simpa [enumD_length] using hi)
    have w1 := f1 xs (h1 _ _ s)
    rw [e2] at w1; cases w1
    refine ⟨.tuple [.int (i : Nat), d], ?_, Ext.new hT, Rep.newT (fr T hT) hT (.two (.int _) (q1.step s))⟩
    have q := enumD_at ds 0 i d e1
    simpa using q
end
/-- what is walked, by the value -/
def oIt (a : O1) : O1 := fun r => (a r).bnd fun d r1 => match kOf d with
  | some (_, ds) => .vals ds r1
  | none => .bad
def oRng1 (a : O1) : O1 := fun r => (a r).bnds fun ds r1 => match ds with
  | [.int n] => if -(2 ^ 62) ≤ n ∧ n < 2 ^ 62 then .vals (rngD 0 n.toNat) r1 else .bad
  | _ => .bad
def oRng2 (a : O1) : O1 := fun r => (a r).bnds fun ds r1 => match ds with
  | [.int m, .int n] => if (-(2 ^ 62) ≤ m ∧ m < 2 ^ 62) ∧ -(2 ^ 62) ≤ n ∧ n < 2 ^ 62 then .vals (rngD m (n - m).toNat) r1 else .bad
  | _ => .bad
def oZip (a : O1) : O1 := fun r => (a r).bnds fun ds r1 => match ds with
  | [d, e] => match kOf d, kOf e with
    | some (_, xs), some (_, ys) => .vals (zipD xs ys) r1
    | _, _ => .bad
  | _ => .bad
def oEnum (a : O1) : O1 := fun r => (a r).bnds fun ds r1 => match ds with
  | [d] => match kOf d with
    | some (_, xs) => .vals (enumD 0 xs) r1
    | none => .bad
  | _ => .bad
section
variable {X : Cx} {c : Cfg} {E : EX} {tg : Expr}
theorem snd_it {e : Expr} {o : O1} (hK : X.K = c.K) (h : PE X e (denE c E o)) : PI X tg e (denI c E (oIt o)) := by
  refine ⟨fun pins s σ H Q I ⟨r, B, R, h'⟩ => ?_⟩
  have kl := (pi_list (tg := tg) h).run pins s σ H Q I
  have kt := (pi_tup (tg := tg) h).run pins s σ H Q I
  unfold oIt at h'
  cases e0 : o r with
  | val d r1 =>
    rw [e0] at h'
    have h2 : PostI c E σ B H Q (match kOf d with
      | some (_, ds) => .vals ds r1
      | none => .bad) := h'
    cases ek : kOf d with
    | none => rw [ek] at h2; exact h2.elim
    | some kd =>
      obtain ⟨sk, ds⟩ := kd
      rw [ek] at h2
      cases sk with
      | l =>
        refine kl ⟨r, B, R, ?_⟩
        rw [e0]
        intro v H' B' R' S q
        obtain ⟨a, xs, rfl, hq, rs, hs⟩ := q.sq ek
        refine ⟨a, rfl, ⟨xs, by rw [hK]; exact hq⟩, ?_⟩
        rw [hK]
        exact h2 _ H' B' R' S (.list hs rs)
      | t =>
        refine kt ⟨r, B, R, ?_⟩
        rw [e0]
        intro v H' B' R' S q
        obtain ⟨a, xs, rfl, hq, rs, hs⟩ := q.sq ek
        refine ⟨a, rfl, ⟨xs, by rw [hK]; exact hq⟩, ?_⟩
        rw [hK]
        exact h2 _ H' B' R' S (.tup hs rs)
  | exc n d => rw [e0] at h'; exact kl ⟨r, B, R, by rw [e0]; exact h'⟩
  | vals _ _ => rw [e0] at h'; exact h'.elim
  | nxt _ => rw [e0] at h'; exact h'.elim
  | ret _ _ => rw [e0] at h'; exact h'.elim
  | brk _ => rw [e0] at h'; exact h'.elim
  | cnt _ => rw [e0] at h'; exact h'.elim
  | bad => rw [e0] at h'; exact h'.elim
theorem snd_rng1 {a : Expr} {oa : O1} {p pos : Pos} (hg : Gl X "range") (hm : X.mg "range" = none) (ha : PA X [a] (denA c E oa)) (hs : starEach [a] X.env = [(false, eval a X.env)]) :
    PI X tg (.Call (.Name "range" p) [a] [] pos) (denI c E (oRng1 oa)) := by
  refine pi_mono (pi_range1 hg hm ha hs) fun σ H Q ⟨r, B, R, h⟩ => ⟨r, B, R, bndA ppI h fun ds r1 vs H1 B1 er R1 S1 q1 h1 => ?_⟩
  clear er
  split at h1
  · rename_i n
    split at h1
    · rename_i hb
      cases q1 with
      | cons q qs => cases q; cases qs; exact ⟨n, rfl, hb.1, hb.2, h1 _ H1 B1 R1 (Step.refl _ _) .rng⟩
    · exact h1.elim
  · exact h1.elim
theorem snd_rng2 {a b : Expr} {oa : O1} {p pos : Pos} (hg : Gl X "range") (hm : X.mg "range" = none) (ha : PA X [a, b] (denA c E oa)) (hs : starEach [a, b] X.env = [(false, eval a X.env), (false, eval b X.env)]) (hs2 : starEach [b] X.env = [(false, eval b X.env)]) :
    PI X tg (.Call (.Name "range" p) [a, b] [] pos) (denI c E (oRng2 oa)) := by
  refine pi_mono (pi_range2 hg hm ha hs hs2) fun σ H Q ⟨r, B, R, h⟩ => ⟨r, B, R, bndA ppI h fun ds r1 vs H1 B1 er R1 S1 q1 h1 => ?_⟩
  clear er
  split at h1
  · rename_i m n
    split at h1
    · rename_i hb
      cases q1 with
      | cons q qs =>
        cases q
        cases qs with
        | cons q qs => cases q; cases qs; exact ⟨m, n, rfl, ⟨hb.1.1, hb.1.2, hb.2.1, hb.2.2⟩, h1 _ H1 B1 R1 (Step.refl _ _) .rng⟩
    · exact h1.elim
  · exact h1.elim
theorem snd_zip {a b : Expr} {elts : List Expr} {kk : Nat} {oa : O1} {p pos tpos : Pos} (hK : X.K = c.K) (hg : Gl X "zip") (hm : X.mg "zip" = none) (ha : PA X [a, b] (denA c E oa)) (hs : starEach [a, b] X.env = (false, eval a X.env) :: starEach [b] X.env)
    (hpl : (backTo pos (starEach [b] X.env)).any (·.1) = false) : PI X (.Tuple elts kk tpos) (.Call (.Name "zip" p) [a, b] [] pos) (denI c E (oZip oa)) := by
  refine pi_mono (pi_zipG hg hm ha hs hpl) fun σ H Q ⟨r, B, R, h⟩ => ⟨r, B, R, bndA ppI h fun ds r1 vs H1 B1 er R1 S1 q1 h1 => ?_⟩
  clear er
  split at h1
  · rename_i d e
    split at h1
    · rename_i k1 xs k2 ys e1 e2
      cases q1 with
      | cons q qs =>
        cases qs with
        | cons q' qs =>
          cases qs
          obtain ⟨a, ax, rfl, hq, rs, hs⟩ := q.sq e1
          obtain ⟨b, bx, rfl, hq2, rs2, hs2⟩ := q'.sq e2
          rw [hK]
          exact ⟨a, b, ax, bx, k1, k2, rfl, hq, hq2, h1 _ H1 B1 R1 (Step.refl _ _) (.zip hs hs2 rs rs2)⟩
    · exact h1.elim
  · exact h1.elim
theorem snd_enum {a : Expr} {elts : List Expr} {kk : Nat} {oa : O1} {p pos tpos : Pos} (hK : X.K = c.K) (hg : Gl X "enumerate") (hm : X.mg "enumerate" = none) (ha : PA X [a] (denA c E oa)) (hs : starEach [a] X.env = [(false, eval a X.env)]) :
    PI X (.Tuple elts kk tpos) (.Call (.Name "enumerate" p) [a] [] pos) (denI c E (oEnum oa)) := by
  refine pi_mono (pi_enumG hg hm ha hs) fun σ H Q ⟨r, B, R, h⟩ => ⟨r, B, R, bndA ppI h fun ds r1 vs H1 B1 er R1 S1 q1 h1 => ?_⟩
  clear er
  split at h1
  · rename_i d
    split at h1
    · rename_i k1 xs e1
      cases q1 with
      | cons q qs =>
        cases qs
        obtain ⟨a, ax, rfl, hq, rs, hs⟩ := q.sq e1
        rw [hK]
        exact ⟨a, ax, k1, rfl, hq, h1 _ H1 B1 R1 (Step.refl _ _) (.enum hs rs)⟩
    · exact h1.elim
  · exact h1.elim

/-! ### for, while -/
def forGo (f : Bd) (b : O1) : List D → O1
  | [] => fun r => .nxt r
  | d :: ds => fun r => match f d r with
    | none => .bad
    | some r1 => match b r1 with
      | .nxt r2 => forGo f b ds r2
      | .cnt r2 => forGo f b ds r2
      | .brk r2 => .nxt r2
      | .ret e r2 => .ret e r2
      | .exc n e => .exc n e
      | _ => .bad
def oFor (it : O1) (f : Bd) (b : O1) : O1 := fun r => (it r).bnds fun ds r1 => forGo f b ds r1
theorem for_step {f : Bd} {b : O1} {d : D} {ds : List D} {r : Rho} {B : Av} {H : Hp} {G : Ends} (h : PostS c E B H G (forGo f b (d :: ds) r)) :
    ∃ r1, f d r = some r1 ∧ PostS c E B H { G with nx := denS c E (forGo f b ds) G, ct := denS c E (forGo f b ds) G, bk := G.nx } (b r1) := by
  unfold forGo at h
  cases e : f d r with
  | none => rw [e] at h; exact h.elim
  | some r1 =>
    rw [e] at h
    refine ⟨r1, rfl, ?_⟩
    dsimp only at h
    cases e2 : b r1 with
    | nxt r2 => rw [e2] at h; exact fun σ' H' B' R' S' => ⟨r2, B', R', ppS.frm _ _ _ _ _ S' h⟩
    | cnt r2 => rw [e2] at h; exact fun σ' H' B' R' S' => ⟨r2, B', R', ppS.frm _ _ _ _ _ S' h⟩
    | brk r2 => rw [e2] at h; exact h
    | ret _ _ => rw [e2] at h; exact h
    | exc _ _ => rw [e2] at h; exact h
    | val _ _ => rw [e2] at h; exact h.elim
    | vals _ _ => rw [e2] at h; exact h.elim
    | bad => rw [e2] at h; exact h.elim
theorem snd_for {iter : Expr} {body : List Stmt} {it b : O1} {f : Bd} {T : List Nat} {pos : Pos} (hp : PassesOwn (model X.prog X.w) X.A X.env X.xe) (hc : X.calm = true) (hi : PI X tg iter (denI c E it)) (hg : PG X tg (denG c T f)) (hb : PSs X body (denS c E b))
    (hs : ∀ x, foldedSetIterable iter X.env x = pure x) : PS X (.For tg iter body [] pos) (denS c E (oFor it f b)) := by
  refine ps_mono (ps_for hp hc hi hg hb hs) fun G σ H ⟨r, B, R, h⟩ => ?_
  refine ⟨r, B, R, ?_⟩
  unfold oFor at h
  cases e0 : it r with
  | exc n d => rw [e0] at h; exact h
  | vals ds r1 =>
    rw [e0] at h
    have h : PostS c E B H G (forGo f b ds r1) := h
    intro J H1 B1 R1 S1 w
    refine ⟨fun i m σ' H' => m = ds.length - i ∧ i ≤ ds.length ∧ ∃ r' B', Rel c r' B' σ' H' ∧ Step B1 H1 B' H' ∧ PostS c E B' H' G (forGo f b (ds.drop i) r'),
      ⟨ds.length, by simp, Nat.zero_le _, r1, B1, R1, Step.refl _ _, ppS.frm _ _ _ _ _ S1 h⟩, ?_⟩
    rintro i m σ' H' ⟨rfl, hi, r', B', R', S', h'⟩
    have vs := R1.v S'
    by_cases hlt : i < ds.length
    · refine .inr ⟨w.goes _ _ i vs hlt, fun σ'' H'' => ∃ r'' B'', Rel c r'' B'' σ'' H'' ∧ Step B1 H1 B'' H'' ∧ PostS c E B'' H'' G (forGo f b (ds.drop (i + 1)) r''), fun σ'' H'' q => ⟨ds.length - (i + 1), by omega, rfl, hlt, q⟩, fun x H2 y => ?_⟩
      obtain ⟨d, ed, ex, q⟩ := w.yields _ _ i x H2 vs (fun p hp => R'.fresh hp) hlt y
      have dr : ds.drop i = d :: ds.drop (i + 1) := by
        have hd : ds[i] = d := by
          have := ed
          rw [List.getElem?_eq_getElem hlt] at this
          exact Option.some.inj this
        rw [← hd]; exact List.drop_eq_getElem_cons hlt
      rw [dr] at h'
      obtain ⟨r2, ef, h2⟩ := for_step h'
      refine ⟨r', B', d, R'.ext ex, q, ?_⟩
      rw [ef]
      intro σ3 H3 B3 R3 S3 _
      have S13 : Step B1 H1 B3 H3 := S'.trans (ex.step.trans S3)
      refine ⟨r2, B3, R3, ?_⟩
      have h3 := ppS.frm _ _ _ _ _ (ex.step.trans S3) h2
      cases e4 : b r2 with
      | nxt r4 => rw [e4] at h3; exact fun σ4 H4 B4 R4 S4 => ⟨r4, B4, R4, S13.trans S4, by
          have h5 : PostS c E B' H' { G with nx := denS c E (forGo f b (ds.drop (i + 1))) G, ct := denS c E (forGo f b (ds.drop (i + 1))) G, bk := G.nx } (b r2) := h2
          unfold forGo at h'
          rw [ef] at h'
          dsimp only at h'
          rw [e4] at h'
          exact ppS.frm _ _ _ _ _ ((ex.step.trans S3).trans S4) h'⟩
      | cnt r4 => rw [e4] at h3; exact fun σ4 H4 B4 R4 S4 => ⟨r4, B4, R4, S13.trans S4, by
          unfold forGo at h'
          rw [ef] at h'
          dsimp only at h'
          rw [e4] at h'
          exact ppS.frm _ _ _ _ _ ((ex.step.trans S3).trans S4) h'⟩
      | brk r4 => rw [e4] at h3; exact h3
      | ret _ _ => rw [e4] at h3; exact h3
      | exc _ _ => rw [e4] at h3; exact h3
      | val _ _ => rw [e4] at h3; exact h3.elim
      | vals _ _ => rw [e4] at h3; exact h3.elim
      | bad => rw [e4] at h3; exact h3.elim
    · have e : i = ds.length := by omega
      subst e
      rw [List.drop_length] at h'
      exact .inl ⟨w.stops _ _ vs, h' σ' H' B' R' (Step.refl _ _)⟩
  | _ => rw [e0] at h; exact h.elim
def whGo (t b : O1) : Nat → O1
  | 0 => fun _ => .bad
  | n + 1 => fun r => (t r).bndb fun k r1 => if k = true then (match b r1 with
      | .nxt r2 => whGo t b n r2
      | .cnt r2 => whGo t b n r2
      | .brk r2 => .nxt r2
      | .ret e r2 => .ret e r2
      | .exc n e => .exc n e
      | _ => .bad) else .nxt r1
theorem snd_while {t : Expr} {body : List Stmt} {ot ob : O1} {n : Nat} {pos : Pos} (hp : PassesOwn (model X.prog X.w) X.A X.env X.xe) (ht : PT X t (denT c E ot)) (hb : PSs X body (denS c E ob)) :
    PS X (.While t body [] pos) (denS c E (whGo ot ob n)) := by
  refine ps_mono (ps_while hp ht hb) fun G σ H ⟨r, B, R, h⟩ => ?_
  refine ⟨fun m σ' H' => ∃ r' B', Rel c r' B' σ' H' ∧ PostS c E B' H' G (whGo ot ob m r'), ⟨n, r, B, R, h⟩, ?_⟩
  rintro m σ' H' ⟨r', B', R', h'⟩
  cases m with
  | zero => exact h'.elim
  | succ m =>
    refine ⟨r', B', R', bndT ppS h' fun k r1 H1 B1 _ R1 S1 h1 => ?_⟩
    cases k with
    | false => exact h1 σ' H1 B1 R1 (Step.refl _ _)
    | true =>
      refine ⟨fun σ'' H'' => ∃ r'' B'', Rel c r'' B'' σ'' H'' ∧ PostS c E B'' H'' G (whGo ot ob m r''), fun σ'' H'' q => ⟨m, Nat.lt_succ_self _, q⟩, r1, B1, R1, ?_⟩
      simp only [if_true] at h1
      cases e : ob r1 with
      | nxt r2 => rw [e] at h1; exact fun σ2 H2 B2 R2 S2 => ⟨r2, B2, R2, ppS.frm _ _ _ _ _ S2 h1⟩
      | cnt r2 => rw [e] at h1; exact fun σ2 H2 B2 R2 S2 => ⟨r2, B2, R2, ppS.frm _ _ _ _ _ S2 h1⟩
      | brk r2 => rw [e] at h1; exact h1
      | ret _ _ => rw [e] at h1; exact h1
      | exc _ _ => rw [e] at h1; exact h1
      | val _ _ => rw [e] at h1; exact h1.elim
      | vals _ _ => rw [e] at h1; exact h1.elim
      | bad => rw [e] at h1; exact h1.elim
end
end Py

/-! Py, part F: list comprehensions, one clause and two. -/
namespace Py
open PySem L2

def wipeR (r : Rho) : List Nat → Rho
  | [] => r
  | v :: vs => (wipeR r vs).set v .un
def restR (r0 : Rho) (r : Rho) : List Nat → Rho
  | [] => r
  | v :: vs => match r0[v]? with
    | some s => (restR r0 r vs).set v s
    | none => restR r0 r vs
def okV (r : Rho) (vs : List Nat) : Bool := vs.all fun v => match r[v]? with
  | some s => !s.excl
  | none => true
abbrev EN : EX := fun _ _ _ => False
theorem wipe_in {σ : St} : ∀ {vs : List Nat} {i : Nat}, i ∈ vs → i < σ.length → (wipe σ vs)[i]? = some none
  | [], _, h, _ => by simp at h
  | v :: vs, i, h, hl => by
    unfold wipe
    by_cases e : v = i
    · subst e; rw [List.getElem?_set_self (by rw [wipe_length]; exact hl)]
    · rw [List.getElem?_set_ne e]
      exact wipe_in ((List.mem_cons.mp h).elim (fun z => absurd z.symm e) id) hl
theorem wipe_ext {σ σ' : St} {vs : List Nat} (hl : σ'.length = σ.length) (h : ∀ i, i ∉ vs → σ'[i]? = σ[i]?) : wipe σ' vs = wipe σ vs := by
  apply List.ext_getElem?
  intro i
  by_cases hi : i ∈ vs
  · by_cases hlt : i < σ.length
    · rw [wipe_in hi hlt, wipe_in hi (by rw [hl]; exact hlt)]
    · rw [List.getElem?_eq_none (by rw [wipe_length]; omega), List.getElem?_eq_none (by rw [wipe_length]; omega)]
  · rw [wipe_out hi, wipe_out hi, h i hi]
theorem wipeR_length (r : Rho) : ∀ vs, (wipeR r vs).length = r.length
  | [] => rfl
  | v :: vs => by unfold wipeR; rw [List.length_set, wipeR_length r vs]
theorem wipeR_some {r : Rho} {i : Nat} {s : Slot} : ∀ {vs : List Nat}, (wipeR r vs)[i]? = some s → s = .un ∨ (r[i]? = some s ∧ i ∉ vs)
  | [], h => .inr ⟨h, by simp⟩
  | v :: vs, h => by
    unfold wipeR at h
    by_cases e : v = i
    · subst e
      by_cases hl : v < (wipeR r vs).length
      · rw [List.getElem?_set_self hl] at h; cases h; exact .inl rfl
      · rw [List.getElem?_eq_none (by simpa using hl)] at h; cases h
    · rw [List.getElem?_set_ne e] at h
      rcases wipeR_some h with z | ⟨z, n⟩
      · exact .inl z
      · exact .inr ⟨z, by simp only [List.mem_cons, not_or]; exact ⟨fun q => e q.symm, n⟩⟩
theorem restR_length (r0 r : Rho) : ∀ vs, (restR r0 r vs).length = r.length
  | [] => rfl
  | v :: vs => by
    unfold restR
    split
    · rw [List.length_set, restR_length r0 r vs]
    · exact restR_length r0 r vs
theorem restR_some {r0 r : Rho} {i : Nat} {s : Slot} : ∀ {vs : List Nat}, (restR r0 r vs)[i]? = some s → (i ∈ vs ∧ r0[i]? = some s) ∨ (r[i]? = some s ∧ (i ∉ vs ∨ r0[i]? = none))
  | [], h => .inr ⟨h, .inl (by simp)⟩
  | v :: vs, h => by
    unfold restR at h
    split at h
    · rename_i s0 e0
      by_cases e : v = i
      · subst e
        by_cases hl : v < (restR r0 r vs).length
        · rw [List.getElem?_set_self hl] at h; cases h; exact .inl ⟨by simp, e0⟩
        · rw [List.getElem?_eq_none (by simpa using hl)] at h; cases h
      · rw [List.getElem?_set_ne e] at h
        rcases restR_some h with ⟨m, z⟩ | ⟨z, n⟩
        · exact .inl ⟨List.mem_cons_of_mem _ m, z⟩
        · refine .inr ⟨z, n.imp (fun n => ?_) id⟩
          simp only [List.mem_cons, not_or]; exact ⟨fun q => e q.symm, n⟩
    · rename_i e0
      rcases restR_some h with ⟨m, z⟩ | ⟨z, n⟩
      · exact .inl ⟨List.mem_cons_of_mem _ m, z⟩
      · by_cases e : i = v
        · subst e; exact .inr ⟨z, .inr e0⟩
        · exact .inr ⟨z, n.imp (fun n => by simp only [List.mem_cons, not_or]; exact ⟨e, n⟩) id⟩
section
variable {c : Cfg} {r : Rho} {B : Av} {σ : St} {H : Hp}
theorem Rel.wipe (R : Rel c r B σ H) (vs : List Nat) : Rel c (wipeR r vs) B (L2.wipe σ vs) H := by
  refine ⟨by rw [wipeR_length, wipe_length]; exact R.len, ?_, ?_, R.mb, R.bk, R.b0, R.b0h, R.bsub, R.msub, R.i0, R.fr, R.dom⟩
  · intro i s o h1 h2
    rcases wipeR_some h1 with z | ⟨z, n⟩
    · subst z; trivial
    · rw [wipe_out n] at h2; exact R.slot i s o z h2
  · intro i j s t a hne h1 h2 e1 e2 h3 h4
    rcases wipeR_some h1 with z | ⟨z, n⟩
    · subst z; cases e1
    · rcases wipeR_some h2 with y | ⟨y, m⟩
      · subst y; cases e2
      · rw [wipe_out n] at h3
        rw [wipe_out m] at h4
        exact R.apart i j s t a hne z y e1 e2 h3 h4
/-- behind the block the names of the block are what they were -/
theorem Rel.rest {r0 : Rho} {B0 : Av} {H0 : Hp} {vs : List Nat} (R0 : Rel c r0 B0 σ H0) (ok : okV r0 vs = true) (R : Rel c r B (L2.wipe σ vs) H) (S : Step B0 H0 B H) : Rel c (restR r0 r vs) B σ H := by
  have ln : r.length = σ.length := by have := R.len; rw [wipe_length] at this; exact this
  have nx : ∀ i s, i ∈ vs → r0[i]? = some s → s.excl = false := fun i s hm e => by
    have q := List.all_eq_true.mp ok i hm
    rw [e] at q
    simpa using q
  refine ⟨by rw [restR_length]; exact ln, ?_, ?_, R.mb, R.bk, R.b0, R.b0h, R.bsub, R.msub, R.i0, R.fr, R.dom⟩
  · intro i s o h1 h2
    rcases restR_some h1 with ⟨m, z⟩ | ⟨z, n⟩
    · have q := R0.slot i s o z h2
      have ex := nx i s m z
      cases s with
      | un => trivial
      | val d => obtain ⟨v, e1, q⟩ := q; exact ⟨v, e1, q.step (R0.v S)⟩
      | own d => cases ex
      | io d => cases ex
      | scr ns => obtain ⟨b, e1, q1⟩ := q; exact ⟨b, e1, q1.step (R0.v S)⟩
    · rcases n with n | n
      · exact R.slot i s o z (by rw [wipe_out n]; exact h2)
      · have hi : i < σ.length := (List.getElem?_eq_some_iff.mp h2).1
        have : i < r0.length := by rw [R0.len]; exact hi
        rw [List.getElem?_eq_getElem this] at n; cases n
  · intro i j s t a hne h1 h2 e1 e2 h3 h4
    rcases restR_some h1 with ⟨m, z⟩ | ⟨z, n⟩
    · have := nx i s m z; rw [e1] at this; cases this
    · rcases restR_some h2 with ⟨m', z'⟩ | ⟨z', n'⟩
      · have := nx j t m' z'; rw [e2] at this; cases this
      · have li : i ∉ vs := n.elim id fun n => absurd n (by
          have hi : i < σ.length := (List.getElem?_eq_some_iff.mp h3).1
          rw [List.getElem?_eq_getElem (by rw [R0.len]; exact hi)]; simp)
        have lj : j ∉ vs := n'.elim id fun n => absurd n (by
          have hi : j < σ.length := (List.getElem?_eq_some_iff.mp h4).1
          rw [List.getElem?_eq_getElem (by rw [R0.len]; exact hi)]; simp)
        exact R.apart i j s t a hne z z' e1 e2 (by rw [wipe_out li]; exact h3) (by rw [wipe_out lj]; exact h4)
/-- a private thing is changed -/
theorem Rel.updP (R : Rel c r B σ H) {p : Addr} {o : HO} (hb : B.b p) (hm : ¬ B.m p) (h0 : c.H0 p = none) : Rel c r B σ (upd H p o) := by
  have st : Vst B H B (upd H p o) := ⟨fun a u nb e => by rw [upd_ne (fun z => nb (by rw [z]; exact hb))]; exact e, fun _ h => .inl h⟩
  refine ⟨R.len, ?_, R.apart, R.mb, fun a b => ?_, R.b0, R.b0h, R.bsub, R.msub, R.i0, fun a u n e => ?_, fun a u e => ?_⟩
  · intro i s u h1 h2
    have q := R.slot i s u h1 h2
    cases s with
    | un => trivial
    | val d => obtain ⟨v, e1, q⟩ := q; exact ⟨v, e1, q.step st⟩
    | own d => obtain ⟨a, e1, q1, q2, q3⟩ := q; exact ⟨a, e1, q1, q2, q3.step st fun u e => by rw [upd_ne (fun z => hm (by rw [← z]; exact q1))]; exact e⟩
    | io d => obtain ⟨e1, q1, q2, q3⟩ := q; exact ⟨e1, q1, q2, q3.step st fun u e => by rw [upd_ne (fun z => hm (by rw [← z]; exact q1))]; exact e⟩
    | scr ns => obtain ⟨a, e1, q1⟩ := q; exact ⟨a, e1, q1.step st⟩
  · by_cases z : a = p
    · rw [z]; exact ⟨o, upd_same⟩
    · rw [upd_ne z]; exact R.bk a b
  · rw [upd_ne (fun z => by rw [z, h0] at e; cases e)]; exact R.fr a u n e
  · rw [upd_ne (fun z => by rw [z, h0] at e; cases e)]; exact R.dom a u e
/-- what was private is a value -/
theorem unpriv {E : EX} {Q : VK} {o : Out} {B0 : Av} {H0 : Hp} {r0 : Rho} (R0 : Rel c r0 B0 σ H0) (h : PostE c E σ B0 H0 Q o) : PostF c E σ B0 H0 Q o := by
  cases o with
  | val d r =>
    intro p H' B' R S hb hm hn ct
    have s : ∀ x, (B'.less p).b x → B'.b x := fun x h => h.1
    have st : Step B0 H0 (B'.less p) H' := ⟨S.stay, fun a o b nm e => ⟨S.keep a o b nm e, fun z => by rw [z, hn] at e; cases e⟩, S.dom, fun a h => S.sub a h.1, fun a h => S.subm a h.1⟩
    refine h _ H' (B'.less p) ⟨R.len, ?_, R.apart, fun x b => ⟨R.mb x b.1, b.2⟩, fun x b => R.bk x b.1, fun x b => ⟨R.b0 x b, fun z => ?_⟩, R.b0h, fun x b => R.bsub x b.1, fun x b => R.msub x b.1, R.i0, R.fr, R.dom⟩ st ?_
    · intro i t u h1 h2
      have q := R.slot i t u h1 h2
      cases t with
      | un => trivial
      | val d => obtain ⟨v, e1, q⟩ := q; exact ⟨v, e1, q.step (subV s)⟩
      | own d => obtain ⟨a, e1, q1, q2, q3⟩ := q; exact ⟨a, e1, ⟨q1, fun z => hm (by rw [← z]; exact q1)⟩, q2, q3.sub s⟩
      | io d => obtain ⟨e1, q1, q2, q3⟩ := q; exact ⟨e1, ⟨q1, fun z => hm (by rw [← z]; exact q1)⟩, q2, q3.sub s⟩
      | scr ns => obtain ⟨a, e1, q1⟩ := q; exact ⟨a, e1, q1.step ⟨fun _ _ _ e => e, fun _ z => .inl z.1⟩⟩
    · obtain ⟨o, q⟩ := R.b0h x b
      rw [z, R0.fresh0 hn] at q; cases q
    · cases ct with
      | lst e rs => exact .lst (fun z => z.2 rfl) e (rs.step (subV s))
      | dK e rs => exact .dK (fun z => z.2 rfl) (.inl e) (rs.step (subV s))
      | dT e rs => exact .dT (fun z => z.2 rfl) (.inl e) (rs.step (subV s))
  | exc n d => exact h
  | _ => exact h.elim
end
theorem snd_ofF {X : Cx} {c : Cfg} {E : EX} {e : Expr} {o : O1} (h : PE X e (denF c E o)) : PE X e (denE c E o) := pe_mono h fun σ H Q ⟨r, B, R, h⟩ => ⟨r, B, R, unpriv R h⟩

def lcIn (vs : List Nat) (f : Bd) (t e : O1) : List D → List D → Rho → Option (List D × Rho)
  | [], acc, r => some (acc, r)
  | d :: ds, acc, r => match f d r with
    | none => none
    | some r1 => match t r1 with
      | .val (.bool true) r2 => match e r2 with
        | .val y r3 => if acc.length < lim then lcIn vs f t e ds (acc ++ [y]) (wipeR r3 vs) else none
        | _ => none
      | .val (.bool false) r2 => lcIn vs f t e ds acc (wipeR r2 vs)
      | _ => none
def lcEnd (r0 : Rho) (vs : List Nat) (o : Option (List D × Rho)) : Out := match o with
  | some (acc, r) => .val (.list acc) (restR r0 r vs)
  | none => .bad
def oLc (vs : List Nat) (it : O1) (f : Bd) (t e : O1) : O1 := fun r => (it r).bnds fun ds r1 => if okV r1 vs = true then lcEnd r1 vs (lcIn vs f t e ds [] (wipeR r1 vs)) else .bad
theorem Vst.go {B0 B B' : Av} {H0 H H' : Hp} (v : Vst B0 H0 B H) (S : Step B H B' H') (mb : ∀ a, B.m a → B.b a) : Vst B0 H0 B' H' where
  stay a o nb e := S.stay a o (fun z => v.nb nb e (mb a z)) (v.stay a o nb e)
  sub a h := by
    rcases S.sub a h with q | q
    · exact v.sub a q
    · by_cases hb : B0.b a
      · exact .inl hb
      · right
        cases z : H0 a with
        | none => rfl
        | some o => rw [v.stay a o hb z] at q; cases q
/-- the state within a comprehension whose list stands at p, made behind (B1, H1); (Bw, Hw): where the walk began -/
structure LS (c : Cfg) (p : Addr) (B1 : Av) (H1 : Hp) (Bw : Av) (Hw : Hp) (σ : St) (r : Rho) (B : Av) (H : Hp) (acc : List D) : Prop where
  R : Rel c r B σ H
  ct : ∃ xs, H p = some (.lst xs) ∧ Reps c.K B H acc xs
  hb : B.b p
  hm : ¬ B.m p
  h0 : c.H0 p = none
  h1 : H1 p = none
  S : Step B1 H1 B H
  hw : Bw.b p ∨ Hw p = none
  vw : Vst Bw Hw B H
section
variable {X : Cx} {c : Cfg} {p : Addr} {B1 Bw B B' : Av} {H1 Hw H H' : Hp} {σ σ' : St} {r r' : Rho} {acc : List D}
theorem LS.go (h : LS c p B1 H1 Bw Hw σ r B H acc) (R : Rel c r' B' σ' H') (S : Step B H B' H') : LS c p B1 H1 Bw Hw σ' r' B' H' acc := by
  obtain ⟨R0, ⟨xs, e, rs⟩, hb, hm, h0, h1, S0, hw, V⟩ := h
  exact ⟨R, ⟨xs, S.stay _ _ hm e, rs.step (R0.v S)⟩, S.keep _ _ hb hm e, fun z => (S.subm _ z).elim hm (fun z => by rw [e] at z; cases z), h0, h1, S0.trans S, hw, V.go S R0.mb⟩
theorem LS.app {y : D} {v : V} (h : LS c p B1 H1 Bw Hw σ r B H acc) (q : Rep c.K B H y v) (hz : acc.length < lim) :
    ∃ xs, H p = some (.lst xs) ∧ xs.length < sizeLine ∧ LS c p B1 H1 Bw Hw σ r B (upd H p (.lst (xs ++ [v]))) (acc ++ [y]) := by
  obtain ⟨R, ⟨xs, e, rs⟩, hb, hm, h0, h1, S, hw, V⟩ := h
  have st : Vst B H B (upd H p (.lst (xs ++ [v]))) := ⟨fun a u nb e => by rw [upd_ne (fun z => nb (by rw [z]; exact hb))]; exact e, fun _ h => .inl h⟩
  refine ⟨xs, e, Nat.lt_of_lt_of_le (by rw [← rs.length]; exact hz) (by decide), R.updP hb hm h0, ⟨_, upd_same, (rs.app (.one q)).step st⟩, hb, hm, h0, h1, ⟨fun a o nm e => ?_, S.keep, fun a o e => ?_, S.sub, S.subm⟩, hw, ⟨fun a o nb e => ?_, V.sub⟩⟩
  · rw [upd_ne (fun z => by rw [z, h1] at e; cases e)]; exact S.stay a o nm e
  · rw [upd_ne (fun z => by rw [z, h1] at e; cases e)]; exact S.dom a o e
  · rw [upd_ne (fun z => by rw [z] at nb e; rcases hw with q | q; exact nb q; rw [q] at e; cases e)]; exact V.stay a o nb e
/-- what is wanted between two turns -/
def NX (c : Cfg) (p : Addr) (B1 : Av) (H1 : Hp) (Bw : Av) (Hw : Hp) (σw : St) (vs : List Nat) (f : Bd) (t e : O1) (res : List D × Rho) (ds : List D) (H : Hp) : Prop :=
  ∃ r B acc, LS c p B1 H1 Bw Hw σw r B H acc ∧ lcIn vs f t e ds acc r = some res
theorem wipe_idem (σ : St) (vs : List Nat) : L2.wipe (L2.wipe σ vs) vs = L2.wipe σ vs := wipe_ext (wipe_length σ vs) fun i h => wipe_out h
theorem lc_turn {vs T : List Nat} {f : Bd} {t e : O1} {g : TG} {tt : TT} {te : TE} {d : D} {ds : List D} {res : List D × Rho} {x : V} {σ0 : St}
    (hg : ∀ v σ H Q, denG c T f v σ H Q → g v σ H Q) (ht : ∀ σ H Q, denT c EN t σ H Q → tt σ H Q) (he : ∀ σ H Q, denE c EN e σ H Q → te σ H Q) (hT : ∀ i ∈ T, i ∈ vs)
    (ls : LS c p B1 H1 Bw Hw (L2.wipe σ0 vs) r B H acc) (hr : lcIn vs f t e (d :: ds) acc r = some res) (ex : Ext H H') (q : Rep c.K B H' d x) :
    g x (L2.wipe σ0 vs) H' fun σ2 H2 => L2.wipe σ2 vs = L2.wipe σ0 vs ∧ tt σ2 H2 fun b H3 => if b = true then te σ2 H3 fun y H4 => ∃ acc, H4 p = some (.lst acc) ∧ acc.length < sizeLine ∧ NX c p B1 H1 Bw Hw (L2.wipe σ0 vs) vs f t e res ds (upd H4 p (.lst (acc ++ [y])))
      else NX c p B1 H1 Bw Hw (L2.wipe σ0 vs) vs f t e res ds H3 := by
  unfold lcIn at hr
  refine hg _ _ _ _ ⟨r, B, d, ls.R.ext ex, q, ?_⟩
  cases ef : f d r with
  | none => rw [ef] at hr; cases hr
  | some r1 =>
    rw [ef] at hr
    dsimp only at hr
    intro σ2 H2 B2 R2 S2 kp
    have l2 : LS c p B1 H1 Bw Hw σ2 r1 B2 H2 acc := ls.go R2 (ex.step.trans S2)
    have hw2 : L2.wipe σ2 vs = L2.wipe σ0 vs := (wipe_ext kp.1 fun i hi => kp.2 i fun z => hi (hT i z)).trans (wipe_idem σ0 vs)
    refine ⟨hw2, ht _ _ _ ⟨r1, B2, R2, ?_⟩⟩
    cases et : t r1 with
    | val dt r2 =>
      rw [et] at hr
      cases dt with
      | bool b =>
        intro H3 B3 R3 S3
        have l3 := l2.go R3 S3
        cases b with
        | false =>
          rw [if_neg (by decide)]
          refine ⟨_, _, _, l3.go (by rw [← hw2]; exact R3.wipe vs) (Step.refl _ _), hr⟩
        | true =>
          rw [if_pos rfl]
          dsimp only at hr
          refine he _ _ _ ⟨r2, B3, R3, ?_⟩
          cases ee : e r2 with
          | val y r3 =>
            rw [ee] at hr
            dsimp only at hr
            intro v H4 B4 R4 S4 q4
            have l4 := l3.go R4 S4
            by_cases hz : acc.length < lim
            · rw [if_pos hz] at hr
              obtain ⟨xs, e1, e2, l5⟩ := l4.app q4 hz
              exact ⟨xs, e1, e2, _, _, _, l5.go (by rw [← hw2]; exact l5.R.wipe vs) (Step.refl _ _), hr⟩
            · rw [if_neg hz] at hr; cases hr
          | _ => rw [ee] at hr; cases hr
      | _ => cases hr
    | _ => rw [et] at hr; cases hr
/-- all turns of one clause -/
theorem lc_turns {vs T : List Nat} {f : Bd} {t e : O1} {g : TG} {tt : TT} {te : TE} {J : It} {ds : List D} {res : List D × Rho} {σ0 : St} {Qd : Hp → Prop}
    (hg : ∀ v σ H Q, denG c T f v σ H Q → g v σ H Q) (ht : ∀ σ H Q, denT c EN t σ H Q → tt σ H Q) (he : ∀ σ H Q, denE c EN e σ H Q → te σ H Q) (hT : ∀ i ∈ T, i ∈ vs)
    (w : Wk c.K Bw Hw J ds) (ls : LS c p B1 H1 Bw Hw (L2.wipe σ0 vs) r B H acc) (hr : lcIn vs f t e ds acc r = some res)
    (hd : ∀ B H, LS c p B1 H1 Bw Hw (L2.wipe σ0 vs) res.2 B H res.1 → Qd H) :
    ∃ W : Nat → Nat → Hp → Prop, (∃ m, W 0 m H) ∧ ∀ i m H, W i m H →
      (J.stop i H ∧ Qd H) ∨ (J.go i H ∧ ∃ Nx : Hp → Prop, (∀ H', Nx H' → ∃ m', m' < m ∧ W (i + 1) m' H') ∧ ∀ x H', J.yld i H x H' → g x (L2.wipe σ0 vs) H' fun σ2 H2 => L2.wipe σ2 vs = L2.wipe σ0 vs ∧ tt σ2 H2 fun b H3 =>
        if b = true then te σ2 H3 fun y H4 => ∃ acc, H4 p = some (.lst acc) ∧ acc.length < sizeLine ∧ Nx (upd H4 p (.lst (acc ++ [y]))) else Nx H3) := by
  refine ⟨fun i m H => m = ds.length - i ∧ i ≤ ds.length ∧ NX c p B1 H1 Bw Hw (L2.wipe σ0 vs) vs f t e res (ds.drop i) H, ⟨ds.length, by simp, Nat.zero_le _, r, B, acc, ls, hr⟩, ?_⟩
  rintro i m H ⟨rfl, hi, r', B', acc', ls', hr'⟩
  by_cases hlt : i < ds.length
  · refine .inr ⟨w.goes _ _ i ls'.vw hlt, NX c p B1 H1 Bw Hw (L2.wipe σ0 vs) vs f t e res (ds.drop (i + 1)), fun H' q => ⟨ds.length - (i + 1), by omega, rfl, hlt, q⟩, fun x H' y => ?_⟩
    obtain ⟨d, ed, ex, q⟩ := w.yields _ _ i x H' ls'.vw (fun p hp => ls'.R.fresh hp) hlt y
    have dr : ds.drop i = d :: ds.drop (i + 1) := by
      have hd : ds[i] = d := by
        rw [List.getElem?_eq_getElem hlt] at ed
        exact Option.some.inj ed
      rw [← hd]; exact List.drop_eq_getElem_cons hlt
    rw [dr] at hr'
    exact lc_turn hg ht he hT ls' hr' ex q
  · have e : i = ds.length := by omega
    subst e
    rw [List.drop_length] at hr'
    cases hr'
    exact .inl ⟨w.stops _ _ ls'.vw, hd _ _ ls'⟩
end
section
variable {X : Cx} {c : Cfg} {E : EX}
theorem lc_go {own : List Nat} {T : List Nat} {it : O1} {f : Bd} {t e : O1} {g : TG} {tt : TT} {te : TE} (hg : ∀ v σ H Q, denG c T f v σ H Q → g v σ H Q) (ht : ∀ σ H Q, denT c EN t σ H Q → tt σ H Q) (he : ∀ σ H Q, denE c EN e σ H Q → te σ H Q) (hT : ∀ i ∈ T, i ∈ own)
    {σ : St} {H : Hp} {Q : VK} (h : denF c E (oLc own it f t e) σ H Q) : tLc (denI c E it) g tt te own σ H Q := by
  obtain ⟨r, B, R, h⟩ := h
  refine ⟨r, B, R, ?_⟩
  unfold oLc at h
  cases e0 : it r with
  | exc n d => rw [e0] at h; exact h
  | vals ds r1 =>
    rw [e0] at h
    intro J H1 B1 R1 S1 w
    have h : PostF c E σ B H Q (if okV r1 own = true then lcEnd r1 own (lcIn own f t e ds [] (wipeR r1 own)) else .bad) := h
    by_cases ok : okV r1 own = true
    · rw [if_pos ok] at h
      cases er : lcIn own f t e ds [] (wipeR r1 own) with
      | none => rw [er] at h; exact h.elim
      | some res =>
        rw [er] at h
        intro p hp
        have R2 := (R1.wipe own).alloc (o := .lst []) hp
        have S2 := privStep (B := B1) (o := .lst []) hp
        refine lc_turns hg ht he hT w (B1 := B1) (H1 := H1) (Bw := B1) (Hw := H1) (r := wipeR r1 own) (B := B1.priv p) (acc := [])
          ⟨R2, ⟨[], upd_same, .nil⟩, .inr rfl, fun z => R1.fresh hp (R1.mb p z), R1.fresh0 hp, hp, S2, .inr hp, S2.v R1.mb⟩ er fun B3 H3 l3 => ?_
        obtain ⟨xs, e3, rs⟩ := l3.ct
        exact h p H3 B3 (R1.rest ok l3.R l3.S) (S1.trans l3.S) l3.hb l3.hm (S1.back hp) (.lst e3 rs)
    · rw [if_neg ok] at h; exact h.elim
  | _ => rw [e0] at h; exact h.elim
/-- what a comprehension's block asks -/
structure Blk (X : Cx) (own : List (Str × Nat)) (scope : Scope) : Prop where
  calm : X.calm = true
  nd : X.N.Nodup
  ok : BlkOk X.N X.env.scope scope own
abbrev Cx.inB (X : Cx) (scope : Scope) (P : Cx → Prop) : Prop := ∀ (s : Shared) (H : Hp) (C : Addr) (cl : List (Str × Addr)) (fp : List Addr), P (X.blk s H scope (PySem.compEnvC scope cl C X.env) fp)
theorem pts_mono {X : Cx} {ifs : List Expr} {t t' : TT} (h : PTs X ifs t) (m : ∀ σ H Q, t' σ H Q → t σ H Q) : PTs X ifs t' := ⟨fun pins s σ H Q I q => h.run pins s σ H Q I (m σ H Q q)⟩
def oYes : O1 := fun r => .val (.bool true) r
theorem snd_tyes : PTs X [] (denT c E oYes) := pts_mono pts_nil fun σ H Q ⟨r, B, R, h⟩ => h H B R (Step.refl _ _)
theorem snd_lcF {elt tg iter : Expr} {ifs : List Expr} {scope : Scope} {own : List (Str × Nat)} {pos : Pos} {it t e : O1} {f : Bd} {T : List Nat} (k : Blk X own scope) (hi : PI X tg iter (denI c E it))
    (hg : Cx.inB X scope fun Y => PG Y tg (denG c T f)) (ht : Cx.inB X scope fun Y => PTs Y ifs (denT c EN t)) (he : Cx.inB X scope fun Y => PE Y elt (denE c EN e)) (hT : ∀ i ∈ T, i ∈ own.map (·.2)) (hs : ∀ x, foldedSetIterable iter X.env x = pure x) :
    PE X (.ListComp elt [⟨tg, iter, ifs, 0⟩] scope pos) (denF c E (oLc (own.map (·.2)) it f t e)) :=
  pe_mono (pe_lc k.calm k.nd hi k.ok hg ht he hs) fun σ H Q h => lc_go (fun _ _ _ _ q => q) (fun _ _ _ q => q) (fun _ _ _ q => q) hT h
/-- y = [..] of the block's own form: stored within the block -/
theorem snd_setLcF {i : Nat} {y : Str} {py : Pos} {elt tg iter : Expr} {ifs : List Expr} {scope : Scope} {own : List (Str × Nat)} {pos spos : Pos} {it t e : O1} {f : Bd} {T : List Nat} (k : Blk X own scope) (hy : X.N[i]? = some y) (hyl : X.env.scope.names.lookup y = some .local)
    (hsw : swapsWith (.ListComp elt [⟨tg, iter, ifs, 0⟩] scope pos) (some (.Name y py)) spos.line X.env = pure true) (hi : PI X tg iter (denI c E it))
    (hg : Cx.inB X scope fun Y => PG Y tg (denG c T f)) (ht : Cx.inB X scope fun Y => PTs Y ifs (denT c EN t)) (he : Cx.inB X scope fun Y => PE Y elt (denE c EN e)) (hT : ∀ i ∈ T, i ∈ own.map (·.2)) (hs : ∀ x, foldedSetIterable iter X.env x = pure x) :
    PS X (.Assign [.Name y py] (.ListComp elt [⟨tg, iter, ifs, 0⟩] scope pos) spos) (denS c E (oSetO i (oLc (own.map (·.2)) it f t e))) :=
  ps_mono (ps_setLc k.calm k.nd hy hyl hsw hi k.ok hg ht he hs) fun G σ H ⟨r, B, R, h⟩ =>
    lc_go (c := c) (E := E) (fun _ _ _ _ q => q) (fun _ _ _ q => q) (fun _ _ _ q => q) hT ⟨r, B, R, setO_go (k := oBad) (fun p hp => R.fresh0 hp) h⟩
theorem snd_setLc {i : Nat} {y : Str} {py : Pos} {elt tg iter : Expr} {ifs : List Expr} {scope : Scope} {own : List (Str × Nat)} {pos spos : Pos} {it t e : O1} {f : Bd} {T : List Nat} (k : Blk X own scope) (hy : X.N[i]? = some y) (hyl : X.env.scope.names.lookup y = some .local)
    (hsw : swapsWith (.ListComp elt [⟨tg, iter, ifs, 0⟩] scope pos) (some (.Name y py)) spos.line X.env = pure true) (hi : PI X tg iter (denI c E it))
    (hg : Cx.inB X scope fun Y => PG Y tg (denG c T f)) (ht : Cx.inB X scope fun Y => PTs Y ifs (denT c EN t)) (he : Cx.inB X scope fun Y => PE Y elt (denE c EN e)) (hT : ∀ i ∈ T, i ∈ own.map (·.2)) (hs : ∀ x, foldedSetIterable iter X.env x = pure x) :
    PS X (.Assign [.Name y py] (.ListComp elt [⟨tg, iter, ifs, 0⟩] scope pos) spos) (denS c E (oSet i (oLc (own.map (·.2)) it f t e))) :=
  ps_mono (ps_setLc k.calm k.nd hy hyl hsw hi k.ok hg ht he hs) fun G σ H ⟨r, B, R, h⟩ =>
    lc_go (c := c) (E := E) (fun _ _ _ _ q => q) (fun _ _ _ q => q) (fun _ _ _ q => q) hT ⟨r, B, R, unpriv R (bndE ppS h fun d r1 v H1 B1 _ R1 S1 q1 h1 => h1 _ H1 B1 (R1.setV q1) (Step.refl _ _))⟩

/-! ### two clauses -/
def lcOut (vs vs1 : List Nat) (f : Bd) (t it1 : O1) (f1 : Bd) (t1 e : O1) : List D → List D → Rho → Option (List D × Rho)
  | [], acc, r => some (acc, r)
  | d :: ds, acc, r => match f d r with
    | none => none
    | some r1 => match t r1 with
      | .val (.bool true) r2 => match it1 r2 with
        | .vals es r3 => match lcIn vs1 f1 t1 e es acc (wipeR r3 vs1) with
          | some (acc', r4) => lcOut vs vs1 f t it1 f1 t1 e ds acc' (wipeR r4 vs)
          | none => none
        | _ => none
      | .val (.bool false) r2 => lcOut vs vs1 f t it1 f1 t1 e ds acc (wipeR r2 vs)
      | _ => none
def oLc2 (vs vs1 : List Nat) (it : O1) (f : Bd) (t it1 : O1) (f1 : Bd) (t1 e : O1) : O1 := fun r => (it r).bnds fun ds r1 => if okV r1 vs = true then lcEnd r1 vs (lcOut vs vs1 f t it1 f1 t1 e ds [] (wipeR r1 vs)) else .bad
theorem wipe_wipe {σ : St} {vs vs1 : List Nat} (h : ∀ i ∈ vs1, i ∈ vs) : L2.wipe (L2.wipe σ vs1) vs = L2.wipe σ vs := wipe_ext (wipe_length σ vs1) fun i hi => wipe_out fun z => hi (h i z)
theorem lc2_go {own vs1 : List Nat} {T T1 : List Nat} {it it1 : O1} {f f1 : Bd} {t t1 e : O1} {g g1 : TG} {tt tt1 : TT} {te : TE} {wi1 : TI} (hg : ∀ v σ H Q, denG c T f v σ H Q → g v σ H Q) (ht : ∀ σ H Q, denT c EN t σ H Q → tt σ H Q)
    (hi1 : ∀ σ H Q, denI c EN it1 σ H Q → wi1 σ H Q) (hg1 : ∀ v σ H Q, denG c T1 f1 v σ H Q → g1 v σ H Q) (ht1 : ∀ σ H Q, denT c EN t1 σ H Q → tt1 σ H Q)
    (he : ∀ σ H Q, denE c EN e σ H Q → te σ H Q) (hT : ∀ i ∈ T, i ∈ own) (hT1 : ∀ i ∈ T1, i ∈ vs1) (hv : ∀ i ∈ vs1, i ∈ own)
    {σ : St} {H : Hp} {Q : VK} (h : denF c E (oLc2 own vs1 it f t it1 f1 t1 e) σ H Q) : tLc2 (denI c E it) g tt wi1 g1 tt1 te own vs1 σ H Q := by
  obtain ⟨r, B, R, h⟩ := h
  refine ⟨r, B, R, ?_⟩
  unfold oLc2 at h
  cases e0 : it r with
  | exc n d => rw [e0] at h; exact h
  | vals ds r1 =>
    rw [e0] at h
    intro J H1 B1 R1 S1 w
    have h : PostF c E σ B H Q (if okV r1 own = true then lcEnd r1 own (lcOut own vs1 f t it1 f1 t1 e ds [] (wipeR r1 own)) else .bad) := h
    by_cases ok : okV r1 own = true
    · rw [if_pos ok] at h
      cases er : lcOut own vs1 f t it1 f1 t1 e ds [] (wipeR r1 own) with
      | none => rw [er] at h; exact h.elim
      | some res =>
        rw [er] at h
        intro p hp
        have R2 := (R1.wipe own).alloc (o := .lst []) hp
        have S2 := privStep (B := B1) (o := .lst []) hp
        have l0 : LS c p B1 H1 B1 H1 (L2.wipe σ own) (wipeR r1 own) (B1.priv p) (upd H1 p (.lst [])) [] :=
          ⟨R2, ⟨[], upd_same, .nil⟩, .inr rfl, fun z => R1.fresh hp (R1.mb p z), R1.fresh0 hp, hp, S2, .inr hp, S2.v R1.mb⟩
        refine ⟨fun i m H => m = ds.length - i ∧ i ≤ ds.length ∧ ∃ r B acc, LS c p B1 H1 B1 H1 (L2.wipe σ own) r B H acc ∧ lcOut own vs1 f t it1 f1 t1 e (ds.drop i) acc r = some res, ⟨ds.length, by simp, Nat.zero_le _, _, _, _, l0, er⟩, ?_⟩
        rintro i m H ⟨rfl, hi, r', B', acc', ls', hr'⟩
        by_cases hlt : i < ds.length
        · refine .inr ⟨w.goes _ _ i ls'.vw hlt, fun H => ∃ r B acc, LS c p B1 H1 B1 H1 (L2.wipe σ own) r B H acc ∧ lcOut own vs1 f t it1 f1 t1 e (ds.drop (i + 1)) acc r = some res, fun H' q => ⟨ds.length - (i + 1), by omega, rfl, hlt, q⟩, fun x H' y => ?_⟩
          obtain ⟨d, ed, ex, q⟩ := w.yields _ _ i x H' ls'.vw (fun p hp => ls'.R.fresh hp) hlt y
          have dr : ds.drop i = d :: ds.drop (i + 1) := by
            have hd : ds[i] = d := by
              rw [List.getElem?_eq_getElem hlt] at ed
              exact Option.some.inj ed
            rw [← hd]; exact List.drop_eq_getElem_cons hlt
          rw [dr] at hr'
          unfold lcOut at hr'
          refine hg _ _ _ _ ⟨r', B', d, ls'.R.ext ex, q, ?_⟩
          cases ef : f d r' with
          | none => rw [ef] at hr'; cases hr'
          | some ra =>
            rw [ef] at hr'
            dsimp only at hr'
            intro σ2 H2 B2 R2 S2 kp
            have l2 : LS c p B1 H1 B1 H1 σ2 ra B2 H2 acc' := ls'.go R2 (ex.step.trans S2)
            have hw2 : L2.wipe σ2 own = L2.wipe σ own := (wipe_ext kp.1 fun i hi => kp.2 i fun z => hi (hT i z)).trans (wipe_idem σ own)
            refine ⟨hw2, ht _ _ _ ⟨ra, B2, R2, ?_⟩⟩
            cases et : t ra with
            | val dt rb =>
              rw [et] at hr'
              cases dt with
              | bool b =>
                intro H3 B3 R3 S3
                have l3 := l2.go R3 S3
                cases b with
                | false =>
                  rw [if_neg (by decide)]
                  exact ⟨_, _, _, l3.go (by rw [← hw2]; exact R3.wipe own) (Step.refl _ _), hr'⟩
                | true =>
                  rw [if_pos rfl]
                  dsimp only at hr'
                  refine hi1 _ _ _ ⟨rb, B3, R3, ?_⟩
                  cases ei : it1 rb with
                  | vals es rc =>
                    rw [ei] at hr'
                    dsimp only at hr'
                    intro J1 H4 B4 R4 S4 w1
                    have l4 := l3.go R4 S4
                    cases el : lcIn vs1 f1 t1 e es acc' (wipeR rc vs1) with
                    | none => rw [el] at hr'; cases hr'
                    | some pr =>
                      obtain ⟨acc2, rd⟩ := pr
                      rw [el] at hr'
                      dsimp only at hr'
                      have l5 : LS c p B1 H1 B4 H4 (L2.wipe σ2 vs1) (wipeR rc vs1) B4 H4 acc' :=
                        ⟨R4.wipe vs1, l4.ct, l4.hb, l4.hm, l4.h0, l4.h1, l4.S, .inl l4.hb, ⟨fun _ _ _ e => e, fun _ h => .inl h⟩⟩
                      refine lc_turns hg1 ht1 he hT1 w1 l5 el fun B6 H6 l6 => ?_
                      refine ⟨_, _, _, ⟨?_, l6.ct, l6.hb, l6.hm, l6.h0, l6.h1, l6.S, .inr hp, ?_⟩, hr'⟩
                      · have q6 := l6.R.wipe own
                        rw [wipe_wipe hv, hw2] at q6
                        exact q6
                      · exact ⟨fun a o nb e => l6.vw.stay a o (l4.vw.nb nb e) (l4.vw.stay a o nb e), fun a hb => by
                          rcases l6.vw.sub a hb with z | z
                          · exact l4.vw.sub a z
                          · by_cases hb1 : B1.b a
                            · exact .inl hb1
                            · right
                              cases y : H1 a with
                              | none => rfl
                              | some o => rw [l4.vw.stay a o hb1 y] at z; cases z⟩
                  | exc n d => rw [ei] at hr'; cases hr'
                  | _ => rw [ei] at hr'; cases hr'
              | _ => cases hr'
            | _ => rw [et] at hr'; cases hr'
        · have e : i = ds.length := by omega
          subst e
          rw [List.drop_length] at hr'
          cases hr'
          obtain ⟨xs, e3, rs⟩ := ls'.ct
          exact .inl ⟨w.stops _ _ ls'.vw, h p H _ (R1.rest ok ls'.R ls'.S) (S1.trans ls'.S) ls'.hb ls'.hm (S1.back hp) (.lst e3 rs)⟩
    · rw [if_neg ok] at h; exact h.elim
  | _ => rw [e0] at h; exact h.elim
theorem snd_lc2F {elt tg iter tg1 iter1 : Expr} {ifs ifs1 : List Expr} {scope : Scope} {own : List (Str × Nat)} {vs1 : List Nat} {pos : Pos} {it it1 t t1 e : O1} {f f1 : Bd} {T T1 : List Nat} (k : Blk X own scope) (hv : ∀ i ∈ vs1, i ∈ own.map (·.2)) (hi : PI X tg iter (denI c E it))
    (hg : Cx.inB X scope fun Y => PG Y tg (denG c T f)) (ht : Cx.inB X scope fun Y => PTs Y ifs (denT c EN t)) (hi1 : Cx.inB X scope fun Y => PI Y tg1 iter1 (denI c EN it1)) (hg1 : Cx.inB X scope fun Y => PG Y tg1 (denG c T1 f1)) (ht1 : Cx.inB X scope fun Y => PTs Y ifs1 (denT c EN t1))
    (he : Cx.inB X scope fun Y => PE Y elt (denE c EN e)) (hT : ∀ i ∈ T, i ∈ own.map (·.2)) (hT1 : ∀ i ∈ T1, i ∈ vs1) (hs : ∀ x, foldedSetIterable iter X.env x = pure x) (hs1 : ∀ env x, foldedSetIterable iter1 env x = pure x) :
    PE X (.ListComp elt [⟨tg, iter, ifs, 0⟩, ⟨tg1, iter1, ifs1, 0⟩] scope pos) (denF c E (oLc2 (own.map (·.2)) vs1 it f t it1 f1 t1 e)) :=
  pe_mono (pe_lc2 k.calm k.nd hi k.ok hv hg ht hi1 hg1 ht1 he hs hs1) fun σ H Q h => lc2_go (fun _ _ _ _ q => q) (fun _ _ _ q => q) (fun _ _ _ q => q) (fun _ _ _ _ q => q) (fun _ _ _ q => q) (fun _ _ _ q => q) hT hT1 hv h
end
end Py

/-! Py, part G: calls of defs: what is lent, what comes back, what is raised. -/
namespace Py
open PySem L2

/-- the wish of an exception's class, its dict and the heap, by what it carries -/
def exOf (K : PySem.W.Frag) (B : Addr → Prop) (cls : Nat → Addr) (E : XK) : EX := fun n d H => ∀ H' dx v, Ext H H' → H' dx = some (.xd [("thing", v)]) → Rep K ⟨B, fun _ => False⟩ H' d v → E (.ref (cls n)) (some dx) H'
/-- arguments: values, and what is lent, by the slot in which it stands -/
inductive RepsA (K : PySem.W.Frag) (B : Av) (H : Hp) (σ : St) : List (Option Nat) → List D → List V → Prop
  | nil : RepsA K B H σ [] [] []
  | val {fl : List (Option Nat)} {d : D} {v : V} {ds : List D} {vs : List V} : Rep K B H d v → RepsA K B H σ fl ds vs → RepsA K B H σ (none :: fl) (d :: ds) (v :: vs)
  | ref {fl : List (Option Nat)} {d : D} {v : V} {ds : List D} {vs : List V} {i : Nat} : σ[i]? = some (some v) → RepsA K B H σ fl ds vs → RepsA K B H σ (some i :: fl) (d :: ds) (v :: vs)
theorem RepsA.step {K : PySem.W.Frag} {B B' : Av} {H H' : Hp} {σ : St} (s : Vst B H B' H') : ∀ {fl : List (Option Nat)} {ds : List D} {vs : List V}, RepsA K B H σ fl ds vs → RepsA K B' H' σ fl ds vs
  | _, _, _, .nil => .nil
  | _, _, _, .val r rs => .val (r.step s) (RepsA.step s rs)
  | _, _, _, .ref r rs => .ref r (RepsA.step s rs)
def PostB (c : Cfg) (E : EX) (σ : St) (fl : List (Option Nat)) (B : Av) (H : Hp) (Q : List V → Hp → Prop) : Out → Prop
  | .vals ds r => ∀ vs H' B', Rel c r B' σ H' → Step B H B' H' → RepsA c.K B' H' σ fl ds vs → Q vs H'
  | .exc n d => ∀ H', Fr c H' → E n d H'
  | _ => False
def denB (c : Cfg) (E : EX) (fl : List (Option Nat)) (o : O1) : TA := fun σ H Q => ∃ r B, Rel c r B σ H ∧ PostB c E σ fl B H Q (o r)
theorem ppB {c : Cfg} {E : EX} {σ : St} {fl : List (Option Nat)} {Q : List V → Hp → Prop} : PP c E (fun B H o => PostB c E σ fl B H Q o) where
  exc _ _ _ _ h := h
  bad _ _ h := h
  frm B H B1 H1 o S h := by
    cases o with
    | vals d r => exact fun v H' B' R S' q => h v H' B' R (S.trans S') q
    | exc n d => exact h
    | _ => exact h.elim
section
variable {c : Cfg} {E : EX} {σ : St} {P : Av → Hp → Out → Prop} {B : Av} {H : Hp} {o : Out}
theorem bndB (pp : PP c E P) {fl : List (Option Nat)} {k : List D → Rho → Out} (h : P B H (o.bnds k)) {Q : List V → Hp → Prop}
    (hk : ∀ d r v H1 B1, o = .vals d r → Rel c r B1 σ H1 → Step B H B1 H1 → RepsA c.K B1 H1 σ fl d v → P B1 H1 (k d r) → Q v H1) : PostB c E σ fl B H Q o := by
  cases o with
  | vals d r => exact fun v H' B' R S q => hk d r v H' B' rfl R S q (pp.frm _ _ _ _ _ S h)
  | exc n d => exact pp.exc _ _ _ _ h
  | _ => exact (pp.bad _ _ h).elim
end
def oRef (i : Nat) (t : O1) : O1 := fun r => match r[i]? with
  | some s => if s.excl = true then (t r).bnds fun xs r2 => .vals (.none :: xs) r2 else .bad
  | none => .bad
section
variable {X : Cx} {c : Cfg} {E : EX}
theorem snd_bnil : PA X [] (denB c E [] oNil) := pa_mono pa_nil fun σ H Q ⟨r, B, R, h⟩ => h [] H B R (Step.refl _ _) .nil
theorem snd_bcons {e : Expr} {es : List Expr} {fl : List (Option Nat)} {oa ot : O1} (ha : PE X e (denE c E oa)) (ht : PA X es (denB c E fl ot)) (hs : starEach (e :: es) X.env = (false, eval e X.env) :: starEach es X.env) :
    PA X (e :: es) (denB c E (none :: fl) (oCons oa ot)) := pa_mono (pa_cons ha ht hs) fun σ H Q ⟨r, B, R, h⟩ =>
  ⟨r, B, R, bndE ppB h fun d1 r1 v1 H1 B1 _ R1 S1 q1 h1 => ⟨r1, B1, R1, bndB ppB h1 fun d2 r2 v2 H2 B2 _ R2 S2 q2 h2 => h2 (v1 :: v2) H2 B2 R2 (Step.refl _ _) (.val (q1.step (R1.v S2)) q2)⟩⟩
theorem Rel.exA {r : Rho} {B : Av} {H : Hp} {σ : St} (R : Rel c r B σ H) {i : Nat} {s : Slot} (h : r[i]? = some s) (hx : s.excl = true) : ∃ a d, σ[i]? = some (some (.ref a)) ∧ B.m a ∧ Cont c.K B H d a ∧ (s = .own d ∨ (s = .io d ∧ a = c.ad i ∧ c.I a)) := by
  obtain ⟨u, hu, q⟩ := R.at h
  cases s with
  | own d => obtain ⟨a, rfl, q1, q2, q3⟩ := q; exact ⟨a, d, hu, q1, q3, .inl rfl⟩
  | io d => obtain ⟨rfl, q1, q2, q3⟩ := q; exact ⟨_, d, hu, q1, q3, .inr ⟨rfl, rfl, q2⟩⟩
  | _ => cases hx
theorem snd_bref {i : Nat} {x : Str} {pos : Pos} {es : List Expr} {fl : List (Option Nat)} {ot : O1} (hN : X.N[i]? = some x) (hv : Vis X.env.scope x) (hd : (x == ("__debug__" : Str)) = false) (hcd : (x == ("__classdict__" : Str)) = false)
    (ht : PA X es (denB c E fl ot)) (hs : starEach (.Name x pos :: es) X.env = (false, eval (.Name x pos) X.env) :: starEach es X.env) :
    PA X (.Name x pos :: es) (denB c E (some i :: fl) (oRef i ot)) := by
  refine pa_mono (pa_cons (pe_var hN hv hd hcd) ht hs) fun σ H Q ⟨r, B, R, h⟩ => ?_
  unfold oRef at h
  cases e : r[i]? with
  | none => rw [e] at h; exact h.elim
  | some s =>
    rw [e] at h
    dsimp only at h
    by_cases hx : s.excl = true
    · rw [if_pos hx] at h
      obtain ⟨a, d, hu, _⟩ := R.exA e hx
      refine ⟨.ref a, hu, r, B, R, bndB ppB h fun d2 r2 v2 H2 B2 _ R2 S2 q2 h2 => ?_⟩
      exact h2 (.ref a :: v2) H2 B2 R2 (Step.refl _ _) (.ref hu q2)
    · rw [if_neg hx] at h; exact h.elim
end

/-! ### what a def does, from the slots of its arguments -/
def mkArgs (r : Rho) : List (Option Nat) → List D → Option Rho
  | [], [] => some []
  | none :: fl, d :: ds => (mkArgs r fl ds).map fun as => .val d :: as
  | some i :: fl, _ :: ds => match r[i]? with
    | some (.own d) => (mkArgs r fl ds).map fun as => .io d :: as
    | some (.io d) => (mkArgs r fl ds).map fun as => .io d :: as
    | _ => none
  | _, _ => none
def putBack (r' : Rho) : Nat → List (Option Nat) → Rho → Option Rho
  | _, [], r => some r
  | p, none :: fl, r => putBack r' (p + 1) fl r
  | p, some i :: fl, r => match r'[p]?, r[i]? with
    | some (.io d), some (.own _) => putBack r' (p + 1) fl (r.set i (.own d))
    | some (.io d), some (.io _) => putBack r' (p + 1) fl (r.set i (.io d))
    | _, _ => none
def refs (fl : List (Option Nat)) : List Nat := fl.filterMap id
def oCallF (g : O1) (fl : List (Option Nat)) (a : O1) : O1 := fun r => (a r).bnds fun ds r1 => if (refs fl).Nodup then match mkArgs r1 fl ds with
  | some as => match g as with
    | .ret d r' => match putBack r' 0 fl r1 with
      | some r2 => .val d r2
      | none => .bad
    | .nxt r' => match putBack r' 0 fl r1 with
      | some r2 => .val .none r2
      | none => .bad
    | .exc n d => if refs fl = [] then .exc n d else .bad
    | _ => .bad
  | none => .bad
  else .bad
/-- what a def's run from H is to bring -/
def PostR (c : Cfg) (E : XK) (Q : VK) : Out → Prop
  | .ret d r => ∀ v σ' H' B', Rel c r B' σ' H' → Rep c.K B' H' d v → Q v H'
  | .nxt r => ∀ σ' H' B', Rel c r B' σ' H' → Q .non H'
  | .exc n d => ∀ H', Fr c H' → exOf c.K c.B0 c.cls E n d H'
  | _ => False
def spG (K : PySem.W.Frag) (cls : Nat → Addr) (n : Nat) (g : O1) : Sp := fun vs H Q E => ∃ (c : Cfg) (as : Rho) (B : Av), c.K = K ∧ c.cls = cls ∧ c.H0 = H ∧ vs.length = n ∧ Rel c as B (vs.map some) H ∧ PostR c E Q (g as)
theorem nodup_get {l : List Nat} (h : l.Nodup) {i j : Nat} {x : Nat} (hi : l[i]? = some x) (hj : l[j]? = some x) : i = j := (List.getElem?_inj (List.getElem?_eq_some_iff.mp hi).1 h).mp (hi.trans hj.symm)
theorem putBack_ok {r' : Rho} : ∀ {fl : List (Option Nat)} {p : Nat} {r r2 : Rho}, putBack r' p fl r = some r2 → (refs fl).Nodup → r2.length = r.length ∧ ∀ (j : Nat) s2, r2[j]? = some s2 →
    (∃ (q : Nat) (d : D), fl[q]? = some (some j) ∧ r'[p + q]? = some (.io d) ∧ ((∃ d0, r[j]? = some (.own d0) ∧ s2 = .own d) ∨ ∃ d0, r[j]? = some (.io d0) ∧ s2 = .io d)) ∨ ((∀ q : Nat, fl[q]? ≠ some (some j)) ∧ r[j]? = some s2)
  | [], p, r, r2, h, _ => by
    cases h
    exact ⟨rfl, fun j s2 e => .inr ⟨fun q => by simp, e⟩⟩
  | none :: fl, p, r, r2, h, nd => by
    have h' : putBack r' (p + 1) fl r = some r2 := h
    obtain ⟨hl, k⟩ := putBack_ok h' (by simpa [refs] using nd)
    refine ⟨hl, fun j s2 e => ?_⟩
    rcases k j s2 e with ⟨q, d, h1, h2, h3⟩ | ⟨h1, h2⟩
    · exact .inl ⟨q + 1, d, by simpa using h1, by rw [← h2]; congr 1; omega, h3⟩
    · refine .inr ⟨fun q => ?_, h2⟩
      cases q with
      | zero => simp
      | succ q => simpa using h1 q
  | some i :: fl, p, r, r2, h, nd => by
    have nd' : i ∉ refs fl ∧ (refs fl).Nodup := by simpa [refs] using nd
    have nin : ∀ q : Nat, fl[q]? ≠ some (some i) := fun q e => nd'.1 (List.mem_filterMap.mpr ⟨some i, List.mem_of_getElem? e, rfl⟩)
    have fin : ∀ {s1 : Slot} {d : D}, r'[p]? = some (.io d) → ((∃ d0, r[i]? = some (.own d0) ∧ s1 = .own d) ∨ ∃ d0, r[i]? = some (.io d0) ∧ s1 = .io d) → putBack r' (p + 1) fl (r.set i s1) = some r2 → r2.length = r.length ∧ ∀ (j : Nat) s2, r2[j]? = some s2 →
        (∃ (q : Nat) (d : D), (some i :: fl)[q]? = some (some j) ∧ r'[p + q]? = some (.io d) ∧ ((∃ d0, r[j]? = some (.own d0) ∧ s2 = .own d) ∨ ∃ d0, r[j]? = some (.io d0) ∧ s2 = .io d)) ∨ ((∀ q : Nat, (some i :: fl)[q]? ≠ some (some j)) ∧ r[j]? = some s2) := fun {s1 d} ep hs h' => by
      obtain ⟨hl, k⟩ := putBack_ok h' nd'.2
      refine ⟨by simpa using hl, fun j s2 e => ?_⟩
      have il : i < r.length := by rcases hs with ⟨_, e, _⟩ | ⟨_, e, _⟩ <;> exact (List.getElem?_eq_some_iff.mp e).1
      rcases k j s2 e with ⟨q, d', h1, h2, h3⟩ | ⟨h1, h2⟩
      · have hne : i ≠ j := fun z => nin q (by rw [z]; exact h1)
        rw [List.getElem?_set_ne hne] at h3
        exact .inl ⟨q + 1, d', by simpa using h1, by rw [← h2]; congr 1; omega, h3⟩
      · by_cases z : i = j
        · subst z
          rw [List.getElem?_set_self il] at h2
          cases h2
          exact .inl ⟨0, d, by simp, by simpa using ep, hs⟩
        · rw [List.getElem?_set_ne z] at h2
          refine .inr ⟨fun q => ?_, h2⟩
          cases q with
          | zero => simp [z]
          | succ q => simpa using h1 q
    unfold putBack at h
    split at h
    · rename_i d d0 e1 e2
      exact fin e1 (.inl ⟨d0, e2, rfl⟩) h
    · rename_i d d0 e1 e2
      exact fin e1 (.inr ⟨d0, e2, rfl⟩) h
    · cases h
theorem mkArgs_ok {c : Cfg} {r : Rho} {B : Av} {σ : St} {H : Hp} (R : Rel c r B σ H) : ∀ {fl : List (Option Nat)} {ds : List D} {vs : List V} {as : Rho}, RepsA c.K B H σ fl ds vs → mkArgs r fl ds = some as →
    as.length = vs.length ∧ ∀ (p : Nat) s v, as[p]? = some s → vs[p]? = some v → (fl[p]? = some none ∧ ∃ d, s = .val d ∧ Rep c.K B H d v) ∨ ∃ (i : Nat) (a : Addr) (d : D) (t : Slot), fl[p]? = some (some i) ∧ s = .io d ∧ v = .ref a ∧ σ[i]? = some (some (.ref a)) ∧ r[i]? = some t ∧ t.excl = true ∧ B.m a ∧ Cont c.K B H d a
  | _, _, _, _, .nil, h => by cases h; exact ⟨rfl, fun p s v e => by simp at e⟩
  | _, _, _, as, .val (d := d) (v := v0) q qs, h => by
    unfold mkArgs at h
    obtain ⟨as', e, rfl⟩ := Option.map_eq_some_iff.mp h
    obtain ⟨hl, k⟩ := mkArgs_ok R qs e
    refine ⟨by simp [hl], fun p s v e1 e2 => ?_⟩
    cases p with
    | zero => simp at e1 e2; subst e1; subst e2; exact .inl ⟨by simp, d, rfl, q⟩
    | succ p => simpa using k p s v (by simpa using e1) (by simpa using e2)
  | _, _, _, as, .ref (i := i) (v := v0) q qs, h => by
    unfold mkArgs at h
    split at h
    · rename_i d e0
      obtain ⟨as', e, rfl⟩ := Option.map_eq_some_iff.mp h
      obtain ⟨hl, k⟩ := mkArgs_ok R qs e
      refine ⟨by simp [hl], fun p s v e1 e2 => ?_⟩
      cases p with
      | zero =>
        simp at e1 e2; subst e1; subst e2
        obtain ⟨a, d', hu, ma, ct, hk⟩ := R.exA e0 rfl
        rw [q] at hu; cases hu
        have : d' = d := by rcases hk with z | ⟨z, _⟩ <;> cases z; rfl
        subst this
        exact .inr ⟨i, a, d', _, by simp, rfl, rfl, q, e0, rfl, ma, ct⟩
      | succ p => simpa using k p s v (by simpa using e1) (by simpa using e2)
    · rename_i d e0
      obtain ⟨as', e, rfl⟩ := Option.map_eq_some_iff.mp h
      obtain ⟨hl, k⟩ := mkArgs_ok R qs e
      refine ⟨by simp [hl], fun p s v e1 e2 => ?_⟩
      cases p with
      | zero =>
        simp at e1 e2; subst e1; subst e2
        obtain ⟨a, d', hu, ma, ct, hk⟩ := R.exA e0 rfl
        rw [q] at hu; cases hu
        have : d' = d := by rcases hk with z | ⟨z, _⟩ <;> cases z; rfl
        subst this
        exact .inr ⟨i, a, d', _, by simp, rfl, rfl, q, e0, rfl, ma, ct⟩
      | succ p => simpa using k p s v (by simpa using e1) (by simpa using e2)
    · cases h
section
variable {X : Cx} {c : Cfg} {E : EX}
/-- the callee's frame and what comes behind it -/
theorem call_go {g : O1} {fl : List (Option Nat)} {Ex : XK} {σ : St} {B : Av} {H : Hp} {Q : VK} {r : Rho} {ds : List D} {vs : List V} (hE : ∀ n d H', E n d H' → exOf c.K c.B0 c.cls Ex n d H') (R : Rel c r B σ H) (q : RepsA c.K B H σ fl ds vs)
    (h : PostE c E σ B H Q (if (refs fl).Nodup then match mkArgs r fl ds with
      | some as => match g as with
        | .ret d r' => match putBack r' 0 fl r with
          | some r2 => .val d r2
          | none => .bad
        | .nxt r' => match putBack r' 0 fl r with
          | some r2 => .val .none r2
          | none => .bad
        | .exc n d => if refs fl = [] then .exc n d else .bad
        | _ => .bad
      | none => .bad
      else .bad)) : spG c.K c.cls vs.length g vs H Q Ex := by
  by_cases nd : (refs fl).Nodup
  · rw [if_pos nd] at h
    cases em : mkArgs r fl ds with
    | none => rw [em] at h; exact h.elim
    | some as =>
      rw [em] at h
      dsimp only at h
      obtain ⟨hl, ka⟩ := mkArgs_ok R q em
      let I' : Addr → Prop := fun a => ∃ (p i : Nat), fl[p]? = some (some i) ∧ σ[i]? = some (some (.ref a)) ∧ ∃ t, r[i]? = some t ∧ t.excl = true
      let ad' : Nat → Addr := fun p => match vs[p]? with
        | some (.ref a) => a
        | _ => 0
      let c' : Cfg := ⟨c.K, I', B.b, H, ad', c.cls⟩
      have I'm : ∀ a, I' a → B.m a := fun a ⟨p, i, h1, h2, t, h3, h4⟩ => R.exm h3 h4 h2
      let B' : Av := ⟨B.b, I'⟩
      have bb : Vst B H B' H := ⟨fun _ _ _ e => e, fun _ h => .inl h⟩
      have nl : (vs.map some).length = as.length := by simp [hl]
      have slotV : ∀ (p : Nat) s o, as[p]? = some s → (vs.map some)[p]? = some o → ∃ v, o = some v ∧ vs[p]? = some v := fun p s o h1 h2 => by
        rw [List.getElem?_map] at h2
        cases e : vs[p]? with
        | none => rw [e] at h2; cases h2
        | some v => rw [e] at h2; cases h2; exact ⟨v, rfl, rfl⟩
      have R' : Rel c' as B' (vs.map some) H := by
        refine ⟨nl.symm, ?_, ?_, fun a h => R.mb a (I'm a h), R.bk, fun a h => h, R.bk, fun a h => .inl h, fun a h => .inl h, fun a h => R.mb a (I'm a h), fun a o _ e => e, fun a o e => ⟨o, e⟩⟩
        · intro p s o h1 h2
          obtain ⟨v, rfl, hv⟩ := slotV p s o h1 h2
          rcases ka p s v h1 hv with ⟨_, d, rfl, rv⟩ | ⟨i, a, d, t, e1, rfl, rfl, e2, e3, e4, ma, ct⟩
          · exact ⟨v, rfl, rv.step bb⟩
          · have ea : ad' p = a := by show (match vs[p]? with | some (.ref a) => a | _ => 0) = a; rw [hv]
            have ia : I' a := ⟨p, i, e1, e2, t, e3, e4⟩
            have ia' : I' (ad' p) := by rw [ea]; exact ia
            have ct' : Cont c.K B' H d (ad' p) := by rw [ea]; exact ct.step bb fun _ e => e
            exact ⟨by rw [← ea], ia', ia', ct'⟩
        · intro p p2 s t a hne h1 h2 x1 x2 e1 e2
          obtain ⟨v, ev, hv⟩ := slotV p s _ h1 e1
          obtain ⟨v2, ev2, hv2⟩ := slotV p2 t _ h2 e2
          cases ev; cases ev2
          rcases ka p s _ h1 hv with ⟨_, d, rfl, _⟩ | ⟨i, a1, d, t1, f1, rfl, z1, g1, k1, m1, _⟩
          · cases x1
          · rcases ka p2 t _ h2 hv2 with ⟨_, d, rfl, _⟩ | ⟨j, a2, d2, t2, f2, rfl, z2, g2, k2, m2, _⟩
            · cases x2
            · cases z1; cases z2
              refine R.apart i j t1 t2 a (fun z => hne ?_) k1 k2 m1 m2 g1 g2
              subst z
              -- the same slot lent twice
              have aux : ∀ (l : List (Option Nat)) (u v : Nat) (x : Nat), (refs l).Nodup → l[u]? = some (some x) → l[v]? = some (some x) → u = v := by
                intro l
                induction l with
                | nil => intro u v x _ hu; simp at hu
                | cons a l ih =>
                  intro u v x nd hu hv
                  cases a with
                  | none =>
                    cases u with
                    | zero => simp at hu
                    | succ u =>
                      cases v with
                      | zero => simp at hv
                      | succ v => rw [ih u v x (by simpa [refs] using nd) (by simpa using hu) (by simpa using hv)]
                  | some y =>
                    have nd' : y ∉ refs l ∧ (refs l).Nodup := by simpa [refs] using nd
                    cases u with
                    | zero =>
                      cases v with
                      | zero => rfl
                      | succ v =>
                        simp at hu hv; subst hu
                        exact absurd (show y ∈ refs l from List.mem_filterMap.mpr ⟨some y, List.mem_of_getElem? hv, rfl⟩) nd'.1
                    | succ u =>
                      cases v with
                      | zero =>
                        simp at hu hv; subst hv
                        exact absurd (show y ∈ refs l from List.mem_filterMap.mpr ⟨some y, List.mem_of_getElem? hu, rfl⟩) nd'.1
                      | succ v => rw [ih u v x nd'.2 (by simpa using hu) (by simpa using hv)]
              exact aux fl p p2 i nd f1 f2
      refine ⟨c', as, B', rfl, rfl, rfl, rfl, R', ?_⟩
      -- behind the callee
      have back : ∀ {r' r2 : Rho} {σ' : St} {H' : Hp} {B2 : Av}, putBack r' 0 fl r = some r2 → Rel c' r' B2 σ' H' → Rel c r2 B σ H' ∧ Step B H B H' := fun {r' r2 σ' H' B2} ep R2 => by
        obtain ⟨hl2, kp⟩ := putBack_ok ep nd
        have st : Step B H B H' := ⟨fun a o nm e => R2.fr a o (fun z => nm (I'm a z)) e, fun _ _ b _ _ => b, fun a o e => R2.dom a o e, fun _ h => .inl h, fun _ h => .inl h⟩
        have vs' := R.v st
        have down : Vst B2 H' B H' := ⟨fun _ _ _ e => e, fun a h => .inl (R2.b0 a h)⟩
        refine ⟨⟨by rw [hl2]; exact R.len, ?_, ?_, R.mb, fun a b => ?_, R.b0, R.b0h, R.bsub, R.msub, R.i0, fun a o n e => ?_, fun a o e => ?_⟩, st⟩
        · intro j s2 o h1 h2
          rcases kp j s2 h1 with ⟨p, d, e1, e2, e3⟩ | ⟨e1, e2⟩
          · have e2 : r'[p]? = some (.io d) := by simpa using e2
            obtain ⟨u, hu, eu, m2, _, ct⟩ := R2.at e2
            -- the lent address is the caller's
            have hp : p < fl.length := (List.getElem?_eq_some_iff.mp e1).1
            obtain ⟨s0, x0, z0⟩ : ∃ s0, r[j]? = some s0 ∧ s0.excl = true := by
              rcases e3 with ⟨d0, e, _⟩ | ⟨d0, e, _⟩
              · exact ⟨_, e, rfl⟩
              · exact ⟨_, e, rfl⟩
            obtain ⟨a, d1, ha, ma, _, hk⟩ := R.exA x0 z0
            rw [ha] at h2; cases h2
            have lens : ∀ {fl : List (Option Nat)} {ds : List D} {vs : List V}, RepsA c.K B H σ fl ds vs → ∀ (p i : Nat), fl[p]? = some (some i) → ∃ v, vs[p]? = some v ∧ σ[i]? = some (some v) := by
              intro fl ds vs q
              induction q with
              | nil => intro p i h; simp at h
              | val _ _ ih =>
                intro p i h
                cases p with
                | zero => simp at h
                | succ p => obtain ⟨v, h1, h2⟩ := ih p i (by simpa using h); exact ⟨v, by simpa using h1, h2⟩
              | ref q0 _ ih =>
                intro p i h
                cases p with
                | zero => simp at h; subst h; exact ⟨_, by simp, q0⟩
                | succ p => obtain ⟨v, h1, h2⟩ := ih p i (by simpa using h); exact ⟨v, by simpa using h1, h2⟩
            obtain ⟨v, hv, hσ⟩ := lens q p j e1
            rw [ha] at hσ; cases hσ
            have ea : ad' p = a := by show (match vs[p]? with | some (.ref a) => a | _ => 0) = a; rw [hv]
            have ct' : Cont c.K B H' d a := by
              have : Cont c.K B2 H' d (ad' p) := ct
              rw [ea] at this
              exact this.step down fun _ e => e
            rcases e3 with ⟨d0, e, rfl⟩ | ⟨d0, e, rfl⟩
            · have q0 := R.slot j _ _ e ha
              obtain ⟨a', z, y1, y2, _⟩ := q0
              cases z
              exact ⟨a, rfl, ma, y2, ct'⟩
            · have q0 := R.slot j _ _ e ha
              obtain ⟨z, y1, y2, _⟩ := q0
              have z' : a = c.ad j := by cases z; rfl
              subst z'
              exact ⟨rfl, ma, y2, ct'⟩
          · have q0 := R.slot j s2 o e2 h2
            cases s2 with
            | un => trivial
            | val d => obtain ⟨v, z, y⟩ := q0; exact ⟨v, z, y.step vs'⟩
            | own d =>
              obtain ⟨a, z, y1, y2, y3⟩ := q0
              subst z
              have nI : ¬ I' a := fun ⟨p, i, h1, h3, t, h4, h5⟩ => R.apart j i _ t a (fun z => e1 p (by rw [z]; exact h1)) e2 h4 rfl h5 h2 h3
              exact ⟨a, rfl, y1, y2, y3.step vs' fun o e => R2.fr a o nI e⟩
            | io d =>
              obtain ⟨z, y1, y2, y3⟩ := q0
              subst z
              have nI : ¬ I' (c.ad j) := fun ⟨p, i, h1, h3, t, h4, h5⟩ => R.apart j i _ t _ (fun z => e1 p (by rw [z]; exact h1)) e2 h4 rfl h5 h2 h3
              exact ⟨rfl, y1, y2, y3.step vs' fun o e => R2.fr _ o nI e⟩
            | scr ns => obtain ⟨a, z, y1⟩ := q0; exact ⟨a, z, y1.step vs'⟩
        · intro j k s t a hne h1 h2 x1 x2
          have ex : ∀ (j : Nat) s, r2[j]? = some s → s.excl = true → ∃ s0, r[j]? = some s0 ∧ s0.excl = true := fun j s h x => by
            rcases kp j s h with ⟨p, d, _, _, e3⟩ | ⟨_, e2⟩
            · rcases e3 with ⟨d0, e, _⟩ | ⟨d0, e, _⟩
              · exact ⟨_, e, rfl⟩
              · exact ⟨_, e, rfl⟩
            · exact ⟨s, e2, x⟩
          obtain ⟨s0, a1, a2⟩ := ex j s h1 x1
          obtain ⟨t0, b1, b2⟩ := ex k t h2 x2
          exact R.apart j k s0 t0 a hne a1 b1 a2 b2
        · obtain ⟨o, e⟩ := R.bk a b; exact R2.dom a o e
        · have h1 := R.fr a o n e
          refine R2.fr a o (fun z => ?_) h1
          rcases R.msub a (I'm a z) with y | y
          · exact n y
          · rw [y] at e; cases e
        · obtain ⟨o', e'⟩ := R.dom a o e; exact R2.dom a o' e'
      have down : ∀ {H' : Hp} {B2 : Av} {r' : Rho} {σ' : St} {d : D} {v : V}, Rel c' r' B2 σ' H' → Rep c.K B2 H' d v → Rep c.K B H' d v := fun R2 q => q.step ⟨fun _ _ _ e => e, fun a h => .inl (R2.b0 a h)⟩
      cases eg : g as with
      | ret d r' =>
        rw [eg] at h
        dsimp only at h
        cases ep : putBack r' 0 fl r with
        | none => rw [ep] at h; exact h.elim
        | some r2 =>
          rw [ep] at h
          intro v σ' H' B2 R2 q2
          obtain ⟨R3, S3⟩ := back ep R2
          exact h v H' B R3 S3 (down R2 q2)
      | nxt r' =>
        rw [eg] at h
        dsimp only at h
        cases ep : putBack r' 0 fl r with
        | none => rw [ep] at h; exact h.elim
        | some r2 =>
          rw [ep] at h
          intro σ' H' B2 R2
          obtain ⟨R3, S3⟩ := back ep R2
          exact h .non H' B R3 S3 .non
      | exc n d =>
        rw [eg] at h
        dsimp only at h
        by_cases hr : refs fl = []
        · rw [if_pos hr] at h
          intro H' F' H'' dx v ex ed rv
          have nI : ∀ a, ¬ I' a := fun a ⟨p, i, h1, _⟩ => by
            have : i ∈ refs fl := List.mem_filterMap.mpr ⟨some i, List.mem_of_getElem? h1, rfl⟩
            rw [hr] at this; cases this
          have Fc : Fr c H' := ⟨fun a o n e => F'.fr a o (nI a) (R.fr a o n e), fun a o e => by obtain ⟨o', e'⟩ := R.dom a o e; exact F'.dom a o' e'⟩
          have rv' : Rep c.K ⟨B.b, fun _ => False⟩ H'' d v := rv
          exact hE n d H' (h H' Fc) H'' dx v ex ed (Rep.step (B := ⟨B.b, fun _ => False⟩) (B' := ⟨c.B0, fun _ => False⟩) ⟨fun _ _ _ e => e, fun a h => .inl (R.b0 a h)⟩ rv')
        · rw [if_neg hr] at h; exact h.elim
      | val _ _ => rw [eg] at h; exact h.elim
      | vals _ _ => rw [eg] at h; exact h.elim
      | brk _ => rw [eg] at h; exact h.elim
      | cnt _ => rw [eg] at h; exact h.elim
      | bad => rw [eg] at h; exact h.elim
  · rw [if_neg nd] at h; exact h.elim
end
end Py

/-! Py, part H: calls of defs and their promises. -/
namespace Py
open PySem L2

theorem RepsA.len {K : PySem.W.Frag} {B : Av} {H : Hp} {σ : St} : ∀ {fl : List (Option Nat)} {ds : List D} {vs : List V}, RepsA K B H σ fl ds vs → vs.length = fl.length
  | _, _, _, .nil => rfl
  | _, _, _, .val _ rs => by simp [RepsA.len rs]
  | _, _, _, .ref _ rs => by simp [RepsA.len rs]
section
variable {X : Cx} {c : Cfg} {E : EX}
theorem snd_call {k : Nat} {f : Addr} {fd : FuncData} {ps : List Str} {g ob : O1} {fl : List (Option Nat)} {Ex : XK} {x : Str} {p pos : Pos} {e : Expr} {es : List Expr}
    (F : FnOk X.prog X.w X.K X.mg X.base (L2.CX X.prog X.w) k f fd ps (spG c.K c.cls ps.length g)) (hr : Room k X.A) (hg : Gl X x) (hm : X.mg x = some (.ref f)) (hk : PySem.W.keepIn X.K (.ref f) = true) (hb : Binds X.K fd ps [])
    (hx : Passes (L2.CX X.prog X.w) X Ex) (hE : ∀ n d H', E n d H' → exOf c.K c.B0 c.cls Ex n d H') (hfl : fl.length = ps.length) (ha : PA X (e :: es) (denB c E fl ob))
    (hdb : (x == ("__debug__" : Str)) = false) (he : starEach (e :: es) X.env = (false, eval e X.env) :: starEach es X.env) (hpl : (backTo pos (starEach es X.env)).any (·.1) = false) :
    PE X (.Call (.Name x p) (e :: es) [] pos) (denE c E (oCallF g fl ob)) := by
  refine pe_mono (pe_call F hr hg hm hk hb .nil hx ha hdb he hpl) fun σ H Q ⟨r, B, R, h⟩ => ⟨r, B, R, bndB ppE h fun ds r1 vs H1 B1 _ R1 S1 q1 h1 => ?_⟩
  rw [List.append_nil, ← hfl, ← q1.len]
  exact call_go hE R1 q1 h1
theorem snd_call0 {k : Nat} {f : Addr} {fd : FuncData} {ps : List Str} {g : O1} {Ex : XK} {x : Str} {p pos : Pos}
    (F : FnOk X.prog X.w X.K X.mg X.base (L2.CX X.prog X.w) k f fd ps (spG c.K c.cls ps.length g)) (hr : Room k X.A) (hg : Gl X x) (hm : X.mg x = some (.ref f)) (hk : PySem.W.keepIn X.K (.ref f) = true) (hb : Binds X.K fd ps [])
    (hx : Passes (L2.CX X.prog X.w) X Ex) (hE : ∀ n d H', E n d H' → exOf c.K c.B0 c.cls Ex n d H') (hfl : ps.length = 0) (hdb : (x == ("__debug__" : Str)) = false) :
    PE X (.Call (.Name x p) [] [] pos) (denE c E (oCallF g [] oNil)) := by
  refine pe_mono (pe_call0 F hr hg hm hk hb .nil hx hdb) fun σ H Q ⟨r, B, R, h⟩ => ?_
  show spG c.K c.cls ps.length g ([] ++ []) H Q Ex
  rw [hfl]
  exact call_go (vs := []) (ds := []) (fl := []) hE R .nil h
end

/-- names that nothing is kept in yet -/
theorem Rel.pad {c : Cfg} {r : Rho} {B : Av} {σ : St} {H : Hp} (R : Rel c r B σ H) (n : Nat) : Rel c (r ++ List.replicate n .un) B (σ ++ List.replicate n none) H := by
  have cut : ∀ {i : Nat} {s : Slot}, (r ++ List.replicate n .un)[i]? = some s → s ≠ .un → r[i]? = some s := fun {i s} h hs => by
    by_cases hi : i < r.length
    · rwa [List.getElem?_append_left hi] at h
    · rw [List.getElem?_append_right (by omega), List.getElem?_replicate] at h
      split at h
      · cases h; exact absurd rfl hs
      · cases h
  have cutE : ∀ {i : Nat} {s : Slot} {o : Option V}, r[i]? = some s → (σ ++ List.replicate n none)[i]? = some o → σ[i]? = some o := fun {i s o} h h2 => by
    have := (List.getElem?_eq_some_iff.mp h).1
    rwa [List.getElem?_append_left (by rw [← R.len]; exact this)] at h2
  refine ⟨by simp [R.len], ?_, ?_, R.mb, R.bk, R.b0, R.b0h, R.bsub, R.msub, R.i0, R.fr, R.dom⟩
  · intro i s o h1 h2
    by_cases hs : s = .un
    · subst hs; trivial
    · have h3 := cut h1 hs
      exact R.slot i s o h3 (cutE h3 h2)
  · intro i j s t a hne h1 h2 x1 x2 e1 e2
    have h3 := cut h1 (fun z => by subst z; cases x1)
    have h4 := cut h2 (fun z => by subst z; cases x2)
    exact R.apart i j s t a hne h3 h4 x1 x2 (cutE h3 e1) (cutE h4 e2)
/-- a def keeps its promise, by its body -/
theorem fn_okG {P : Program} {w : World} {K : PySem.W.Frag} {mg : Str → Option Value} {base : Heap} {x qual : Str} {st : Stmt} {f : Addr} {fd : FuncData} {N ps : List Str} {k : Nat} {cls : Nat → Addr} {ob : O1}
    (F : Fun K x qual st f fd) (S : FnScope N ps (defScope st))
    (hb : ∀ (cdv : Value) (A : Around) (outer : List Env) (s : Shared) (H : Hp) (E : XK) (c : Cfg), c.K = K → c.cls = cls → Room k (A.deeper (PyProof.Rows.envOfC qual (defScope st) s.heap.objs.size f cdv)) →
      PSs (cxOf (L2.CX P w) P w K mg base N qual (defScope st) f cdv A outer s H E) (defBody st) (denS c (exOf c.K c.B0 c.cls E) ob)) :
    FnOk P w K mg base (L2.CX P w) (k + 1) f fd ps (spG K cls ps.length fun as => ob (as ++ List.replicate (N.length - as.length) .un)) := by
  refine Fun.okX F S (fun vs H Q E ⟨c, as, B, _, _, _, hl, _⟩ => hl) fun cdv A outer s H vs Q E hr ⟨c, as, B, hK, hcl, hH, hl, R, h⟩ => ?_
  refine ⟨_, hb cdv A outer s H E c hK hcl hr, as ++ List.replicate (N.length - as.length) .un, B, ?_, ?_⟩
  · have e : as.length = vs.length := by simpa using R.len
    have := R.pad (N.length - as.length)
    rw [e] at this ⊢
    exact this
  · replace h : PostR c E Q (ob (as ++ List.replicate (N.length - as.length) .un)) := h
    revert h
    generalize ob (as ++ List.replicate (N.length - as.length) .un) = o
    intro h
    cases o with
    | ret d r => exact fun v σ' H' B' R _ q => h v σ' H' B' R q
    | nxt r => exact fun σ' H' B' R _ => h σ' H' B' R
    | exc n d => exact h
    | _ => exact h.elim
end Py

/-! Py, part I: a tuple times any int. -/
namespace Py
open PySem L2

theorem tup_mul_one (l : Addr) (items : Array Value) (n : Nat) (sl : Array (Option Value)) (dd : Option Addr) (x : Int) (u : Tok) (c0 : (decide (x < -(2 ^ 63)) || decide (x ≥ 2 ^ 63)) = false) (c1 : (items.isEmpty || x == 1) = true) :
    Meets (Builtin.«tuple.__mul__» ⟨[.ref l, .int x u], []⟩) (fun _ R s => s.heap.get? l = some { cls := .type "tuple", dict := dd, data := .seq items n, slots := sl } ∧ R (.ok (.ret (.ref l))) s) :=
  .of_wp fun prog w A R s h => by
    obtain ⟨hp, g, d, tk, os⟩ := s
    obtain ⟨hl, h⟩ := h
    have f1 := AutoSeq1.idx_int
    wp_walk using wpAny_loadPart' hl
    repeat (first
      | (refine wpAny_ite_false (decide_eq_false (by rw [c0]; exact Bool.false_ne_true)) ?_; wp_walk using wpAny_loadPart' hl)
      | (refine wpAny_ite_true (decide_eq_true c1) ?_; wp_walk using wpAny_loadPart' hl))
    exact ⟨_, rfl, h⟩
theorem tup_mul_neg (l : Addr) (items : Array Value) (n : Nat) (sl : Array (Option Value)) (dd : Option Addr) (x : Int) (u : Tok) (c0 : (decide (x < -(2 ^ 63)) || decide (x ≥ 2 ^ 63)) = false) (c1 : (items.isEmpty || x == 1) = false) (c2 : x ≤ 0) :
    Meets (Builtin.«tuple.__mul__» ⟨[.ref l, .int x u], []⟩) (fun _ R s => s.heap.get? l = some { cls := .type "tuple", dict := dd, data := .seq items n, slots := sl } ∧
      R (.ok (.ret (Value.ref s.heap.objs.size))) { s with heap := s.heap.push { cls := Value.type "tuple", data := Data.seq #[] }, toks := s.toks }) :=
  .of_wp fun prog w A R s h => by
    obtain ⟨hp, g, d, tk, os⟩ := s
    obtain ⟨hl, h⟩ := h
    have f1 := AutoSeq1.idx_int
    wp_walk using wpAny_loadPart' hl
    repeat (first
      | (refine wpAny_ite_false (decide_eq_false (by rw [c0]; exact Bool.false_ne_true)) ?_; wp_walk using wpAny_loadPart' hl)
      | (refine wpAny_ite_false (decide_eq_false (by rw [c1]; exact Bool.false_ne_true)) ?_; wp_walk using wpAny_loadPart' hl)
      | (refine wpAny_ite_true (decide_eq_true (by rw [decide_eq_true c2]; rfl)) ?_; wp_walk using wpAny_loadPart' hl))
    exact ⟨_, rfl, h⟩
/-- a tuple times an int, all cases -/
def rRepA (K : PySem.W.Frag) : R2 := fun x y H Q => ∃ l k xs, x = .ref l ∧ y = .int k ∧ SqT K H l xs ∧ -1000000 ≤ k ∧ k ≤ 1000 ∧ xs.length ≤ 1000 ∧ (xs = [] ∨ k = 1 → Q (.ref l) H) ∧
  (xs ≠ [] → k ≠ 1 → ∀ p, H p = none → Q (.ref p) (upd H p (.tup (List.replicate k.toNat xs).flatten)))
theorem op_repA {X : Cx} : OpR X (binaryOp .Mult) (rRepA X.K) := by
  intro pins s σ H x y v u Q I rx ry h
  obtain ⟨l, k, xs, rfl, rfl, hT, h0, h1, hz, q1, q2⟩ := h
  by_cases hb : xs ≠ [] ∧ 2 ≤ k
  · exact op_repT pins s σ H _ _ v u Q I rx ry ⟨l, k, xs, rfl, rfl, hT, hb.1, hb.2, h1, hz, q2 hb.1 (by omega)⟩
  cases rx
  obtain ⟨t, rfl⟩ := ry
  obtain ⟨its, r, ⟨⟨cls, dd, data, sl⟩, ho, hc, n, hd⟩, hs⟩ := I.tuple hT
  simp only at hc hd
  subst hc hd
  have hle : its.length = xs.length := r.length.symm
  have c0 : (decide (k < -(2 ^ 63)) || decide (k ≥ 2 ^ 63)) = false := by
    rw [decide_eq_false (by omega), decide_eq_false (by omega)] <;> rfl
  refine PySem.wpAny_binaryOp_repeat_ref (T := "tuple") (U := "int") (by decide) ⟨_, ho, rfl⟩ (fun s' => typeIs_int s' k t) noFill_tuple_mul F.fills_int_mul F.slot_int_rmul repeat_tuple F.slot_int_index.lookup
    (call_meets F.slot_int_rmul (typeIs_int s k t) F.entry_int_rmul (F.args_int_rmul_2 _ _) (int_rmul_tuple k t l its.toArray n dd sl) ⟨ho, rfl, ⟨_, ho, rfl⟩, ?_⟩)
  by_cases hx : xs = [] ∨ k = 1
  · have c1 : (its.toArray.isEmpty || k == 1) = true := by
      rcases hx with e | e
      · rw [e] at hle
        have : its = [] := List.eq_nil_of_length_eq_zero hle
        subst this
        rfl
      · subst e; simp
    exact call_meets F.slot_tuple_mul ⟨_, ho, rfl⟩ F.entry_tuple_mul (F.args_tuple_mul_2 _ _) (tup_mul_one l its.toArray n sl dd k t c0 c1) ⟨ho, ⟨.ref l, H, I, rfl, q1 hx⟩⟩
  · have hx1 : xs ≠ [] := fun e => hx (.inl e)
    have hx2 : k ≠ 1 := fun e => hx (.inr e)
    have hk : k ≤ 0 := by
      have : ¬ 2 ≤ k := fun z => hb ⟨hx1, z⟩
      omega
    have hi : its.toArray.isEmpty = false := by
      cases its with
      | nil => exact absurd (List.eq_nil_of_length_eq_zero hle.symm) hx1
      | cons a b => rfl
    have c1 : (its.toArray.isEmpty || k == 1) = false := by
      rw [hi, Bool.false_or]
      exact beq_eq_false_iff_ne.mpr hx2
    refine call_meets F.slot_tuple_mul ⟨_, ho, rfl⟩ F.entry_tuple_mul (F.args_tuple_mul_2 _ _) (tup_mul_neg l its.toArray n sl dd k t c0 c1 hk) ⟨ho, ?_⟩
    have e0 : (List.replicate k.toNat xs).flatten = [] := by rw [show k.toNat = 0 by omega]; rfl
    have q := q2 hx1 hx2
    rw [e0] at q
    refine ⟨.ref s.heap.objs.size, _, I.laid (t' := s.toks) (o := .tup []) (fun b ob q => Heap.get?_push_of_some _ q) (Nat.le_refl _) ?_, rfl, q _ (I.hok.fresh (Nat.le_refl _))⟩
    exact ⟨Nat.zero_le _, _, .nil, PyProof.Rows.IsTup.new _ _⟩
end Py

/-! Py, part J: the operators on data. -/
namespace Py
open PySem L2

/-! ### bools of data, at any depth -/
def rD2 (K : PySem.W.Frag) (f : D → D → Option Bool) : R2 := fun x y H Q => ∃ d e b, Dp K H x d ∧ Dp K H y e ∧ f d e = some b ∧ Q (.bl b) H
def okD (d : D) : Bool := d.plain && decide (d.depth ≤ 60)
theorem okD_and {d : D} (h : okD d = true) : d.plain = true ∧ d.depth ≤ 60 := by
  unfold okD at h
  rw [Bool.and_eq_true, decide_eq_true_eq] at h
  exact h
def bEq (d e : D) : Option Bool := if okD d = true ∧ okD e = true then some (PyData.eqv d e) else none
def bNe (d e : D) : Option Bool := if okD d = true ∧ okD e = true then some (!PyData.eqv d e) else none
def cmpOk (d e : D) : Prop := okD d = true ∧ okD e = true ∧ PySem.W.alike d e = true ∧ d ≠ .none
def nnD : D → Bool
  | .none => false
  | _ => true
theorem nnD_ne {d : D} (h : nnD d = true) : d ≠ .none := fun e => by subst e; cases h
def cmpB (d e : D) : Bool := okD d && okD e && PySem.W.alike d e && nnD d
def bLt (d e : D) : Option Bool := if cmpB d e = true then some (PySem.W.dataLt d e) else none
def bGt (d e : D) : Option Bool := if cmpB d e = true then some (PySem.W.dataLt e d) else none
def bLe (d e : D) : Option Bool := if cmpB d e = true then some (!PySem.W.dataLt e d) else none
def bGe (d e : D) : Option Bool := if cmpB d e = true then some (!PySem.W.dataLt d e) else none
theorem cmpB_and {d e : D} (h : cmpB d e = true) : okD d = true ∧ okD e = true ∧ PySem.W.alike d e = true ∧ d ≠ .none := by
  unfold cmpB at h
  simp only [Bool.and_eq_true] at h
  exact ⟨h.1.1.1, h.1.1.2, h.1.2, nnD_ne h.2⟩
section
variable {X : Cx}
theorem op_D2 {op : CmpOp} {f : D → D → Option Bool} (rule : ∀ (s : Shared) (u v : Value) (d e : D) (as bs : List Addr) (b : Bool) (Q : Value → Shared → Prop), Reads s.heap u d as → Reads s.heap v e bs → f d e = some b → Q (.bool b) s →
    wpAny (model X.prog X.w) X.A (compareOp op u v) Q X.xe s) : OpR X (compareOp op) (rD2 X.K f) := by
  intro pins s σ H x y v u Q I rx ry h
  obtain ⟨d, e, b, hd, he, hb, q⟩ := h
  obtain ⟨as, r1⟩ := Dp.reads I d x v hd rx
  obtain ⟨bs, r2⟩ := Dp.reads I e y u he ry
  exact rule s v u d e as bs b _ r1 r2 hb ⟨.bl b, H, I, rfl, q⟩
variable (hu : X.A.units + 64 < cLine)
include hu
theorem op_eqB : OpR X (compareOp .Eq) (rD2 X.K bEq) := op_D2 fun s u v d e as bs b Q r1 r2 h q => by
  unfold bEq at h
  split at h
  · rename_i c
    cases h
    obtain ⟨p1, d1⟩ := okD_and c.1
    obtain ⟨p2, d2⟩ := okD_and c.2
    exact SeqAt.eq_plain r1 r2 p1 p2 (by omega) q
  · cases h
theorem op_neB : OpR X (compareOp .NotEq) (rD2 X.K bNe) := op_D2 fun s u v d e as bs b Q r1 r2 h q => by
  unfold bNe at h
  split at h
  · rename_i c
    cases h
    obtain ⟨p1, d1⟩ := okD_and c.1
    obtain ⟨p2, d2⟩ := okD_and c.2
    exact SeqAt.ne_plain r1 r2 p1 p2 (by omega) q
  · cases h
theorem op_ltB : OpR X (compareOp .Lt) (rD2 X.K bLt) := op_D2 fun s u v d e as bs b Q r1 r2 h q => by
  unfold bLt at h
  split at h
  · rename_i c
    cases h
    obtain ⟨p1, p2, p3, p4⟩ := cmpB_and c
    have d1 := (okD_and p1).2
    exact PySem.W.lt_data r1 r2 p3 p4 (by omega) q
  · cases h
theorem op_gtB : OpR X (compareOp .Gt) (rD2 X.K bGt) := op_D2 fun s u v d e as bs b Q r1 r2 h q => by
  unfold bGt at h
  split at h
  · rename_i c
    cases h
    obtain ⟨p1, p2, p3, p4⟩ := cmpB_and c
    have d1 := (okD_and p1).2
    exact PySem.W.gt_data r1 r2 p3 p4 (by omega) q
  · cases h
theorem op_leB : OpR X (compareOp .LtE) (rD2 X.K bLe) := op_D2 fun s u v d e as bs b Q r1 r2 h q => by
  unfold bLe at h
  split at h
  · rename_i c
    cases h
    obtain ⟨p1, p2, p3, p4⟩ := cmpB_and c
    have d1 := (okD_and p1).2
    exact PySem.W.le_data r1 r2 p3 p4 (by omega) q
  · cases h
theorem op_geB : OpR X (compareOp .GtE) (rD2 X.K bGe) := op_D2 fun s u v d e as bs b Q r1 r2 h q => by
  unfold bGe at h
  split at h
  · rename_i c
    cases h
    obtain ⟨p1, p2, p3, p4⟩ := cmpB_and c
    have d1 := (okD_and p1).2
    exact PySem.W.ge_data r1 r2 p3 p4 (by omega) q
  · cases h
/-- x in a list, a tuple -/
def bIn (d e : D) : Option Bool := match e with
  | .list xs => if okD d = true ∧ okD e = true then some (xs.any fun y => PyData.eqv y d) else none
  | .tuple xs => if okD d = true ∧ okD e = true then some (xs.any fun y => PyData.eqv y d) else none
  | _ => none
def bNotIn (d e : D) : Option Bool := (bIn d e).map (!·)
theorem op_inB : OpR X (compareOp .In) (rD2 X.K bIn) := op_D2 fun s u v d e as bs b Q r1 r2 h q => by
  unfold bIn at h
  split at h
  · split at h
    · rename_i c
      cases h
      obtain ⟨p1, d1⟩ := okD_and c.1
      obtain ⟨p2, d2⟩ := okD_and c.2
      exact SeqAt.in_list_data r2 r1 (by simpa [PyData.plain] using p2) p1 (by omega) q
    · cases h
  · split at h
    · rename_i c
      cases h
      obtain ⟨p1, d1⟩ := okD_and c.1
      obtain ⟨p2, d2⟩ := okD_and c.2
      exact SeqAt.in_tuple_data r2 r1 (by simpa [PyData.plain] using p2) p1 (by omega) q
    · cases h
  · cases h
theorem op_notInB : OpR X (compareOp .NotIn) (rD2 X.K bNotIn) := op_D2 fun s u v d e as bs b Q r1 r2 h q => by
  unfold bNotIn bIn at h
  split at h
  · split at h
    · rename_i c
      cases h
      obtain ⟨p1, d1⟩ := okD_and c.1
      obtain ⟨p2, d2⟩ := okD_and c.2
      exact SeqAt.notIn_list_data r2 r1 (by simpa [PyData.plain] using p2) p1 (by omega) q
    · cases h
  · split at h
    · rename_i c
      cases h
      obtain ⟨p1, d1⟩ := okD_and c.1
      obtain ⟨p2, d2⟩ := okD_and c.2
      exact SeqAt.notIn_tuple_data r2 r1 (by simpa [PyData.plain] using p2) p1 (by omega) q
    · cases h
  · cases h
end
def ofB (f : D → D → Option Bool) (d e : D) : Option D := (f d e).map .bool
section
variable {c : Cfg}
theorem op2_D2 {f : D → D → Option Bool} (hf : ∀ d e b, f d e = some b → d.plain = true ∧ e.plain = true) : Op2 c (rD2 c.K f) (ofB f) := fun B H x y d e g Q nb rx ry h q => by
  unfold ofB at h
  cases eb : f d e with
  | none => rw [eb] at h; cases h
  | some b =>
    rw [eb] at h; cases h
    obtain ⟨p1, p2⟩ := hf d e b eb
    exact ⟨d, e, b, rx.dp p1, ry.dp p2, eb, q _ H (Ext.refl H) (.bl b)⟩
end
theorem bEq_pl (d e : D) (b : Bool) (h : bEq d e = some b) : d.plain = true ∧ e.plain = true := by
  unfold bEq at h
  split at h
  · rename_i c; exact ⟨(okD_and c.1).1, (okD_and c.2).1⟩
  · cases h
theorem bNe_pl (d e : D) (b : Bool) (h : bNe d e = some b) : d.plain = true ∧ e.plain = true := by
  unfold bNe at h
  split at h
  · rename_i c; exact ⟨(okD_and c.1).1, (okD_and c.2).1⟩
  · cases h
theorem cmp_pl {d e : D} {b k : Bool} (h : (if cmpB d e = true then some b else none) = some k) : d.plain = true ∧ e.plain = true := by
  split at h
  · rename_i c; obtain ⟨p1, p2, _⟩ := cmpB_and c; exact ⟨(okD_and p1).1, (okD_and p2).1⟩
  · cases h
theorem bIn_pl (d e : D) (b : Bool) (h : bIn d e = some b) : d.plain = true ∧ e.plain = true := by
  unfold bIn at h
  split at h
  · split at h
    · rename_i c; exact ⟨(okD_and c.1).1, (okD_and c.2).1⟩
    · cases h
  · split at h
    · rename_i c; exact ⟨(okD_and c.1).1, (okD_and c.2).1⟩
    · cases h
  · cases h
theorem bNotIn_pl (d e : D) (b : Bool) (h : bNotIn d e = some b) : d.plain = true ∧ e.plain = true := by
  unfold bNotIn at h
  cases eb : bIn d e with
  | none => rw [eb] at h; cases h
  | some k => exact bIn_pl d e k eb

/-! ### numbers, joins, times -/
def fAdd : D → D → Option D
  | .int i, .int j => some (.int (i + j))
  | .tuple xs, .tuple ys => if xs.length + ys.length ≤ lim then some (.tuple (xs ++ ys)) else none
  | .list xs, .list ys => if xs.length + ys.length ≤ lim then some (.list (xs ++ ys)) else none
  | .str a, .str b => if a.length + b.length ≤ lim then some (.str (a ++ b)) else none
  | _, _ => none
def fSub : D → D → Option D
  | .int i, .int j => some (.int (i - j))
  | _, _ => none
def W64 (i : Int) : Prop := -(2 ^ 64) < i ∧ i < 2 ^ 64
instance (i : Int) : Decidable (W64 i) := inferInstanceAs (Decidable (_ ∧ _))
def fMul : D → D → Option D
  | .int i, .int j => if W64 i ∨ W64 j then some (.int (i * j)) else none
  | .tuple xs, .int k => if -1000000 ≤ k ∧ k ≤ 1000 ∧ xs.length ≤ 1000 then some (.tuple (List.replicate k.toNat xs).flatten) else none
  | .list xs, .int k => if -1000000 ≤ k ∧ k ≤ 1000 ∧ xs.length ≤ 1000 then some (.list (List.replicate k.toNat xs).flatten) else none
  | _, _ => none
def fDiv : D → D → Option D
  | .int i, .int j => if 0 < j ∧ j < 2 ^ 250 then some (.int (i / j)) else none
  | _, _ => none
def fMod : D → D → Option D
  | .int i, .int j => if 0 < j then some (.int (i % j)) else none
  | _, _ => none
def fPow : D → D → Option D
  | .int i, .int j => if 0 ≤ j ∧ j ≤ 1000 ∧ W64 i then some (.int (i ^ j.toNat)) else none
  | _, _ => none
def qAdd (K : PySem.W.Frag) : R2 := fun x y H Q => rI0 (fun i j => .int (i + j)) x y H Q ∨ rCatA K x y H Q ∨ rCat x y H Q ∨ ∃ i j, x = .str i ∧ y = .str j ∧ i.length + j.length ≤ sizeLine ∧ Q (.str (i ++ j)) H
theorem op_addA {X : Cx} : OpR X (binaryOp .Add) (qAdd X.K) := op_add.or (op_catA.or (op_cat.or op_add_str))
theorem i2_add {c : Cfg} : Op2 c (qAdd c.K) fAdd := fun B H x y d e g Q nb rx ry h q => by
  unfold fAdd at h
  split at h
  · cases h; cases rx; cases ry
    exact .inl ⟨_, _, rfl, rfl, q _ H (Ext.refl H) (.int _)⟩
  · split at h
    · rename_i hl
      cases h
      obtain ⟨a, us, rfl, s1, r1⟩ := rx.tupI
      obtain ⟨b, ws, rfl, s2, r2⟩ := ry.tupI
      have hl' : us.length + ws.length ≤ sizeLine := by rw [← r1.length, ← r2.length]; exact lim_line hl
      refine .inr (.inl ⟨a, b, us, ws, rfl, rfl, s1, s2, hl', fun e => ?_, fun _ e => ?_, fun _ _ p hp => ?_⟩)
      · subst e; cases r1; exact q _ H (Ext.refl H) ry
      · subst e; cases r2; rw [List.append_nil] at q; exact q _ H (Ext.refl H) rx
      · exact q _ _ (Ext.new hp) (Rep.newT (nb p hp) hp (r1.app r2))
    · cases h
  · split at h
    · rename_i hl
      cases h
      obtain ⟨a, us, rfl, _, s1, r1⟩ := rx.lstI
      obtain ⟨b, ws, rfl, _, s2, r2⟩ := ry.lstI
      exact .inr (.inr (.inl ⟨a, b, us, ws, rfl, rfl, s1, s2, by rw [← r1.length, ← r2.length]; exact lim_line hl, fun p hp => q _ _ (Ext.new hp) (Rep.newL (nb p hp) hp (r1.app r2))⟩))
    · cases h
  · split at h
    · rename_i hl
      cases h; cases rx; cases ry
      exact .inr (.inr (.inr ⟨_, _, rfl, rfl, lim_line hl, q _ H (Ext.refl H) (.str _)⟩))
    · cases h
  · cases h
theorem i2_sub {c : Cfg} : Op2 c (rI0 fun i j => .int (i - j)) fSub := fun B H x y d e g Q nb rx ry h q => by
  unfold fSub at h
  split at h
  · cases h; cases rx; cases ry
    exact ⟨_, _, rfl, rfl, q _ H (Ext.refl H) (.int _)⟩
  · cases h
theorem Reps.rep {K : PySem.W.Frag} {B : Av} {H : Hp} {ds : List D} {vs : List V} (r : Reps K B H ds vs) : ∀ n : Nat, Reps K B H (List.replicate n ds).flatten (List.replicate n vs).flatten
  | 0 => .nil
  | n + 1 => by
    rw [List.replicate_succ, List.replicate_succ, List.flatten_cons, List.flatten_cons]
    exact r.app (Reps.rep r n)
theorem rep1 (xs : List D) : (List.replicate (1 : Int).toNat xs).flatten = xs := by show (List.replicate 1 xs).flatten = xs; simp
def qMul (K : PySem.W.Frag) : R2 := fun x y H Q => rI CMul (fun i j => .int (i * j)) x y H Q ∨ rRepA K x y H Q ∨ rRep x y H Q
theorem op_mulA {X : Cx} : OpR X (binaryOp .Mult) (qMul X.K) := op_mul.or (op_repA.or op_rep)
theorem i2_mul {c : Cfg} : Op2 c (qMul c.K) fMul := fun B H x y d e g Q nb rx ry h q => by
  unfold fMul at h
  split at h
  · split at h
    · rename_i hc
      cases h; cases rx; cases ry
      exact .inl ⟨_, _, rfl, rfl, hc, q _ H (Ext.refl H) (.int _)⟩
    · cases h
  · split at h
    · rename_i hl
      cases h; cases ry
      obtain ⟨a, us, rfl, s1, r1⟩ := rx.tupI
      refine .inr (.inl ⟨a, _, us, rfl, rfl, s1, hl.1, hl.2.1, by rw [← r1.length]; exact hl.2.2, fun z => ?_, fun _ _ p hp => ?_⟩)
      · rcases z with z | z
        · subst z; cases r1
          have : ∀ n : Nat, (List.replicate n ([] : List D)).flatten = [] := fun n => by induction n with
            | zero => rfl
            | succ n ih => rw [List.replicate_succ, List.flatten_cons, ih]; rfl
          rw [this] at q
          exact q _ H (Ext.refl H) rx
        · subst z
          rw [rep1] at q
          exact q _ H (Ext.refl H) rx
      · exact q _ _ (Ext.new hp) (Rep.newT (nb p hp) hp (r1.rep _))
    · cases h
  · split at h
    · rename_i hl
      cases h; cases ry
      obtain ⟨a, us, rfl, _, s1, r1⟩ := rx.lstI
      refine .inr (.inr ⟨a, _, us, rfl, rfl, s1, by omega, by omega, ?_, fun p hp => q _ _ (Ext.new hp) (Rep.newL (nb p hp) hp (r1.rep _))⟩)
      rw [← r1.length, sizeLine_eq]
      have := Nat.mul_le_mul hl.2.2 (show Int.toNat _ ≤ 1000 from Int.toNat_le.mpr hl.2.1)
      omega
    · cases h
  · cases h
theorem div_c {j : Int} (h : 0 < j ∧ j < 2 ^ 250) : j.natAbs.log2 < 9000 := by
  have h1 : j.natAbs < 2 ^ 250 := by omega
  have h2 : j.natAbs ≠ 0 := by omega
  have := (Nat.log2_lt h2).mpr h1
  omega
theorem i2_div {c : Cfg} : Op2 c (rI CDivW fun i j => .int (i / j)) fDiv := fun B H x y d e g Q nb rx ry h q => by
  unfold fDiv at h
  split at h
  · split at h
    · rename_i hc
      cases h; cases rx; cases ry
      exact ⟨_, _, rfl, rfl, ⟨hc.1, div_c hc⟩, q _ H (Ext.refl H) (.int _)⟩
    · cases h
  · cases h
theorem i2_mod {c : Cfg} : Op2 c (rI (fun _ j => 0 < j) fun i j => .int (i % j)) fMod := fun B H x y d e g Q nb rx ry h q => by
  unfold fMod at h
  split at h
  · split at h
    · rename_i hc
      cases h; cases rx; cases ry
      exact ⟨_, _, rfl, rfl, hc, q _ H (Ext.refl H) (.int _)⟩
    · cases h
  · cases h
theorem i2_pow {c : Cfg} : Op2 c (rI CPow fun i j => .int (i ^ j.toNat)) fPow := fun B H x y d e g Q nb rx ry h q => by
  unfold fPow at h
  split at h
  · split at h
    · rename_i hc
      cases h; cases rx; cases ry
      obtain ⟨h1, h2, h3, h4⟩ := hc
      exact ⟨_, _, rfl, rfl, ⟨h1, by omega, by omega⟩, q _ H (Ext.refl H) (.int _)⟩
    · cases h
  · cases h
def fNeg : D → Option D
  | .int i => some (.int (-i))
  | _ => none
theorem i1_neg {c : Cfg} : Op1 c (rU fun i => .int (-i)) fNeg := fun B H x d g Q nb rx h q => by
  unfold fNeg at h
  split at h
  · cases h; cases rx
    exact ⟨_, rfl, q _ H (Ext.refl H) (.int _)⟩
  · cases h

/-! ### comparisons -/
def fLt (d e : D) : Option D := match d, e with
  | .int i, .int j => some (.bool (decide (i < j)))
  | _, _ => ofB bLt d e
def fGt (d e : D) : Option D := match d, e with
  | .int i, .int j => some (.bool (decide (j < i)))
  | _, _ => ofB bGt d e
def fLe (d e : D) : Option D := match d, e with
  | .int i, .int j => some (.bool (decide (i ≤ j)))
  | _, _ => ofB bLe d e
def fGe (d e : D) : Option D := match d, e with
  | .int i, .int j => some (.bool (decide (j ≤ i)))
  | _, _ => ofB bGe d e
def qC (K : PySem.W.Frag) (g : Int → Int → Bool) (f : D → D → Option Bool) : R2 := fun x y H Q => rI0 (fun i j => .bl (g i j)) x y H Q ∨ rD2 K f x y H Q
theorem i2_cmp {c : Cfg} {g : Int → Int → Bool} {f : D → D → Option Bool} (hf : ∀ d e b, f d e = some b → d.plain = true ∧ e.plain = true) : Op2 c (qC c.K g f) (fun d e => match d, e with
    | .int i, .int j => some (.bool (g i j))
    | _, _ => ofB f d e) := fun B H x y d e r Q nb rx ry h q => by
  dsimp only at h
  split at h
  · cases h; cases rx; cases ry
    exact .inl ⟨_, _, rfl, rfl, q _ H (Ext.refl H) (.bl _)⟩
  · exact .inr (op2_D2 hf B H x y _ _ r Q nb rx ry h q)
theorem i2_lt {c : Cfg} : Op2 c (qC c.K (fun i j => decide (i < j)) bLt) fLt := i2_cmp fun _ _ _ h => cmp_pl h
theorem i2_gt {c : Cfg} : Op2 c (qC c.K (fun i j => decide (j < i)) bGt) fGt := i2_cmp fun _ _ _ h => cmp_pl h
theorem i2_le {c : Cfg} : Op2 c (qC c.K (fun i j => decide (i ≤ j)) bLe) fLe := i2_cmp fun _ _ _ h => cmp_pl h
theorem i2_ge {c : Cfg} : Op2 c (qC c.K (fun i j => decide (j ≤ i)) bGe) fGe := i2_cmp fun _ _ _ h => cmp_pl h
/-- x is None, also True is True -/
def bIs (d e : D) : Option Bool := match d, e with
  | .bool a, .bool b => some (decide (a = b))
  | d, .none => some (!nnD d)
  | _, _ => none
def fIs (d e : D) : Option D := ofB bIs d e
def bIsNot (d e : D) : Option Bool := match d, e with
  | .bool a, .bool b => some (!decide (a = b))
  | d, .none => some (!(!nnD d))
  | _, _ => none
def fIsNot (d e : D) : Option D := ofB bIsNot d e
def qIs : R2 := fun x y H Q => (y = .non ∧ Q (.bl (decide (x = .non))) H) ∨ rIsB x y H Q
def qIsNot : R2 := fun x y H Q => (y = .non ∧ Q (.bl (!decide (x = .non))) H) ∨ rNotB x y H Q
theorem op_isA {X : Cx} : OpR X (compareOp .Is) qIs := op_isN.or op_isBl
theorem op_isNotA {X : Cx} : OpR X (compareOp .IsNot) qIsNot := op_notN.or op_notBl
theorem Rep.non_iff {K : PySem.W.Frag} {B : Av} {H : Hp} {d : D} {x : V} (r : Rep K B H d x) : decide (x = .non) = !nnD d := by
  cases r <;> rfl
theorem i2_is {c : Cfg} : Op2 c qIs fIs := fun B H x y d e g Q nb rx ry h q => by
  unfold fIs ofB bIs at h
  split at h
  · cases h; cases rx; cases ry
    exact .inr ⟨_, _, rfl, rfl, q _ H (Ext.refl H) (.bl _)⟩
  · cases h; cases ry
    exact .inl ⟨rfl, by rw [rx.non_iff]; exact q _ H (Ext.refl H) (.bl _)⟩
  · cases h
theorem i2_isNot {c : Cfg} : Op2 c qIsNot fIsNot := fun B H x y d e g Q nb rx ry h q => by
  unfold fIsNot ofB bIsNot at h
  split at h
  · cases h; cases rx; cases ry
    exact .inr ⟨_, _, rfl, rfl, q _ H (Ext.refl H) (.bl _)⟩
  · cases h; cases ry
    exact .inl ⟨rfl, by rw [rx.non_iff]; exact q _ H (Ext.refl H) (.bl _)⟩
  · cases h
/-- in: lists, tuples, texts -/
def fIn (d e : D) : Option D := match d, e with
  | .str i, .str j => some (.bool (!(Builtin.Str.occurrences j i 0 j.length 1).isEmpty))
  | _, _ => ofB bIn d e
def fNotIn (d e : D) : Option D := match d, e with
  | .str i, .str j => some (.bool (!(!(Builtin.Str.occurrences j i 0 j.length 1).isEmpty)))
  | _, _ => ofB bNotIn d e
def qIn (K : PySem.W.Frag) : R2 := fun x y H Q => rD2 K bIn x y H Q ∨ ∃ i j, x = .str i ∧ y = .str j ∧ Q (.bl (!(Builtin.Str.occurrences j i 0 j.length 1).isEmpty)) H
def qNotIn (K : PySem.W.Frag) : R2 := fun x y H Q => rD2 K bNotIn x y H Q ∨ ∃ i j, x = .str i ∧ y = .str j ∧ Q (.bl (!(!(Builtin.Str.occurrences j i 0 j.length 1).isEmpty))) H
theorem i2_in {c : Cfg} : Op2 c (qIn c.K) fIn := fun B H x y d e g Q nb rx ry h q => by
  unfold fIn at h
  split at h
  · cases h; cases rx; cases ry
    exact .inr ⟨_, _, rfl, rfl, q _ H (Ext.refl H) (.bl _)⟩
  · exact .inl (op2_D2 bIn_pl B H x y _ _ g Q nb rx ry h q)
theorem i2_notIn {c : Cfg} : Op2 c (qNotIn c.K) fNotIn := fun B H x y d e g Q nb rx ry h q => by
  unfold fNotIn at h
  split at h
  · cases h; cases rx; cases ry
    exact .inr ⟨_, _, rfl, rfl, q _ H (Ext.refl H) (.bl _)⟩
  · exact .inl (op2_D2 bNotIn_pl B H x y _ _ g Q nb rx ry h q)
end Py

/-! Py, part K: subscripts, slices, calls of built-ins. -/
namespace Py
open PySem L2

/-! ### a[i] -/
def fIx : D → D → Option D
  | .list xs, .int i => atI xs i
  | .tuple xs, .int i => atI xs i
  | .str z, .int i => if z.length ≤ lim then (atI z.cps.toList i).map fun c => .str ⟨#[c]⟩ else none
  | _, _ => none
section
variable {K : PySem.W.Frag} {B : Av} {H : Hp}
theorem Reps.atI {ds : List D} {vs : List V} (r : Reps K B H ds vs) {i : Int} {d : D} (h : atI ds i = some d) : ∃ v, atI vs i = some v ∧ Rep K B H d v := by
  unfold L2.atI at h ⊢
  rw [← r.length]
  cases e : ixN ds.length i with
  | none => rw [e] at h; cases h
  | some j => rw [e] at h; exact r.get (show ds[j]? = some d from h)
theorem Rep.sqI {d : D} {ds : List D} {v : V} (e : d = .list ds) (h : Rep K B H d v) : ∃ a xs, v = .ref a ∧ SqL K H a xs ∧ Reps K B H ds xs := by
  subst e
  obtain ⟨a, xs, rfl, _, s, r⟩ := h.lstI
  exact ⟨a, xs, rfl, .inl (.inl s), r⟩
end
theorem i2_ix {c : Cfg} : Op2 c (rIx c.K) fIx := fun B H x y d e g Q nb rx ry h q => by
  unfold fIx at h
  split at h
  · cases ry
    obtain ⟨a, us, rfl, s, r⟩ := rx.sqI rfl
    obtain ⟨v, ev, rv⟩ := r.atI h
    exact .inl ⟨a, us, _, v, rfl, rfl, s, ev, q v H (Ext.refl H) rv⟩
  · cases ry
    obtain ⟨a, us, rfl, s, r⟩ := rx.tupI
    obtain ⟨v, ev, rv⟩ := r.atI h
    exact .inr (.inl ⟨a, us, _, v, rfl, rfl, s, ev, q v H (Ext.refl H) rv⟩)
  · split at h
    · rename_i hl
      cases rx; cases ry
      obtain ⟨c', ec, rfl⟩ := Option.map_eq_some_iff.mp h
      exact .inr (.inr ⟨_, _, c', rfl, rfl, lim_line hl, ec, q _ H (Ext.refl H) (.str _)⟩)
    · cases h
  · cases h
section
variable {X : Cx} {c : Cfg} {E : EX}
theorem snd_ix {a b : Expr} {oa ob : O1} {pos : Pos} (hK : c.K = X.K) (ha : PE X a (denE c E oa)) (hb : PE X b (denE c E ob)) (hs : PlainIx b) : PE X (.Subscript a b pos) (denE c E (oOp2 fIx oa ob)) :=
  pe_mono (pe_ix ix_seq ha hb hs) fun σ H Q h => by rw [← hK]; exact den2 i2_ix h

/-! ### a[lo:hi] -/
def oNoPart : O1 := fun r => .val .none r
def denP (c : Cfg) (E : EX) (o : O1) : TO := fun σ H Q => ∃ r B, Rel c r B σ H ∧ PostE c E σ B H (fun x H' => (x = .non ∧ Q none H') ∨ ∃ i, x = .int i ∧ Q (some i) H') (o r)
theorem snd_none : PO X none (denP c E oNoPart) := ⟨fun pins s σ H Q I ⟨r, B, R, h⟩ => po_none.run pins s σ H Q I (by
  rcases h .non H B R (Step.refl _ _) .non with ⟨_, q⟩ | ⟨i, e, _⟩
  · exact q
  · cases e)⟩
/-- the parts of a slice, an int each or none -/
def oPart (o : O1) : O1 := fun r => (o r).bnd fun d r1 => match d with
  | .int i => .val (.int i) r1
  | _ => .bad
theorem snd_some {e : Expr} {o : O1} (h : PE X e (denE c E o)) : PO X (some e) (denP c E (oPart o)) := ⟨fun pins s σ H Q I ⟨r, B, R, h'⟩ => (po_some h).run pins s σ H Q I (by
  refine ⟨r, B, R, bndE ppE h' fun d1 r1 v1 H1 B1 _ R1 S1 q1 h1 => ?_⟩
  cases d1 with
  | int i =>
    cases q1
    rcases h1 (.int i) H1 B1 R1 (Step.refl _ _) (.int i) with ⟨e, _⟩ | ⟨j, e, q⟩
    · cases e
    · cases e; exact ⟨i, rfl, q⟩
  | _ => exact h1.elim)⟩
def Out.part (d : D) (k : Option Int → Out) : Out := match d with
  | .none => k none
  | .int i => k (some i)
  | _ => .bad
def cutD (xs : List D) (lo hi : Option Int) : List D := (xs.drop (HT.sIx xs.length 0 lo)).take (HT.sIx xs.length xs.length hi - HT.sIx xs.length 0 lo)
def fSl (d : D) (lo hi : Option Int) : Option D := match d with
  | .list xs => some (.list (cutD xs lo hi))
  | .tuple xs => some (.tuple (cutD xs lo hi))
  | .str z => if z.length ≤ lim then some (.str (cutS z lo hi)) else none
  | _ => none
def oSl (a l h : O1) : O1 := fun r => (a r).bnd fun d r1 => (l r1).bnd fun x r2 => Out.part x fun lo => (h r2).bnd fun y r3 => Out.part y fun hi => optO (fSl d lo hi) r3
def qSl (K : PySem.W.Frag) : V → Option Int → Option Int → Hp → VK → Prop := fun x lo hi H Q => rSlL K x lo hi H Q ∨ rSlA K x lo hi H Q ∨ rSlS x lo hi H Q
theorem Reps.cut {K : PySem.W.Frag} {B : Av} {H : Hp} {ds : List D} {vs : List V} (r : Reps K B H ds vs) (lo hi : Option Int) : Reps K B H (cutD ds lo hi) (cutV vs lo hi) := by
  unfold cutD cutV
  rw [← r.length]
  exact (r.drop _).take _
theorem cutD_all {xs : List D} {lo hi : Option Int} (h : HT.sIx xs.length 0 lo = 0 ∧ HT.sIx xs.length xs.length hi = xs.length) : cutD xs lo hi = xs := by
  unfold cutD
  rw [h.1, h.2]
  simp
theorem snd_sl {a : Expr} {lo hi : Option Expr} {oa ol oh : O1} {p2 pos : Pos} (hK : c.K = X.K) (ha : PE X a (denE c E oa)) (hl : PO X lo (denP c E ol)) (hh : PO X hi (denP c E oh)) :
    PE X (.Subscript a (.Slice lo hi none p2) pos) (denE c E (oSl oa ol oh)) := by
  refine pe_mono (pe_slice (sl_list.or (sl_tupA.or sl_str)) ha hl hh) fun σ H Q ⟨r, B, R, h⟩ => ?_
  rw [← hK]
  refine ⟨r, B, R, bndE ppE h fun d1 r1 v1 H1 B1 _ R1 S1 q1 h1 => ⟨r1, B1, R1, bndE ppE h1 fun d2 r2 v2 H2 B2 _ R2 S2 q2 h2 => ?_⟩⟩
  have go : ∀ (o2 : Option Int), PostE c E σ B2 H2 Q ((oh r2).bnd fun y r3 => Out.part y fun hi => optO (fSl d1 o2 hi) r3) → denP c E oh σ H2 (fun u H3 => qSl c.K v1 o2 u H3 Q) := fun o2 h2 => by
    refine ⟨r2, B2, R2, bndE ppE h2 fun d3 r3 v3 H3 B3 _ R3 S3 q3 h3 => ?_⟩
    have q1' := (q1.step (R1.v S2)).step (R2.v S3)
    have go2 : ∀ o3 : Option Int, PostE c E σ B3 H3 Q (optO (fSl d1 o2 o3) r3) → qSl c.K v1 o2 o3 H3 Q := fun o3 h3 => by
      unfold fSl optO at h3
      cases d1 with
      | list xs =>
        obtain ⟨a', us, rfl, s, rr⟩ := q1'.sqI rfl
        exact .inl ⟨a', us, rfl, s, fun p hp => h3 _ _ B3 (R3.ext (Ext.new hp)) (Ext.new hp).step (Rep.newL (R3.fresh hp) hp (rr.cut o2 o3))⟩
      | tuple xs =>
        have q1'' := q1'
        obtain ⟨a', us, rfl, s, rr⟩ := q1'.tupI
        refine .inr (.inl ⟨a', us, rfl, s, fun z => ?_, fun _ p hp => h3 _ _ B3 (R3.ext (Ext.new hp)) (Ext.new hp).step (Rep.newT (R3.fresh hp) hp (rr.cut o2 o3))⟩)
        rw [← rr.length] at z
        have h3' : PostE c E σ B3 H3 Q (.val (.tuple (cutD xs o2 o3)) r3) := h3
        rw [cutD_all z] at h3'
        exact h3' _ H3 B3 R3 (Step.refl _ _) q1''
      | str z =>
        cases q1'
        by_cases hz : z.length ≤ lim
        · have h3' : PostE c E σ B3 H3 Q (match (if z.length ≤ lim then some (PyData.str (cutS z o2 o3)) else none) with
            | some d => Out.val d r3
            | none => .bad) := h3
          rw [if_pos hz] at h3'
          exact .inr (.inr ⟨z, rfl, lim_line hz, h3' _ H3 B3 R3 (Step.refl _ _) (.str _)⟩)
        · have h3' : PostE c E σ B3 H3 Q (match (if z.length ≤ lim then some (PyData.str (cutS z o2 o3)) else none) with
            | some d => Out.val d r3
            | none => .bad) := h3
          rw [if_neg hz] at h3'
          exact h3'.elim
      | _ => exact h3.elim
    cases q3 with
    | non => exact .inl ⟨rfl, go2 none h3⟩
    | int i => exact .inr ⟨i, rfl, go2 (some i) h3⟩
    | _ => exact h3.elim
  cases q2 with
  | non => exact .inl ⟨rfl, go none h2⟩
  | int i => exact .inr ⟨i, rfl, go (some i) h2⟩
  | _ => exact h2.elim

/-- the script's first cells -/
def oScr (i : Nat) : O1 := fun r => match r[i]? with
  | some (.scr ns) => .val (.list (cutD (ns.map .int) none (some 63))) r
  | _ => .bad
theorem Reps.ofInts {K : PySem.W.Frag} {B : Av} {H : Hp} : ∀ ns : List Int, Reps K B H (ns.map .int) (ns.map V.int)
  | [] => .nil
  | n :: ns => .cons (.int n) (Reps.ofInts ns)
theorem snd_scr {i : Nat} {x : Str} {p p1 p2 pos : Pos} {k : Nat} (hK : c.K = X.K) (hN : X.N[i]? = some x) (hv : Vis X.env.scope x) (hd : (x == ("__debug__" : Str)) = false) (hcd : (x == ("__classdict__" : Str)) = false) :
    PE X (.Subscript (.Name x p) (.Slice none (some (.Constant (.int 63) k p1)) none p2) pos) (denE c E (oScr i)) := by
  refine pe_mono (pe_slice sl_list (pe_var hN hv hd hcd) po_none (po_some pe_int)) fun σ H Q ⟨r, B, R, h⟩ => ?_
  unfold oScr at h
  cases e : r[i]? with
  | none => rw [e] at h; exact h.elim
  | some s =>
    rw [e] at h
    cases s with
    | scr ns =>
      obtain ⟨u, hu, a, rfl, sq⟩ := R.at e
      refine ⟨.ref a, hu, 63, rfl, a, ns.map V.int, rfl, by rw [← hK]; exact sq.sq, fun p hp => ?_⟩
      exact h _ _ B (R.ext (Ext.new hp)) (Ext.new hp).step (Rep.newL (R.fresh hp) hp ((Reps.ofInts ns).cut none (some 63)))
    | _ => exact h.elim
end
end Py

/-! Py, part L: calls of built-ins. -/
namespace Py
open PySem L2

def intsOf : List D → Option (List Int)
  | [] => some []
  | .int i :: ds => (intsOf ds).map (i :: ·)
  | _ :: _ => none
theorem intsOf_eq : ∀ {ds : List D} {ns : List Int}, intsOf ds = some ns → ds = ns.map .int
  | [], _, h => by cases h; rfl
  | .int i :: ds, ns, h => by
    unfold intsOf at h
    obtain ⟨ms, e, rfl⟩ := Option.map_eq_some_iff.mp h
    rw [intsOf_eq e]; rfl
  | .none :: _, _, h => by cases h
  | .bool _ :: _, _, h => by cases h
  | .str _ :: _, _, h => by cases h
  | .list _ :: _, _, h => by cases h
  | .tuple _ :: _, _, h => by cases h
  | .dict _ :: _, _, h => by cases h
theorem intsOf_map : ∀ ns : List Int, intsOf (ns.map .int) = some ns
  | [] => rfl
  | n :: ns => by show (intsOf (ns.map .int)).map _ = _; rw [intsOf_map ns]; rfl
def blsOf : List D → Option (List Bool)
  | [] => some []
  | .bool i :: ds => (blsOf ds).map (i :: ·)
  | _ :: _ => none
theorem blsOf_eq : ∀ {ds : List D} {ns : List Bool}, blsOf ds = some ns → ds = ns.map .bool
  | [], _, h => by cases h; rfl
  | .bool i :: ds, ns, h => by
    unfold blsOf at h
    obtain ⟨ms, e, rfl⟩ := Option.map_eq_some_iff.mp h
    rw [blsOf_eq e]; rfl
  | .none :: _, _, h => by cases h
  | .int _ :: _, _, h => by cases h
  | .str _ :: _, _, h => by cases h
  | .list _ :: _, _, h => by cases h
  | .tuple _ :: _, _, h => by cases h
  | .dict _ :: _, _, h => by cases h
theorem blsOf_map : ∀ ns : List Bool, blsOf (ns.map .bool) = some ns
  | [] => rfl
  | n :: ns => by show (blsOf (ns.map .bool)).map _ = _; rw [blsOf_map ns]; rfl

/-! ### len, abs, int, sum, all, any, list, tuple -/
section
variable {c : Cfg} {K : PySem.W.Frag} {B : Av} {H : Hp}
theorem Reps.oneI {ds : List D} {xs : List V} (h : Reps K B H ds xs) {d : D} (e : ds = [d]) : ∃ v, xs = [v] ∧ Rep K B H d v := by
  subst e
  cases h with
  | cons r t => cases t; exact ⟨_, rfl, r⟩
theorem Reps.twoI {ds : List D} {xs : List V} (h : Reps K B H ds xs) {d e : D} (q : ds = [d, e]) : ∃ v u, xs = [v, u] ∧ Rep K B H d v ∧ Rep K B H e u := by
  subst q
  cases h with
  | cons r t =>
    cases t with
    | cons r2 t2 => cases t2; exact ⟨_, _, rfl, r, r2⟩
theorem Rep.tup0 {ds : List D} {v : V} (h : Rep K B H (.tuple ds) v) : ∃ a xs, v = .ref a ∧ SqT K H a xs ∧ Reps K B H ds xs := h.tupI
theorem Rep.lst0 {ds : List D} {v : V} (h : Rep K B H (.list ds) v) : ∃ a xs, v = .ref a ∧ SqL K H a xs ∧ Reps K B H ds xs := h.sqI rfl
end
def fLen : List D → Option D
  | [.list xs] => some (.int xs.length)
  | [.tuple xs] => some (.int xs.length)
  | [.str z] => if z.length ≤ lim then some (.int z.length) else none
  | _ => none
theorem iN_len {c : Cfg} : OpN c (fun xs H Q => ∃ x n, xs = [x] ∧ LenV c.K x H n ∧ Q (.int n) H) fLen := fun B H xs ds g Q nb r h q => by
  unfold fLen at h
  split at h
  · obtain ⟨v, rfl, rv⟩ := r.oneI rfl
    cases h
    obtain ⟨a, us, rfl, s, rr⟩ := rv.lst0
    exact ⟨_, _, rfl, .inl ⟨us, s, rfl⟩, by rw [← rr.length]; exact q _ H (Ext.refl H) (.int _)⟩
  · obtain ⟨v, rfl, rv⟩ := r.oneI rfl
    cases h
    obtain ⟨a, us, rfl, s, rr⟩ := rv.tup0
    exact ⟨_, _, rfl, .inr ⟨us, s, rfl⟩, by rw [← rr.length]; exact q _ H (Ext.refl H) (.int _)⟩
  · split at h
    · rename_i hl
      obtain ⟨v, rfl, rv⟩ := r.oneI rfl
      cases h; cases rv
      exact ⟨_, _, rfl, ⟨lim_line hl, rfl⟩, q _ H (Ext.refl H) (.int _)⟩
    · cases h
  · cases h
def fAbs : List D → Option D
  | [.int i] => some (.int (if i < 0 then -i else i))
  | _ => none
theorem iN_abs {c : Cfg} : OpN c (fun xs H Q => ∃ i, xs = [.int i] ∧ Q (.int (if i < 0 then -i else i)) H) fAbs := fun B H xs ds g Q nb r h q => by
  unfold fAbs at h
  split at h
  · obtain ⟨v, rfl, rv⟩ := r.oneI rfl
    cases h; cases rv
    exact ⟨_, rfl, q _ H (Ext.refl H) (.int _)⟩
  · cases h
def fInt : List D → Option D
  | [.int i] => some (.int i)
  | [.bool k] => some (.int (if k then 1 else 0))
  | _ => none
theorem iN_int {c : Cfg} : OpN c (fun xs H Q => (∃ i, xs = [.int i] ∧ Q (.int i) H) ∨ ∃ k, xs = [.bl k] ∧ Q (.int (if k then 1 else 0)) H) fInt := fun B H xs ds g Q nb r h q => by
  unfold fInt at h
  split at h
  · obtain ⟨v, rfl, rv⟩ := r.oneI rfl
    cases h; cases rv
    exact .inl ⟨_, rfl, q _ H (Ext.refl H) (.int _)⟩
  · obtain ⟨v, rfl, rv⟩ := r.oneI rfl
    cases h; cases rv
    exact .inr ⟨_, rfl, q _ H (Ext.refl H) (.int _)⟩
  · cases h
/-- sum of a tuple of ints -/
def rSumT (K : PySem.W.Frag) : List V → Hp → VK → Prop := fun vs H Q => ∃ (a : Addr) (ns : List Int), vs = [V.ref a] ∧ SqT K H a (ns.map V.int) ∧ Q (.int ns.sum) H
theorem cr_sumT {X : Cx} (hc : X.calm = true) : CallR X (.builtin "sum") (rSumT X.K) := by
  intro pins s σ H vs us Q I r h
  obtain ⟨a, ns, rfl, hs, q⟩ := h
  obtain ⟨its, rv, hl, _⟩ := I.tuple hs
  rw [Vals.ref1 r]
  have hi := rv.ints
  obtain ⟨xs, e⟩ := hi.allInts.items
  have hn : numsOf (intItems xs).toList = ns := by rw [← e]; exact hi.numsOf
  rw [nums_intItems] at hn
  rw [e] at hl
  refine PySem.W.ktm_sumG (I.ok.hd hc) hl fun h' tk t' hk => ?_
  rw [preSum_eq, List.take_of_length_le (by simp), hn]
  exact ⟨.int _, H, I.kept hk, ⟨_, rfl⟩, q⟩
def fSum : List D → Option D
  | [.list xs] => (intsOf xs).map fun ns => .int ns.sum
  | [.tuple xs] => (intsOf xs).map fun ns => .int ns.sum
  | _ => none
def qSum (K : PySem.W.Frag) : List V → Hp → VK → Prop := fun xs H Q => rSum K xs H Q ∨ rSumT K xs H Q
theorem iN_sum {c : Cfg} : OpN c (qSum c.K) fSum := fun B H xs ds g Q nb r h q => by
  unfold fSum at h
  split at h
  · obtain ⟨v, rfl, rv⟩ := r.oneI rfl
    obtain ⟨ns, e, rfl⟩ := Option.map_eq_some_iff.mp h
    obtain ⟨a, us, rfl, s, rr⟩ := rv.lst0
    rw [intsOf_eq e] at rr
    rw [rr.ints] at s
    exact .inl ⟨a, ns, rfl, s, q _ H (Ext.refl H) (.int _)⟩
  · obtain ⟨v, rfl, rv⟩ := r.oneI rfl
    obtain ⟨ns, e, rfl⟩ := Option.map_eq_some_iff.mp h
    obtain ⟨a, us, rfl, s, rr⟩ := rv.tup0
    rw [intsOf_eq e] at rr
    rw [rr.ints] at s
    exact .inr ⟨a, ns, rfl, s, q _ H (Ext.refl H) (.int _)⟩
  · cases h
def fAll : List D → Option D
  | [.list xs] => (blsOf xs).map fun ns => .bool (ns.all id)
  | _ => none
def fAny : List D → Option D
  | [.list xs] => (blsOf xs).map fun ns => .bool (ns.any id)
  | _ => none
theorem iN_all {c : Cfg} : OpN c (rAll c.K) fAll := fun B H xs ds g Q nb r h q => by
  unfold fAll at h
  split at h
  · obtain ⟨v, rfl, rv⟩ := r.oneI rfl
    obtain ⟨ns, e, rfl⟩ := Option.map_eq_some_iff.mp h
    obtain ⟨a, us, rfl, s, rr⟩ := rv.lst0
    rw [blsOf_eq e] at rr
    rw [rr.bls] at s
    exact ⟨a, ns, rfl, s, q _ H (Ext.refl H) (.bl _)⟩
  · cases h
theorem iN_any {c : Cfg} : OpN c (rAny c.K) fAny := fun B H xs ds g Q nb r h q => by
  unfold fAny at h
  split at h
  · obtain ⟨v, rfl, rv⟩ := r.oneI rfl
    obtain ⟨ns, e, rfl⟩ := Option.map_eq_some_iff.mp h
    obtain ⟨a, us, rfl, s, rr⟩ := rv.lst0
    rw [blsOf_eq e] at rr
    rw [rr.bls] at s
    exact ⟨a, ns, rfl, s, q _ H (Ext.refl H) (.bl _)⟩
  · cases h
def fList : List D → Option D
  | [.list xs] => some (.list xs)
  | [.tuple xs] => some (.list xs)
  | _ => none
theorem iN_list {c : Cfg} : OpN c (fun xs H Q => ∃ p ys, xs = [.ref p] ∧ (SqL c.K H p ys ∨ SqT c.K H p ys) ∧ ∀ l, H l = none → Q (.ref l) (upd H l (.lst ys))) fList := fun B H xs ds g Q nb r h q => by
  unfold fList at h
  split at h
  · obtain ⟨v, rfl, rv⟩ := r.oneI rfl
    cases h
    obtain ⟨a, us, rfl, s, rr⟩ := rv.lst0
    exact ⟨a, us, rfl, .inl s, fun p hp => q _ _ (Ext.new hp) (Rep.newL (nb p hp) hp rr)⟩
  · obtain ⟨v, rfl, rv⟩ := r.oneI rfl
    cases h
    obtain ⟨a, us, rfl, s, rr⟩ := rv.tup0
    exact ⟨a, us, rfl, .inr s, fun p hp => q _ _ (Ext.new hp) (Rep.newL (nb p hp) hp rr)⟩
  · cases h
def fTuple : List D → Option D
  | [.list xs] => some (.tuple xs)
  | [.tuple xs] => some (.tuple xs)
  | _ => none
theorem iN_tuple {c : Cfg} : OpN c (fun xs H Q => ∃ p ys, xs = [.ref p] ∧ ((SqL c.K H p ys ∧ ∀ l, H l = none → Q (.ref l) (upd H l (.tup ys))) ∨ (SqT c.K H p ys ∧ Q (.ref p) H))) fTuple := fun B H xs ds g Q nb r h q => by
  unfold fTuple at h
  split at h
  · obtain ⟨v, rfl, rv⟩ := r.oneI rfl
    cases h
    obtain ⟨a, us, rfl, s, rr⟩ := rv.lst0
    exact ⟨a, us, rfl, .inl ⟨s, fun p hp => q _ _ (Ext.new hp) (Rep.newT (nb p hp) hp rr)⟩⟩
  · obtain ⟨v, rfl, rv⟩ := r.oneI rfl
    cases h
    have rv' := rv
    obtain ⟨a, us, rfl, s, rr⟩ := rv.tup0
    exact ⟨a, us, rfl, .inr ⟨s, q _ H (Ext.refl H) rv'⟩⟩
  · cases h

/-! ### max, min of data -/
def alikeB (xs : List D) : Bool := xs.all (fun x => xs.all fun y => PySem.W.alike x y) && xs.all nnD
theorem alikeB_ok {xs : List D} (h : alikeB xs = true) : PySem.W.AlikeAll xs := by
  unfold alikeB at h
  rw [Bool.and_eq_true, List.all_eq_true, List.all_eq_true] at h
  exact ⟨fun x hx y hy => List.all_eq_true.mp (h.1 x hx) y hy, fun x hx => nnD_ne (h.2 x hx)⟩
def okDs (xs : List D) : Bool := PyData.plainAll xs && decide (PyData.depthAll xs ≤ 60) && alikeB xs
theorem okDs_and {xs : List D} (h : okDs xs = true) : PyData.plainAll xs = true ∧ PyData.depthAll xs ≤ 60 ∧ PySem.W.AlikeAll xs := by
  unfold okDs at h
  rw [Bool.and_eq_true, Bool.and_eq_true, decide_eq_true_eq] at h
  exact ⟨h.1.1, h.1.2, alikeB_ok h.2⟩
theorem plainAll_at : ∀ {xs : List D} {i : Nat} {d : D}, PyData.plainAll xs = true → xs[i]? = some d → d.plain = true
  | [], _, _, _, h => by simp at h
  | x :: xs, 0, d, p, h => by
    rw [PyData.plainAll, Bool.and_eq_true] at p
    simp at h; subst h; exact p.1
  | x :: xs, i + 1, d, p, h => by
    rw [PyData.plainAll, Bool.and_eq_true] at p
    exact plainAll_at p.2 (by simpa using h)
theorem DpAll.at {K : PySem.W.Frag} {H : Hp} : ∀ {vs : List V} {ds : List D} {i : Nat} {v : V}, DpAll K H vs ds → vs[i]? = some v → ∃ d, ds[i]? = some d ∧ Dp K H v d
  | _, _, _, _, .nil, h => by simp at h
  | _, _, 0, _, .cons q _, h => by simp at h; subst h; exact ⟨_, rfl, q⟩
  | _, _, i + 1, _, .cons _ qs, h => by
    obtain ⟨d, e, q⟩ := DpAll.at (i := i) qs (by simpa using h)
    exact ⟨d, by simpa using e, q⟩
theorem Vals.at' : ∀ {xs : List V} {us : List Value} {i : Nat} {u : Value}, Vals xs us → us[i]? = some u → ∃ x, xs[i]? = some x ∧ RelV x u
  | _, _, _, _, .nil, h => by simp at h
  | _, _, 0, _, .cons q _, h => by simp at h; subst h; exact ⟨_, rfl, q⟩
  | _, _, i + 1, _, .cons _ qs, h => by
    obtain ⟨d, e, q⟩ := Vals.at' (i := i) qs (by simpa using h)
    exact ⟨d, by simpa using e, q⟩
def rBest (K : PySem.W.Frag) (best : D → List D → D) : List V → Hp → VK → Prop := fun ws H Q => ∃ (a : Addr) (vs : List V) (x : D) (xs : List D), ws = [V.ref a] ∧ (SqL K H a vs ∨ SqT K H a vs) ∧ DpAll K H vs (x :: xs) ∧ okDs (x :: xs) = true ∧
  ∀ (i : Nat) v, vs[i]? = some v → (x :: xs)[i]? = some (best x xs) → Q v H
theorem best_fin {X : Cx} {pins : List (Addr × Obj)} {σ : St} {H : Hp} {s : Shared} {Q : VK} {vs : List V} {its : List Value} {ds : List D} {bd : D} {i : Nat} {v : Value} {h' : Heap} {tk : Nat} {bs : List Addr} (I : Inv X pins σ H s) (rv : Vals vs its) (dp : DpAll X.K H vs ds) (p : PyData.plainAll ds = true)
    (e : its.toArray[i]? = some v) (rd : Reads h' v bd bs) (hk : ∀ b o, s.heap.get? b = some o → h'.get? b = some o) (q : ∀ (i : Nat) v, vs[i]? = some v → ds[i]? = some bd → Q v H) : EP X pins σ Q v { s with heap := h', toks := tk } := by
  have I' : Inv X pins σ H { s with heap := h', toks := tk } := I.kept hk
  obtain ⟨x, ex, rx⟩ := Vals.at' rv (by simpa using e)
  obtain ⟨d, ed, dd⟩ := DpAll.at dp ex
  obtain ⟨as, r2⟩ := Dp.reads I' d x v dd rx
  have hp := plainAll_at p ed
  have : d = bd := SeqAt.plain_unique d bd v as bs hp r2 rd
  subst this
  exact ⟨x, H, I', rx, q i x ex ed⟩
theorem cr_maxB {X : Cx} (hc : X.calm = true) (hu : X.A.units + 64 < cLine) : CallR X (.builtin "max") (rBest X.K PySem.W.maxD) := by
  intro pins s σ H ws us Q I r h
  obtain ⟨a, vs, x, xs, rfl, hs, dp, ok, q⟩ := h
  obtain ⟨p1, p2, p3⟩ := okDs_and ok
  rw [Vals.ref1 r]
  rcases hs with hs | hs
  · obtain ⟨its, rv, hl, _⟩ := I.list hs
    obtain ⟨as, ra⟩ := Dp.readsAll I _ _ _ dp rv
    exact PySem.W.max_list_data (I.ok.hd hc) hl.isList (by simpa using ra) p3 (by omega) fun i v h' tk bs e rd hk => best_fin I rv dp p1 e rd hk q
  · obtain ⟨its, rv, hl, _⟩ := I.tuple hs
    obtain ⟨as, ra⟩ := Dp.readsAll I _ _ _ dp rv
    exact PySem.W.max_tuple_data (I.ok.hd hc) hl (by simpa using ra) p3 (by omega) fun i v h' tk bs e rd hk => best_fin I rv dp p1 e rd hk q
theorem cr_minB {X : Cx} (hc : X.calm = true) (hu : X.A.units + 64 < cLine) : CallR X (.builtin "min") (rBest X.K PySem.W.minD) := by
  intro pins s σ H ws us Q I r h
  obtain ⟨a, vs, x, xs, rfl, hs, dp, ok, q⟩ := h
  obtain ⟨p1, p2, p3⟩ := okDs_and ok
  rw [Vals.ref1 r]
  rcases hs with hs | hs
  · obtain ⟨its, rv, hl, _⟩ := I.list hs
    obtain ⟨as, ra⟩ := Dp.readsAll I _ _ _ dp rv
    exact PySem.W.min_list_data (I.ok.hd hc) hl.isList (by simpa using ra) p3 (by omega) fun i v h' tk bs e rd hk => best_fin I rv dp p1 e rd hk q
  · obtain ⟨its, rv, hl, _⟩ := I.tuple hs
    obtain ⟨as, ra⟩ := Dp.readsAll I _ _ _ dp rv
    exact PySem.W.min_tuple_data (I.ok.hd hc) hl (by simpa using ra) p3 (by omega) fun i v h' tk bs e rd hk => best_fin I rv dp p1 e rd hk q
def bestOf (best : D → List D → D) : List D → Option D
  | [] => none
  | x :: xs => if okDs (x :: xs) = true then some (best x xs) else none
def fMax : List D → Option D
  | [.int i, .int j] => some (.int (if j > i then j else i))
  | [.list xs] => bestOf PySem.W.maxD xs
  | [.tuple xs] => bestOf PySem.W.maxD xs
  | _ => none
def fMin : List D → Option D
  | [.int i, .int j] => some (.int (if j < i then j else i))
  | [.list xs] => bestOf PySem.W.minD xs
  | [.tuple xs] => bestOf PySem.W.minD xs
  | _ => none
theorem best_go {K : PySem.W.Frag} {B : Av} {H : Hp} {best : D → List D → D} {xs : List D} {us : List V} {a : Addr} {g : D} {Q : VK} (h : bestOf best xs = some g) (s : SqL K H a us ∨ SqT K H a us) (rr : Reps K B H xs us)
    (q : ∀ v H', Ext H H' → Rep K B H' g v → Q v H') : rBest K best [.ref a] H Q := by
  cases xs with
  | nil => cases h
  | cons x xs =>
    replace h : (if okDs (x :: xs) = true then some (best x xs) else none) = some g := h
    by_cases ok : okDs (x :: xs) = true
    · rw [if_pos ok] at h
      cases h
      refine ⟨a, us, x, xs, rfl, s, rr.dp (okDs_and ok).1, ok, fun i v e1 e2 => ?_⟩
      obtain ⟨d, ed, rd⟩ := rr.get' e1
      rw [ed] at e2; cases e2
      exact q v H (Ext.refl H) rd
    · rw [if_neg ok] at h; cases h
def qMax (K : PySem.W.Frag) : List V → Hp → VK → Prop := fun xs H Q => (∃ i j, xs = [.int i, .int j] ∧ Q (.int (if j > i then j else i)) H) ∨ rBest K PySem.W.maxD xs H Q
def qMin (K : PySem.W.Frag) : List V → Hp → VK → Prop := fun xs H Q => (∃ i j, xs = [.int i, .int j] ∧ Q (.int (if j < i then j else i)) H) ∨ rBest K PySem.W.minD xs H Q
theorem iN_max {c : Cfg} : OpN c (qMax c.K) fMax := fun B H xs ds g Q nb r h q => by
  unfold fMax at h
  split at h
  · obtain ⟨v, u, rfl, rv, ru⟩ := r.twoI rfl
    cases h; cases rv; cases ru
    exact .inl ⟨_, _, rfl, q _ H (Ext.refl H) (.int _)⟩
  · obtain ⟨v, rfl, rv⟩ := r.oneI rfl
    obtain ⟨a, us, rfl, s, rr⟩ := rv.lst0
    exact .inr (best_go h (.inl s) rr q)
  · obtain ⟨v, rfl, rv⟩ := r.oneI rfl
    obtain ⟨a, us, rfl, s, rr⟩ := rv.tup0
    exact .inr (best_go h (.inr s) rr q)
  · cases h
theorem iN_min {c : Cfg} : OpN c (qMin c.K) fMin := fun B H xs ds g Q nb r h q => by
  unfold fMin at h
  split at h
  · obtain ⟨v, u, rfl, rv, ru⟩ := r.twoI rfl
    cases h; cases rv; cases ru
    exact .inl ⟨_, _, rfl, q _ H (Ext.refl H) (.int _)⟩
  · obtain ⟨v, rfl, rv⟩ := r.oneI rfl
    obtain ⟨a, us, rfl, s, rr⟩ := rv.lst0
    exact .inr (best_go h (.inl s) rr q)
  · obtain ⟨v, rfl, rv⟩ := r.oneI rfl
    obtain ⟨a, us, rfl, s, rr⟩ := rv.tup0
    exact .inr (best_go h (.inr s) rr q)
  · cases h
end Py

/-! Py, part M: list.index, sorted, isinstance. -/
namespace Py
open PySem L2

/-! ### xs.index(x) of a list -/
def rPlace (K : PySem.W.Frag) : V → List V → Hp → VK → Prop := fun x ws H Q => ∃ (a : Addr) (y : V) (d : D) (ds : List D) (j : Nat), x = V.ref a ∧ ws = [y] ∧ Dp K H (V.ref a) (.list ds) ∧ Dp K H y d ∧ okD (.list ds) = true ∧ okD d = true ∧ SeqAt.dataPlace ds d = some j ∧ Q (.int (j : Nat)) H
theorem mt_place {X : Cx} (hu : X.A.units + 64 < cLine) : MtR X "list.index" (rPlace X.K) := by
  intro pins s σ H x ws v us Q I rx rxs h
  obtain ⟨a, y, d, ds, j, rfl, rfl, hl, hy, ol, od, hp, q⟩ := h
  obtain ⟨p1, d1⟩ := okD_and ol
  obtain ⟨p2, d2⟩ := okD_and od
  have pa : PyData.plainAll ds = true := by simpa [PyData.plain] using p1
  have da : PyData.depthAll ds ≤ 60 := by
    have : PyData.depthAll ds + 1 ≤ 60 := by simpa [PyData.depth] using d1
    omega
  cases rx
  obtain ⟨uy, rfl, ry⟩ := vals1 rxs
  obtain ⟨bs, r1⟩ := Dp.reads I d y uy hy ry
  cases hl with
  | lst hs ha =>
    obtain ⟨its, rv, ⟨⟨cls, dd, data, sls⟩, n, ho, hc, hdn, hdt⟩, hlen⟩ := I.list hs
    simp only at hc hdt
    subst hc hdt
    obtain ⟨as, h4⟩ := Dp.readsAll I ds _ its ha rv
    have h4' : ReadsAll s.heap its.toArray.toList ds as := by simpa using h4
    obtain ⟨hj, hit, hno⟩ := SeqAt.hit_at h4' pa hp
    have hvl := rv.length
    have hsl := sizeLine_eq
    have hj2 : j < its.length := by simpa using hj
    exact call_meets PySem.F.slot_list_index ⟨_, ho, rfl⟩ PySem.F.entry_list_index (PySem.F.args_list_index_2 _ _) (SeqAt.list_indexAt a its.toArray n dd sls uy _ j hj (by omega) hit hno)
      ⟨ho, SeqAt.items_plain h4' r1 pa p2 (by omega), ⟨.int (j : Nat), H, I.tok _, ⟨_, rfl⟩, q⟩⟩
def fPlace (ds : List D) (e : D) : Option D := if okD (.list ds) = true ∧ okD e = true then (SeqAt.dataPlace ds e).map fun j => .int (j : Nat) else none
def Out.lst (d : D) (k : List D → Out) : Out := match d with
  | .list xs => k xs
  | _ => .bad
def oPlace (a e : O1) : O1 := fun r => (a r).bnd fun d r1 => Out.lst d fun xs => (e r1).bnd fun y r2 => optO (fPlace xs y) r2
section
variable {X : Cx} {c : Cfg} {E : EX}
theorem snd_place {a e : Expr} {oa oe : O1} {apos cpos : Pos} (hK : c.K = X.K) (hu : X.A.units + 64 < cLine) (ha : PE X a (denE c E oa)) (he : PE X e (denE c E oe))
    (hbase : attributeBase a "index" X.env (eval a X.env) = eval a X.env)
    (hfew : ((backTo cpos (starEach [e] X.env)).all (fun x => !x.1) && (backToKw cpos (keywordEach [] X.env)).all (fun x => x.1.isSome)
      && decide ([e].length + ([] : List Keyword).length + (if ([] : List Keyword).isEmpty then 0 else 1) < 30)) = true)
    (hline : (apos.endLine == cpos.line) = true) (hs : starEach [e] X.env = (false, eval e X.env) :: starEach [] X.env) (hplain : (backTo cpos (starEach [] X.env)).any (·.1) = false) :
    PE X (.Call (.Attribute a "index" apos) [e] [] cpos) (denE c E (oPlace oa oe)) := by
  refine pe_mono (pe_bm PySem.F.plainAttrs_list PySem.F.slot_list_index PySem.F.type_list_index (mt_place hu) ha (pa_cons he pa_nil hs) hbase hfew hline hs hplain) fun σ H Q ⟨r, B, R, h⟩ => ?_
  refine ⟨r, B, R, bndE ppE h fun d1 r1 v1 H1 B1 _ R1 S1 q1 h1 => ?_⟩
  cases d1 with
  | list xs =>
    have q1' := q1
    obtain ⟨a', us, rfl, s, rr⟩ := q1.lst0
    rw [hK] at s
    refine ⟨.inl ⟨rfl, us, s⟩, r1, B1, R1, bndE ppE h1 fun d2 r2 v2 H2 B2 _ R2 S2 q2 h2 => ?_⟩
    have q1'' := q1'.step (R1.v S2)
    unfold fPlace at h2
    by_cases ok : okD (.list xs) = true ∧ okD d2 = true
    · rw [if_pos ok] at h2
      cases ep : SeqAt.dataPlace xs d2 with
      | none => rw [ep] at h2; exact h2.elim
      | some j =>
        rw [ep] at h2
        rw [← hK]
        exact ⟨a', v2, d2, xs, j, rfl, rfl, q1''.dp (okD_and ok.1).1, q2.dp (okD_and ok.2).1, ok.1, ok.2, ep, h2 _ H2 B2 R2 (Step.refl _ _) (.int _)⟩
    · rw [if_neg ok] at h2; exact h2.elim
  | _ => exact h1.elim

/-! ### isinstance(x, T), T built in -/
def tyD : D → String
  | .none => "NoneType"
  | .bool _ => "bool"
  | .int _ => "int"
  | .str _ => "str"
  | .list _ => "list"
  | .tuple _ => "tuple"
  | .dict _ => "dict"
inductive Ty where
  | int | bool | str | list | tuple | dict
  deriving DecidableEq
def Ty.name : Ty → String
  | .int => "int" | .bool => "bool" | .str => "str" | .list => "list" | .tuple => "tuple" | .dict => "dict"
def isaB : Ty → D → Bool
  | .int, .int _ => true
  | .int, .bool _ => true
  | .bool, .bool _ => true
  | .str, .str _ => true
  | .list, .list _ => true
  | .tuple, .tuple _ => true
  | .dict, .dict _ => true
  | _, _ => false
theorem isa_kit (T : Ty) (d : D) : kitB (tyD d) T.name = some (isaB T d) := by
  cases T <;> cases d <;> (simp only [tyD, Ty.name, isaB]; decide +kernel)
def fIsa (T : Ty) (d : D) : Option D := some (.bool (isaB T d))
theorem Rep.ty {K : PySem.W.Frag} {B : Av} {H : Hp} {d : D} {v : V} (h : Rep K B H d v) : TyX K H v (.type (tyD d)) ∨ ∃ a o ks, v = .ref a ∧ H a = some (.frz o (.dT ks)) ∧ tyD d = "dict" := by
  cases h with
  | non => exact .inl (.base .non)
  | bl b => exact .inl (.base (.bl b))
  | int i => exact .inl (.base (.int i))
  | str x => exact .inl (.base (.str x))
  | tup nb r _ =>
    rcases r with e | ⟨o, e⟩
    · exact .inl (.base (.tup e))
    · exact .inl (.fTuple e)
  | ctup cc _ =>
    obtain ⟨o, its, n, e, h1, _⟩ := cc
    exact .inl (.kTuple e h1)
  | lst nb e _ => exact .inl (.base (.lst e))
  | dK nb r _ =>
    rcases r with e | ⟨o, e⟩
    · exact .inl (.base (.dK e))
    · exact .inl (.fDict e)
  | dT nb r _ =>
    rcases r with e | ⟨o, e⟩
    · exact .inl (.base (.dT e))
    · exact .inr ⟨_, o, _, rfl, e, rfl⟩
def rIsiT2 (K : PySem.W.Frag) : List V → Hp → VK → Prop := fun xs H Q => ∃ a o ks c u b, xs = [.ref a, c] ∧ ClsV c u ∧ H a = some (.frz o (.dT ks)) ∧ PySem.W.kitOne K (.type "dict") u = some b ∧ Q (.bl b) H
theorem call_isiD : CallR X (.builtin "isinstance") (rIsiT2 X.K) := by
  intro pins s σ H xs us Q I r h
  obtain ⟨a, ob, ks, cv, u, b, rfl, k, ea, e, q⟩ := h
  obtain ⟨u1, u2, rfl, r1, r2⟩ := vals2 r
  have e2 := k.eq r2
  subst e2
  cases (show u1 = Value.ref a from r1)
  obtain ⟨_, _, _, vs, _, o, es, ep, h1, h2, _⟩ := (show ObjOk X.prog X.w H s.heap a (.frz ob (.dT ks)) from I.hok a _ ea)
  exact PySem.W.kia_one PySem.W.kitx_dict I.kIn ⟨o, h1, h2.1⟩ e (fun z => nomatch z) fun tk => ⟨.bl b, H, I.tok tk, rfl, q⟩
theorem pe_tyN {T : Str} {Tn : String} {p : Pos} (hg : Gl X T) (hm : X.mg T = none) (hT : bootBuiltins T = some (.type Tn)) (hn : T ≠ "__name__") (hd : (T == ("__debug__" : Str)) = false) : PE X (.Name T p) (tC (.ty Tn)) :=
  ⟨fun _ _ _ H _ I h => ld_blt I hg hm hT ⟨.ty Tn, H, I, rfl, h⟩ hn hd⟩
theorem snd_isa {T : Str} {Tn : Ty} {a : Expr} {oa : O1} {p p2 pos : Pos} (hK : c.K = X.K) (hg : Gl X "isinstance") (hm : X.mg "isinstance" = none) (hgT : Gl X T) (hmT : X.mg T = none) (hT : bootBuiltins T = some (.type Tn.name)) (hTn : T ≠ "__name__") (hTd : (T == ("__debug__" : Str)) = false) (ha : PE X a (denE c E oa))
    (h1 : starEach [a, .Name T p2] X.env = (false, eval a X.env) :: starEach [.Name T p2] X.env) (h2 : starEach [.Name T p2] X.env = (false, eval (.Name T p2) X.env) :: starEach [] X.env) (hpl : (backTo pos (starEach [.Name T p2] X.env)).any (·.1) = false) :
    PE X (.Call (.Name "isinstance" p) [a, .Name T p2] [] pos) (denE c E (oOp1 (fIsa Tn) oa)) := by
  refine pe_mono (pe_callB (call_isi.or call_isiD) hg hm (by decide +kernel) (pa_cons ha (pa_cons (pe_tyN hgT hmT hT hTn hTd) pa_nil h2) h1) (by decide) (by decide) h1 hpl) fun σ H Q ⟨r, B, R, h⟩ => ?_
  refine ⟨r, B, R, bndE ppE h fun d1 r1 v1 H1 B1 _ R1 S1 q1 hq => ?_⟩
  have ek := isa_kit Tn d1
  have fin : Q (.bl (isaB Tn d1)) H1 := hq _ H1 B1 R1 (Step.refl _ _) (.bl _)
  rcases q1.ty with ty | ⟨a', o, ks, rfl, ea, et⟩
  · rw [hK] at ty
    exact .inl ⟨v1, .ty Tn.name, _, _, _, rfl, .ty Tn.name, ty, kit_ty ek, fin⟩
  · rw [et] at ek
    exact .inr ⟨a', o, ks, .ty Tn.name, _, _, rfl, .ty Tn.name, ea, kit_ty ek, fin⟩
end
end Py

/-! Py, part N: what the forms of the text say by their shape alone. -/
namespace Py
open PySem L2

def nst : Expr → Bool
  | .Starred .. => false
  | _ => true
theorem star_cons {e : Expr} {es : List Expr} {env : Env} (h : nst e = true) : starEach (e :: es) env = (false, eval e env) :: starEach es env := by
  cases e <;> first | rfl | cases h
theorem star_any {env : Env} {pos : Pos} : ∀ {es : List Expr}, es.all nst = true → (backTo pos (starEach es env)).any (·.1) = false
  | [], _ => rfl
  | e :: es, h => by
    rw [List.all_cons, Bool.and_eq_true] at h
    rw [star_cons h.1]
    show (false || (backTo pos (starEach es env)).any (·.1)) = false
    rw [star_any h.2]; rfl
theorem star_all {env : Env} {pos : Pos} : ∀ {es : List Expr}, es.all nst = true → (backTo pos (starEach es env)).all (fun x => !x.1) = true
  | [], _ => rfl
  | e :: es, h => by
    rw [List.all_cons, Bool.and_eq_true] at h
    rw [star_cons h.1]
    show (true && (backTo pos (starEach es env)).all (fun x => !x.1)) = true
    rw [star_all h.2]; rfl
/-- tests that are read as values -/
def tvOk : Expr → Bool
  | .UnaryOp .Not _ _ => false
  | .BoolOp .. => false
  | .IfExp .. => false
  | .Compare .. => false
  | _ => true
theorem tv_ok {e : Expr} {env : Env} (h : tvOk e = true) : ∀ whole, isTrue e env whole = (do let v ← whole; standAt e.pos; holding [v] (truthy v)) := by
  intro w
  cases e with
  | UnaryOp op x p => cases op <;> first | rfl | cases h
  | BoolOp => cases h
  | IfExp => cases h
  | Compare => cases h
  | _ => rfl
def ixOk : Expr → Bool
  | .Slice .. => false
  | _ => true
theorem ix_ok {b : Expr} (h : ixOk b = true) : PlainIx b := fun o i => by
  cases b with
  | Slice => cases h
  | _ => rfl
def baseOk : Expr → Bool
  | .Call .. => false
  | _ => true
theorem base_ok {o : Expr} {a : Str} {env : Env} (h : baseOk o = true) : attributeBase o a env (eval o env) = eval o env := by
  cases o with
  | Call => cases h
  | _ => rfl
/-- also: calls with arguments -/
def baseOk2 : Expr → Bool
  | .Call (.Name _ _) [] [] _ => false
  | _ => true
theorem base_ok2 {o : Expr} {a : Str} {env : Env} (h : baseOk2 o = true) : attributeBase o a env (eval o env) = eval o env := by
  unfold attributeBase
  split
  · cases h
  · rfl
def setOk : Expr → Bool
  | .Set .. => false
  | _ => true
theorem set_ok {e : Expr} {env : Env} (h : setOk e = true) : ∀ x, foldedSetIterable e env x = pure x := by
  intro x
  cases e with
  | Set => cases h
  | _ => rfl
def cmpMk : Expr → Bool
  | .Set .. => false
  | _ => true
theorem mk_ok {op : CmpOp} {b : Expr} (h : cmpMk b = true) : behindInMarks op b = false := by
  cases b with
  | Set => cases h
  | _ => rfl
theorem last_ok {op op' : CmpOp} {b k : Expr} (h : cmpMk k = true) : lastMarks [op, op'] [b, k] = false := by
  show behindInMarks op' k = false
  exact mk_ok h
def isComp : Expr → Bool
  | .ListComp .. => true
  | .SetComp .. => true
  | .DictComp .. => true
  | _ => false
theorem sw_plain {e : Expr} {t : Option Expr} {n : Nat} {env : Env} (h : isComp e = false) : swapsWith e t n env = pure false := by
  cases e with
  | ListComp => cases h
  | SetComp => cases h
  | DictComp => cases h
  | _ => rfl
/-- y = [..]: which form -/
def swTo (sc scope : Scope) (t : Str) (a b : Nat) : Bool := sc.kind == .function && sc.names.lookup t == some .local && a == b && !(scope.names.any fun (n, k) => n == t && (k == .local || k == .cell))
theorem sw_to {e : Expr} {gs : List Comprehension} {scope : Scope} {pos py : Pos} {t : Str} {n : Nat} {env : Env} (hk : env.scope.kind = .function) :
    swapsWith (.ListComp e gs scope pos) (some (.Name t py)) n env = pure (swTo env.scope scope t py.line pos.line) := by
  have e1 : env.blockKind = env.scope.kind := by
    unfold Env.blockKind
    rw [hk]; rfl
  show (pure _ : Sem Bool) = _
  rw [e1]
  rfl
def nmF (sc : Scope) (line : Nat) : Expr → Option Str
  | .Name id pos => if sc.names.lookup id == some .local && pos.line == line then some id else none
  | _ => none
/-- a, b = e1, e2: which form -/
def wapS (sc : Scope) (ts vs : List Expr) : Option (Option (List Str)) :=
  if !(ts.length == 2 || ts.length == 3) || vs.length != ts.length || sc.kind != .function then some none
  else if vs.any (fun | .Starred .. => true | _ => false) then some none
  else
    let names := ts.filterMap (nmF sc ((ts.head?.map (·.pos.line)).getD 0))
    if names.length != ts.length || names.eraseDups.length != names.length then some none
    else if vs.all (foldedForSure 8) then some none
    else if vs.all (constantsAlone 8) then none
    else some (some names)
theorem wap_ok {ts vs : List Expr} {env : Env} {k k2 : Nat} {p p2 : Pos} {o : Option (List Str)} (hk : env.scope.kind = .function) (h : wapS env.scope ts vs = some o) : swappedStores [.Tuple ts k p] (.Tuple vs k2 p2) env = pure o := by
  have e1 : env.blockKind = env.scope.kind := by
    unfold Env.blockKind
    rw [hk]; rfl
  unfold wapS at h
  unfold swappedStores
  rw [e1]
  dsimp only
  by_cases c1 : (!(ts.length == 2 || ts.length == 3) || vs.length != ts.length || env.scope.kind != .function) = true
  · rw [if_pos c1] at h ⊢
    cases h; rfl
  rw [if_neg c1] at h ⊢
  by_cases c2 : (vs.any (fun | .Starred .. => true | _ => false)) = true
  · rw [if_pos c2] at h
    cases h
    exact if_pos c2
  rw [if_neg c2] at h
  refine (if_neg c2).trans ?_
  dsimp only at h
  have key : ∀ f : Expr → Option Str, (∀ e, f e = nmF env.scope ((ts.head?.map (·.pos.line)).getD 0) e) → (let names := ts.filterMap f
      if names.length != ts.length || names.eraseDups.length != names.length then pure none
      else if vs.all (foldedForSure 8) = true then pure none
      else if vs.all (constantsAlone 8) = true then (do unsupported "assign.tuple-of-constant-expressions:order-of-the-stores"; pure (some names))
      else pure (some names) : Sem (Option (List Str))) = pure o := fun f hf => by
    have ef : f = nmF env.scope ((ts.head?.map (·.pos.line)).getD 0) := funext hf
    rw [ef]
    dsimp only
    generalize (ts.filterMap (nmF env.scope ((ts.head?.map (·.pos.line)).getD 0))) = names at h
    by_cases c3 : (names.length != ts.length || names.eraseDups.length != names.length) = true
    · rw [if_pos c3] at h ⊢
      cases h; rfl
    rw [if_neg c3] at h ⊢
    by_cases c4 : vs.all (foldedForSure 8) = true
    · rw [if_pos c4] at h ⊢
      cases h; rfl
    rw [if_neg c4] at h ⊢
    by_cases c5 : vs.all (constantsAlone 8) = true
    · rw [if_pos c5] at h
      cases h
    rw [if_neg c5] at h ⊢
    cases h; rfl
  exact key _ fun e => by cases e <;> rfl
def isTupE : Expr → Bool
  | .Tuple .. => true
  | _ => false
def isSeqE : Expr → Bool
  | .Tuple .. => true
  | .List .. => true
  | _ => false
theorem wap_v {t v : Expr} {env : Env} (h : isTupE v = false) : swappedStores [t] v env = pure none := by
  unfold swappedStores
  split
  · rename_i h1
    split at h1
    · cases h
    · cases h
    · cases h1
  · rfl
theorem wap_t {t v : Expr} {env : Env} (h : isSeqE t = false) : swappedStores [t] v env = pure none := by
  unfold swappedStores
  split
  · rename_i h1
    split at h1
    · rename_i e
      cases e; cases h
    · rename_i e
      cases e; cases h
    · cases h1
  · rfl
/-- targets -/
def nstAll (es : List Expr) : Bool := es.all nst
theorem asg_cons {e : Expr} {es : List Expr} {env : Env} (h : nst e = true) : (assignEach (e :: es) env).map (·.2) = assign e env :: (assignEach es env).map (·.2) := by
  cases e <;> first | rfl | cases h
theorem asg_len {env : Env} : ∀ {es : List Expr}, es.all nst = true → (assignEach es env).length = es.length
  | [], _ => rfl
  | e :: es, h => by
    rw [List.all_cons, Bool.and_eq_true] at h
    have ih := asg_len (env := env) h.2
    have : assignEach (e :: es) env = (false, assign e env) :: assignEach es env := by
      cases e <;> first | rfl | cases h.1
    rw [this, List.length_cons, ih, List.length_cons]
theorem asg_find {env : Env} : ∀ {es : List Expr}, es.all nst = true → (assignEach es env).findIdx? (·.1) = none
  | [], _ => rfl
  | e :: es, h => by
    rw [List.all_cons, Bool.and_eq_true] at h
    have ih := asg_find (env := env) h.2
    have : assignEach (e :: es) env = (false, assign e env) :: assignEach es env := by
      cases e <;> first | rfl | cases h.1
    rw [this, List.findIdx?_cons, ih]
    rfl
end Py

/-! Py, part O: a, b = e1, e2 with new lists among them; a, b = e. -/
namespace Py
open PySem L2

inductive RepsX (K : PySem.W.Frag) (B : Av) (H : Hp) : (Addr → Prop) → List Bool → List D → List V → Prop
  | nil {Z : Addr → Prop} : RepsX K B H Z [] [] []
  | val {Z : Addr → Prop} {fl : List Bool} {d : D} {v : V} {ds : List D} {vs : List V} : Rep K B H d v → RepsX K B H Z fl ds vs → RepsX K B H Z (false :: fl) (d :: ds) (v :: vs)
  | new {Z : Addr → Prop} {fl : List Bool} {d : D} {p : Addr} {ds : List D} {vs : List V} : Z p → B.b p → ¬ B.m p → Cont K B H d p → RepsX K B H (fun q => Z q ∧ q ≠ p) fl ds vs → RepsX K B H Z (true :: fl) (d :: ds) (.ref p :: vs)
section
variable {K : PySem.W.Frag} {B B' : Av} {H H' : Hp}
theorem RepsX.mono : ∀ {fl : List Bool} {ds : List D} {vs : List V} {Z Z' : Addr → Prop}, (∀ q, Z q → Z' q) → RepsX K B H Z fl ds vs → RepsX K B H Z' fl ds vs
  | _, _, _, _, _, _, .nil => .nil
  | _, _, _, _, _, h, .val q qs => .val q (RepsX.mono h qs)
  | _, _, _, _, _, h, .new z b m ct qs => .new (h _ z) b m ct (RepsX.mono (fun q z => ⟨h q z.1, z.2⟩) qs)
theorem RepsX.len : ∀ {fl : List Bool} {ds : List D} {vs : List V} {Z : Addr → Prop}, RepsX K B H Z fl ds vs → vs.length = fl.length
  | _, _, _, _, .nil => rfl
  | _, _, _, _, .val _ qs => by simp [RepsX.len qs]
  | _, _, _, _, .new _ _ _ _ qs => by simp [RepsX.len qs]
theorem RepsX.ext (e : Ext H H') : ∀ {fl : List Bool} {ds : List D} {vs : List V} {Z : Addr → Prop}, RepsX K B H Z fl ds vs → RepsX K B H' Z fl ds vs
  | _, _, _, _, .nil => .nil
  | _, _, _, _, .val q qs => .val (q.step e.v) (RepsX.ext e qs)
  | _, _, _, _, .new z b m ct qs => .new z b m (ct.ext e) (RepsX.ext e qs)
theorem Vst.pl {p : Addr} : Vst B H (B.plus p) H := ⟨fun _ _ _ e => e, fun _ h => .inl h⟩
theorem RepsX.plus {p : Addr} : ∀ {fl : List Bool} {ds : List D} {vs : List V} {Z : Addr → Prop}, (∀ q, Z q → q ≠ p) → RepsX K B H Z fl ds vs → RepsX K (B.plus p) H Z fl ds vs
  | _, _, _, _, _, .nil => .nil
  | _, _, _, _, h, .val q qs => .val (q.step Vst.pl) (RepsX.plus h qs)
  | _, _, _, _, h, .new z b m ct qs => .new z b (fun k => k.elim m (h _ z)) (ct.step Vst.pl fun _ e => e) (RepsX.plus (fun q z => h q z.1) qs)
end
def PostX (c : Cfg) (E : EX) (σ : St) (fl : List Bool) (Z : Addr → Prop) (B : Av) (H : Hp) (Q : List V → Hp → Prop) : Out → Prop
  | .vals ds r => ∀ vs H' B', Rel c r B' σ H' → Step B H B' H' → RepsX c.K B' H' Z fl ds vs → Q vs H'
  | .exc n d => ∀ H', Fr c H' → E n d H'
  | _ => False
def denX (c : Cfg) (E : EX) (fl : List Bool) (o : O1) : TA := fun σ H Q => ∃ r B, Rel c r B σ H ∧ PostX c E σ fl (fun q => H q = none) B H Q (o r)
section
variable {c : Cfg} {E : EX} {σ : St}
theorem ppX {fl : List Bool} {Z : Addr → Prop} {Q : List V → Hp → Prop} : PP c E (fun B H o => PostX c E σ fl Z B H Q o) where
  exc _ _ _ _ h := h
  bad _ _ h := h
  frm B H B1 H1 o S h := by
    cases o with
    | vals d r => exact fun v H' B' R S' q => h v H' B' R (S.trans S') q
    | exc n d => exact h
    | _ => exact h.elim
variable {P : Av → Hp → Out → Prop} {B : Av} {H : Hp} {o : Out}
theorem bndX (pp : PP c E P) {fl : List Bool} {Z : Addr → Prop} {k : List D → Rho → Out} (h : P B H (o.bnds k)) {Q : List V → Hp → Prop}
    (hk : ∀ d r v H1 B1, o = .vals d r → Rel c r B1 σ H1 → Step B H B1 H1 → RepsX c.K B1 H1 Z fl d v → P B1 H1 (k d r) → Q v H1) : PostX c E σ fl Z B H Q o := by
  cases o with
  | vals d r => exact fun v H' B' R S q => hk d r v H' B' rfl R S q (pp.frm _ _ _ _ _ S h)
  | exc n d => exact pp.exc _ _ _ _ h
  | _ => exact (pp.bad _ _ h).elim
theorem bndF (pp : PP c E P) {k : D → Rho → Out} (h : P B H (o.bnd k)) {Q : VK}
    (hk : ∀ d r p H1 B1, o = .val d r → Rel c r B1 σ H1 → Step B H B1 H1 → B1.b p → ¬ B1.m p → H p = none → Cont c.K B1 H1 d p → P B1 H1 (k d r) → Q (.ref p) H1) : PostF c E σ B H Q o := by
  cases o with
  | val d r => exact fun p H' B' R S h1 h2 h3 q => hk d r p H' B' rfl R S h1 h2 h3 q (pp.frm _ _ _ _ _ S h)
  | exc n d => exact pp.exc _ _ _ _ h
  | _ => exact (pp.bad _ _ h).elim
end
section
variable {X : Cx} {c : Cfg} {E : EX}
theorem snd_xnil : PA X [] (denX c E [] oNil) := pa_mono pa_nil fun σ H Q ⟨r, B, R, h⟩ => h [] H B R (Step.refl _ _) .nil
theorem Step.dm {B B' : Av} {H H' : Hp} (s : Step B H B' H') {q : Addr} (h : H' q = none) : H q = none := by
  cases e : H q with
  | none => rfl
  | some o => obtain ⟨o', e'⟩ := s.dom q o e; rw [h] at e'; cases e'
theorem snd_xval {e : Expr} {es : List Expr} {fl : List Bool} {oa ot : O1} (ha : PE X e (denE c E oa)) (ht : PA X es (denX c E fl ot)) (hs : starEach (e :: es) X.env = (false, eval e X.env) :: starEach es X.env) :
    PA X (e :: es) (denX c E (false :: fl) (oCons oa ot)) := pa_mono (pa_cons ha ht hs) fun σ H Q ⟨r, B, R, h⟩ =>
  ⟨r, B, R, bndE ppX h fun d1 r1 v1 H1 B1 _ R1 S1 q1 h1 => ⟨r1, B1, R1, bndX ppX h1 fun d2 r2 v2 H2 B2 _ R2 S2 q2 h2 => h2 (v1 :: v2) H2 B2 R2 (Step.refl _ _) (.val (q1.step (R1.v S2)) (q2.mono fun q z => S1.dm z))⟩⟩
theorem snd_xnew {e : Expr} {es : List Expr} {fl : List Bool} {oa ot : O1} (ha : PE X e (denF c E oa)) (ht : PA X es (denX c E fl ot)) (hs : starEach (e :: es) X.env = (false, eval e X.env) :: starEach es X.env) :
    PA X (e :: es) (denX c E (true :: fl) (oCons oa ot)) := pa_mono (pa_cons ha ht hs) fun σ H Q ⟨r, B, R, h⟩ =>
  ⟨r, B, R, bndF ppX h fun d1 r1 p H1 B1 _ R1 S1 b1 m1 n1 ct h1 => ⟨r1, B1, R1, bndX ppX h1 fun d2 r2 v2 H2 B2 _ R2 S2 q2 h2 => by
    obtain ⟨o, eo⟩ := ct.there
    refine h2 (.ref p :: v2) H2 B2 R2 (Step.refl _ _) (.new n1 (S2.keep p o b1 m1 eo) (fun k => (S2.subm p k).elim m1 fun z => by rw [eo] at z; cases z) (ct.step (R1.v S2) fun o' e => S2.stay p o' m1 e) (q2.mono fun q z => ⟨S1.dm z, fun e => ?_⟩))
    subst e
    rw [eo] at z; cases z⟩⟩
/-- names stored one after another -/
def setX : List Nat → List Bool → List D → Rho → Option Rho
  | [], [], [], r => some r
  | i :: is, false :: fl, d :: ds, r => setX is fl ds (r.set i (.val d))
  | i :: is, true :: fl, d :: ds, r => setX is fl ds (r.set i (.own d))
  | _, _, _, _ => none
def setVs : List Nat → List V → St → St
  | i :: is, v :: vs, σ => setVs is vs (σ.set i (some v))
  | _, _, σ => σ
theorem setX_ok {B0 : Av} {H0 : Hp} : ∀ {is : List Nat} {fl : List Bool} {ds : List D} {vs : List V} {Z : Addr → Prop} {r r' : Rho} {B : Av} {σ : St} {H : Hp}, RepsX c.K B H Z fl ds vs → (∀ q, Z q → c.H0 q = none ∧ H0 q = none) → Rel c r B σ H → Step B0 H0 B H → setX is fl ds r = some r' →
    ∃ B', Rel c r' B' (setVs is vs σ) H ∧ Step B0 H0 B' H
  | [], _, _, _, _, r, r', B, σ, H, .nil, _, R, S, h => by cases h; exact ⟨B, R, S⟩
  | i :: is, _, _, _, _, r, r', B, σ, H, .val q qs, hz, R, S, h => setX_ok (is := is) qs hz (R.setV q) S h
  | i :: is, _, _, _, _, r, r', B, σ, H, .new (p := p) z b m ct qs, hz, R, S, h => by
    refine setX_ok (is := is) (B := B.plus p) (RepsX.plus (fun q z => z.2) qs) (fun q z => hz q z.1) (R.setOwn b m (hz p z).1 ct) (S.plus (hz p z).2) h
def oPar (is : List Nat) (fl : List Bool) (a : O1) : O1 := fun r => (a r).bnds fun ds r1 => match setX is fl ds r1 with
  | some r2 => .nxt r2
  | none => .bad
theorem par_go {is : List Nat} {fl : List Bool} {o : Out} {σ : St} {B : Av} {H : Hp} {G : Ends} (R0 : ∀ p, H p = none → c.H0 p = none)
    (h : PostS c E B H G (o.bnds fun ds r1 => match setX is fl ds r1 with
      | some r2 => .nxt r2
      | none => .bad)) : PostX c E σ fl (fun q => H q = none) B H (fun vs H1 => vs.length = fl.length ∧ ∀ H2, Ext H1 H2 → G.nx (setVs is vs σ) H2) o := by
  cases o with
  | vals ds r1 =>
    intro vs H' B' R S q
    refine ⟨q.len, fun H2 ex => ?_⟩
    have h' : PostS c E B H G (match setX is fl ds r1 with
      | some r2 => .nxt r2
      | none => .bad) := h
    cases e : setX is fl ds r1 with
    | none => rw [e] at h'; exact h'.elim
    | some r2 =>
      rw [e] at h'
      obtain ⟨B2, R2, S2⟩ := setX_ok (B0 := B) (H0 := H) (q.ext ex) (fun q z => ⟨R0 q z, z⟩) (R.ext ex) (S.trans ex.step) e
      exact h' _ H2 B2 R2 S2
  | exc n d => exact h
  | _ => exact h.elim
theorem setX_len : ∀ {is : List Nat} {fl : List Bool} {ds : List D} {r r' : Rho}, setX is fl ds r = some r' → is.length = fl.length
  | [], [], _, _, _, _ => rfl
  | i :: is, false :: fl, d :: ds, r, r', h => by simp [setX_len (is := is) (fl := fl) (ds := ds) h]
  | i :: is, true :: fl, d :: ds, r, r', h => by simp [setX_len (is := is) (fl := fl) (ds := ds) h]
  | [], _ :: _, _, _, _, h => by cases h
  | _ :: _, [], _, _, _, h => by cases h
  | _ :: _, false :: _, [], _, _, h => by cases h
  | _ :: _, true :: _, [], _, _, h => by cases h
theorem two_of : ∀ {vs : List V}, vs.length = 2 → ∃ v w, vs = [v, w]
  | [v, w], _ => ⟨v, w, rfl⟩
theorem three_of : ∀ {vs : List V}, vs.length = 3 → ∃ v w u, vs = [v, w, u]
  | [v, w, u], _ => ⟨v, w, u, rfl⟩
theorem snd_par2 {i j : Nat} {x y : Str} {a b : Expr} {fl : List Bool} {ot : O1} {px py pt : Pos} {kt k2 : Nat} {pt2 pos : Pos} (hf : fl.length = 2) (hc : X.calm = true) (hN : X.N.Nodup) (hi : X.N[i]? = some x) (hj : X.N[j]? = some y) (hij : i ≠ j)
    (hx : X.env.scope.names.lookup x = some .local) (hy : X.env.scope.names.lookup y = some .local) (ha : PA X [a, b] (denX c E fl ot))
    (hw : swappedStores [.Tuple [.Name x px, .Name y py] kt pt] (.Tuple [a, b] k2 pt2) X.env = pure (some [x, y])) :
    PS X (.Assign [.Tuple [.Name x px, .Name y py] kt pt] (.Tuple [a, b] k2 pt2) pos) (denS c E (oPar [i, j] fl ot)) := by
  refine ps_mono (ps_par hc hN hi hj hij hx hy ha hw rfl) fun G σ H ⟨r, B, R, h⟩ => ⟨r, B, R, ?_⟩
  have := par_go (fun p hp => R.fresh0 hp) h (σ := σ)
  revert this
  cases ot r with
  | vals ds r1 =>
      intro k vs H' B' R' S q
      obtain ⟨hl, k⟩ := k vs H' B' R' S q
      obtain ⟨v, w, rfl⟩ := two_of (hl.trans hf)
      exact ⟨v, w, rfl, k H' (Ext.refl _)⟩
  | exc n d => intro k; exact k
  | _ => intro k; exact k.elim
theorem snd_par3 {i j l : Nat} {x y z : Str} {a b k : Expr} {fl : List Bool} {ot : O1} {px py pz pt : Pos} {kt k2 : Nat} {pt2 pos : Pos} (hf : fl.length = 3) (hc : X.calm = true) (hN : X.N.Nodup) (hi : X.N[i]? = some x) (hj : X.N[j]? = some y) (hl : X.N[l]? = some z) (hij : i ≠ j) (hil : i ≠ l) (hjl : j ≠ l)
    (hx : X.env.scope.names.lookup x = some .local) (hy : X.env.scope.names.lookup y = some .local) (hz : X.env.scope.names.lookup z = some .local) (ha : PA X [a, b, k] (denX c E fl ot))
    (hw : swappedStores [.Tuple [.Name x px, .Name y py, .Name z pz] kt pt] (.Tuple [a, b, k] k2 pt2) X.env = pure (some [x, y, z])) :
    PS X (.Assign [.Tuple [.Name x px, .Name y py, .Name z pz] kt pt] (.Tuple [a, b, k] k2 pt2) pos) (denS c E (oPar [i, j, l] fl ot)) := by
  refine ps_mono (ps_par3 hc hN hi hj hl hij hil hjl hx hy hz ha hw rfl) fun G σ H ⟨r, B, R, h⟩ => ⟨r, B, R, ?_⟩
  have := par_go (fun p hp => R.fresh0 hp) h (σ := σ)
  revert this
  cases ot r with
  | vals ds r1 =>
      intro k vs H' B' R' S q
      obtain ⟨hl, k⟩ := k vs H' B' R' S q
      obtain ⟨v, w, u, rfl⟩ := three_of (hl.trans hf)
      exact ⟨v, w, u, rfl, k H' (Ext.refl _)⟩
  | exc n d => intro k; exact k
  | _ => intro k; exact k.elim
/-- the names of targets, each by its slot -/
def gSet (is : List Nat) : TGs := fun vs σ H Q => vs.length = is.length ∧ Q (setVs is vs σ) H
theorem pgs_setN : PGs X [] (gSet []) := ⟨fun pins s σ H vs us Q I r h => pgs_nil.run pins s σ H vs us Q I r (by
  obtain ⟨e, q⟩ := h
  have : vs = [] := List.eq_nil_of_length_eq_zero e
  subst this
  exact ⟨rfl, q⟩)⟩
theorem pgs_setC {i : Nat} {is : List Nat} {x : Str} {p : Pos} {es : List Expr} (n : Stor X i x) (h : PGs X es (gSet is)) : PGs X (.Name x p :: es) (gSet (i :: is)) :=
  ⟨fun pins s σ H vs us Q I r hw => (pgs_cons (pg_name n.nd n.at' n.loc n.fn) h (asg_cons rfl)).run pins s σ H vs us Q I r (by
    obtain ⟨e, q⟩ := hw
    match vs, e with
    | v :: vs, e => exact ⟨v, vs, rfl, by simpa using e, q⟩)⟩
theorem snd_parT {is : List Nat} {ts es : List Expr} {fl : List Bool} {ot : O1} {kt k2 : Nat} {pt pt2 pos : Pos} (hK : X.K = c.K) (hc : X.calm = true) (hf : fl.length = is.length) (hts : ts.all nst = true) (hl : ts.length = is.length) (hg : PGs X ts (gSet is)) (ha : PA X es (denX c E fl ot))
    (hlim : fl.length ≤ lim) (hw : swappedStores [.Tuple ts kt pt] (.Tuple es k2 pt2) X.env = pure none) : PS X (.Assign [.Tuple ts kt pt] (.Tuple es k2 pt2) pos) (denS c E (oPar is fl ot)) := by
  refine ps_mono (ps_asg (pe_tup ha) (pg_tup (n := is.length) hc hg (by rw [asg_len hts, hl]) (asg_find hts)) rfl hw (asg_cons rfl)) fun G σ H ⟨r, B, R, h⟩ => ⟨r, B, R, ?_⟩
  have := par_go (fun p hp => R.fresh0 hp) h (σ := σ)
  revert this
  cases ot r with
  | vals ds r1 =>
      intro k vs H' B' R' S q
      obtain ⟨hl, k⟩ := k vs H' B' R' S q
      exact ⟨by rw [hl]; exact lim_line hlim, fun p hp => ⟨p, vs, rfl, SqT.of upd_same, by rw [hl, hf], by rw [hl, hf], k _ (Ext.new hp)⟩⟩
  | exc n d => intro k; exact k
  | _ => intro k; exact k.elim
/-- target = e -/
def oAsg (f : Bd) (a : O1) : O1 := fun r => (a r).bnd fun d r1 => match f d r1 with
  | some r2 => .nxt r2
  | none => .bad
theorem snd_asgG {tg e : Expr} {f : Bd} {T : List Nat} {o : O1} {pos : Pos} (h : PE X e (denE c E o)) (hg : PG X tg (denG c T f)) (hs : swapsWith e (some tg) pos.line X.env = pure false) (hw : swappedStores [tg] e X.env = pure none) (hn : nst tg = true) :
    PS X (.Assign [tg] e pos) (denS c E (oAsg f o)) :=
  ps_mono (ps_asg h hg hs hw (asg_cons hn)) fun G σ H ⟨r, B, R, h⟩ => ⟨r, B, R, bndE ppS h fun d r1 v H1 B1 _ R1 S1 q1 h1 => ⟨r1, B1, d, R1, q1, by
    cases e : f d r1 with
    | none => rw [e] at h1; exact h1.elim
    | some r2 =>
      rw [e] at h1
      exact fun σ' H' B' R' S' _ => h1 σ' H' B' R' S'⟩⟩
end
end Py

/-! Py, part P: a list of one's own (or lent): x[k], x[k] = e, len(x), without freezing it. -/
namespace Py
open PySem L2

def Slot.lst? : Slot → Option (List D)
  | .own (.list ds) => some ds
  | .io (.list ds) => some ds
  | _ => none
theorem Slot.isL_of {s : Slot} {ds : List D} (h : s.lst? = some ds) : s.isL = true ∧ (s = .own (.list ds) ∨ s = .io (.list ds)) := by
  cases s with
  | own d => cases d <;> first | (cases h; exact ⟨rfl, .inl rfl⟩) | cases h
  | io d => cases d <;> first | (cases h; exact ⟨rfl, .inr rfl⟩) | cases h
  | _ => cases h
section
variable {c : Cfg} {r : Rho} {B : Av} {σ : St} {H : Hp}
theorem Rel.peek (R : Rel c r B σ H) {i : Nat} {ds : List D} (h : r[i]?.bind Slot.lst? = some ds) : ∃ s a xs, r[i]? = some s ∧ σ[i]? = some (some (.ref a)) ∧ H a = some (.lst xs) ∧ Reps c.K B H ds xs ∧ (s = .own (.list ds) ∨ s = .io (.list ds)) := by
  cases e : r[i]? with
  | none => rw [e] at h; cases h
  | some s =>
    rw [e] at h
    have h' : s.lst? = some ds := h
    obtain ⟨hl, hs⟩ := Slot.isL_of h'
    obtain ⟨a, xs, ds2, hu, ha, rs, hs2⟩ := R.lst e hl
    have : ds2 = ds := by
      rcases hs with rfl | rfl <;> rcases hs2 with z | z <;> cases z <;> rfl
    subst this
    exact ⟨s, a, xs, rfl, hu, ha, rs, hs⟩
end
def oPix (i : Nat) (k : O1) : O1 := fun r => match r[i]?.bind Slot.lst? with
  | some _ => (k r).bnd fun j r1 => match r1[i]?.bind Slot.lst? with
    | some ds => optO (fIx (.list ds) j) r1
    | none => .bad
  | none => .bad
def oPlen (i : Nat) : O1 := fun r => match r[i]?.bind Slot.lst? with
  | some ds => .val (.int ds.length) r
  | none => .bad
/-- x[k] = e -/
def Slot.put (k : D) (d : D) : Slot → Option Slot
  | .own (.list ds) => match k with
    | .int j => (ixN ds.length j).map fun n => .own (.list (ds.set n d))
    | _ => none
  | .io (.list ds) => match k with
    | .int j => (ixN ds.length j).map fun n => .io (.list (ds.set n d))
    | _ => none
  | _ => none
def oPut (i : Nat) (k a : O1) : O1 := fun r => (a r).bnd fun d r1 => match r1[i]?.bind Slot.lst? with
  | some _ => (k r1).bnd fun j r2 => match r2[i]?.bind (Slot.put j d) with
    | some s' => .nxt (r2.set i s')
    | none => .bad
  | none => .bad
theorem put_ok {s s' : Slot} {k d : D} (h : s.put k d = some s') : ∃ ds j n, (s = .own (.list ds) ∨ s = .io (.list ds)) ∧ k = .int j ∧ ixN ds.length j = some n ∧ ((∃ d0, s = .own d0 ∧ s' = .own (.list (ds.set n d))) ∨ ∃ d0, s = .io d0 ∧ s' = .io (.list (ds.set n d))) := by
  unfold Slot.put at h
  split at h
  · split at h
    · obtain ⟨n, e, rfl⟩ := Option.map_eq_some_iff.mp h
      exact ⟨_, _, n, .inl rfl, rfl, e, .inl ⟨_, rfl, rfl⟩⟩
    · cases h
  · split at h
    · obtain ⟨n, e, rfl⟩ := Option.map_eq_some_iff.mp h
      exact ⟨_, _, n, .inr rfl, rfl, e, .inr ⟨_, rfl, rfl⟩⟩
    · cases h
  · cases h
section
variable {X : Cx} {c : Cfg} {E : EX}
theorem snd_pix {i : Nat} {x : Str} {k : Expr} {ok : O1} {p pos : Pos} (hK : c.K = X.K) (hN : X.N[i]? = some x) (hv : Vis X.env.scope x) (hd : (x == ("__debug__" : Str)) = false) (hcd : (x == ("__classdict__" : Str)) = false) (hk : PE X k (denE c E ok)) (hs : PlainIx k) :
    PE X (.Subscript (.Name x p) k pos) (denE c E (oPix i ok)) := by
  refine pe_mono (pe_ix ix_list (pe_var hN hv hd hcd) hk hs) fun σ H Q ⟨r, B, R, h⟩ => ?_
  unfold oPix at h
  cases e0 : r[i]?.bind Slot.lst? with
  | none => rw [e0] at h; exact h.elim
  | some d0 =>
    rw [e0] at h
    obtain ⟨s, a, xs, e1, hu, ha, rs, hsl⟩ := R.peek e0
    refine ⟨.ref a, hu, r, B, R, bndE ppE h fun j r1 v1 H1 B1 _ R1 S1 q1 h1 => ?_⟩
    cases e2 : r1[i]?.bind Slot.lst? with
    | none => rw [e2] at h1; exact h1.elim
    | some ds =>
      rw [e2] at h1
      obtain ⟨s2, a2, xs2, _, hu2, ha2, rs2, _⟩ := R1.peek e2
      rw [hu] at hu2; cases hu2
      cases q1 with
      | int n =>
        cases ei : L2.atI ds n with
        | none =>
          have h1' : PostE c E σ B1 H1 Q (optO (L2.atI ds n) r1) := h1
          rw [ei] at h1'; exact h1'.elim
        | some d =>
          have h1' : PostE c E σ B1 H1 Q (optO (L2.atI ds n) r1) := h1
          rw [ei] at h1'
          obtain ⟨v, ev, rv⟩ := rs2.atI ei
          exact ⟨a, xs2, n, v, rfl, rfl, SqL.of ha2, ev, h1' v H1 B1 R1 (Step.refl _ _) rv⟩
      | _ => exact h1.elim
theorem snd_plen {i : Nat} {x : Str} {p p2 pos : Pos} (hN : X.N[i]? = some x) (hv : Vis X.env.scope x) (hd : (x == ("__debug__" : Str)) = false) (hcd : (x == ("__classdict__" : Str)) = false) (hg : Gl X "len") (hm : X.mg "len" = none) :
    PE X (.Call (.Name "len" p2) [.Name x p] [] pos) (denE c E (oPlen i)) := by
  refine pe_mono (pe_callB call_len hg hm (by decide +kernel) (pa_cons (pe_var hN hv hd hcd) pa_nil (star_cons rfl)) (by decide) (by decide) (star_cons rfl) rfl) fun σ H Q ⟨r, B, R, h⟩ => ?_
  unfold oPlen at h
  cases e0 : r[i]?.bind Slot.lst? with
  | none => rw [e0] at h; exact h.elim
  | some ds =>
    rw [e0] at h
    obtain ⟨s, a, xs, e1, hu, ha, rs, hsl⟩ := R.peek e0
    exact ⟨.ref a, hu, .ref a, xs.length, rfl, .inl ⟨xs, SqL.of ha, rfl⟩, by rw [← rs.length]; exact h _ H B R (Step.refl _ _) (.int _)⟩
theorem sub_asg {o k : Expr} {pos : Pos} {env : Env} (h : ixOk k = true) (v : Value) : assign (.Subscript o k pos) env v = (do
      let ov ← holding [v] (eval o env)
      let iv ← holding [v, ov] (eval k env)
      standAt pos
      holding [v, ov, iv] (setItem ov iv v)
      release [v, ov, iv] []) := by
  rw [assign]
  cases k with
  | Slice => cases h
  | _ => rfl
theorem snd_put {i : Nat} {x : Str} {k e : Expr} {ok o : O1} {p sp pos : Pos} (hN : X.N[i]? = some x) (hv : Vis X.env.scope x) (hd : (x == ("__debug__" : Str)) = false) (hcd : (x == ("__classdict__" : Str)) = false)
    (hix : ixOk k = true) (hk : PE X k (denE c E ok)) (h : PE X e (denE c E o)) (hs : swapsWith e (some (.Subscript (.Name x p) k sp)) pos.line X.env = pure false) (hw : swappedStores [.Subscript (.Name x p) k sp] e X.env = pure none) :
    PS X (.Assign [.Subscript (.Name x p) k sp] e pos) (denS c E (oPut i ok o)) := by
  refine ps_mono (ps_asg h (pg_sub (pe_var hN hv hd hcd) hk set_list (sub_asg hix)) hs hw (asg_cons rfl)) fun G σ H ⟨r, B, R, h⟩ => ⟨r, B, R, bndE ppS h fun d r1 v H1 B1 _ R1 S1 q1 h1 => ?_⟩
  cases e0 : r1[i]?.bind Slot.lst? with
  | none => rw [e0] at h1; exact h1.elim
  | some d0 =>
    rw [e0] at h1
    obtain ⟨s, a, xs, e1, hu, ha, rs, hsl⟩ := R1.peek e0
    refine ⟨.ref a, hu, r1, B1, R1, bndE ppS h1 fun j r2 u H2 B2 _ R2 S2 q2 h2 => ?_⟩
    cases e3 : r2[i]?.bind (Slot.put j d) with
    | none => rw [e3] at h2; exact h2.elim
    | some s' =>
      rw [e3] at h2
      obtain ⟨s2, e4, e5⟩ := Option.bind_eq_some_iff.mp e3
      obtain ⟨ds, jn, n, hs2, rfl, en, hk2⟩ := put_ok e5
      cases q2
      have hl2 : s2.isL = true := by rcases hs2 with rfl | rfl <;> rfl
      have hx : s2.excl = true := by rcases hs2 with rfl | rfl <;> rfl
      obtain ⟨a2, xs2, ds2, hu2, ha2, rs2, hs3⟩ := R2.lst e4 hl2
      rw [hu] at hu2; cases hu2
      have : ds2 = ds := by rcases hs2 with rfl | rfl <;> rcases hs3 with z | z <;> cases z <;> rfl
      subst this
      have q1' := q1.step (R1.v S2)
      have hv1 : Vst B2 H2 B2 (upd H2 a (.lst (xs2.set n v))) := by
        have ba := R2.exm e4 hx hu
        exact ⟨fun y o nb e => by rw [upd_ne (fun z => nb (by rw [z]; exact R2.mb a ba))]; exact e, fun _ h => .inl h⟩
      obtain ⟨R3, S3⟩ := R2.mut (d := .list (ds2.set n d)) e4 hx hu ha2 hk2 (.lst upd_same ((Reps.set q1' n rs2).step hv1))
      exact ⟨a, xs2, jn, n, rfl, rfl, ha2, by rw [← rs2.length]; exact en, h2 σ _ B2 R3 S3⟩
end
end Py

/-! Py, part S: the small language, what it computes, and when a text of the program says it. -/
namespace Py
open PySem L2

inductive BF where
  | len | abs | int | sum | all | any | list | tuple | max | min
  deriving DecidableEq
def BF.name : BF → Str
  | .len => "len" | .abs => "abs" | .int => "int" | .sum => "sum" | .all => "all" | .any => "any" | .list => "list" | .tuple => "tuple" | .max => "max" | .min => "min"
def BF.f : BF → List D → Option D
  | .len => fLen | .abs => fAbs | .int => fInt | .sum => fSum | .all => fAll | .any => fAny | .list => fList | .tuple => fTuple | .max => fMax | .min => fMin
inductive T where
  | var (i : Nat) | cst (d : D) | glo (d : D)
  | bin (o : Operator) (a b : T) | cmp (o : CmpOp) (a b : T) | chn (o o' : CmpOp) (a b k : T) | neg (a : T) | inv (a : T)
  | b1 (a : T) | b2 (o : BoolOp) (a r : T) | ife (t a b : T)
  | tup (as : T) | lst (as : T) | ix (a b : T) | sl (a lo hi : T) | nop | pt (a : T) | scr (i : Nat) | pix (i : Nat) (k : T) | pln (i : Nat)
  | bi (f : BF) (as : T) | isa (s : Ty) (a : T) | cal (j : Nat) (as : T) | plc (a e : T)
  | lc (vs : List Nat) (tg it t e : T) | lc2 (vs vs1 : List Nat) (tg it t tg1 it1 t1 e : T) | yes
  | nil | con (a t : T) | rfc (i : Nat) (t : T)
  | gn (i : Nat) | gt (n : Nat) (g : T)
  | itr (a : T) | rg1 (as : T) | rg2 (as : T) | zpp (as : T) | enu (as : T)
  | skp | seq (a b : T) | ret (a : T) | rtn | brk | cnt | pss | doc | nev | ifs (t a b : T) | set (i : Nat) (a : T) | sto (i : Nat) (a : T)
  | aug (i : Nat) (o : Operator) (a : T) | app (i : Nat) (a : T) | put (i : Nat) (k a : T) | frl (tg it b : T) | whl (n : Nat) (t b : T) | drp (a : T) | par (is : List Nat) (fl : List Bool) (as : T) | asg (g a : T)

def fOpI (o : Operator) : D → D → Option D := match o with
  | .Add => fun d e => match d, e with
    | .int i, .int j => some (.int (i + j))
    | _, _ => none
  | .Sub => fSub
  | _ => fun _ _ => none
def binF : Operator → D → D → Option D
  | .Add => fAdd | .Sub => fSub | .Mult => fMul | .FloorDiv => fDiv | .Mod => fMod | .Pow => fPow | _ => fun _ _ => none
def binOk : Operator → Bool
  | .Add => true | .Sub => true | .Mult => true | .FloorDiv => true | .Mod => true | .Pow => true | _ => false
def cmpF : CmpOp → D → D → Option D
  | .Eq => ofB bEq | .NotEq => ofB bNe | .Lt => fLt | .LtE => fLe | .Gt => fGt | .GtE => fGe | .Is => fIs | .IsNot => fIsNot | .In => fIn | .NotIn => fNotIn
def oNo : O1 := fun _ => .bad
def oBo (o : BoolOp) (a b : O1) : O1 := match o with
  | .And => oAnd a b
  | .Or => oOr a b
/-- targets: one, many -/
def evG : T → Bd × Bds
  | .gn i => (gNm i, fun _ _ => none)
  | .gt n g => (gTup0 n (evG g).2, fun _ _ => none)
  | .nil => (fun _ _ => none, gNil0)
  | .con a t => (fun _ _ => none, gCons0 (evG a).1 (evG t).2)
  | _ => (fun _ _ => none, fun _ _ => none)
def tgs : T → List Nat
  | .gn i => [i]
  | .gt _ g => tgs g
  | .con a t => tgs a ++ tgs t
  | _ => []
def flT : T → List (Option Nat)
  | .con _ t => none :: flT t
  | .rfc i t => some i :: flT t
  | _ => []
def ev (cl : Nat → O1) : T → O1
  | .var i => oVar i
  | .cst d => oC d
  | .glo d => oC d
  | .bin o a b => oOp2 (binF o) (ev cl a) (ev cl b)
  | .cmp o a b => oOp2 (cmpF o) (ev cl a) (ev cl b)
  | .chn o o' a b k => oChain (cmpF o) (cmpF o') (ev cl a) (ev cl b) (ev cl k)
  | .neg a => oOp1 fNeg (ev cl a)
  | .inv a => oNot (ev cl a)
  | .b1 a => ev cl a
  | .b2 o a r => oBo o (ev cl a) (ev cl r)
  | .ife t a b => oIf (ev cl t) (ev cl a) (ev cl b)
  | .tup as => oCall fTup (ev cl as)
  | .lst as => oCall fLst (ev cl as)
  | .ix a b => oOp2 fIx (ev cl a) (ev cl b)
  | .sl a lo hi => oSl (ev cl a) (ev cl lo) (ev cl hi)
  | .nop => oNoPart
  | .pt a => oPart (ev cl a)
  | .scr i => oScr i
  | .pix i k => oPix i (ev cl k)
  | .pln i => oPlen i
  | .bi f as => oCall f.f (ev cl as)
  | .isa s a => oOp1 (fIsa s) (ev cl a)
  | .cal j as => oCallF (cl j) (flT as) (ev cl as)
  | .plc a e => oPlace (ev cl a) (ev cl e)
  | .lc vs tg it t e => oLc vs (ev cl it) (evG tg).1 (ev cl t) (ev cl e)
  | .lc2 vs vs1 tg it t tg1 it1 t1 e => oLc2 vs vs1 (ev cl it) (evG tg).1 (ev cl t) (ev cl it1) (evG tg1).1 (ev cl t1) (ev cl e)
  | .yes => oYes
  | .nil => oNil
  | .con a t => oCons (ev cl a) (ev cl t)
  | .rfc i t => oRef i (ev cl t)
  | .itr a => oIt (ev cl a)
  | .rg1 as => oRng1 (ev cl as)
  | .rg2 as => oRng2 (ev cl as)
  | .zpp as => oZip (ev cl as)
  | .enu as => oEnum (ev cl as)
  | .skp => oNxt
  | .seq a b => oSeq (ev cl a) (ev cl b)
  | .ret a => oRet (ev cl a)
  | .rtn => oRetN
  | .brk => oBrk
  | .cnt => oCnt
  | .pss => oNxt
  | .doc => oNxt
  | .nev => oBad
  | .ifs t a b => oIfS (ev cl t) (ev cl a) (ev cl b)
  | .set i a => oSet i (ev cl a)
  | .sto i a => oSetO i (ev cl a)
  | .aug i o a => oAug i (fOpI o) (ev cl a)
  | .app i a => oApp i (ev cl a)
  | .put i k a => oPut i (ev cl k) (ev cl a)
  | .frl tg it b => oFor (ev cl it) (evG tg).1 (ev cl b)
  | .whl n t b => whGo (ev cl t) (ev cl b) n
  | .drp a => oDrop (ev cl a)
  | .par is fl as => oPar is fl (ev cl as)
  | .asg g a => oAsg (evG g).1 (ev cl a)
  | _ => oNo

/-! ### when a text says it -/
structure SC where
  N : List Str
  sc : Scope
  raw : Scope
  top : Bool
structure GC where
  fns : List (Str × Nat)
  cns : List (Str × D)
  bls : List Str
inductive Ob where
  | e (e : Expr) | es (es : List Expr) | bs (es : List Expr) | xs (fl : List Bool) (es : List Expr) | o (e : Option Expr) | g (e : Expr) | gs (es : List Expr) | i (tg e : Expr) | s (s : Stmt) | ss (ss : List Stmt)
def beqD : D → D → Bool
  | .none, .none => true
  | .bool a, .bool b => a == b
  | .int a, .int b => decide (a = b)
  | .str a, .str b => decide (a = b)
  | _, _ => false
theorem beqD_eq {d e : D} (h : beqD d e = true) : d = e := by
  cases d <;> cases e <;> first | rfl | (simp only [beqD, decide_eq_true_eq, beq_iff_eq] at h; rw [h]) | cases h
def ofTy : Ty → Str
  | .int => "int" | .bool => "bool" | .str => "str" | .list => "list" | .tuple => "tuple" | .dict => "dict"
theorem boot_ty (s : Ty) : bootBuiltins (ofTy s) = some (.type s.name) := by cases s <;> decide +kernel
def cstB : Const → D → Bool
  | .none, .none => true
  | .bool a, .bool b => a == b
  | .int a, .int b => decide (a = b)
  | .str a, .str b => decide (a = b)
  | _, _ => false
def visB (sc : Scope) (x : Str) : Bool := match sc.names.lookup x with
  | some .local => true
  | some .cell => true
  | some .free => true
  | _ => false
def okNm (x : Str) : Bool := !(x == ("__debug__" : Str)) && !(x == ("__classdict__" : Str))
def varB (S : SC) (i : Nat) (x : Str) : Bool := decide (S.N[i]? = some x) && visB S.sc x && okNm x
def glB (S : SC) (x : Str) : Bool := decide (S.sc.names.lookup x = some .globalImplicit)
def blB (S : SC) (G : GC) (x : Str) : Bool := glB S x && decide (x ∈ G.bls)
def stoB (S : SC) (i : Nat) (x : Str) : Bool := decide (S.N[i]? = some x) && (decide (S.sc.names.lookup x = some .local) || (decide (S.sc.names.lookup x = some .cell) && decide (S.raw.names.lookup x = some .cell)))
def locB (S : SC) (i : Nat) (x : Str) : Bool := decide (S.N[i]? = some x) && decide (S.sc.names.lookup x = some .local)
def ownOf (N : List Str) (vs : List Nat) : List (Str × Nat) := vs.map fun v => (N.getD v ⟨#[]⟩, v)
def blkB (S : SC) (scope : Scope) (vs : List Nat) : Bool :=
  decide (scope.kind = .function) && scope.names.all (fun y => decide (scope.names.lookup y.1 = some y.2)) && vs.all (fun v => decide (v < S.N.length))
    && scope.names.all (fun y => !decide (y.2 = .free) || decide (S.sc.names.lookup y.1 = some .cell) || decide (S.sc.names.lookup y.1 = some .free))
    && scope.names.all (fun y => !(decide (y.2 = .local) || decide (y.2 = .cell)) || decide (y.1 ∈ (ownOf S.N vs).map (·.1)) || decide (y.1 ∉ S.N))
def SC.blk (S : SC) (scope : Scope) : SC := ⟨S.N, relS scope S.sc, scope, false⟩
def frB : T → Bool
  | .lst _ => true
  | .lc .. => true
  | .lc2 .. => true
  | _ => false
def isYes : T → Bool
  | .yes => true
  | _ => false
def isLc1 : T → Bool
  | .lc .. => true
  | _ => false
/-- [name, ..] of targets, by slots -/
def nmsB (S : SC) : List Nat → List Expr → Bool
  | [], [] => true
  | i :: is, .Name x _ :: es => stoB S i x && nmsB S is es
  | _, _ => false
def locsB (S : SC) : List Nat → List Expr → Bool
  | [], [] => true
  | i :: is, .Name x _ :: es => locB S i x && locsB S is es
  | _, _ => false
def namesOf : List Expr → List Str
  | .Name x _ :: es => x :: namesOf es
  | _ => []
def parB (S : SC) (is : List Nat) (ts es : List Expr) : Bool := match wapS S.sc ts es with
  | some none => nmsB S is ts && decide (is.length = ts.length) && decide (is.length ≤ lim) && ts.all nst
  | some (some ns) => locsB S is ts && decide is.Nodup && decide (is.length = ts.length) && decide (ts.length = es.length) && decide (namesOf ts = ns) && (decide (is.length = 2) || decide (is.length = 3))
  | none => false
def setB (S : SC) (x : Str) (py : Pos) (a : T) (e : Expr) : Bool := !isComp e || (match e with
  | .ListComp _ _ scope pos => if swTo S.sc scope x py.line pos.line = true then isLc1 a && decide (S.sc.names.lookup x = some .local) else true
  | _ => false)
def asgB (tg e : Expr) : Bool := nst tg && !isComp e && (!isTupE e || !isSeqE tg)

def k_var (G : GC) (S : SC) (i : Nat)  (ob : Ob) : Bool := match ob with
    | .e (.Name x _) => varB S i x
    | _ => false
def k_cst (G : GC) (S : SC) (d : D)  (ob : Ob) : Bool := match ob with
    | .e (.Constant k _ _) => cstB k d
    | _ => false
def k_glo (G : GC) (S : SC) (d : D)  (ob : Ob) : Bool := match ob with
    | .e (.Name x _) => glB S x && okNm x && (match G.cns.lookup x with
      | some d' => beqD d' d
      | none => false)
    | _ => false
def k_bin (G : GC) (S : SC) (o : Operator) (a : T) (b : T) (ka : SC → Ob → Bool) (kb : SC → Ob → Bool) (ob : Ob) : Bool := match ob with
    | .e (.BinOp x o' y _) => decide (o = o') && binOk o && ka S (.e x) && kb S (.e y)
    | _ => false
def k_cmp (G : GC) (S : SC) (o : CmpOp) (a : T) (b : T) (ka : SC → Ob → Bool) (kb : SC → Ob → Bool) (ob : Ob) : Bool := match ob with
    | .e (.Compare x [o'] [y] _) => decide (o = o') && cmpMk y && ka S (.e x) && kb S (.e y)
    | _ => false
def k_chn (G : GC) (S : SC) (o : CmpOp) (o2 : CmpOp) (a : T) (b : T) (k : T) (ka : SC → Ob → Bool) (kb : SC → Ob → Bool) (kk : SC → Ob → Bool) (ob : Ob) : Bool := match ob with
    | .e (.Compare x [o', o2'] [y, z] _) => decide (o = o') && decide (o2 = o2') && cmpMk z && ka S (.e x) && kb S (.e y) && kk S (.e z)
    | _ => false
def k_neg (G : GC) (S : SC) (a : T) (ka : SC → Ob → Bool) (ob : Ob) : Bool := match ob with
    | .e (.UnaryOp .USub x _) => ka S (.e x)
    | _ => false
def k_inv (G : GC) (S : SC) (a : T) (ka : SC → Ob → Bool) (ob : Ob) : Bool := match ob with
    | .e (.UnaryOp .Not x _) => ka S (.e x)
    | _ => false
def k_b1 (G : GC) (S : SC) (a : T) (ka : SC → Ob → Bool) (ob : Ob) : Bool := match ob with
    | .e (.BoolOp _ [x] _) => ka S (.e x)
    | _ => false
def k_b2 (G : GC) (S : SC) (o : BoolOp) (a : T) (r : T) (ka : SC → Ob → Bool) (kr : SC → Ob → Bool) (ob : Ob) : Bool := match ob with
    | .e (.BoolOp o' (x :: y :: z) p) => decide (o = o') && ka S (.e x) && kr S (.e (.BoolOp o' (y :: z) p))
    | _ => false
def k_ife (G : GC) (S : SC) (t : T) (a : T) (b : T) (kt : SC → Ob → Bool) (ka : SC → Ob → Bool) (kb : SC → Ob → Bool) (ob : Ob) : Bool := match ob with
    | .e (.IfExp x y z _) => kt S (.e x) && ka S (.e y) && kb S (.e z)
    | _ => false
def k_tup (G : GC) (S : SC) (as : T) (kas : SC → Ob → Bool) (ob : Ob) : Bool := match ob with
    | .e (.Tuple es _ _) => kas S (.es es)
    | _ => false
def k_lst (G : GC) (S : SC) (as : T) (kas : SC → Ob → Bool) (ob : Ob) : Bool := match ob with
    | .e (.List es _) => kas S (.es es)
    | _ => false
def k_ix (G : GC) (S : SC) (a : T) (b : T) (ka : SC → Ob → Bool) (kb : SC → Ob → Bool) (ob : Ob) : Bool := match ob with
    | .e (.Subscript x y _) => ixOk y && ka S (.e x) && kb S (.e y)
    | _ => false
def k_sl (G : GC) (S : SC) (a : T) (lo : T) (hi : T) (ka : SC → Ob → Bool) (klo : SC → Ob → Bool) (khi : SC → Ob → Bool) (ob : Ob) : Bool := match ob with
    | .e (.Subscript x (.Slice l h none _) _) => ka S (.e x) && klo S (.o l) && khi S (.o h)
    | _ => false
def k_nop (G : GC) (S : SC)   (ob : Ob) : Bool := match ob with
    | .o none => true
    | _ => false
def k_pt (G : GC) (S : SC) (a : T) (ka : SC → Ob → Bool) (ob : Ob) : Bool := match ob with
    | .o (some e) => ka S (.e e)
    | _ => false
def k_scr (G : GC) (S : SC) (i : Nat)  (ob : Ob) : Bool := match ob with
    | .e (.Subscript (.Name x _) (.Slice none (some (.Constant (.int k) _ _)) none _) _) => varB S i x && decide (k = 63)
    | _ => false
def k_pix (G : GC) (S : SC) (i : Nat) (k : T) (kk : SC → Ob → Bool) (ob : Ob) : Bool := match ob with
    | .e (.Subscript (.Name x _) y _) => varB S i x && ixOk y && kk S (.e y)
    | _ => false
def k_pln (G : GC) (S : SC) (i : Nat)  (ob : Ob) : Bool := match ob with
    | .e (.Call (.Name f _) [.Name x _] [] _) => decide (f = ("len" : Str)) && blB S G f && varB S i x
    | _ => false
def k_bi (G : GC) (S : SC) (f : BF) (as : T) (kas : SC → Ob → Bool) (ob : Ob) : Bool := match ob with
    | .e (.Call (.Name x _) (e :: es) [] _) => decide (x = f.name) && blB S G x && (e :: es).all nst && kas S (.es (e :: es))
    | _ => false
def k_isa (G : GC) (S : SC) (s : Ty) (a : T) (ka : SC → Ob → Bool) (ob : Ob) : Bool := match ob with
    | .e (.Call (.Name x _) [e, .Name t _] [] _) => decide (x = ("isinstance" : Str)) && blB S G x && blB S G t && decide (t = ofTy s) && !(t == ("__name__" : Str)) && okNm t && nst e && ka S (.e e)
    | _ => false
def k_cal (G : GC) (S : SC) (j : Nat) (as : T) (kas : SC → Ob → Bool) (ob : Ob) : Bool := match ob with
    | .e (.Call (.Name x _) es [] _) => glB S x && okNm x && decide (G.fns[j]? = some (x, es.length)) && es.all nst && decide ((flT as).length = es.length) && kas S (.bs es)
    | _ => false
def k_plc (G : GC) (S : SC) (a : T) (e : T) (ka : SC → Ob → Bool) (ke : SC → Ob → Bool) (ob : Ob) : Bool := match ob with
    | .e (.Call (.Attribute x m apos) [y] [] cpos) => decide (m = ("index" : Str)) && baseOk2 x && nst y && (apos.endLine == cpos.line) && ka S (.e x) && ke S (.e y)
    | _ => false
def k_lc (G : GC) (S : SC) (vs : List Nat) (tg : T) (it : T) (t : T) (e : T) (ktg : SC → Ob → Bool) (kit : SC → Ob → Bool) (kt : SC → Ob → Bool) (ke : SC → Ob → Bool) (ob : Ob) : Bool := match ob with
    | .e (.ListComp elt [⟨tgx, iter, ifs, 0⟩] scope _) => blkB S scope vs && (tgs tg).all (fun i => decide (i ∈ vs)) && setOk iter && kit S (.i tgx iter) && ktg (S.blk scope) (.g tgx) && ke (S.blk scope) (.e elt) && (match ifs with
      | [] => isYes t
      | [x] => kt (S.blk scope) (.e x)
      | _ => false)
    | _ => false
def k_lc2 (G : GC) (S : SC) (vs : List Nat) (vs1 : List Nat) (tg : T) (it : T) (t : T) (tg1 : T) (it1 : T) (t1 : T) (e : T) (ktg : SC → Ob → Bool) (kit : SC → Ob → Bool) (kt : SC → Ob → Bool) (ktg1 : SC → Ob → Bool) (kit1 : SC → Ob → Bool) (kt1 : SC → Ob → Bool) (ke : SC → Ob → Bool) (ob : Ob) : Bool := match ob with
    | .e (.ListComp elt [⟨tgx, iter, ifs, 0⟩, ⟨tgx1, iter1, ifs1, 0⟩] scope _) => blkB S scope vs && (tgs tg).all (fun i => decide (i ∈ vs)) && vs1.all (fun i => decide (i ∈ vs)) && (tgs tg1).all (fun i => decide (i ∈ vs1)) && setOk iter && setOk iter1 && kit S (.i tgx iter) && ktg (S.blk scope) (.g tgx) && ke (S.blk scope) (.e elt)
      && kit1 (S.blk scope) (.i tgx1 iter1) && ktg1 (S.blk scope) (.g tgx1) && (match ifs with
      | [] => isYes t
      | [x] => kt (S.blk scope) (.e x)
      | _ => false) && (match ifs1 with
      | [] => isYes t1
      | [x] => kt1 (S.blk scope) (.e x)
      | _ => false)
    | _ => false
def k_nil (G : GC) (S : SC)   (ob : Ob) : Bool := match ob with
    | .es [] => true
    | .bs [] => true
    | .xs [] [] => true
    | .gs [] => true
    | _ => false
def k_con (G : GC) (S : SC) (a : T) (t : T) (ka : SC → Ob → Bool) (kt : SC → Ob → Bool) (ob : Ob) : Bool := match ob with
    | .es (e :: es) => nst e && ka S (.e e) && kt S (.es es)
    | .bs (e :: es) => nst e && ka S (.e e) && kt S (.bs es)
    | .xs (b :: fl) (e :: es) => nst e && (!b || frB a) && ka S (.e e) && kt S (.xs fl es)
    | .gs (e :: es) => nst e && ka S (.g e) && kt S (.gs es)
    | _ => false
def k_rfc (G : GC) (S : SC) (i : Nat) (t : T) (kt : SC → Ob → Bool) (ob : Ob) : Bool := match ob with
    | .bs (.Name x _ :: es) => varB S i x && kt S (.bs es)
    | _ => false
def k_gn (G : GC) (S : SC) (i : Nat)  (ob : Ob) : Bool := match ob with
    | .g (.Name x _) => stoB S i x
    | _ => false
def k_gt (G : GC) (S : SC) (n : Nat) (g : T) (kg : SC → Ob → Bool) (ob : Ob) : Bool := match ob with
    | .g (.Tuple es _ _) => decide (es.length = n) && es.all nst && kg S (.gs es)
    | _ => false
def k_itr (G : GC) (S : SC) (a : T) (ka : SC → Ob → Bool) (ob : Ob) : Bool := match ob with
    | .i _ e => ka S (.e e)
    | _ => false
def k_rg1 (G : GC) (S : SC) (as : T) (kas : SC → Ob → Bool) (ob : Ob) : Bool := match ob with
    | .i _ (.Call (.Name x _) [a] [] _) => decide (x = ("range" : Str)) && blB S G x && nst a && kas S (.es [a])
    | _ => false
def k_rg2 (G : GC) (S : SC) (as : T) (kas : SC → Ob → Bool) (ob : Ob) : Bool := match ob with
    | .i _ (.Call (.Name x _) [a, b] [] _) => decide (x = ("range" : Str)) && blB S G x && nst a && nst b && kas S (.es [a, b])
    | _ => false
def k_zpp (G : GC) (S : SC) (as : T) (kas : SC → Ob → Bool) (ob : Ob) : Bool := match ob with
    | .i (.Tuple _ _ _) (.Call (.Name x _) [a, b] [] _) => decide (x = ("zip" : Str)) && blB S G x && nst a && nst b && kas S (.es [a, b])
    | _ => false
def k_enu (G : GC) (S : SC) (as : T) (kas : SC → Ob → Bool) (ob : Ob) : Bool := match ob with
    | .i (.Tuple _ _ _) (.Call (.Name x _) [a] [] _) => decide (x = ("enumerate" : Str)) && blB S G x && nst a && kas S (.es [a])
    | _ => false
def k_skp (G : GC) (S : SC)   (ob : Ob) : Bool := match ob with
    | .ss [] => true
    | _ => false
def k_seq (G : GC) (S : SC) (a : T) (b : T) (ka : SC → Ob → Bool) (kb : SC → Ob → Bool) (ob : Ob) : Bool := match ob with
    | .ss (s :: ss) => ka S (.s s) && kb S (.ss ss)
    | _ => false
def k_ret (G : GC) (S : SC) (a : T) (ka : SC → Ob → Bool) (ob : Ob) : Bool := match ob with
    | .s (.Return (some e) _) => ka S (.e e)
    | _ => false
def k_rtn (G : GC) (S : SC)   (ob : Ob) : Bool := match ob with
    | .s (.Return none _) => true
    | _ => false
def k_brk (G : GC) (S : SC)   (ob : Ob) : Bool := match ob with
    | .s (.Break _) => true
    | _ => false
def k_cnt (G : GC) (S : SC)   (ob : Ob) : Bool := match ob with
    | .s (.Continue _) => true
    | _ => false
def k_pss (G : GC) (S : SC)   (ob : Ob) : Bool := match ob with
    | .s (.Pass _) => true
    | _ => false
def k_doc (G : GC) (S : SC)   (ob : Ob) : Bool := match ob with
    | .s (.Expr (.Constant (.str _) _ _) _) => true
    | _ => false
def k_nev (G : GC) (S : SC)   (ob : Ob) : Bool := match ob with
    | .s _ => true
    | _ => false
def k_ifs (G : GC) (S : SC) (t : T) (a : T) (b : T) (kt : SC → Ob → Bool) (ka : SC → Ob → Bool) (kb : SC → Ob → Bool) (ob : Ob) : Bool := match ob with
    | .s (.If x y z _) => kt S (.e x) && ka S (.ss y) && kb S (.ss z)
    | _ => false
def k_set (G : GC) (S : SC) (i : Nat) (a : T) (ka : SC → Ob → Bool) (ob : Ob) : Bool := match ob with
    | .s (.Assign [.Name x py] e _) => stoB S i x && setB S x py a e && ka S (.e e)
    | _ => false
def k_sto (G : GC) (S : SC) (i : Nat) (a : T) (ka : SC → Ob → Bool) (ob : Ob) : Bool := match ob with
    | .s (.Assign [.Name x py] e _) => stoB S i x && setB S x py a e && frB a && ka S (.e e)
    | _ => false
def k_aug (G : GC) (S : SC) (i : Nat) (o : Operator) (a : T) (ka : SC → Ob → Bool) (ob : Ob) : Bool := match ob with
    | .s (.AugAssign (.Name x _) o' e _) => stoB S i x && decide (o = o') && (decide (o = .Add) || decide (o = .Sub)) && ka S (.e e)
    | _ => false
def k_app (G : GC) (S : SC) (i : Nat) (a : T) (ka : SC → Ob → Bool) (ob : Ob) : Bool := match ob with
    | .s (.Expr (.Call (.Attribute (.Name x _) m apos) [e] [] cpos) _) => decide (m = ("append" : Str)) && varB S i x && nst e && (apos.endLine == cpos.line) && ka S (.e e)
    | _ => false
def k_put (G : GC) (S : SC) (i : Nat) (k : T) (a : T) (kk : SC → Ob → Bool) (ka : SC → Ob → Bool) (ob : Ob) : Bool := match ob with
    | .s (.Assign [.Subscript (.Name x _) y _] e _) => varB S i x && ixOk y && !isComp e && kk S (.e y) && ka S (.e e)
    | _ => false
def k_frl (G : GC) (S : SC) (tg : T) (it : T) (b : T) (ktg : SC → Ob → Bool) (kit : SC → Ob → Bool) (kb : SC → Ob → Bool) (ob : Ob) : Bool := match ob with
    | .s (.For t e body [] _) => S.top && setOk e && kit S (.i t e) && ktg S (.g t) && kb S (.ss body)
    | _ => false
def k_whl (G : GC) (S : SC) (n : Nat) (t : T) (b : T) (kt : SC → Ob → Bool) (kb : SC → Ob → Bool) (ob : Ob) : Bool := match ob with
    | .s (.While e body [] _) => S.top && kt S (.e e) && kb S (.ss body)
    | _ => false
def k_drp (G : GC) (S : SC) (a : T) (ka : SC → Ob → Bool) (ob : Ob) : Bool := match ob with
    | .s (.Expr e _) => !isComp e && ka S (.e e)
    | _ => false
def k_par (G : GC) (S : SC) (is : List Nat) (fl : List Bool) (as : T) (kas : SC → Ob → Bool) (ob : Ob) : Bool := match ob with
    | .s (.Assign [.Tuple ts _ _] (.Tuple es _ _) _) => parB S is ts es && decide (fl.length = is.length) && kas S (.xs fl es)
    | _ => false
def k_asg (G : GC) (S : SC) (g : T) (a : T) (kg : SC → Ob → Bool) (ka : SC → Ob → Bool) (ob : Ob) : Bool := match ob with
    | .s (.Assign [t] e _) => asgB t e && kg S (.g t) && ka S (.e e)
    | _ => false
def chk (G : GC) : SC → T → Ob → Bool
  | S, .var i, ob => k_var G S i  ob
  | S, .cst d, ob => k_cst G S d  ob
  | S, .glo d, ob => k_glo G S d  ob
  | S, .bin o a b, ob => k_bin G S o a b (fun S ob => chk G S a ob) (fun S ob => chk G S b ob) ob
  | S, .cmp o a b, ob => k_cmp G S o a b (fun S ob => chk G S a ob) (fun S ob => chk G S b ob) ob
  | S, .chn o o2 a b k, ob => k_chn G S o o2 a b k (fun S ob => chk G S a ob) (fun S ob => chk G S b ob) (fun S ob => chk G S k ob) ob
  | S, .neg a, ob => k_neg G S a (fun S ob => chk G S a ob) ob
  | S, .inv a, ob => k_inv G S a (fun S ob => chk G S a ob) ob
  | S, .b1 a, ob => k_b1 G S a (fun S ob => chk G S a ob) ob
  | S, .b2 o a r, ob => k_b2 G S o a r (fun S ob => chk G S a ob) (fun S ob => chk G S r ob) ob
  | S, .ife t a b, ob => k_ife G S t a b (fun S ob => chk G S t ob) (fun S ob => chk G S a ob) (fun S ob => chk G S b ob) ob
  | S, .tup as, ob => k_tup G S as (fun S ob => chk G S as ob) ob
  | S, .lst as, ob => k_lst G S as (fun S ob => chk G S as ob) ob
  | S, .ix a b, ob => k_ix G S a b (fun S ob => chk G S a ob) (fun S ob => chk G S b ob) ob
  | S, .sl a lo hi, ob => k_sl G S a lo hi (fun S ob => chk G S a ob) (fun S ob => chk G S lo ob) (fun S ob => chk G S hi ob) ob
  | S, .nop , ob => k_nop G S   ob
  | S, .pt a, ob => k_pt G S a (fun S ob => chk G S a ob) ob
  | S, .scr i, ob => k_scr G S i  ob
  | S, .pix i k, ob => k_pix G S i k (fun S ob => chk G S k ob) ob
  | S, .pln i, ob => k_pln G S i  ob
  | S, .bi f as, ob => k_bi G S f as (fun S ob => chk G S as ob) ob
  | S, .isa s a, ob => k_isa G S s a (fun S ob => chk G S a ob) ob
  | S, .cal j as, ob => k_cal G S j as (fun S ob => chk G S as ob) ob
  | S, .plc a e, ob => k_plc G S a e (fun S ob => chk G S a ob) (fun S ob => chk G S e ob) ob
  | S, .lc vs tg it t e, ob => k_lc G S vs tg it t e (fun S ob => chk G S tg ob) (fun S ob => chk G S it ob) (fun S ob => chk G S t ob) (fun S ob => chk G S e ob) ob
  | S, .lc2 vs vs1 tg it t tg1 it1 t1 e, ob => k_lc2 G S vs vs1 tg it t tg1 it1 t1 e (fun S ob => chk G S tg ob) (fun S ob => chk G S it ob) (fun S ob => chk G S t ob) (fun S ob => chk G S tg1 ob) (fun S ob => chk G S it1 ob) (fun S ob => chk G S t1 ob) (fun S ob => chk G S e ob) ob
  | S, .nil , ob => k_nil G S   ob
  | S, .con a t, ob => k_con G S a t (fun S ob => chk G S a ob) (fun S ob => chk G S t ob) ob
  | S, .rfc i t, ob => k_rfc G S i t (fun S ob => chk G S t ob) ob
  | S, .gn i, ob => k_gn G S i  ob
  | S, .gt n g, ob => k_gt G S n g (fun S ob => chk G S g ob) ob
  | S, .itr a, ob => k_itr G S a (fun S ob => chk G S a ob) ob
  | S, .rg1 as, ob => k_rg1 G S as (fun S ob => chk G S as ob) ob
  | S, .rg2 as, ob => k_rg2 G S as (fun S ob => chk G S as ob) ob
  | S, .zpp as, ob => k_zpp G S as (fun S ob => chk G S as ob) ob
  | S, .enu as, ob => k_enu G S as (fun S ob => chk G S as ob) ob
  | S, .skp , ob => k_skp G S   ob
  | S, .seq a b, ob => k_seq G S a b (fun S ob => chk G S a ob) (fun S ob => chk G S b ob) ob
  | S, .ret a, ob => k_ret G S a (fun S ob => chk G S a ob) ob
  | S, .rtn , ob => k_rtn G S   ob
  | S, .brk , ob => k_brk G S   ob
  | S, .cnt , ob => k_cnt G S   ob
  | S, .pss , ob => k_pss G S   ob
  | S, .doc , ob => k_doc G S   ob
  | S, .nev , ob => k_nev G S   ob
  | S, .ifs t a b, ob => k_ifs G S t a b (fun S ob => chk G S t ob) (fun S ob => chk G S a ob) (fun S ob => chk G S b ob) ob
  | S, .set i a, ob => k_set G S i a (fun S ob => chk G S a ob) ob
  | S, .sto i a, ob => k_sto G S i a (fun S ob => chk G S a ob) ob
  | S, .aug i o a, ob => k_aug G S i o a (fun S ob => chk G S a ob) ob
  | S, .app i a, ob => k_app G S i a (fun S ob => chk G S a ob) ob
  | S, .put i k a, ob => k_put G S i k a (fun S ob => chk G S k ob) (fun S ob => chk G S a ob) ob
  | S, .frl tg it b, ob => k_frl G S tg it b (fun S ob => chk G S tg ob) (fun S ob => chk G S it ob) (fun S ob => chk G S b ob) ob
  | S, .whl n t b, ob => k_whl G S n t b (fun S ob => chk G S t ob) (fun S ob => chk G S b ob) ob
  | S, .drp a, ob => k_drp G S a (fun S ob => chk G S a ob) ob
  | S, .par is fl as, ob => k_par G S is fl as (fun S ob => chk G S as ob) ob
  | S, .asg g a, ob => k_asg G S g a (fun S ob => chk G S g ob) (fun S ob => chk G S a ob) ob
  | _, .yes, _ => false
end Py

/-! Py, part T: what the checker grants. -/
namespace Py
open PySem L2

structure Glob (P : Program) (w : World) (K : PySem.W.Frag) (mg : Str → Option Value) (base : Heap) (cls : Nat → Addr) (k : Nat) (cl : Nat → O1) (G : GC) : Prop where
  bl : ∀ x ∈ G.bls, mg x = none
  cn : ∀ x d, G.cns.lookup x = some d → ∃ u v, mg x = some u ∧ RelV v u ∧ ∀ B H, Rep K B H d v
  fn : ∀ j x n, G.fns[j]? = some (x, n) → ∃ f fd ps, mg x = some (.ref f) ∧ PySem.W.keepIn K (.ref f) = true ∧ Binds K fd ps [] ∧ ps.length = n ∧ FnOk P w K mg base (L2.CX P w) k f fd ps (spG K cls ps.length (cl j))
structure Ctx (G : GC) (S : SC) (cl : Nat → O1) (X : Cx) (c : Cfg) (E : EX) : Prop where
  N : X.N = S.N
  sc : X.env.scope = S.sc
  nd : S.N.Nodup
  kind : S.sc.kind = .function
  fnc : ∀ x, S.raw.names.lookup x = some .cell → X.fn x = true
  K : X.K = c.K
  calm : X.calm = true
  room : ∃ k, Room k X.A ∧ Glob X.prog X.w X.K X.mg X.base c.cls k cl G
  ps : ∃ Ex, Passes (L2.CX X.prog X.w) X Ex ∧ ∀ n d H', E n d H' → exOf c.K c.B0 c.cls Ex n d H'
  own : S.top = true → PassesOwn (model X.prog X.w) X.A X.env X.xe
section
variable {G : GC} {S : SC} {cl : Nat → O1} {X : Cx} {c : Cfg} {E : EX}
theorem Ctx.units (C : Ctx G S cl X c E) : X.A.units + 64 < cLine := by obtain ⟨k, r, _⟩ := C.room; exact r.units
theorem Ctx.blk (C : Ctx G S cl X c E) {scope : Scope} (hk : scope.kind = .function) (s : Shared) (H : Hp) (a : Addr) (clo : List (Str × Addr)) (fp : List Addr) :
    Ctx G (S.blk scope) cl (X.blk s H scope (PySem.compEnvC scope clo a X.env) fp) c EN where
  N := C.N
  sc := by show relS scope X.env.scope = relS scope S.sc; rw [C.sc]
  nd := C.nd
  kind := hk
  fnc x h := by show (scope.names.lookup x == some .cell) = true; exact beq_iff_eq.mpr h
  K := C.K
  calm := C.calm
  room := C.room
  ps := ⟨E0, passL, fun _ _ _ h => h.elim⟩
  own h := by cases h
theorem okNm_and {x : Str} (h : okNm x = true) : (x == ("__debug__" : Str)) = false ∧ (x == ("__classdict__" : Str)) = false := by
  unfold okNm at h
  simpa using h
theorem Ctx.vis (C : Ctx G S cl X c E) {x : Str} (h : visB S.sc x = true) : Vis X.env.scope x := by
  unfold visB at h
  rw [← C.sc] at h
  split at h
  · exact .inl ‹_›
  · exact .inr (.inl ‹_›)
  · exact .inr (.inr ‹_›)
  · cases h
theorem Ctx.var (C : Ctx G S cl X c E) {i : Nat} {x : Str} (h : varB S i x = true) : X.N[i]? = some x ∧ Vis X.env.scope x ∧ (x == ("__debug__" : Str)) = false ∧ (x == ("__classdict__" : Str)) = false := by
  unfold varB at h
  simp only [Bool.and_eq_true, decide_eq_true_eq] at h
  exact ⟨by rw [C.N]; exact h.1.1, C.vis h.1.2, okNm_and h.2⟩
theorem Ctx.gl (C : Ctx G S cl X c E) {x : Str} (h : glB S x = true) : Gl X x := by
  unfold glB at h
  rw [decide_eq_true_eq, ← C.sc] at h
  exact h
theorem Ctx.bl (C : Ctx G S cl X c E) {x : Str} (h : blB S G x = true) : Gl X x ∧ X.mg x = none := by
  unfold blB at h
  rw [Bool.and_eq_true, decide_eq_true_eq] at h
  obtain ⟨k, _, g⟩ := C.room
  exact ⟨C.gl h.1, g.bl x h.2⟩
theorem Ctx.sto (C : Ctx G S cl X c E) {i : Nat} {x : Str} (h : stoB S i x = true) : Stor X i x := by
  unfold stoB at h
  simp only [Bool.and_eq_true, Bool.or_eq_true, decide_eq_true_eq] at h
  obtain ⟨h1, h2⟩ := h
  refine ⟨by rw [C.N]; exact C.nd, by rw [C.N]; exact h1, ?_, ?_⟩
  · rw [C.sc]
    rcases h2 with h2 | ⟨h2, _⟩
    · exact .inl h2
    · exact .inr h2
  · rcases h2 with h2 | ⟨_, h2⟩
    · exact .inr (by rw [C.sc]; exact h2)
    · exact .inl (C.fnc x h2)
theorem Ctx.loc (C : Ctx G S cl X c E) {i : Nat} {x : Str} (h : locB S i x = true) : X.N[i]? = some x ∧ X.env.scope.names.lookup x = some .local := by
  unfold locB at h
  simp only [Bool.and_eq_true, decide_eq_true_eq] at h
  exact ⟨by rw [C.N]; exact h.1, by rw [C.sc]; exact h.2⟩
theorem Ctx.knd (C : Ctx G S cl X c E) : X.env.scope.kind = .function := by rw [C.sc]; exact C.kind
theorem Ctx.ndX (C : Ctx G S cl X c E) : X.N.Nodup := by rw [C.N]; exact C.nd
theorem Ctx.blkOk (C : Ctx G S cl X c E) {scope : Scope} {vs : List Nat} (h : blkB S scope vs = true) : Blk X (ownOf S.N vs) scope ∧ (ownOf S.N vs).map (·.2) = vs ∧ scope.kind = .function := by
  unfold blkB at h
  simp only [Bool.and_eq_true, decide_eq_true_eq, List.all_eq_true, Bool.or_eq_true, Bool.not_eq_true', decide_eq_false_iff_not, Bool.or_eq_false_iff] at h
  obtain ⟨⟨⟨⟨h1, h2⟩, h3⟩, h4⟩, h5⟩ := h
  refine ⟨⟨C.calm, C.ndX, ⟨h1, h2, ?_, ?_, ?_⟩⟩, ?_, h1⟩
  · intro p hp
    obtain ⟨v, hv, rfl⟩ := List.mem_map.mp hp
    rw [C.N]
    have := h3 v hv
    show S.N[v]? = some (S.N.getD v ⟨#[]⟩)
    rw [List.getElem?_eq_getElem this, List.getD_eq_getElem?_getD, List.getElem?_eq_getElem this]
    rfl
  · intro y hy e
    rw [C.sc]
    rcases h4 y hy with (z | z) | z
    · exact absurd e z
    · exact .inl z
    · exact .inr z
  · intro y hy e
    rw [C.N]
    rcases h5 y hy with (z | z) | z
    · rcases e with e | e
      · exact absurd e z.1
      · exact absurd e z.2
    · exact .inl z
    · exact .inr z
  · unfold ownOf
    rw [List.map_map]
    show vs.map id = vs
    exact List.map_id _
end
/-- the operators -/
theorem bin_ok {X : Cx} {c : Cfg} (hK : X.K = c.K) : ∀ {o : Operator}, binOk o = true → ∃ q, OpR X (binaryOp o) q ∧ Op2 c q (binF o)
  | .Add, _ => ⟨_, op_addA, by rw [hK]; exact i2_add⟩
  | .Sub, _ => ⟨_, op_sub, i2_sub⟩
  | .Mult, _ => ⟨_, op_mulA, by rw [hK]; exact i2_mul⟩
  | .FloorDiv, _ => ⟨_, op_fdivW, i2_div⟩
  | .Mod, _ => ⟨_, op_mod, i2_mod⟩
  | .Pow, _ => ⟨_, op_pow, i2_pow⟩
  | .MatMult, h => by cases h
  | .Div, h => by cases h
  | .LShift, h => by cases h
  | .RShift, h => by cases h
  | .BitOr, h => by cases h
  | .BitXor, h => by cases h
  | .BitAnd, h => by cases h
theorem cmp_ok {X : Cx} {c : Cfg} (hK : X.K = c.K) (hu : X.A.units + 64 < cLine) : ∀ o : CmpOp, ∃ q, OpR X (compareOp o) q ∧ Op2 c q (cmpF o)
  | .Eq => ⟨_, op_eqB hu, by rw [hK]; exact op2_D2 bEq_pl⟩
  | .NotEq => ⟨_, op_neB hu, by rw [hK]; exact op2_D2 bNe_pl⟩
  | .Lt => ⟨_, op_lt.or (op_ltB hu), by rw [hK]; exact i2_lt⟩
  | .LtE => ⟨_, op_le.or (op_leB hu), by rw [hK]; exact i2_le⟩
  | .Gt => ⟨_, op_gt.or (op_gtB hu), by rw [hK]; exact i2_gt⟩
  | .GtE => ⟨_, op_ge.or (op_geB hu), by rw [hK]; exact i2_ge⟩
  | .Is => ⟨_, op_isA, i2_is⟩
  | .IsNot => ⟨_, op_isNotA, i2_isNot⟩
  | .In => ⟨_, (op_inB hu).or op_in_str, by rw [hK]; exact i2_in⟩
  | .NotIn => ⟨_, (op_notInB hu).or op_notin_str, by rw [hK]; exact i2_notIn⟩
theorem call_ok {X : Cx} {c : Cfg} {E : EX} {oa : O1} {e : Expr} {es : List Expr} {p pos : Pos} (hK : X.K = c.K) (hu : X.A.units + 64 < cLine) (hc : X.calm = true) : ∀ {f : BF}, Gl X f.name → X.mg f.name = none → PA X (e :: es) (denA c E oa) → (e :: es).all nst = true →
    PE X (.Call (.Name f.name p) (e :: es) [] pos) (denE c E (oCall f.f oa))
  | .len, g, m, h, s => snd_callB call_len (by rw [hK]; exact iN_len) g m (by decide +kernel) h (by decide) (by decide) (star_cons (by simp at s; exact s.1)) (star_any (by simpa using (by simp at s; exact s.2)))
  | .abs, g, m, h, s => snd_callB call_abs iN_abs g m (by decide +kernel) h (by decide) (by decide) (star_cons (by simp at s; exact s.1)) (star_any (by simpa using (by simp at s; exact s.2)))
  | .int, g, m, h, s => snd_callTy call_int1 iN_int g m (by decide +kernel) h (by decide) (by decide) (star_cons (by simp at s; exact s.1)) (star_any (by simpa using (by simp at s; exact s.2)))
  | .sum, g, m, h, s => snd_callB ((cr_sum hc).or (cr_sumT hc)) (by rw [hK]; exact iN_sum) g m (by decide +kernel) h (by decide) (by decide) (star_cons (by simp at s; exact s.1)) (star_any (by simpa using (by simp at s; exact s.2)))
  | .all, g, m, h, s => snd_callB (cr_all hc) (by rw [hK]; exact iN_all) g m (by decide +kernel) h (by decide) (by decide) (star_cons (by simp at s; exact s.1)) (star_any (by simpa using (by simp at s; exact s.2)))
  | .any, g, m, h, s => snd_callB (cr_any hc) (by rw [hK]; exact iN_any) g m (by decide +kernel) h (by decide) (by decide) (star_cons (by simp at s; exact s.1)) (star_any (by simpa using (by simp at s; exact s.2)))
  | .list, g, m, h, s => snd_callTy call_list_of (by rw [hK]; exact iN_list) g m (by decide +kernel) h (by decide) (by decide) (star_cons (by simp at s; exact s.1)) (star_any (by simpa using (by simp at s; exact s.2)))
  | .tuple, g, m, h, s => snd_callTy call_tuple_of (by rw [hK]; exact iN_tuple) g m (by decide +kernel) h (by decide) (by decide) (star_cons (by simp at s; exact s.1)) (star_any (by simpa using (by simp at s; exact s.2)))
  | .max, g, m, h, s => snd_callB ((call_max2 hc).or (cr_maxB hc hu)) (by rw [hK]; exact iN_max) g m (by decide +kernel) h (by decide) (by decide) (star_cons (by simp at s; exact s.1)) (star_any (by simpa using (by simp at s; exact s.2)))
  | .min, g, m, h, s => snd_callB ((call_min2 hc).or (cr_minB hc hu)) (by rw [hK]; exact iN_min) g m (by decide +kernel) h (by decide) (by decide) (star_cons (by simp at s; exact s.1)) (star_any (by simpa using (by simp at s; exact s.2)))
end Py

/-! Py, part U: soundness of the checker. -/
namespace Py
open PySem L2

def isBo : Expr → Bool
  | .BoolOp .. => true
  | _ => false
def LcP (cl : Nat → O1) (X : Cx) (c : Cfg) (E : EX) : T → Expr → Prop
  | .lc vs tg it t e, ex => ∃ elt tgx iter ifs scope pos own, ex = .ListComp elt [⟨tgx, iter, ifs, 0⟩] scope pos ∧ Blk X own scope ∧ own.map (·.2) = vs ∧ PI X tgx iter (denI c E (ev cl it)) ∧ Cx.inB X scope (fun Y => PG Y tgx (denG c (tgs tg) (evG tg).1)) ∧
      Cx.inB X scope (fun Y => PTs Y ifs (denT c EN (ev cl t))) ∧ Cx.inB X scope (fun Y => PE Y elt (denE c EN (ev cl e))) ∧ (∀ i ∈ tgs tg, i ∈ vs) ∧ (∀ x, foldedSetIterable iter X.env x = pure x)
  | _, _ => True
structure SndE (cl : Nat → O1) (X : Cx) (c : Cfg) (E : EX) (t : T) (e : Expr) : Prop where
  pe : PE X e (denE c E (ev cl t))
  pt : PT X e (denT c E (ev cl t))
  pw : isBo e = true → PW X e (denT c E (ev cl t))
  pf : frB t = true → PE X e (denF c E (ev cl t))
  lc : LcP cl X c E t e
def Snd (cl : Nat → O1) (X : Cx) (c : Cfg) (E : EX) (t : T) : Ob → Prop
  | .e e => SndE cl X c E t e
  | .es es => PA X es (denA c E (ev cl t))
  | .bs es => PA X es (denB c E (flT t) (ev cl t))
  | .xs fl es => PA X es (denX c E fl (ev cl t))
  | .o e => PO X e (denP c E (ev cl t))
  | .g e => PG X e (denG c (tgs t) (evG t).1)
  | .gs es => PGs X es (denGs c (tgs t) (evG t).2)
  | .i tg e => PI X tg e (denI c E (ev cl t))
  | .s s => PS X s (denS c E (ev cl t))
  | .ss s => PSs X s (denS c E (ev cl t))
theorem SndE.mk1 {cl : Nat → O1} {X : Cx} {c : Cfg} {E : EX} {t : T} {e : Expr} (h : PE X e (denE c E (ev cl t))) (he : tvOk e = true) (hb : isBo e = false) (hf : frB t = false) (hl : LcP cl X c E t e) : SndE cl X c E t e :=
  ⟨h, snd_tv h (tv_ok he), fun z => absurd (hb.symm.trans z) (by decide), fun z => absurd (hf.symm.trans z) (by decide), hl⟩
/-- a test by cases -/
theorem pt_ifx {X : Cx} {t a b : Expr} {tt ta tb : TT} {pos : Pos} (ht : PT X t tt) (ha : PT X a ta) (hb : PT X b tb) : PT X (.IfExp t a b pos) (fun σ H Q => tt σ H fun k H1 => if k = true then ta σ H1 Q else tb σ H1 Q) := by
  refine ⟨fun pins s σ H Q I h => ?_⟩
  show wpAny (model X.prog X.w) X.A (PySem.isTrue (.IfExp t a b pos) X.env (eval (.IfExp t a b pos) X.env)) (TP X pins σ Q) X.xe s
  rw [PySem.isTrue]
  refine wpAny_bind (thn (ht.run pins s σ H _ I h) fun k s1 ⟨H1, I1, q1⟩ => ?_)
  cases k with
  | true =>
    rw [if_pos rfl] at q1
    exact ha.run pins s1 σ H1 Q I1 q1
  | false =>
    rw [if_neg (by decide)] at q1
    exact hb.run pins s1 σ H1 Q I1 q1
theorem snd_ifT {X : Cx} {c : Cfg} {E : EX} {t a b : Expr} {ot oa ob : O1} {pos : Pos} (ht : PT X t (denT c E ot)) (ha : PT X a (denT c E oa)) (hb : PT X b (denT c E ob)) : PT X (.IfExp t a b pos) (denT c E (oIf ot oa ob)) := by
  refine pt_mono (pt_ifx ht ha hb) fun σ H Q ⟨r, B, R, h⟩ => ⟨r, B, R, bndT ppT h fun k r1 H1 B1 _ R1 S1 h1 => ?_⟩
  cases k with
  | true => exact ⟨r1, B1, R1, h1⟩
  | false => exact ⟨r1, B1, R1, h1⟩
theorem snd_chainT {X : Cx} {c : Cfg} {E : EX} {op op' : CmpOp} {q q' : R2} {f g : D → D → Option D} {a b k : Expr} {oa ob oc : O1} {pos : Pos} (ho : OpR X (compareOp op) q) (ho' : OpR X (compareOp op') q') (h2 : Op2 c q f) (h3 : Op2 c q' g)
    (ha : PE X a (denE c E oa)) (hb : PE X b (denE c E ob)) (hc : PE X k (denE c E oc)) (hm : lastMarks [op, op'] [b, k] = false) : PT X (.Compare a [op, op'] [b, k] pos) (denT c E (oChain f g oa ob oc)) :=
  pt_mono (pt_chain ho ho' ha hb hc hm) fun σ H Q ⟨r, B, R, h⟩ => chain_go h2 h3 ⟨r, B, R, h.toE⟩
theorem snd_op {X : Cx} {c : Cfg} {E : EX} : ∀ {o : BoolOp} {a b : Expr} {rest : List Expr} {oa ob : O1} {pos : Pos}, PE X a (denE c E oa) → PE X (.BoolOp o (b :: rest) pos) (denE c E ob) → PE X (.BoolOp o (a :: b :: rest) pos) (denE c E (oBo o oa ob))
  | .And, _, _, _, _, _, _, ha, hb => snd_and ha hb
  | .Or, _, _, _, _, _, _, ha, hb => snd_or ha hb
theorem snd_opT {X : Cx} {c : Cfg} {E : EX} : ∀ {o : BoolOp} {a b : Expr} {rest : List Expr} {oa ob : O1} {pos : Pos}, PT X a (denT c E oa) → PW X (.BoolOp o (b :: rest) pos) (denT c E ob) → PW X (.BoolOp o (a :: b :: rest) pos) (denT c E (oBo o oa ob))
  | .And, _, _, _, _, _, _, ha, hb => snd_andT ha hb
  | .Or, _, _, _, _, _, _, ha, hb => snd_orT ha hb
theorem snd_op1 {X : Cx} {c : Cfg} {E : EX} : ∀ {o : BoolOp} {a : Expr} {oa : O1} {pos : Pos}, PT X a (denT c E oa) → PW X (.BoolOp o [a] pos) (denT c E oa)
  | .And, _, _, _, ha => snd_and1T ha
  | .Or, _, _, _, ha => snd_or1T ha
theorem cst_ok {X : Cx} {c : Cfg} {E : EX} {k : Const} {d : D} {n : Nat} {p : Pos} (h : cstB k d = true) : PE X (.Constant k n p) (denE c E (oC d)) := by
  cases k <;> cases d <;> first | cases h | skip
  · exact snd_c pe_non fun _ _ _ => .non
  · simp only [cstB, beq_iff_eq] at h; subst h
    exact snd_c pe_bl fun _ _ _ => .bl _
  · simp only [cstB, decide_eq_true_eq] at h; subst h
    exact snd_c pe_int fun _ _ _ => .int _
  · simp only [cstB, decide_eq_true_eq] at h; subst h
    exact snd_c pe_str fun _ _ _ => .str _
theorem ip_op {X : Cx} {o : Operator} {q : R2} (h : OpR X (inplaceOp o) q) : PIp X o q := h
theorem aug_ok {X : Cx} {c : Cfg} {o : Operator} (h : o = .Add ∨ o = .Sub) : ∃ q, PIp X o q ∧ Op2 c q (fOpI o) := by
  rcases h with rfl | rfl
  · refine ⟨_, ip_op iop_add, fun B H x y d e g Q nb rx ry h q => ?_⟩
    simp only [fOpI] at h
    split at h
    · cases h; cases rx; cases ry
      exact ⟨_, _, rfl, rfl, q _ H (Ext.refl H) (.int _)⟩
    · cases h
  · exact ⟨_, ip_op iop_sub, i2_sub⟩
section
variable {G : GC} {S : SC} {cl : Nat → O1} {X : Cx} {c : Cfg} {E : EX}
theorem len2 {α : Type} : ∀ {l : List α}, l.length = 2 → ∃ a b, l = [a, b]
  | [a, b], _ => ⟨a, b, rfl⟩
theorem len3 {α : Type} : ∀ {l : List α}, l.length = 3 → ∃ a b c, l = [a, b, c]
  | [a, b, c], _ => ⟨a, b, c, rfl⟩
theorem nms_ok (C : Ctx G S cl X c E) : ∀ {is : List Nat} {es : List Expr}, nmsB S is es = true → PGs X es (gSet is)
  | [], [], _ => pgs_setN
  | i :: is, .Name x p :: es, h => by
    unfold nmsB at h
    rw [Bool.and_eq_true] at h
    exact pgs_setC (C.sto h.1) (nms_ok C h.2)
  | [], _ :: _, h => by cases h
  | _ :: _, [], h => by cases h
theorem wap (C : Ctx G S cl X c E) {ts vs : List Expr} {k k2 : Nat} {p p2 : Pos} {o : Option (List Str)} (h : wapS S.sc ts vs = some o) : swappedStores [.Tuple ts k p] (.Tuple vs k2 p2) X.env = pure o :=
  wap_ok C.knd (by rw [C.sc]; exact h)
theorem par_ok (C : Ctx G S cl X c E) {is : List Nat} {fl : List Bool} {ts es : List Expr} {ot : O1} {k k2 : Nat} {p p2 pos : Pos} (h : parB S is ts es = true) (hf : fl.length = is.length) (ha : PA X es (denX c E fl ot)) :
    PS X (.Assign [.Tuple ts k p] (.Tuple es k2 p2) pos) (denS c E (oPar is fl ot)) := by
  unfold parB at h
  cases ew : wapS S.sc ts es with
  | none => rw [ew] at h; cases h
  | some o =>
    rw [ew] at h
    cases o with
    | none =>
      simp only [Bool.and_eq_true, decide_eq_true_eq] at h
      obtain ⟨⟨⟨h1, h2⟩, h3⟩, h4⟩ := h
      exact snd_parT C.K C.calm hf h4 h2.symm (nms_ok C h1) ha (by rw [hf]; exact h3) (wap C ew)
    | some ns =>
      simp only [Bool.and_eq_true, decide_eq_true_eq, Bool.or_eq_true] at h
      obtain ⟨⟨⟨⟨⟨h1, h2⟩, h3⟩, h4⟩, h5⟩, h6⟩ := h
      rcases h6 with h6 | h6
      · obtain ⟨i, j, rfl⟩ := len2 h6
        obtain ⟨t1, t2, rfl⟩ := len2 h3.symm
        obtain ⟨a, b, rfl⟩ := len2 h4.symm
        cases t1 <;> first | (cases h1; done) | skip
        cases t2 <;> first | (simp [locsB] at h1; done) | skip
        rename_i x px y py
        simp only [locsB, Bool.and_eq_true, Bool.and_true] at h1
        obtain ⟨hi, hx⟩ := C.loc h1.1
        obtain ⟨hj, hy⟩ := C.loc h1.2
        subst h5
        exact snd_par2 (by rw [hf]; rfl) C.calm C.ndX hi hj (by simp at h2; exact h2) hx hy ha (wap C ew)
      · obtain ⟨i, j, l, rfl⟩ := len3 h6
        obtain ⟨t1, t2, t3, rfl⟩ := len3 h3.symm
        obtain ⟨a, b, k, rfl⟩ := len3 h4.symm
        cases t1 <;> first | (cases h1; done) | skip
        cases t2 <;> first | (simp [locsB] at h1; done) | skip
        cases t3 <;> first | (simp [locsB] at h1; done) | skip
        rename_i x px y py z pz
        simp only [locsB, Bool.and_eq_true, Bool.and_true] at h1
        obtain ⟨hi, hx⟩ := C.loc h1.1
        obtain ⟨hj, hy⟩ := C.loc h1.2.1
        obtain ⟨hl, hz⟩ := C.loc h1.2.2
        subst h5
        simp at h2
        exact snd_par3 (by rw [hf]; rfl) C.calm C.ndX hi hj hl h2.1.1 h2.1.2 h2.2 hx hy hz ha (wap C ew)
theorem set_go (C : Ctx G S cl X c E) {i : Nat} {x : Str} {py pos : Pos} {a : T} {e : Expr} (h1 : stoB S i x = true) (h2 : setB S x py a e = true) (q : SndE cl X c E a e) : PS X (.Assign [.Name x py] e pos) (denS c E (oSet i (ev cl a))) := by
  have n := C.sto h1
  unfold setB at h2
  by_cases hc : isComp e = true
  · rw [hc] at h2
    simp only [Bool.not_true, Bool.false_or] at h2
    split at h2
    · rename_i elt gs scope p0
      by_cases hw : swTo S.sc scope x py.line p0.line = true
      · rw [if_pos hw, Bool.and_eq_true, decide_eq_true_eq] at h2
        obtain ⟨hl, hx⟩ := h2
        have hq := q.lc
        cases a with
        | lc vs tg it t el =>
          obtain ⟨elt', tgx, iter, ifs, scope', pos', own, e1, hB, ho, hi, hg, ht, he, hT, hs⟩ := hq
          cases e1
          subst ho
          exact snd_setLc hB n.at' (by rw [C.sc]; exact hx) (by rw [sw_to C.knd, C.sc, hw]) hi hg ht he hT hs
        | _ => cases hl
      · refine snd_set n q.pe ?_ (wap_v rfl)
        rw [sw_to C.knd, C.sc]
        exact congrArg pure (by simpa using hw)
    · cases h2
  · have hc' : isComp e = false := by simpa using hc
    exact snd_set n q.pe (sw_plain hc') (wap_t rfl)
theorem sto_go (C : Ctx G S cl X c E) {i : Nat} {x : Str} {py pos : Pos} {a : T} {e : Expr} (h1 : stoB S i x = true) (h2 : setB S x py a e = true) (hf : frB a = true) (q : SndE cl X c E a e) : PS X (.Assign [.Name x py] e pos) (denS c E (oSetO i (ev cl a))) := by
  have n := C.sto h1
  unfold setB at h2
  by_cases hc : isComp e = true
  · rw [hc] at h2
    simp only [Bool.not_true, Bool.false_or] at h2
    split at h2
    · rename_i elt gs scope p0
      by_cases hw : swTo S.sc scope x py.line p0.line = true
      · rw [if_pos hw, Bool.and_eq_true, decide_eq_true_eq] at h2
        obtain ⟨hl, hx⟩ := h2
        have hq := q.lc
        cases a with
        | lc vs tg it t el =>
          obtain ⟨elt', tgx, iter, ifs, scope', pos', own, e1, hB, ho, hi, hg, ht, he, hT, hs⟩ := hq
          cases e1
          subst ho
          exact snd_setLcF hB n.at' (by rw [C.sc]; exact hx) (by rw [sw_to C.knd, C.sc, hw]) hi hg ht he hT hs
        | _ => cases hl
      · refine snd_setO n (q.pf hf) ?_ (wap_v rfl)
        rw [sw_to C.knd, C.sc]
        exact congrArg pure (by simpa using hw)
    · cases h2
  · have hc' : isComp e = false := by simpa using hc
    exact snd_setO n (q.pf hf) (sw_plain hc') (wap_t rfl)
end
end Py

/-! Py, part V: soundness of the checker, the induction. -/
namespace Py
open PySem L2

section
variable {G : GC} {cl : Nat → O1} {c : Cfg}
theorem pts_of {X : Cx} {E : EX} {ifs : List Expr} {t : T} {b : Bool} (h : (match ifs with
      | [] => isYes t
      | [x] => b
      | _ => false) = true) (k : ∀ x, ifs = [x] → b = true → PT X x (denT c E (ev cl t))) : PTs X ifs (denT c E (ev cl t)) := by
  match ifs, h with
  | [], h =>
    cases t <;> first | (cases h; done) | exact snd_tyes
  | [x], h => exact pts_one (k x rfl h)
theorem snd : ∀ (t : T) (S : SC) (X : Cx) (E : EX) (ob : Ob), Ctx G S cl X c E → chk G S t ob = true → Snd cl X c E t ob := by
  intro t
  induction t with
  | var i =>
    intro S X E ob C h
    rw [chk] at h
    unfold k_var at h
    split at h
    rotate_left
    · cases h
    obtain ⟨h1, h2, h3, h4⟩ := C.var h
    exact .mk1 (snd_var h1 h2 h3 h4) rfl rfl rfl trivial
  | cst d =>
    intro S X E ob C h
    rw [chk] at h
    unfold k_cst at h
    split at h
    rotate_left
    · cases h
    exact .mk1 (cst_ok h) rfl rfl rfl trivial
  | glo d =>
    intro S X E ob C h
    rw [chk] at h
    unfold k_glo at h
    split at h
    rotate_left
    · cases h
    rename_i x p
    simp only [Bool.and_eq_true] at h
    obtain ⟨⟨h1, h2⟩, h3⟩ := h
    cases e : G.cns.lookup x with
    | none => rw [e] at h3; cases h3
    | some d' =>
      rw [e] at h3
      have := beqD_eq h3
      subst this
      obtain ⟨k, _, g⟩ := C.room
      obtain ⟨u, v, hm, ru, rd⟩ := g.cn x d' e
      exact .mk1 (pe_mono (pe_glob (C.gl h1) hm ru (okNm_and h2).1) fun σ H Q ⟨r, B, R, h⟩ => h v H B R (Step.refl _ _) (by rw [← C.K]; exact rd B H)) rfl rfl rfl trivial
  | bin o a b iha ihb =>
    intro S X E ob C h
    rw [chk] at h
    unfold k_bin at h
    split at h
    rotate_left
    · cases h
    rename_i x o' y p
    simp only [Bool.and_eq_true, decide_eq_true_eq] at h
    obtain ⟨⟨⟨rfl, h1⟩, h2⟩, h3⟩ := h
    obtain ⟨q, hq, hf⟩ := bin_ok C.K h1
    exact .mk1 (snd_bin hq hf (iha S X E _ C h2).pe (ihb S X E _ C h3).pe) rfl rfl rfl trivial
  | cmp o a b iha ihb =>
    intro S X E ob C h
    rw [chk] at h
    unfold k_cmp at h
    split at h
    rotate_left
    · cases h
    rename_i x o' y p
    simp only [Bool.and_eq_true, decide_eq_true_eq] at h
    obtain ⟨⟨⟨rfl, h1⟩, h2⟩, h3⟩ := h
    obtain ⟨q, hq, hf⟩ := cmp_ok C.K C.units o
    have pa := (iha S X E _ C h2).pe
    have pb := (ihb S X E _ C h3).pe
    exact ⟨snd_cmp hq hf pa pb (mk_ok h1), snd_cmpT hq hf pa pb (mk_ok h1), (fun z => by cases z), (fun z => by cases z), trivial⟩
  | chn o o2 a b k iha ihb ihk =>
    intro S X E ob C h
    rw [chk] at h
    unfold k_chn at h
    split at h
    rotate_left
    · cases h
    simp only [Bool.and_eq_true, decide_eq_true_eq] at h
    obtain ⟨⟨⟨⟨⟨rfl, rfl⟩, h1⟩, h2⟩, h3⟩, h4⟩ := h
    obtain ⟨q, hq, hf⟩ := cmp_ok C.K C.units o
    obtain ⟨q2, hq2, hf2⟩ := cmp_ok C.K C.units o2
    have pa := (iha S X E _ C h2).pe
    have pb := (ihb S X E _ C h3).pe
    have pk := (ihk S X E _ C h4).pe
    exact ⟨snd_chain hq hq2 hf hf2 pa pb pk (pe_chain hq hq2 pa pb pk (last_ok h1)), snd_chainT hq hq2 hf hf2 pa pb pk (last_ok h1), (fun z => by cases z), (fun z => by cases z), trivial⟩
  | neg a iha =>
    intro S X E ob C h
    rw [chk] at h
    unfold k_neg at h
    split at h
    rotate_left
    · cases h
    exact .mk1 (snd_un un_neg i1_neg (iha S X E _ C h).pe) rfl rfl rfl trivial
  | inv a iha =>
    intro S X E ob C h
    rw [chk] at h
    unfold k_inv at h
    split at h
    rotate_left
    · cases h
    have q := iha S X E _ C h
    exact ⟨snd_not q.pe, snd_notT q.pt, (fun z => by cases z), (fun z => by cases z), trivial⟩
  | b1 a iha =>
    intro S X E ob C h
    rw [chk] at h
    unfold k_b1 at h
    split at h
    rotate_left
    · cases h
    have q := iha S X E _ C h
    exact ⟨snd_one q.pe, (snd_op1 q.pt).pt, fun _ => snd_op1 q.pt, (fun z => by cases z), trivial⟩
  | b2 o a r iha ihr =>
    intro S X E ob C h
    rw [chk] at h
    unfold k_b2 at h
    split at h
    rotate_left
    · cases h
    simp only [Bool.and_eq_true, decide_eq_true_eq] at h
    obtain ⟨⟨rfl, h1⟩, h2⟩ := h
    have q := iha S X E _ C h1
    have qr := ihr S X E _ C h2
    exact ⟨snd_op q.pe qr.pe, (snd_opT q.pt (qr.pw rfl)).pt, fun _ => snd_opT q.pt (qr.pw rfl), (fun z => by cases z), trivial⟩
  | ife t a b iht iha ihb =>
    intro S X E ob C h
    rw [chk] at h
    unfold k_ife at h
    split at h
    rotate_left
    · cases h
    simp only [Bool.and_eq_true] at h
    obtain ⟨⟨h1, h2⟩, h3⟩ := h
    have qt := iht S X E _ C h1
    have qa := iha S X E _ C h2
    have qb := ihb S X E _ C h3
    exact ⟨snd_if qt.pt qa.pe qb.pe, snd_ifT qt.pt qa.pt qb.pt, (fun z => by cases z), (fun z => by cases z), trivial⟩
  | tup as ih =>
    intro S X E ob C h
    rw [chk] at h
    unfold k_tup at h
    split at h
    rotate_left
    · cases h
    exact .mk1 (snd_tup (ih S X E _ C h)) rfl rfl rfl trivial
  | lst as ih =>
    intro S X E ob C h
    rw [chk] at h
    unfold k_lst at h
    split at h
    rotate_left
    · cases h
    have q : PA X _ (denA c E (ev cl as)) := ih S X E _ C h
    exact ⟨snd_lst q, snd_tv (snd_lst q) (tv_ok rfl), (fun z => by cases z), fun _ => snd_lstF q, trivial⟩
  | ix a b iha ihb =>
    intro S X E ob C h
    rw [chk] at h
    unfold k_ix at h
    split at h
    rotate_left
    · cases h
    simp only [Bool.and_eq_true] at h
    obtain ⟨⟨h1, h2⟩, h3⟩ := h
    exact .mk1 (snd_ix C.K.symm (iha S X E _ C h2).pe (ihb S X E _ C h3).pe (ix_ok h1)) rfl rfl rfl trivial
  | sl a lo hi iha ihl ihh =>
    intro S X E ob C h
    rw [chk] at h
    unfold k_sl at h
    split at h
    rotate_left
    · cases h
    simp only [Bool.and_eq_true] at h
    obtain ⟨⟨h1, h2⟩, h3⟩ := h
    exact .mk1 (snd_sl C.K.symm (iha S X E _ C h1).pe (ihl S X E _ C h2) (ihh S X E _ C h3)) rfl rfl rfl trivial
  | nop =>
    intro S X E ob C h
    rw [chk] at h
    unfold k_nop at h
    split at h
    rotate_left
    · cases h
    exact snd_none
  | pt a iha =>
    intro S X E ob C h
    rw [chk] at h
    unfold k_pt at h
    split at h
    rotate_left
    · cases h
    exact snd_some (iha S X E _ C h).pe
  | scr i =>
    intro S X E ob C h
    rw [chk] at h
    unfold k_scr at h
    split at h
    rotate_left
    · cases h
    simp only [Bool.and_eq_true, decide_eq_true_eq] at h
    obtain ⟨h1, rfl⟩ := h
    obtain ⟨h1, h2, h3, h4⟩ := C.var h1
    exact .mk1 (snd_scr C.K.symm h1 h2 h3 h4) rfl rfl rfl trivial
  | pix i k ihk =>
    intro S X E ob C h
    rw [chk] at h
    unfold k_pix at h
    split at h
    rotate_left
    · cases h
    simp only [Bool.and_eq_true] at h
    obtain ⟨⟨h1, h5⟩, h6⟩ := h
    obtain ⟨h1, h2, h3, h4⟩ := C.var h1
    exact .mk1 (snd_pix C.K.symm h1 h2 h3 h4 (ihk S X E _ C h6).pe (ix_ok h5)) rfl rfl rfl trivial
  | pln i =>
    intro S X E ob C h
    rw [chk] at h
    unfold k_pln at h
    split at h
    rotate_left
    · cases h
    simp only [Bool.and_eq_true, decide_eq_true_eq] at h
    obtain ⟨⟨rfl, h5⟩, h6⟩ := h
    obtain ⟨h1, h2, h3, h4⟩ := C.var h6
    obtain ⟨g, m⟩ := C.bl h5
    exact .mk1 (snd_plen h1 h2 h3 h4 g m) rfl rfl rfl trivial
  | bi f as ih =>
    intro S X E ob C h
    rw [chk] at h
    unfold k_bi at h
    split at h
    rotate_left
    · cases h
    simp only [Bool.and_eq_true, decide_eq_true_eq] at h
    obtain ⟨⟨⟨rfl, h1⟩, h2⟩, h3⟩ := h
    obtain ⟨g, m⟩ := C.bl h1
    exact .mk1 (call_ok C.K C.units C.calm g m (ih S X E _ C h3) h2) rfl rfl rfl trivial
  | isa s a iha =>
    intro S X E ob C h
    rw [chk] at h
    unfold k_isa at h
    split at h
    rotate_left
    · cases h
    simp only [Bool.and_eq_true, decide_eq_true_eq, Bool.not_eq_true'] at h
    obtain ⟨⟨⟨⟨⟨⟨⟨rfl, h1⟩, h2⟩, rfl⟩, h4⟩, h5⟩, h6⟩, h7⟩ := h
    obtain ⟨g, m⟩ := C.bl h1
    obtain ⟨g2, m2⟩ := C.bl h2
    exact .mk1 (snd_isa C.K.symm g m g2 m2 (boot_ty s) (by simpa using h4) (okNm_and h5).1 (iha S X E _ C h7).pe (star_cons h6) (star_cons rfl) rfl) rfl rfl rfl trivial
  | cal j as ih =>
    intro S X E ob C h
    rw [chk] at h
    unfold k_cal at h
    split at h
    rotate_left
    · cases h
    rename_i x p es pos
    simp only [Bool.and_eq_true, decide_eq_true_eq] at h
    obtain ⟨⟨⟨⟨⟨h1, h2⟩, h3⟩, h4⟩, h5⟩, h6⟩ := h
    obtain ⟨k, hr, g⟩ := C.room
    obtain ⟨f, fd, ps, hm, hk, hb, hl, F⟩ := g.fn j x _ h3
    obtain ⟨Ex, hx, hE⟩ := C.ps
    have F' : FnOk X.prog X.w X.K X.mg X.base (L2.CX X.prog X.w) k f fd ps (spG c.K c.cls ps.length (cl j)) := by rw [← C.K]; exact F
    have q : PA X es (denB c E (flT as) (ev cl as)) := ih S X E _ C h6
    cases es with
    | nil =>
      have : flT as = [] := List.eq_nil_of_length_eq_zero h5
      rw [this] at q
      refine .mk1 ?_ rfl rfl rfl trivial
      have z := snd_call0 (c := c) (E := E) (p := p) (pos := pos) F' hr (C.gl h1) hm hk hb hx hE hl (okNm_and h2).1
      show PE X _ (denE c E (oCallF (cl j) (flT as) (ev cl as)))
      rw [this]
      have : as = .nil := by
        cases as <;> first | rfl | (rw [chk] at h6; cases h6)
      subst this
      exact z
    | cons e es =>
      rw [List.all_cons, Bool.and_eq_true] at h4
      exact .mk1 (snd_call F' hr (C.gl h1) hm hk hb hx hE (by rw [h5, hl]) q (okNm_and h2).1 (star_cons h4.1) (star_any h4.2)) rfl rfl rfl trivial
  | plc a e iha ihe =>
    intro S X E ob C h
    rw [chk] at h
    unfold k_plc at h
    split at h
    rotate_left
    · cases h
    simp only [Bool.and_eq_true, decide_eq_true_eq] at h
    obtain ⟨⟨⟨⟨⟨rfl, h1⟩, h2⟩, h3⟩, h4⟩, h5⟩ := h
    exact .mk1 (snd_place C.K.symm C.units (iha S X E _ C h4).pe (ihe S X E _ C h5).pe (base_ok2 h1) (by rw [star_all (by simpa using h2)]; rfl) h3 (star_cons h2) rfl) rfl rfl rfl trivial
  | lc vs tg it t e ihg ihi iht ihe =>
    intro S X E ob C h
    rw [chk] at h
    unfold k_lc at h
    split at h
    rotate_left
    · cases h
    rename_i elt tgx iter ifs scope pos
    simp only [Bool.and_eq_true] at h
    obtain ⟨⟨⟨⟨⟨⟨h1, h2⟩, h3⟩, h4⟩, h5⟩, h6⟩, h7⟩ := h
    obtain ⟨hB, hm, hk⟩ := C.blkOk h1
    have hT : ∀ i ∈ tgs tg, i ∈ vs := fun i hi => by simpa using List.all_eq_true.mp h2 i hi
    have hi : PI X tgx iter (denI c E (ev cl it)) := ihi S X E _ C h4
    have hg : Cx.inB X scope (fun Y => PG Y tgx (denG c (tgs tg) (evG tg).1)) := fun s H a clo fp => ihg (S.blk scope) _ EN _ (C.blk hk s H a clo fp) h5
    have he : Cx.inB X scope (fun Y => PE Y elt (denE c EN (ev cl e))) := fun s H a clo fp => (ihe (S.blk scope) _ EN _ (C.blk hk s H a clo fp) h6).pe
    have ht : Cx.inB X scope (fun Y => PTs Y ifs (denT c EN (ev cl t))) := fun s H a clo fp => by
      match ifs, h7 with
      | [], h7 => cases t <;> first | (cases h7; done) | exact snd_tyes
      | [x], h7 => exact pts_one (iht (S.blk scope) _ EN _ (C.blk hk s H a clo fp) h7).pt
    have hT' : ∀ i ∈ tgs tg, i ∈ (ownOf S.N vs).map (·.2) := fun i q => by rw [hm]; exact hT i q
    have pf := snd_lcF (pos := pos) hB hi hg ht he hT' (set_ok h3)
    rw [hm] at pf
    exact ⟨snd_ofF pf, snd_tv (snd_ofF pf) (tv_ok rfl), (fun z => by cases z), fun _ => pf, ⟨elt, tgx, iter, ifs, scope, pos, _, rfl, hB, hm, hi, hg, ht, he, hT, set_ok h3⟩⟩
  | lc2 vs vs1 tg it t tg1 it1 t1 e ihg ihi iht ihg1 ihi1 iht1 ihe =>
    intro S X E ob C h
    rw [chk] at h
    unfold k_lc2 at h
    split at h
    rotate_left
    · cases h
    rename_i elt tgx iter ifs tgx1 iter1 ifs1 scope pos
    simp only [Bool.and_eq_true] at h
    obtain ⟨⟨⟨⟨⟨⟨⟨⟨⟨⟨⟨⟨h1, h2⟩, h3⟩, h4⟩, h5⟩, h6⟩, h7⟩, h8⟩, h9⟩, h10⟩, h11⟩, h12⟩, h13⟩ := h
    obtain ⟨hB, hm, hk⟩ := C.blkOk h1
    have hT : ∀ i ∈ tgs tg, i ∈ (ownOf S.N vs).map (·.2) := fun i hi => by rw [hm]; simpa using List.all_eq_true.mp h2 i hi
    have hv : ∀ i ∈ vs1, i ∈ (ownOf S.N vs).map (·.2) := fun i hi => by rw [hm]; simpa using List.all_eq_true.mp h3 i hi
    have hT1 : ∀ i ∈ tgs tg1, i ∈ vs1 := fun i hi => by simpa using List.all_eq_true.mp h4 i hi
    have hi : PI X tgx iter (denI c E (ev cl it)) := ihi S X E _ C h7
    have hg : Cx.inB X scope (fun Y => PG Y tgx (denG c (tgs tg) (evG tg).1)) := fun s H a clo fp => ihg (S.blk scope) _ EN _ (C.blk hk s H a clo fp) h8
    have he : Cx.inB X scope (fun Y => PE Y elt (denE c EN (ev cl e))) := fun s H a clo fp => (ihe (S.blk scope) _ EN _ (C.blk hk s H a clo fp) h9).pe
    have hi1 : Cx.inB X scope (fun Y => PI Y tgx1 iter1 (denI c EN (ev cl it1))) := fun s H a clo fp => ihi1 (S.blk scope) _ EN _ (C.blk hk s H a clo fp) h10
    have hg1 : Cx.inB X scope (fun Y => PG Y tgx1 (denG c (tgs tg1) (evG tg1).1)) := fun s H a clo fp => ihg1 (S.blk scope) _ EN _ (C.blk hk s H a clo fp) h11
    have ht : Cx.inB X scope (fun Y => PTs Y ifs (denT c EN (ev cl t))) := fun s H a clo fp => by
      match ifs, h12 with
      | [], h12 => cases t <;> first | (cases h12; done) | exact snd_tyes
      | [x], h12 => exact pts_one (iht (S.blk scope) _ EN _ (C.blk hk s H a clo fp) h12).pt
    have ht1 : Cx.inB X scope (fun Y => PTs Y ifs1 (denT c EN (ev cl t1))) := fun s H a clo fp => by
      match ifs1, h13 with
      | [], h13 => cases t1 <;> first | (cases h13; done) | exact snd_tyes
      | [x], h13 => exact pts_one (iht1 (S.blk scope) _ EN _ (C.blk hk s H a clo fp) h13).pt
    have pf := snd_lc2F (pos := pos) hB hv hi hg ht hi1 hg1 ht1 he hT hT1 (set_ok h5) (fun env => set_ok h6)
    rw [hm] at pf
    exact ⟨snd_ofF pf, snd_tv (snd_ofF pf) (tv_ok rfl), (fun z => by cases z), fun _ => pf, trivial⟩
  | yes =>
    intro S X E ob C h
    cases h
  | nil =>
    intro S X E ob C h
    rw [chk] at h
    unfold k_nil at h
    split at h
    · exact snd_nil
    · exact snd_bnil
    · exact snd_xnil
    · exact snd_gnil
    · cases h
  | con a t iha iht =>
    intro S X E ob C h
    rw [chk] at h
    unfold k_con at h
    split at h
    · simp only [Bool.and_eq_true] at h
      obtain ⟨⟨h1, h2⟩, h3⟩ := h
      exact snd_cons (iha S X E _ C h2).pe (iht S X E _ C h3) (star_cons h1)
    · simp only [Bool.and_eq_true] at h
      obtain ⟨⟨h1, h2⟩, h3⟩ := h
      exact snd_bcons (iha S X E _ C h2).pe (iht S X E _ C h3) (star_cons h1)
    · rename_i b fl e es
      simp only [Bool.and_eq_true, Bool.or_eq_true, Bool.not_eq_true'] at h
      obtain ⟨⟨⟨h1, h2⟩, h3⟩, h4⟩ := h
      cases b with
      | false => exact snd_xval (iha S X E _ C h3).pe (iht S X E _ C h4) (star_cons h1)
      | true =>
        have hf : frB a = true := by
          rcases h2 with z | z
          · cases z
          · exact z
        exact snd_xnew ((iha S X E _ C h3).pf hf) (iht S X E _ C h4) (star_cons h1)
    · simp only [Bool.and_eq_true] at h
      obtain ⟨⟨h1, h2⟩, h3⟩ := h
      exact snd_gcons (iha S X E _ C h2) (iht S X E _ C h3) (asg_cons h1)
    · cases h
  | rfc i t iht =>
    intro S X E ob C h
    rw [chk] at h
    unfold k_rfc at h
    split at h
    rotate_left
    · cases h
    simp only [Bool.and_eq_true] at h
    obtain ⟨h1, h5⟩ := h
    obtain ⟨h1, h2, h3, h4⟩ := C.var h1
    exact snd_bref h1 h2 h3 h4 (iht S X E _ C h5) (star_cons rfl)
  | gn i =>
    intro S X E ob C h
    rw [chk] at h
    unfold k_gn at h
    split at h
    rotate_left
    · cases h
    exact snd_gnm (C.sto h)
  | gt n g ih =>
    intro S X E ob C h
    rw [chk] at h
    unfold k_gt at h
    split at h
    rotate_left
    · cases h
    simp only [Bool.and_eq_true, decide_eq_true_eq] at h
    obtain ⟨⟨h1, h2⟩, h3⟩ := h
    exact snd_gtup C.K C.calm (ih S X E _ C h3) (by rw [asg_len h2, h1]) (asg_find h2)
  | itr a iha =>
    intro S X E ob C h
    rw [chk] at h
    unfold k_itr at h
    split at h
    rotate_left
    · cases h
    exact snd_it C.K (iha S X E _ C h).pe
  | rg1 as ih =>
    intro S X E ob C h
    rw [chk] at h
    unfold k_rg1 at h
    split at h
    rotate_left
    · cases h
    simp only [Bool.and_eq_true, decide_eq_true_eq] at h
    obtain ⟨⟨⟨rfl, h1⟩, h2⟩, h3⟩ := h
    obtain ⟨g, m⟩ := C.bl h1
    exact snd_rng1 g m (ih S X E _ C h3) (star_cons h2)
  | rg2 as ih =>
    intro S X E ob C h
    rw [chk] at h
    unfold k_rg2 at h
    split at h
    rotate_left
    · cases h
    simp only [Bool.and_eq_true, decide_eq_true_eq] at h
    obtain ⟨⟨⟨⟨rfl, h1⟩, h2⟩, h2'⟩, h3⟩ := h
    obtain ⟨g, m⟩ := C.bl h1
    exact snd_rng2 g m (ih S X E _ C h3) (by rw [star_cons h2, star_cons h2']; rfl) (star_cons h2')
  | zpp as ih =>
    intro S X E ob C h
    rw [chk] at h
    unfold k_zpp at h
    split at h
    rotate_left
    · cases h
    simp only [Bool.and_eq_true, decide_eq_true_eq] at h
    obtain ⟨⟨⟨⟨rfl, h1⟩, h2⟩, h2'⟩, h3⟩ := h
    obtain ⟨g, m⟩ := C.bl h1
    exact snd_zip C.K g m (ih S X E _ C h3) (star_cons h2) (star_any (by simpa using h2'))
  | enu as ih =>
    intro S X E ob C h
    rw [chk] at h
    unfold k_enu at h
    split at h
    rotate_left
    · cases h
    simp only [Bool.and_eq_true, decide_eq_true_eq] at h
    obtain ⟨⟨⟨rfl, h1⟩, h2⟩, h3⟩ := h
    obtain ⟨g, m⟩ := C.bl h1
    exact snd_enum C.K g m (ih S X E _ C h3) (star_cons h2)
  | skp =>
    intro S X E ob C h
    rw [chk] at h
    unfold k_skp at h
    split at h
    rotate_left
    · cases h
    exact snd_snil
  | seq a b iha ihb =>
    intro S X E ob C h
    rw [chk] at h
    unfold k_seq at h
    split at h
    rotate_left
    · cases h
    simp only [Bool.and_eq_true] at h
    exact snd_scons (iha S X E _ C h.1) (ihb S X E _ C h.2)
  | ret a iha =>
    intro S X E ob C h
    rw [chk] at h
    unfold k_ret at h
    split at h
    rotate_left
    · cases h
    exact snd_ret (iha S X E _ C h).pe
  | rtn =>
    intro S X E ob C h
    rw [chk] at h
    unfold k_rtn at h
    split at h
    rotate_left
    · cases h
    exact snd_retN
  | brk =>
    intro S X E ob C h
    rw [chk] at h
    unfold k_brk at h
    split at h
    rotate_left
    · cases h
    exact snd_brk
  | cnt =>
    intro S X E ob C h
    rw [chk] at h
    unfold k_cnt at h
    split at h
    rotate_left
    · cases h
    exact snd_cnt
  | pss =>
    intro S X E ob C h
    rw [chk] at h
    unfold k_pss at h
    split at h
    rotate_left
    · cases h
    exact snd_pass
  | doc =>
    intro S X E ob C h
    rw [chk] at h
    unfold k_doc at h
    split at h
    rotate_left
    · cases h
    exact snd_doc
  | nev =>
    intro S X E ob C h
    rw [chk] at h
    unfold k_nev at h
    split at h
    rotate_left
    · cases h
    exact snd_never
  | ifs t a b iht iha ihb =>
    intro S X E ob C h
    rw [chk] at h
    unfold k_ifs at h
    split at h
    rotate_left
    · cases h
    simp only [Bool.and_eq_true] at h
    obtain ⟨⟨h1, h2⟩, h3⟩ := h
    exact snd_ifS (iht S X E _ C h1).pt (iha S X E _ C h2) (ihb S X E _ C h3)
  | set i a iha =>
    intro S X E ob C h
    rw [chk] at h
    unfold k_set at h
    split at h
    rotate_left
    · cases h
    simp only [Bool.and_eq_true] at h
    obtain ⟨⟨h1, h2⟩, h3⟩ := h
    exact set_go C h1 h2 (iha S X E _ C h3)
  | sto i a iha =>
    intro S X E ob C h
    rw [chk] at h
    unfold k_sto at h
    split at h
    rotate_left
    · cases h
    simp only [Bool.and_eq_true] at h
    obtain ⟨⟨⟨h1, h2⟩, h3⟩, h4⟩ := h
    exact sto_go C h1 h2 h3 (iha S X E _ C h4)
  | aug i o a iha =>
    intro S X E ob C h
    rw [chk] at h
    unfold k_aug at h
    split at h
    rotate_left
    · cases h
    simp only [Bool.and_eq_true, decide_eq_true_eq, Bool.or_eq_true] at h
    obtain ⟨⟨⟨h1, rfl⟩, h2⟩, h3⟩ := h
    obtain ⟨q, hq, hf⟩ := aug_ok (X := X) (c := c) h2
    exact snd_aug (C.sto h1) (iha S X E _ C h3).pe hq hf
  | app i a iha =>
    intro S X E ob C h
    rw [chk] at h
    unfold k_app at h
    split at h
    rotate_left
    · cases h
    simp only [Bool.and_eq_true, decide_eq_true_eq] at h
    obtain ⟨⟨⟨⟨rfl, h1⟩, h5⟩, h6⟩, h7⟩ := h
    obtain ⟨h1, h2, h3, h4⟩ := C.var h1
    have q := (iha S X E _ C h7).pe
    exact snd_app h1 h2 h3 h4 q C.K (sw_plain rfl) (pe_bm PySem.F.plainAttrs_list PySem.F.slot_list_append PySem.F.type_list_append mt_append (pe_var h1 h2 h3 h4) (pa_cons q pa_nil (star_cons h5)) rfl (by rw [star_all (by simpa using h5)]; rfl) h6 (star_cons h5) rfl)
  | put i k a ihk iha =>
    intro S X E ob C h
    rw [chk] at h
    unfold k_put at h
    split at h
    rotate_left
    · cases h
    simp only [Bool.and_eq_true, Bool.not_eq_true'] at h
    obtain ⟨⟨⟨⟨h1, h5⟩, h6⟩, h7⟩, h8⟩ := h
    obtain ⟨h1, h2, h3, h4⟩ := C.var h1
    exact snd_put h1 h2 h3 h4 h5 (ihk S X E _ C h7).pe (iha S X E _ C h8).pe (sw_plain h6) (wap_t rfl)
  | frl tg it b ihg ihi ihb =>
    intro S X E ob C h
    rw [chk] at h
    unfold k_frl at h
    split at h
    rotate_left
    · cases h
    simp only [Bool.and_eq_true] at h
    obtain ⟨⟨⟨⟨h1, h2⟩, h3⟩, h4⟩, h5⟩ := h
    exact snd_for (C.own h1) C.calm (ihi S X E _ C h3) (ihg S X E _ C h4) (ihb S X E _ C h5) (set_ok h2)
  | whl n t b iht ihb =>
    intro S X E ob C h
    rw [chk] at h
    unfold k_whl at h
    split at h
    rotate_left
    · cases h
    simp only [Bool.and_eq_true] at h
    obtain ⟨⟨h1, h2⟩, h3⟩ := h
    exact snd_while (C.own h1) (iht S X E _ C h2).pt (ihb S X E _ C h3)
  | drp a iha =>
    intro S X E ob C h
    rw [chk] at h
    unfold k_drp at h
    split at h
    rotate_left
    · cases h
    simp only [Bool.and_eq_true, Bool.not_eq_true'] at h
    exact snd_drop (iha S X E _ C h.2).pe (sw_plain h.1)
  | par is fl as ih =>
    intro S X E ob C h
    rw [chk] at h
    unfold k_par at h
    split at h
    rotate_left
    · cases h
    simp only [Bool.and_eq_true, decide_eq_true_eq] at h
    obtain ⟨⟨h1, h2⟩, h3⟩ := h
    exact par_ok C h1 h2 (ih S X E _ C h3)
  | asg g a ihg iha =>
    intro S X E ob C h
    rw [chk] at h
    unfold k_asg at h
    split at h
    rotate_left
    · cases h
    simp only [Bool.and_eq_true] at h
    obtain ⟨⟨h1, h2⟩, h3⟩ := h
    unfold asgB at h1
    simp only [Bool.and_eq_true, Bool.not_eq_true', Bool.or_eq_true] at h1
    refine snd_asgG (iha S X E _ C h3).pe (ihg S X E _ C h2) (sw_plain h1.1.2) ?_ h1.1.1
    rcases h1.2 with z | z
    · exact wap_v z
    · exact wap_t z
end
end Py

/-! Py, part W: the defs of a text, level by level; the law. -/
namespace Py
open PySem L2

/-- a def as it is written, and what it says -/
structure Fd where
  x : Str
  st : Stmt
  N : List Str
  ps : List Str
  t : T
/-- def j, called as deep as k -/
def calls (fs : List Fd) : Nat → Nat → O1
  | 0, _ => oNo
  | k + 1, j => match fs[j]? with
    | some f => fun as => ev (calls fs k) f.t (as ++ List.replicate (f.N.length - as.length) .un)
    | none => oNo
def scB (N P : List Str) (sc : Scope) : Bool :=
  decide (sc.kind = .function) && !sc.isCoroutine && !sc.isGenerator && decide N.Nodup && decide (N.take P.length = P) && P.all (fun x => decide (sc.names.lookup x = some .local) || decide (sc.names.lookup x = some .cell)) && sc.names.all (fun y => !decide (y.2 = .free))
theorem scB_ok {N P : List Str} {sc : Scope} (h : scB N P sc = true) : FnScope N P sc := by
  unfold scB at h
  simp only [Bool.and_eq_true, Bool.not_eq_true', decide_eq_true_eq, List.all_eq_true, Bool.or_eq_true, decide_eq_false_iff_not] at h
  obtain ⟨⟨⟨⟨⟨⟨h1, h2⟩, h3⟩, h4⟩, h5⟩, h6⟩, h7⟩ := h
  exact ⟨h1, h2, h3, h4, h5, h6, h7⟩
def Fd.ok (G : GC) (f : Fd) : Bool := scB f.N f.ps (defScope f.st) && chk G ⟨f.N, defScope f.st, defScope f.st, true⟩ f.t (.ss (defBody f.st))
def gOf (fs : List Fd) (cns : List (Str × D)) (bls : List Str) : GC := ⟨fs.map fun f => (f.x, f.ps.length), cns, bls⟩
/-- the head's word on a def -/
structure FdAt (K : PySem.W.Frag) (mg : Str → Option Value) (f : Fd) : Prop where
  ex : ∃ (a : Addr) (fd : FuncData), Fun K f.x f.x f.st a fd ∧ mg f.x = some (.ref a) ∧ PySem.W.keepIn K (.ref a) = true ∧ ∀ us : List Value, us.length = f.ps.length → bindArgs fd ⟨us, []⟩ = pure (f.ps.zip us)
section
variable {P : Program} {w : World} {K : PySem.W.Frag} {mg : Str → Option Value} {base : Heap} {cls : Nat → Addr} {fs : List Fd} {cns : List (Str × D)} {bls : List Str}
theorem FnOk.nil {ps : List Str} {f : Addr} {fd : FuncData} : FnOk P w K mg base (L2.CX P w) 0 f fd ps (spG K cls ps.length oNo) :=
  ⟨fun vs H Q E ⟨c, as, B, _, _, _, hl, _⟩ => hl, fun A outer s H args us vs Q E _ _ _ _ ⟨c, as, B, _, _, _, hl, R, h⟩ => h.elim⟩
theorem fn_step {f : Fd} {k : Nat} {cl : Nat → O1} {a : Addr} {fd : FuncData} {G : GC} (F : Fun K f.x f.x f.st a fd) (ok : f.ok G = true) (g : Glob P w K mg base cls k cl G) :
    FnOk P w K mg base (L2.CX P w) (k + 1) a fd f.ps (spG K cls f.ps.length fun as => ev cl f.t (as ++ List.replicate (f.N.length - as.length) .un)) := by
  unfold Fd.ok at ok
  rw [Bool.and_eq_true] at ok
  have S := scB_ok ok.1
  refine fn_okG F S fun cdv A outer s H E c hK hc hr => ?_
  subst hK
  subst hc
  exact snd f.t ⟨f.N, defScope f.st, defScope f.st, true⟩ _ _ (.ss (defBody f.st)) ⟨rfl, rfl, S.nd, S.kind, fun _ _ => rfl, rfl, rfl, ⟨k, hr, g⟩, ⟨E, L2.passes_call (takes_of rfl rfl rfl rfl) fun _ _ _ _ h => h, fun _ _ _ h => h⟩, fun _ => L2.passes_of rfl⟩ ok.2
theorem glob (hb : ∀ x ∈ bls, mg x = none) (hc : ∀ x d, cns.lookup x = some d → ∃ u v, mg x = some u ∧ RelV v u ∧ ∀ B H, Rep K B H d v) (hf : ∀ f ∈ fs, FdAt K mg f) (ok : fs.all (Fd.ok (gOf fs cns bls)) = true) :
    ∀ k, Glob P w K mg base cls k (calls fs k) (gOf fs cns bls) := by
  intro k
  induction k with
  | zero =>
    refine ⟨hb, hc, fun j x n h => ?_⟩
    have h' : (fs.map fun f => (f.x, f.ps.length))[j]? = some (x, n) := h
    rw [List.getElem?_map] at h'
    cases e : fs[j]? with
    | none => rw [e] at h'; cases h'
    | some f =>
      rw [e] at h'
      cases h'
      obtain ⟨a, fd, F, m, kp, b⟩ := (hf f (List.mem_of_getElem? e)).ex
      exact ⟨a, fd, f.ps, m, kp, .all b, rfl, FnOk.nil⟩
  | succ k ih =>
    refine ⟨hb, hc, fun j x n h => ?_⟩
    have h' : (fs.map fun f => (f.x, f.ps.length))[j]? = some (x, n) := h
    rw [List.getElem?_map] at h'
    cases e : fs[j]? with
    | none => rw [e] at h'; cases h'
    | some f =>
      rw [e] at h'
      cases h'
      obtain ⟨a, fd, F, m, kp, b⟩ := (hf f (List.mem_of_getElem? e)).ex
      refine ⟨a, fd, f.ps, m, kp, .all b, rfl, ?_⟩
      have q := fn_step (P := P) (w := w) (base := base) (mg := mg) F (List.all_eq_true.mp ok f (List.mem_of_getElem? e)) ih
      show FnOk P w K mg base (L2.CX P w) (k + 1) a fd f.ps (spG K cls f.ps.length (match fs[j]? with
        | some f => fun as => ev (calls fs k) f.t (as ++ List.replicate (f.N.length - as.length) .un)
        | none => oNo))
      rw [e]
      exact q
/-- by the head's facts -/
theorem fdAt {h : Heap} {x : Str} {st : Stmt} {N ps : List Str} {t : T} {a : Addr} {oc kV dc pm cd ct : Value} {od an : Option Addr} {sl : Array (Option Value)} (X : K.In h) (G : h.Ns mainGlobals mg)
    (a1 : PySem.W.nsIn K mainGlobals x = some (some (.ref a))) (l1 : K.lookup a = some ⟨oc, od, .func (PySem.W.fnOf x x (defArgs st) (defBody st) (defScope st) .none kV dc pm an cd ct), sl⟩) (c1 : PySem.W.codeIn K cd x = true) (k1 : PySem.W.keepIn K (.ref a) = true)
    (hb : ∀ us : List Value, us.length = ps.length → bindArgs (PySem.W.fnOf x x (defArgs st) (defBody st) (defScope st) .none kV dc pm an cd ct) ⟨us, []⟩ = pure (ps.zip us)) : FdAt K mg ⟨x, st, N, ps, t⟩ :=
  ⟨a, _, fun_mk (st := st) l1 c1 k1, PySem.W.mg_of X G a1, k1, hb⟩
theorem cns_mk {l : List (Str × D)} (h : ∀ p ∈ l, ∃ u v, mg p.1 = some u ∧ RelV v u ∧ ∀ B H, Rep K B H p.2 v) : ∀ x d, l.lookup x = some d → ∃ u v, mg x = some u ∧ RelV v u ∧ ∀ B H, Rep K B H d v := fun x d e => h (x, d) (PySem.mem_of_lookup e)
/-- the law's def, deep enough -/
theorem law_mk {f : Fd} {fa : Addr} {k : Nat} (hb : ∀ x ∈ bls, mg x = none) (hc : ∀ x d, cns.lookup x = some d → ∃ u v, mg x = some u ∧ RelV v u ∧ ∀ B H, Rep K B H d v) (hf : ∀ f ∈ fs, FdAt K mg f) (ok : fs.all (Fd.ok (gOf fs cns bls)) = true)
    (hm : f ∈ fs) (hp : f.ps = [("script" : Str)]) (hfa : mg f.x = some (.ref fa)) : ∃ fd : FuncData, (∀ (s : Shared) (u : Value), BindsTo s fd ⟨[u], []⟩ [("script", u)]) ∧
      ∀ base : Heap, FnOk P w K mg base (L2.CX P w) (k + 1) fa fd ["script"] (spG K cls 1 fun as => ev (calls fs k) f.t (as ++ List.replicate (f.N.length - as.length) .un)) := by
  obtain ⟨a, fd, F, m, kp, b⟩ := (hf f hm).ex
  have e := hfa.symm.trans m
  cases e
  refine ⟨fd, fun s u => .of_eq ?_, fun base => ?_⟩
  · have := b [u] (by rw [hp]; rfl)
    rw [hp] at this
    exact this
  · have q := fn_step (P := P) (w := w) (base := base) (mg := mg) F (List.all_eq_true.mp ok f hm) (glob (cls := cls) hb hc hf ok k)
    rw [hp] at q
    exact q
/-- the law is met where its call gives True for every script -/
theorem law_sp {g : O1} (hg : ∀ ns : List Int, ns.length ≤ 63 → ∃ r, g [.scr ns] = .ret (.bool true) r) (H : Hp) (a : Addr) (ns : List Int) (hl : ns.length ≤ 63) (hO : Only H) (hS : SqL K H a (ns.map V.int)) :
    spG K cls 1 g [.ref a] H (fun v _ => v = .bl true) fun _ _ _ => False := by
  refine ⟨⟨K, fun _ => False, fun _ => False, H, fun _ => 0, cls⟩, [.scr ns], ⟨fun _ => False, fun _ => False⟩, rfl, rfl, rfl, rfl, ?_, ?_⟩
  · refine ⟨rfl, ?_, ?_, fun _ h => h, fun _ h => h.elim, fun _ h => h, fun _ h => h.elim, fun _ h => h.elim, fun _ h => h.elim, fun _ h => h, fun _ _ _ e => e, fun _ o e => ⟨o, e⟩⟩
    · intro i s o h1 h2
      cases i with
      | zero =>
        cases h1; cases h2
        refine ⟨a, rfl, ?_⟩
        rcases hS with r | k
        · exact .inl ⟨fun z => z, r⟩
        · exact .inr k
      | succ i => cases h1
    · intro i j s t b hne h1 h2 x1 x2
      cases i with
      | zero => cases h1; cases x1
      | succ i => cases h1
  · obtain ⟨r, e⟩ := hg ns hl
    rw [e]
    intro v σ' H' B' _ q
    cases q; rfl
end
theorem no_CX {P : Program} {w : World} (H : Hp) (s : Shared) (e : Value) (s' : Shared) (h : L2.CX P w [] H s (fun _ _ _ => False) e s') : False := by
  obtain ⟨_, _, _, _, _, _, _, _, _, _, _, _, z⟩ := h
  exact z.elim
end Py

/-! Py, part X: what a law draws from its script. -/
namespace Py
open PySem

def tCell : T := (.seq (.ifs (.cmp .Lt (.var 1) (.bi .len (.con (.var 0) .nil))) (.seq (.ret (.ix (.var 0) (.var 1))) .skp) .skp) (.seq (.ret (.cst (.int 0))) .skp))
def tDraw : T := (.seq (.set 3 (.tup (.con (.cst (.int 1000003)) (.con (.cst (.int 1000033)) (.con (.cst (.int 1000037)) (.con (.cst (.int 1000039)) (.con (.cst (.int 1000081)) (.con (.cst (.int 1000099)) (.con (.cst (.int 1000117)) (.con (.cst (.int 1000121)) (.con (.cst (.int 1000133)) (.con (.cst (.int 1000151)) (.con (.cst (.int 1000159)) (.con (.cst (.int 1000171)) (.con (.cst (.int 1000183)) (.con (.cst (.int 1000187)) (.con (.cst (.int 1000193)) (.con (.cst (.int 1000199)) .nil)))))))))))))))))) (.seq (.ret (.bin .Mod (.bin .Mod (.bi .int (.con (.bin .Add (.bin .Mult (.var 0) (.cst (.int 48271))) (.bin .Mult (.var 1) (.cst (.int 69621)))) .nil)) (.ix (.var 3) (.bin .Mod (.bi .int (.con (.var 1) .nil)) (.cst (.int 16))))) (.var 2))) .skp))
def tNumber (j : Nat) : T := (.seq (.set 3 (.cst (.int 1))) (.seq (.frl (.gn 4) (.rg1 (.con (.bin .Mod (.bi .int (.con (.var 1) .nil)) (.cst (.int 24))) .nil)) (.seq (.set 3 (.bin .Mult (.var 3) (.cst (.int 1009)))) .skp)) (.seq (.set 5 (.bin .FloorDiv (.bin .Sub (.var 0) (.bin .Pow (.cst (.int 10)) (.cst (.int 18)))) (.var 3))) (.seq (.ifs (.cmp .Gt (.var 5) (.cst (.int 0))) (.seq (.ret (.bin .Mod (.bin .Mod (.bi .int (.con (.var 5) .nil)) (.cst (.int 1009))) (.var 2))) .skp) .skp) (.seq (.set 6 (.bin .Mod (.bi .int (.con (.var 0) .nil)) (.cst (.int 1000003)))) (.seq (.ret (.bin .Mod (.cal j (.con (.bin .Mult (.bin .Add (.var 6) (.bin .Mult (.cst (.int 977)) (.var 1))) (.bin .Add (.bin .Add (.var 6) (.bin .Mult (.cst (.int 31)) (.var 1))) (.cst (.int 5)))) (.con (.bin .Add (.bin .Mod (.bi .int (.con (.var 1) .nil)) (.cst (.int 9))) (.cst (.int 1))) (.con (.cst (.int 999983)) .nil)))) (.var 2))) .skp))))))
def tNext (j j' : Nat) : T := (.seq (.put 0 (.cst (.int 2)) (.bin .Add (.pix 0 (.cst (.int 2))) (.cst (.int 1)))) (.seq (.set 2 (.bin .FloorDiv (.pix 0 (.cst (.int 2))) (.cst (.int 12)))) (.seq (.set 3 (.bin .Add (.cal j (.con (.pix 0 (.cst (.int 0))) (.con (.bin .Add (.pix 0 (.cst (.int 1))) (.var 2)) .nil))) (.bin .Mult (.cst (.int 31)) (.var 2)))) (.seq (.ret (.cal j' (.con (.var 3) (.con (.bin .Add (.bin .Mod (.bi .int (.con (.pix 0 (.cst (.int 2))) .nil)) (.cst (.int 12))) (.cst (.int 1))) (.con (.var 1) .nil))))) .skp))))

theorem calls_at {fs : List Fd} {j k : Nat} {f : Fd} (h : fs[j]? = some f) (as : Rho) : calls fs (k + 1) j as = ev (calls fs k) f.t (as ++ List.replicate (f.N.length - as.length) .un) := by
  unfold calls
  rw [h]
/-- what a call gives back, where nothing is lent -/
def retD : Out → Option D
  | .ret d _ => some d
  | .nxt _ => some .none
  | _ => none
theorem mkArgs_vals (r : Rho) : ∀ ds : List D, mkArgs r (ds.map fun _ => none) ds = some (ds.map .val)
  | [] => rfl
  | d :: ds => by
    show (mkArgs r (ds.map fun _ => none) ds).map _ = _
    rw [mkArgs_vals r ds]; rfl
theorem refs_vals (ds : List D) : refs (ds.map fun _ => none) = [] := by
  induction ds with
  | nil => rfl
  | cons d ds ih => simpa [refs] using ih
theorem putBack_vals (r' r : Rho) : ∀ (ds : List D) (p : Nat), putBack r' p (ds.map fun _ => none) r = some r
  | [], _ => rfl
  | d :: ds, p => putBack_vals r' r ds (p + 1)
/-- a call by values -/
theorem callF {g a : O1} {fl : List (Option Nat)} {r r1 : Rho} {ds : List D} {d : D} (ha : a r = .vals ds r1) (hf : fl = ds.map fun _ => none) (hg : retD (g (ds.map .val)) = some d) : oCallF g fl a r = .val d r1 := by
  subst hf
  unfold oCallF
  rw [ha]
  show (if (refs (ds.map fun _ => none)).Nodup then _ else _) = _
  rw [refs_vals, if_pos List.nodup_nil, mkArgs_vals]
  dsimp only
  cases e : g (ds.map .val) with
  | ret d' r' => rw [e] at hg; cases hg; dsimp only; rw [putBack_vals]
  | nxt r' => rw [e] at hg; cases hg; dsimp only; rw [putBack_vals]
  | val d' r' => rw [e] at hg; cases hg
  | vals d' r' => rw [e] at hg; cases hg
  | brk r' => rw [e] at hg; cases hg
  | cnt r' => rw [e] at hg; cases hg
  | exc n d' => rw [e] at hg; cases hg
  | bad => rw [e] at hg; cases hg

/-- the four defs that draw, at j, j + 1, j + 2, j + 3 -/
structure Draws (fs : List Fd) (j : Nat) : Prop where
  c : ∃ f, fs[j]? = some f ∧ f.N.length = 2 ∧ f.t = tCell
  d : ∃ f, fs[j + 1]? = some f ∧ f.N.length = 4 ∧ f.t = tDraw
  n : ∃ f, fs[j + 2]? = some f ∧ f.N.length = 7 ∧ f.t = tNumber (j + 1)
  x : ∃ f, fs[j + 3]? = some f ∧ f.N.length = 4 ∧ f.t = tNext j (j + 2)
section
variable {fs : List Fd} {j : Nat}
theorem atI_ok {α : Type} (xs : List α) (n : Nat) (h : n < xs.length) : L2.atI xs (n : Int) = xs[n]? := by
  unfold L2.atI L2.ixN
  rw [if_pos (by omega), if_pos (by omega)]
  rfl
theorem cell_ok (h : Draws fs j) (k : Nat) (cells : List Int) (i : Int) (hi : 0 ≤ i) : ∃ (v : Int) (r : Rho), calls fs (k + 1) j [.val (.list (cells.map .int)), .val (.int i)] = .ret (.int v) r := by
  obtain ⟨f, e, hN, ht⟩ := h.c
  rw [calls_at e, hN, ht]
  by_cases hl : i < cells.length
  · obtain ⟨n, rfl⟩ : ∃ n : Nat, i = (n : Int) := ⟨i.toNat, by omega⟩
    have hn : n < cells.length := by omega
    have hx : L2.atI (cells.map PyData.int) (n : Int) = some (.int cells[n]) := by
      rw [atI_ok _ _ (by simpa using hn)]
      simp [hn]
    refine ⟨cells[n], ?_⟩
    simp [tCell, ev, oSeq, oIfS, oRet, oOp2, oVar, oC, oCall, oCons, oNil, Out.bnd, Out.bnds, Out.bndb, optO, cmpF, fLt, BF.f, fLen, fIx, hl, hx]
  · refine ⟨0, ?_⟩
    simp [tCell, ev, oSeq, oIfS, oRet, oOp2, oVar, oC, oCall, oCons, oNil, Out.bnd, Out.bnds, Out.bndb, optO, cmpF, fLt, BF.f, fLen, fIx, hl, oNxt]
def primes : List Int := [1000003, 1000033, 1000037, 1000039, 1000081, 1000099, 1000117, 1000121, 1000133, 1000151, 1000159, 1000171, 1000183, 1000187, 1000193, 1000199]
theorem primes_at : ∀ n : Nat, n < 16 → ∃ p : Int, L2.atI (primes.map PyData.int) (n : Int) = some (.int p) ∧ 0 < p := by
  intro n hn
  have hx : n < primes.length := hn
  refine ⟨primes[n], ?_, ?_⟩
  · rw [atI_ok _ _ (by simpa using hx)]
    simp [hx]
  · have : ∀ p ∈ primes, 0 < p := by decide
    exact this _ (List.getElem_mem hx)
theorem w_small {i : Int} (h : -1000000000 ≤ i ∧ i ≤ 1000000000) : W64 i := ⟨by omega, by omega⟩
theorem draw_ok (h : Draws fs j) (k : Nat) (c i b : Int) (hb : 0 < b) : ∃ (v : Int) (r : Rho), calls fs (k + 1) (j + 1) [.val (.int c), .val (.int i), .val (.int b)] = .ret (.int v) r := by
  obtain ⟨f, e, hN, ht⟩ := h.d
  rw [calls_at e, hN, ht]
  obtain ⟨p, hp1, hp2⟩ := primes_at (i % 16).toNat (by omega)
  have e16 : (((i % 16).toNat : Nat) : Int) = i % 16 := by omega
  rw [e16] at hp1
  have w1 : W64 48271 := by decide
  have w2 : W64 69621 := by decide
  have hp1' : L2.atI [PyData.int 1000003, PyData.int 1000033, PyData.int 1000037, PyData.int 1000039, PyData.int 1000081, PyData.int 1000099, PyData.int 1000117, PyData.int 1000121, PyData.int 1000133, PyData.int 1000151, PyData.int 1000159, PyData.int 1000171, PyData.int 1000183, PyData.int 1000187, PyData.int 1000193, PyData.int 1000199] (i % 16) = some (.int p) := hp1
  simp [tDraw, ev, oSeq, oIfS, oRet, oSet, oOp2, oVar, oC, oCall, oCons, oNil, Out.bnd, Out.bnds, Out.bndb, optO, cmpF, binF, fAdd, fMul, fMod, BF.f, fInt, fTup, lim, fIx, w1, w2, hp1', hp2, hb]
theorem loop_ok {cl : Nat → O1} (c i b : Int) (x z : Slot) : ∀ (n : Nat) (ds : List D), ds.length = n → ∀ (s : Int) (l : Slot), 0 < s → ∃ l', forGo (gNm 4) (oSeq (oSet 3 (oOp2 fMul (oVar 3) (oC (.int 1009)))) oNxt) ds [.val (.int c), .val (.int i), .val (.int b), .val (.int s), l, x, z] = .nxt [.val (.int c), .val (.int i), .val (.int b), .val (.int (s * 1009 ^ n)), l', x, z]
  | 0, [], _, s, l, hs => ⟨l, by simp [forGo]⟩
  | n + 1, d :: ds, hl, s, l, hs => by
    have w : W64 1009 := by decide
    obtain ⟨l', e⟩ := loop_ok (cl := cl) c i b x z n ds (by simpa using hl) (s * 1009) (.val d) (by omega)
    refine ⟨l', ?_⟩
    have e2 : s * 1009 * 1009 ^ n = s * 1009 ^ (n + 1) := by rw [Int.pow_succ, Int.mul_assoc, Int.mul_comm 1009]
    rw [← e2, ← e]
    simp [forGo, gNm, oSeq, oSet, oOp2, oVar, oC, fMul, w, Out.bnd, optO, oNxt]
theorem scale_lt : ∀ n : Nat, n < 24 → (1 : Int) * 1009 ^ n < 2 ^ 250 ∧ 0 < (1 : Int) * 1009 ^ n := by decide
theorem number_ok (h : Draws fs j) (k : Nat) (c i b : Int) (hb : 0 < b) (hi : 0 ≤ i ∧ i ≤ 1000) : ∃ (v : Int) (r : Rho), 0 ≤ v ∧ v < b ∧ calls fs (k + 2) (j + 2) [.val (.int c), .val (.int i), .val (.int b)] = .ret (.int v) r := by
  obtain ⟨f, e, hN, ht⟩ := h.n
  rw [calls_at e, hN, ht]
  obtain ⟨l', hl⟩ := loop_ok (cl := calls fs (k + 1)) c i b .un .un (i % 24).toNat (rngD 0 (i % 24).toNat) (by simp [rngD]) 1 .un (by decide)
  obtain ⟨hs, hs0⟩ := scale_lt (i % 24).toNat (by omega)
  generalize (1 : Int) * 1009 ^ (i % 24).toNat = s at hl hs hs0
  have r1 : -4611686018427387904 ≤ i % 24 ∧ i % 24 < 4611686018427387904 := ⟨by omega, by omega⟩
  have hs' : s < 1809251394333065553493296640760748560207343510400633813116524750123642650624 := by simpa using hs
  have w10 : W64 10 := by decide
  have w977 : W64 977 := by decide
  have w31 : W64 31 := by decide
  by_cases hp : 0 < (c - 1000000000000000000) / s
  · refine ⟨((c - 1000000000000000000) / s) % 1009 % b, ?_⟩
    have h1 : 0 ≤ ((c - 1000000000000000000) / s) % 1009 % b := Int.emod_nonneg _ (by omega)
    have h2 : ((c - 1000000000000000000) / s) % 1009 % b < b := Int.emod_lt_of_pos _ hb
    simp [tNumber, ev, evG, oSeq, oIfS, oRet, oSet, oFor, oRng1, oOp2, oVar, oC, oCall, oCons, oNil, oNxt, Out.bnd, Out.bnds, Out.bndb, optO, cmpF, fGt, binF, fAdd, fSub, fMul, fMod, fDiv, fPow, BF.f, fInt, w10, r1, hl, hs', hs0, hp, hb, h1, h2]
  · obtain ⟨v, r', hv⟩ := draw_ok h k (((c % 1000003) + 977 * i) * ((c % 1000003) + 31 * i + 5)) (i % 9 + 1) 999983 (by decide)
    refine ⟨v % b, ?_⟩
    have h1 : 0 ≤ v % b := Int.emod_nonneg _ (by omega)
    have h2 : v % b < b := Int.emod_lt_of_pos _ hb
    have w1 : W64 ((c % 1000003) + 977 * i) := w_small (by omega)
    simp [tNumber, ev, evG, oSeq, oIfS, oRet, oSet, oFor, oRng1, oOp2, oVar, oC, oCall, oCons, oNil, oNxt, Out.bnd, Out.bnds, Out.bndb, optO, cmpF, fGt, binF, fAdd, fSub, fMul, fMod, fDiv, fPow, BF.f, fInt, w10, r1, hl, hs', hs0, hp, hb, h1, h2, oCallF, flT, refs, mkArgs, putBack, w977, w31, w1, hv]
theorem next_ok (h : Draws fs j) (k : Nat) (cells : List Int) (n : Nat) (b : Int) (hb : 0 < b) : ∃ (v : Int) (r : Rho), 0 ≤ v ∧ v < b ∧ calls fs (k + 3) (j + 3) [.io (.list [.list (cells.map .int), .int 0, .int n]), .val (.int b)] = .ret (.int v) (.io (.list [.list (cells.map .int), .int 0, .int (n + 1 : Nat)]) :: r) := by
  obtain ⟨f, e, hN, ht⟩ := h.x
  rw [calls_at e, hN, ht]
  obtain ⟨c, r1, hc⟩ := cell_ok h (k + 1) cells (((n : Int) + 1) / 12) (by omega)
  obtain ⟨v, r2, h1, h2, hv⟩ := number_ok h k (c + 31 * (((n : Int) + 1) / 12)) (((n : Int) + 1) % 12 + 1) b hb (by omega)
  refine ⟨v, ?_⟩
  have w31 : W64 31 := by decide
  simp [tNext, ev, oSeq, oRet, oSet, oPut, oPix, oOp2, oVar, oC, oCall, oCons, oNil, oNxt, Out.bnd, Out.bnds, Out.bndb, optO, binF, fAdd, fMul, fMod, fDiv, BF.f, fInt, oCallF, flT, refs, mkArgs, putBack, Slot.lst?, Slot.put, fIx, L2.atI, L2.ixN, w31, hc, hv, h1, h2]
end
end Py

/-! Py, part Y: plain laws of the combinators: comprehensions, loops. -/
namespace Py
open PySem

theorem wipe_get : ∀ (vs : List Nat) (r : Rho) (k : Nat), (wipeR r vs)[k]? = if k ∈ vs ∧ k < r.length then some .un else r[k]?
  | [], r, k => by simp [wipeR]
  | v :: vs, r, k => by
    unfold wipeR
    rw [List.getElem?_set]
    have hl : (wipeR r vs).length = r.length := by
      induction vs with
      | nil => rfl
      | cons w ws ih => unfold wipeR; rw [List.length_set]; exact ih
    rw [hl, wipe_get vs r k]
    by_cases h1 : v = k
    · subst h1
      by_cases h2 : v < r.length
      · simp [h2]
      · have : r[v]? = none := by simp; omega
        simp [h2, this]
    · rw [if_neg h1]
      have h1' : ¬ k = v := fun z => h1 z.symm
      simp [h1']
theorem wipe_len (r : Rho) : ∀ vs : List Nat, (wipeR r vs).length = r.length
  | [] => rfl
  | v :: vs => by unfold wipeR; rw [List.length_set]; exact wipe_len r vs
theorem rest_get (r0 : Rho) : ∀ (vs : List Nat) (r : Rho) (k : Nat), r.length = r0.length → (restR r0 r vs)[k]? = if k ∈ vs then r0[k]? else r[k]?
  | [], r, k, _ => by simp [restR]
  | v :: vs, r, k, hl => by
    have hl2 : (restR r0 r vs).length = r0.length := by
      rw [← hl]
      clear hl
      induction vs with
      | nil => rfl
      | cons w ws ih =>
        unfold restR
        cases r0[w]? with
        | none => exact ih
        | some s => rw [List.length_set]; exact ih
    have ih := rest_get r0 vs r k hl
    unfold restR
    cases e : r0[v]? with
    | none =>
      dsimp only
      rw [ih]
      by_cases h1 : k = v
      · subst h1
        have : r[k]? = none := by
          have := List.getElem?_eq_none_iff.mp e
          exact List.getElem?_eq_none_iff.mpr (by omega)
        simp [e, this]
      · simp [h1]
    | some s =>
      dsimp only
      rw [List.getElem?_set, hl2, ih]
      by_cases h1 : v = k
      · subst h1
        have := (List.getElem?_eq_some_iff.mp e).1
        rw [if_pos rfl, if_pos this, if_pos List.mem_cons_self, e]
      · rw [if_neg h1]
        simp [Ne.symm h1]
theorem rest_wipe (r : Rho) (vs : List Nat) : restR r (wipeR r vs) vs = r := by
  refine List.ext_getElem? fun k => ?_
  rw [rest_get r vs (wipeR r vs) k (wipe_len r vs), wipe_get]
  by_cases h : k ∈ vs
  · simp [h]
  · simp [h]
theorem lcIn_gen {vs : List Nat} {f : Bd} {t e : O1} {r : Rho} {p : D → Bool} {g : D → D} {st : D → Rho} : ∀ (ds : List D) (acc : List D), (∀ d ∈ ds, f d (wipeR r vs) = some (st d)) → (∀ d ∈ ds, wipeR (st d) vs = wipeR r vs) → (∀ d ∈ ds, t (st d) = .val (.bool (p d)) (st d)) →
    (∀ d ∈ ds, p d = true → e (st d) = .val (g d) (st d)) → acc.length + ds.length ≤ lim → lcIn vs f t e ds acc (wipeR r vs) = some (acc ++ (ds.filter p).map g, wipeR r vs)
  | [], acc, _, _, _, _, _ => by simp [lcIn]
  | d :: ds, acc, hf, hw, ht, he, hl => by
    have h0 := List.mem_cons_self (a := d) (l := ds)
    unfold lcIn
    rw [hf d h0]
    dsimp only
    rw [ht d h0]
    cases hp : p d with
    | false =>
      dsimp only
      rw [hw d h0, lcIn_gen ds acc (fun x h => hf x (List.mem_cons_of_mem _ h)) (fun x h => hw x (List.mem_cons_of_mem _ h)) (fun x h => ht x (List.mem_cons_of_mem _ h)) (fun x h => he x (List.mem_cons_of_mem _ h)) (by simp at hl; omega)]
      rw [List.filter_cons, hp]; rfl
    | true =>
      dsimp only
      rw [he d h0 hp]
      dsimp only
      rw [if_pos (by simp at hl; omega), hw d h0, lcIn_gen ds _ (fun x h => hf x (List.mem_cons_of_mem _ h)) (fun x h => hw x (List.mem_cons_of_mem _ h)) (fun x h => ht x (List.mem_cons_of_mem _ h)) (fun x h => he x (List.mem_cons_of_mem _ h)) (by simp at hl ⊢; omega)]
      rw [List.filter_cons, hp]; simp
/-- a comprehension that changes nothing -/
theorem oLc_gen {vs : List Nat} {it : O1} {f : Bd} {t e : O1} {r r1 : Rho} {ds : List D} {p : D → Bool} {g : D → D} {st : D → Rho} (hi : it r = .vals ds r1) (hok : okV r1 vs = true) (hf : ∀ d ∈ ds, f d (wipeR r1 vs) = some (st d)) (hw : ∀ d ∈ ds, wipeR (st d) vs = wipeR r1 vs)
    (ht : ∀ d ∈ ds, t (st d) = .val (.bool (p d)) (st d)) (he : ∀ d ∈ ds, p d = true → e (st d) = .val (g d) (st d)) (hl : ds.length ≤ lim) : oLc vs it f t e r = .val (.list ((ds.filter p).map g)) r1 := by
  unfold oLc
  rw [hi]
  show (if okV r1 vs = true then _ else _) = _
  rw [if_pos hok, lcIn_gen ds [] hf hw ht he (by simpa using hl)]
  show Out.val _ _ = _
  rw [rest_wipe]; rfl
theorem oLc_map {i : Nat} {it : O1} {e : O1} {r r1 : Rho} {ds : List D} {g : D → D} (hi : it r = .vals ds r1) (hok : okV r1 [i] = true) (he : ∀ d ∈ ds, e (r1.set i (.val d)) = .val (g d) (r1.set i (.val d))) (hl : ds.length ≤ lim) :
    oLc [i] it (gNm i) oYes e r = .val (.list (ds.map g)) r1 := by
  have := oLc_gen (vs := [i]) (it := it) (f := gNm i) (t := oYes) (e := e) (p := fun _ => true) (g := g) (st := fun d => r1.set i (.val d)) hi hok (fun d _ => by simp [gNm, wipeR]) (fun d _ => by simp [wipeR]) (fun _ _ => rfl) (fun d h _ => he d h) hl
  rw [this]
  congr 2
  rw [List.filter_eq_self.mpr fun _ _ => rfl]
theorem oLc_flt {i : Nat} {it t : O1} {e : O1} {r r1 : Rho} {ds : List D} {p : D → Bool} {g : D → D} (hi : it r = .vals ds r1) (hok : okV r1 [i] = true) (ht : ∀ d ∈ ds, t (r1.set i (.val d)) = .val (.bool (p d)) (r1.set i (.val d)))
    (he : ∀ d ∈ ds, p d = true → e (r1.set i (.val d)) = .val (g d) (r1.set i (.val d))) (hl : ds.length ≤ lim) : oLc [i] it (gNm i) t e r = .val (.list ((ds.filter p).map g)) r1 :=
  oLc_gen (vs := [i]) hi hok (fun d _ => by simp [gNm, wipeR]) (fun d _ => by simp [wipeR]) ht he hl
/-- all([..]), any([..]) of bools -/
theorem bls_map {α : Type} (f : α → Bool) (xs : List α) : blsOf (xs.map fun x => PyData.bool (f x)) = some (xs.map f) := by
  have := blsOf_map (xs.map f)
  rwa [List.map_map] at this
theorem fAll_map {α : Type} (f : α → Bool) (xs : List α) : fAll [.list (xs.map fun x => PyData.bool (f x))] = some (.bool (xs.all f)) := by
  show (blsOf (xs.map fun x => PyData.bool (f x))).map (fun ns => PyData.bool (ns.all id)) = _
  rw [bls_map]
  simp [Option.map]
theorem fAny_map {α : Type} (f : α → Bool) (xs : List α) : fAny [.list (xs.map fun x => PyData.bool (f x))] = some (.bool (xs.any f)) := by
  show (blsOf (xs.map fun x => PyData.bool (f x))).map (fun ns => PyData.bool (ns.any id)) = _
  rw [bls_map]
  simp [Option.map]
/-- equality of small things -/
theorem bEq_int (i j : Int) : bEq (.int i) (.int j) = some (decide (i = j)) := by
  simp [bEq, okD, PyData.plain, PyData.depth, PyData.eqv]
  rfl
theorem bNe_int (i j : Int) : bNe (.int i) (.int j) = some (!decide (i = j)) := by
  simp [bNe, okD, PyData.plain, PyData.depth, PyData.eqv]
  rfl
end Py

namespace K85
open PySem Py
def top (i : Nat) : Stmt := PySem.Challenge.pw_noclicks_k85_new_shapes.main.body.getD i (.Pass ⟨0, 0, 0, 0⟩)
def fd0 : Fd := ⟨("is_whole" : Str), top 1, [("thing" : Str)], [("thing" : Str)],
  (.seq (.ret (.b2 .And (.isa .int (.var 0)) (.b1 (.inv (.isa .bool (.var 0)))))) .skp)⟩
def fd1 : Fd := ⟨("is_from" : Str), top 2, [("thing" : Str), ("least" : Str), ("most" : Str)], [("thing" : Str), ("least" : Str), ("most" : Str)],
  (.seq (.ret (.b2 .And (.cal 0 (.con (.var 0) .nil)) (.b1 (.chn .LtE .LtE (.var 1) (.var 0) (.var 2))))) .skp)⟩
def fd2 : Fd := ⟨("is_many" : Str), top 3, [("thing" : Str), ("many" : Str)], [("thing" : Str), ("many" : Str)],
  (.seq (.ret (.b2 .And (.isa .tuple (.var 0)) (.b1 (.cmp .Eq (.bi .len (.con (.var 0) .nil)) (.var 1))))) .skp)⟩
def fd3 : Fd := ⟨("is_sample_row" : Str), top 6, [("thing" : Str), ("one" : Str)], [("thing" : Str)],
  (.seq (.ifs (.b2 .Or (.inv (.isa .tuple (.var 0))) (.b1 (.inv (.chn .LtE .LtE (.cst (.int 1)) (.bi .len (.con (.var 0) .nil)) (.glo (.int 40)))))) (.seq (.ret (.cst (.bool false))) .skp) .skp) (.seq (.ret (.bi .all (.con (.lc [1] (.gn 1) (.itr (.var 0)) .yes (.cal 1 (.con (.var 1) (.con (.neg (.cst (.int 1000))) (.con (.cst (.int 1000)) .nil))))) .nil))) .skp))⟩
def fd4 : Fd := ⟨("is_flows" : Str), top 9, [("thing" : Str), ("one" : Str)], [("thing" : Str)],
  (.seq (.ifs (.b2 .Or (.inv (.isa .tuple (.var 0))) (.b1 (.cmp .Gt (.bi .len (.con (.var 0) .nil)) (.glo (.int 40))))) (.seq (.ret (.cst (.bool false))) .skp) .skp) (.seq (.ret (.bi .all (.con (.lc [1] (.gn 1) (.itr (.var 0)) .yes (.b2 .And (.cal 2 (.con (.var 1) (.con (.cst (.int 2)) .nil))) (.b2 .And (.cal 1 (.con (.ix (.var 1) (.cst (.int 0))) (.con (.cst (.int 0)) (.con (.cst (.int 100)) .nil)))) (.b1 (.cal 1 (.con (.ix (.var 1) (.cst (.int 1))) (.con (.cst (.int 0)) (.con (.cst (.int 100)) .nil)))))))) .nil))) .skp))⟩
def fd5 : Fd := ⟨("is_delays" : Str), top 12, [("thing" : Str), ("one" : Str), ("late" : Str)], [("thing" : Str)],
  (.seq (.ifs (.b2 .Or (.inv (.isa .tuple (.var 0))) (.b1 (.inv (.chn .LtE .LtE (.cst (.int 1)) (.bi .len (.con (.var 0) .nil)) (.cst (.int 5)))))) (.seq (.ret (.cst (.bool false))) .skp) .skp) (.seq (.ifs (.inv (.bi .all (.con (.lc [1] (.gn 1) (.itr (.var 0)) .yes (.cal 1 (.con (.var 1) (.con (.cst (.int 1)) (.con (.glo (.int 30)) .nil))))) .nil))) (.seq (.ret (.cst (.bool false))) .skp) .skp) (.seq (.ret (.bi .all (.con (.lc [1, 2] (.gt 2 (.con (.gn 1) (.con (.gn 2) .nil))) (.zpp (.con (.var 0) (.con (.sl (.var 0) (.pt (.cst (.int 1))) .nop) .nil))) .yes (.cmp .Lt (.var 1) (.var 2))) .nil))) .skp)))⟩
def fd6 : Fd := ⟨("_law_cell_at" : Str), top 14, [("script" : Str), ("k" : Str)], [("script" : Str), ("k" : Str)],
  (.seq (.ifs (.cmp .Lt (.var 1) (.bi .len (.con (.var 0) .nil))) (.seq (.ret (.ix (.var 0) (.var 1))) .skp) .skp) (.seq (.ret (.cst (.int 0))) .skp))⟩
def fd7 : Fd := ⟨("_law_draw" : Str), top 15, [("cell" : Str), ("k" : Str), ("bound" : Str), ("primes" : Str)], [("cell" : Str), ("k" : Str), ("bound" : Str)],
  (.seq (.set 3 (.tup (.con (.cst (.int 1000003)) (.con (.cst (.int 1000033)) (.con (.cst (.int 1000037)) (.con (.cst (.int 1000039)) (.con (.cst (.int 1000081)) (.con (.cst (.int 1000099)) (.con (.cst (.int 1000117)) (.con (.cst (.int 1000121)) (.con (.cst (.int 1000133)) (.con (.cst (.int 1000151)) (.con (.cst (.int 1000159)) (.con (.cst (.int 1000171)) (.con (.cst (.int 1000183)) (.con (.cst (.int 1000187)) (.con (.cst (.int 1000193)) (.con (.cst (.int 1000199)) .nil)))))))))))))))))) (.seq (.ret (.bin .Mod (.bin .Mod (.bi .int (.con (.bin .Add (.bin .Mult (.var 0) (.cst (.int 48271))) (.bin .Mult (.var 1) (.cst (.int 69621)))) .nil)) (.ix (.var 3) (.bin .Mod (.bi .int (.con (.var 1) .nil)) (.cst (.int 16))))) (.var 2))) .skp))⟩
def fd8 : Fd := ⟨("_law_number" : Str), top 16, [("cell" : Str), ("k" : Str), ("bound" : Str), ("scale" : Str), ("lap" : Str), ("remains" : Str), ("small" : Str)], [("cell" : Str), ("k" : Str), ("bound" : Str)],
  (.seq (.set 3 (.cst (.int 1))) (.seq (.frl (.gn 4) (.rg1 (.con (.bin .Mod (.bi .int (.con (.var 1) .nil)) (.cst (.int 24))) .nil)) (.seq (.set 3 (.bin .Mult (.var 3) (.cst (.int 1009)))) .skp)) (.seq (.set 5 (.bin .FloorDiv (.bin .Sub (.var 0) (.bin .Pow (.cst (.int 10)) (.cst (.int 18)))) (.var 3))) (.seq (.ifs (.cmp .Gt (.var 5) (.cst (.int 0))) (.seq (.ret (.bin .Mod (.bin .Mod (.bi .int (.con (.var 5) .nil)) (.cst (.int 1009))) (.var 2))) .skp) .skp) (.seq (.set 6 (.bin .Mod (.bi .int (.con (.var 0) .nil)) (.cst (.int 1000003)))) (.seq (.ret (.bin .Mod (.cal 7 (.con (.bin .Mult (.bin .Add (.var 6) (.bin .Mult (.cst (.int 977)) (.var 1))) (.bin .Add (.bin .Add (.var 6) (.bin .Mult (.cst (.int 31)) (.var 1))) (.cst (.int 5)))) (.con (.bin .Add (.bin .Mod (.bi .int (.con (.var 1) .nil)) (.cst (.int 9))) (.cst (.int 1))) (.con (.cst (.int 999983)) .nil)))) (.var 2))) .skp))))))⟩
def fd9 : Fd := ⟨("_law_next" : Str), top 17, [("draw" : Str), ("bound" : Str), ("at" : Str), ("cell" : Str)], [("draw" : Str), ("bound" : Str)],
  (.seq (.put 0 (.cst (.int 2)) (.bin .Add (.pix 0 (.cst (.int 2))) (.cst (.int 1)))) (.seq (.set 2 (.bin .FloorDiv (.pix 0 (.cst (.int 2))) (.cst (.int 12)))) (.seq (.set 3 (.bin .Add (.cal 6 (.con (.pix 0 (.cst (.int 0))) (.con (.bin .Add (.pix 0 (.cst (.int 1))) (.var 2)) .nil))) (.bin .Mult (.cst (.int 31)) (.var 2)))) (.seq (.ret (.cal 8 (.con (.var 3) (.con (.bin .Add (.bin .Mod (.bi .int (.con (.pix 0 (.cst (.int 2))) .nil)) (.cst (.int 12))) (.cst (.int 1))) (.con (.var 1) .nil))))) .skp))))⟩
def l_0 : T := (.sto 1 (.lst (.con (.scr 0) (.con (.cst (.int 0)) (.con (.cst (.int 0)) .nil)))))
def l_1 : T := (.set 2 (.bin .Add (.cst (.int 1)) (.cal 9 (.rfc 1 (.con (.cst (.int 40)) .nil)))))
def l_2 : T := (.ifs (.b2 .Or (.inv (.cal 3 (.con (.bin .Mult (.tup (.con (.cst (.int 0)) .nil)) (.var 2)) .nil))) (.b2 .Or (.inv (.cal 3 (.con (.bin .Mult (.tup (.con (.cst (.int 1000)) (.con (.neg (.cst (.int 1000))) .nil))) (.bin .FloorDiv (.bin .Add (.var 2) (.cst (.int 1))) (.cst (.int 2)))) .nil))) (.b2 .Or (.cal 3 (.con (.bin .Mult (.tup (.con (.cst (.int 0)) .nil)) (.bin .Add (.cst (.int 40)) (.var 2))) .nil)) (.b1 (.cal 3 (.con (.tup .nil) .nil)))))) (.seq (.ret (.cst (.bool false))) .skp) .skp)
def l_3 : T := (.ifs (.b2 .Or (.cal 3 (.con (.bin .Mult (.lst (.con (.cst (.int 0)) .nil)) (.var 2)) .nil)) (.b2 .Or (.cal 3 (.con (.bin .Add (.bin .Mult (.tup (.con (.cst (.int 0)) .nil)) (.bin .Sub (.var 2) (.cst (.int 1)))) (.tup (.con (.cst (.int 1001)) .nil))) .nil)) (.b2 .Or (.cal 3 (.con (.bin .Add (.tup (.con (.neg (.cst (.int 1001))) .nil)) (.bin .Mult (.tup (.con (.cst (.int 0)) .nil)) (.bin .Sub (.var 2) (.cst (.int 1))))) .nil)) (.b1 (.cal 3 (.con (.bin .Mult (.tup (.con (.cst (.bool false)) .nil)) (.var 2)) .nil)))))) (.seq (.ret (.cst (.bool false))) .skp) .skp)
def l_4 : T := (.ifs (.b2 .Or (.cal 3 (.con (.bin .Add (.bin .Mult (.tup (.con (.cst (.int 0)) .nil)) (.bin .Sub (.var 2) (.cst (.int 1)))) (.tup (.con (.cst .none) .nil))) .nil)) (.b2 .Or (.cal 3 (.con (.var 2) .nil)) (.b2 .Or (.cal 3 (.con (.cst .none) .nil)) (.b1 (.cal 3 (.con (.bin .Mult (.tup (.con (.tup (.con (.cst (.int 0)) (.con (.cst (.int 1)) .nil))) .nil)) (.var 2)) .nil)))))) (.seq (.ret (.cst (.bool false))) .skp) .skp)
def l_5 : T := (.set 3 (.bin .Add (.cst (.int 1)) (.cal 9 (.rfc 1 (.con (.cst (.int 29)) .nil)))))
def l_6 : T := (.ifs (.b2 .Or (.inv (.cal 5 (.con (.tup (.con (.var 3) .nil)) .nil))) (.b2 .Or (.inv (.cal 5 (.con (.tup (.con (.var 3) (.con (.cst (.int 30)) .nil))) .nil))) (.b2 .Or (.inv (.cal 5 (.con (.tup (.con (.cst (.int 1)) (.con (.cst (.int 2)) (.con (.cst (.int 3)) (.con (.cst (.int 4)) (.con (.cst (.int 30)) .nil)))))) .nil))) (.b2 .Or (.cal 5 (.con (.tup (.con (.cst (.int 30)) (.con (.var 3) .nil))) .nil)) (.b2 .Or (.cal 5 (.con (.tup (.con (.var 3) (.con (.var 3) .nil))) .nil)) (.b2 .Or (.cal 5 (.con (.tup (.con (.var 3) (.con (.cst (.int 31)) .nil))) .nil)) (.b2 .Or (.cal 5 (.con (.tup (.con (.cst (.int 0)) (.con (.var 3) .nil))) .nil)) (.b2 .Or (.cal 5 (.con (.tup (.con (.cst (.int 1)) (.con (.cst (.int 2)) (.con (.cst (.int 3)) (.con (.cst (.int 4)) (.con (.cst (.int 5)) (.con (.cst (.int 6)) .nil))))))) .nil)) (.b2 .Or (.cal 5 (.con (.tup .nil) .nil)) (.b2 .Or (.cal 5 (.con (.lst (.con (.var 3) .nil)) .nil)) (.b2 .Or (.cal 5 (.con (.tup (.con (.cst (.bool true)) .nil)) .nil)) (.b2 .Or (.cal 5 (.con (.var 3) .nil)) (.b2 .Or (.cal 5 (.con (.cst .none) .nil)) (.b1 (.cal 5 (.con (.tup (.con (.neg (.var 3)) .nil)) .nil)))))))))))))))) (.seq (.ret (.cst (.bool false))) .skp) .skp)
def l_7 : T := (.ifs (.b2 .Or (.inv (.cal 4 (.con (.tup .nil) .nil))) (.b2 .Or (.inv (.cal 4 (.con (.bin .Mult (.tup (.con (.tup (.con (.cst (.int 0)) (.con (.cst (.int 100)) .nil))) (.con (.tup (.con (.cst (.int 100)) (.con (.cst (.int 0)) .nil))) .nil))) (.bin .FloorDiv (.bin .Add (.var 2) (.cst (.int 1))) (.cst (.int 2)))) .nil))) (.b2 .Or (.inv (.cal 4 (.con (.bin .Mult (.tup (.con (.tup (.con (.var 3) (.con (.var 3) .nil))) .nil)) (.var 2)) .nil))) (.b1 (.cal 4 (.con (.bin .Mult (.tup (.con (.tup (.con (.var 3) (.con (.var 3) .nil))) .nil)) (.bin .Add (.cst (.int 40)) (.var 2))) .nil)))))) (.seq (.ret (.cst (.bool false))) .skp) .skp)
def l_8 : T := (.ifs (.b2 .Or (.cal 4 (.con (.tup (.con (.tup (.con (.var 3) (.con (.cst (.int 101)) .nil))) .nil)) .nil)) (.b2 .Or (.cal 4 (.con (.tup (.con (.tup (.con (.neg (.cst (.int 1))) (.con (.var 3) .nil))) .nil)) .nil)) (.b2 .Or (.cal 4 (.con (.tup (.con (.tup (.con (.var 3) .nil)) .nil)) .nil)) (.b2 .Or (.cal 4 (.con (.tup (.con (.tup (.con (.var 3) (.con (.var 3) (.con (.var 3) .nil)))) .nil)) .nil)) (.b2 .Or (.cal 4 (.con (.lst (.con (.tup (.con (.var 3) (.con (.var 3) .nil))) .nil)) .nil)) (.b1 (.cal 4 (.con (.tup (.con (.lst (.con (.var 3) (.con (.var 3) .nil))) .nil)) .nil)))))))) (.seq (.ret (.cst (.bool false))) .skp) .skp)
def l_9 : T := (.ifs (.b2 .Or (.cal 4 (.con (.tup (.con (.tup (.con (.cst (.bool true)) (.con (.var 3) .nil))) .nil)) .nil)) (.b2 .Or (.cal 4 (.con (.tup (.con (.tup (.con (.var 3) (.con (.cst .none) .nil))) .nil)) .nil)) (.b1 (.cal 4 (.con (.cst .none) .nil))))) (.seq (.ret (.cst (.bool false))) .skp) .skp)
def l_10 : T := (.ret (.b2 .And (.cal 3 (.con (.bin .Mult (.tup (.con (.cst (.int 0)) .nil)) (.cst (.int 40))) .nil)) (.b2 .And (.inv (.cal 3 (.con (.bin .Mult (.tup (.con (.cst (.int 0)) .nil)) (.cst (.int 41))) .nil))) (.b2 .And (.cal 4 (.con (.bin .Mult (.tup (.con (.tup (.con (.cst (.int 0)) (.con (.cst (.int 0)) .nil))) .nil)) (.cst (.int 40))) .nil)) (.b1 (.inv (.cal 4 (.con (.bin .Mult (.tup (.con (.tup (.con (.cst (.int 0)) (.con (.cst (.int 0)) .nil))) .nil)) (.cst (.int 41))) .nil))))))))
def fd10 : Fd := ⟨("law" : Str), top 18, [("script" : Str), ("draw" : Str), ("many" : Str), ("one" : Str)], [("script" : Str)],
  (.seq l_0 (.seq l_1 (.seq l_2 (.seq l_3 (.seq l_4 (.seq l_5 (.seq l_6 (.seq l_7 (.seq l_8 (.seq l_9 (.seq l_10 .skp)))))))))))⟩
def fds : List Fd := [fd0, fd1, fd2, fd3, fd4, fd5, fd6, fd7, fd8, fd9, fd10]
def cns : List (Str × D) := [(("MOST_SAMPLES" : Str), (.int 40)), (("MOST_FLOWS" : Str), (.int 40)), (("MOST_DELAY" : Str), (.int 30))]
def bls : List Str := [("all" : Str), ("bool" : Str), ("int" : Str), ("isinstance" : Str), ("len" : Str), ("range" : Str), ("tuple" : Str), ("zip" : Str)]
end K85

namespace K85
open PySem Py
theorem chk_ok : fds.all (Fd.ok (gOf fds cns bls)) = true := by decide +kernel
end K85

namespace K85
open PySem Py
def isWhole : D → Bool
  | .int _ => true
  | _ => false
def isFrom (a b : Int) : D → Bool
  | .int i => decide (a ≤ i) && decide (i ≤ b)
  | _ => false
theorem whole_ok (k : Nat) (d : D) : ∃ r, calls fds (k + 1) 0 [.val d] = .ret (.bool (isWhole d)) r := by
  rw [calls_at (fs := fds) (j := 0) rfl]
  cases d <;> simp [lim, ev, evG, flT, oBo, oSeq, oRet, oSet, oIfS, oAnd, oOr, oNot, oIf, oOp1, oOp2, oVar, oC, oCall, oCons, oNil, oChain, oNxt, oCallF, refs, mkArgs, putBack, oIt, kOf, Out.bnd, Out.bnds, Out.bndb, optO, cmpF, binF, fLt, fLe, fGt, fGe, fIsa, isaB, BF.f, fLen, fInt, fNeg, fTup, fLst, fAdd, fSub, fd0, isWhole]
theorem from_ok (k : Nat) (d : D) (a b : Int) : ∃ r, calls fds (k + 2) 1 [.val d, .val (.int a), .val (.int b)] = .ret (.bool (isFrom a b d)) r := by
  rw [calls_at (fs := fds) (j := 1) rfl]
  obtain ⟨r, h⟩ := whole_ok k d
  cases d <;> simp [lim, ev, evG, flT, oBo, oSeq, oRet, oSet, oIfS, oAnd, oOr, oNot, oIf, oOp1, oOp2, oVar, oC, oCall, oCons, oNil, oChain, oNxt, oCallF, refs, mkArgs, putBack, oIt, kOf, Out.bnd, Out.bnds, Out.bndb, optO, cmpF, binF, fLt, fLe, fGt, fGe, fIsa, isaB, BF.f, fLen, fInt, fNeg, fTup, fLst, fAdd, fSub, fd1, h, isWhole, isFrom]
  rename_i i
  by_cases h1 : a ≤ i <;> simp [h1]
def isMany (d : D) (n : Int) : Bool := match d with
  | .tuple xs => decide ((xs.length : Int) = n)
  | _ => false
theorem many_ok (k : Nat) (d : D) (n : Int) : ∃ r, calls fds (k + 1) 2 [.val d, .val (.int n)] = .ret (.bool (isMany d n)) r := by
  rw [calls_at (fs := fds) (j := 2) rfl]
  cases d <;> simp [lim, ev, evG, flT, oBo, oSeq, oRet, oSet, oIfS, oAnd, oOr, oNot, oIf, oOp1, oOp2, oVar, oC, oCall, oCons, oNil, oChain, oNxt, oCallF, refs, mkArgs, putBack, oIt, kOf, Out.bnd, Out.bnds, Out.bndb, optO, cmpF, binF, fLt, fLe, fGt, fGe, fIsa, isaB, BF.f, fLen, fInt, fNeg, fTup, fLst, fAdd, fSub, fd2, ofB, bEq_int, isMany]
def isRow : D → Bool
  | .tuple xs => decide (1 ≤ xs.length) && decide (xs.length ≤ 40) && xs.all (isFrom (-1000) 1000)
  | _ => false
theorem row_ok (k : Nat) (d : D) : ∃ r, calls fds (k + 3) 3 [.val d] = .ret (.bool (isRow d)) r := by
  rw [calls_at (fs := fds) (j := 3) rfl]
  cases d with
  | tuple xs =>
    by_cases h1 : 1 ≤ xs.length
    · by_cases h2 : xs.length ≤ 40
      · have h3 : (1 : Int) ≤ xs.length := by omega
        have h4 : (xs.length : Int) ≤ 40 := by omega
        have hm : oLc [1] (oIt (oVar 0)) (gNm 1) oYes (ev (calls fds (k + 2)) (.cal 1 (.con (.var 1) (.con (.neg (.cst (.int 1000))) (.con (.cst (.int 1000)) .nil))))) [.val (.tuple xs), .un] = .val (.list (xs.map fun d => .bool (isFrom (-1000) 1000 d))) [.val (.tuple xs), .un] := by
          refine oLc_map (by simp [oIt, oVar, Out.bnd, kOf]) (by simp [okV, Slot.excl]) (fun d _ => ?_) (by unfold lim; omega)
          obtain ⟨r, h⟩ := from_ok k d (-1000) 1000
          simp [lim, ev, evG, flT, oBo, oSeq, oRet, oSet, oIfS, oAnd, oOr, oNot, oIf, oOp1, oOp2, oVar, oC, oCall, oCons, oNil, oChain, oNxt, oCallF, refs, mkArgs, putBack, oIt, kOf, Out.bnd, Out.bnds, Out.bndb, optO, cmpF, binF, fLt, fLe, fGt, fGe, fIsa, isaB, BF.f, fLen, fInt, fNeg, fTup, fLst, fAdd, fSub, h]
        simp [lim, ev, evG, flT, oBo, oSeq, oRet, oSet, oIfS, oAnd, oOr, oNot, oIf, oOp1, oOp2, oVar, oC, oCall, oCons, oNil, oChain, oNxt, oCallF, refs, mkArgs, putBack, oIt, kOf, Out.bnd, Out.bnds, Out.bndb, optO, cmpF, binF, fLt, fLe, fGt, fGe, fIsa, isaB, BF.f, fLen, fInt, fNeg, fTup, fLst, fAdd, fSub] at hm
        simp [lim, ev, evG, flT, oBo, oSeq, oRet, oSet, oIfS, oAnd, oOr, oNot, oIf, oOp1, oOp2, oVar, oC, oCall, oCons, oNil, oChain, oNxt, oCallF, refs, mkArgs, putBack, oIt, kOf, Out.bnd, Out.bnds, Out.bndb, optO, cmpF, binF, fLt, fLe, fGt, fGe, fIsa, isaB, BF.f, fLen, fInt, fNeg, fTup, fLst, fAdd, fSub, fd3, h3, h4, hm, fAll_map, isRow, h1, h2]
      · have h3 : (1 : Int) ≤ xs.length := by omega
        have h4 : ¬ (xs.length : Int) ≤ 40 := by omega
        simp [lim, ev, evG, flT, oBo, oSeq, oRet, oSet, oIfS, oAnd, oOr, oNot, oIf, oOp1, oOp2, oVar, oC, oCall, oCons, oNil, oChain, oNxt, oCallF, refs, mkArgs, putBack, oIt, kOf, Out.bnd, Out.bnds, Out.bndb, optO, cmpF, binF, fLt, fLe, fGt, fGe, fIsa, isaB, BF.f, fLen, fInt, fNeg, fTup, fLst, fAdd, fSub, fd3, h3, h4, isRow, h1, h2]
    · have h3 : ¬ (1 : Int) ≤ xs.length := by omega
      simp [lim, ev, evG, flT, oBo, oSeq, oRet, oSet, oIfS, oAnd, oOr, oNot, oIf, oOp1, oOp2, oVar, oC, oCall, oCons, oNil, oChain, oNxt, oCallF, refs, mkArgs, putBack, oIt, kOf, Out.bnd, Out.bnds, Out.bndb, optO, cmpF, binF, fLt, fLe, fGt, fGe, fIsa, isaB, BF.f, fLen, fInt, fNeg, fTup, fLst, fAdd, fSub, fd3, h3, isRow, h1]
  | _ => simp [lim, ev, evG, flT, oBo, oSeq, oRet, oSet, oIfS, oAnd, oOr, oNot, oIf, oOp1, oOp2, oVar, oC, oCall, oCons, oNil, oChain, oNxt, oCallF, refs, mkArgs, putBack, oIt, kOf, Out.bnd, Out.bnds, Out.bndb, optO, cmpF, binF, fLt, fLe, fGt, fGe, fIsa, isaB, BF.f, fLen, fInt, fNeg, fTup, fLst, fAdd, fSub, fd3, isRow]
def isFl (d : D) : Bool := match d with
  | .tuple [a, b] => isFrom 0 100 a && isFrom 0 100 b
  | _ => false
theorem fl_ok (k : Nat) (d t : D) : ev (calls fds (k + 2)) (.b2 .And (.cal 2 (.con (.var 1) (.con (.cst (.int 2)) .nil))) (.b2 .And (.cal 1 (.con (.ix (.var 1) (.cst (.int 0))) (.con (.cst (.int 0)) (.con (.cst (.int 100)) .nil)))) (.b1 (.cal 1 (.con (.ix (.var 1) (.cst (.int 1))) (.con (.cst (.int 0)) (.con (.cst (.int 100)) .nil))))))) [.val t, .val d] = .val (.bool (isFl d)) [.val t, .val d] := by
  obtain ⟨r, h⟩ := many_ok (k + 1) d 2
  by_cases hm : isMany d 2 = true
  · obtain ⟨a, b, rfl⟩ : ∃ a b, d = .tuple [a, b] := by
      unfold isMany at hm
      split at hm
      · rename_i xs
        have : xs.length = 2 := by
          have : (xs.length : Int) = 2 := by simpa using hm
          omega
        obtain ⟨a, b, rfl⟩ := len2 this
        exact ⟨a, b, rfl⟩
      · cases hm
    obtain ⟨ra, ha⟩ := from_ok k a 0 100
    obtain ⟨rb, hb⟩ := from_ok k b 0 100
    simp [lim, ev, evG, flT, oBo, oSeq, oRet, oSet, oIfS, oAnd, oOr, oNot, oIf, oOp1, oOp2, oVar, oC, oCall, oCons, oNil, oChain, oNxt, oCallF, refs, mkArgs, putBack, oIt, kOf, Out.bnd, Out.bnds, Out.bndb, optO, cmpF, binF, fLt, fLe, fGt, fGe, fIsa, isaB, BF.f, fLen, fInt, fNeg, fTup, fLst, fAdd, fSub, h, hm, fIx, L2.atI, L2.ixN, ha, hb, isFl]
    by_cases h1 : isFrom 0 100 a = true <;> simp [h1]
  · have hf : isFl d = false := by
      unfold isFl
      split
      · exact absurd rfl hm
      · rfl
    have hm' : isMany d 2 = false := by simpa using hm
    simp [lim, ev, evG, flT, oBo, oSeq, oRet, oSet, oIfS, oAnd, oOr, oNot, oIf, oOp1, oOp2, oVar, oC, oCall, oCons, oNil, oChain, oNxt, oCallF, refs, mkArgs, putBack, oIt, kOf, Out.bnd, Out.bnds, Out.bndb, optO, cmpF, binF, fLt, fLe, fGt, fGe, fIsa, isaB, BF.f, fLen, fInt, fNeg, fTup, fLst, fAdd, fSub, h, hm', hf]
def isFlows : D → Bool
  | .tuple xs => decide (xs.length ≤ 40) && xs.all isFl
  | _ => false
theorem flows_ok (k : Nat) (d : D) : ∃ r, calls fds (k + 3) 4 [.val d] = .ret (.bool (isFlows d)) r := by
  rw [calls_at (fs := fds) (j := 4) rfl]
  cases d with
  | tuple xs =>
    by_cases h2 : xs.length ≤ 40
    · have h4 : ¬ (40 : Int) < xs.length := by omega
      have hm := oLc_map (i := 1) (it := oIt (oVar 0)) (e := ev (calls fds (k + 2)) (.b2 .And (.cal 2 (.con (.var 1) (.con (.cst (.int 2)) .nil))) (.b2 .And (.cal 1 (.con (.ix (.var 1) (.cst (.int 0))) (.con (.cst (.int 0)) (.con (.cst (.int 100)) .nil)))) (.b1 (.cal 1 (.con (.ix (.var 1) (.cst (.int 1))) (.con (.cst (.int 0)) (.con (.cst (.int 100)) .nil)))))))) (r := [.val (.tuple xs), .un]) (r1 := [.val (.tuple xs), .un]) (ds := xs) (g := fun d => .bool (isFl d))
        (by simp [oIt, oVar, Out.bnd, kOf]) (by simp [okV, Slot.excl]) (fun d _ => fl_ok k d (.tuple xs)) (by unfold lim; omega)
      simp [lim, ev, evG, flT, oBo, oSeq, oRet, oSet, oIfS, oAnd, oOr, oNot, oIf, oOp1, oOp2, oVar, oC, oCall, oCons, oNil, oChain, oNxt, oCallF, refs, mkArgs, putBack, oIt, kOf, Out.bnd, Out.bnds, Out.bndb, optO, cmpF, binF, fLt, fLe, fGt, fGe, fIsa, isaB, BF.f, fLen, fInt, fNeg, fTup, fLst, fAdd, fSub] at hm
      simp [lim, ev, evG, flT, oBo, oSeq, oRet, oSet, oIfS, oAnd, oOr, oNot, oIf, oOp1, oOp2, oVar, oC, oCall, oCons, oNil, oChain, oNxt, oCallF, refs, mkArgs, putBack, oIt, kOf, Out.bnd, Out.bnds, Out.bndb, optO, cmpF, binF, fLt, fLe, fGt, fGe, fIsa, isaB, BF.f, fLen, fInt, fNeg, fTup, fLst, fAdd, fSub, fd4, h4, hm, fAll_map, isFlows, h2]
    · have h4 : (40 : Int) < xs.length := by omega
      simp [lim, ev, evG, flT, oBo, oSeq, oRet, oSet, oIfS, oAnd, oOr, oNot, oIf, oOp1, oOp2, oVar, oC, oCall, oCons, oNil, oChain, oNxt, oCallF, refs, mkArgs, putBack, oIt, kOf, Out.bnd, Out.bnds, Out.bndb, optO, cmpF, binF, fLt, fLe, fGt, fGe, fIsa, isaB, BF.f, fLen, fInt, fNeg, fTup, fLst, fAdd, fSub, fd4, h4, isFlows, h2]
  | _ => simp [lim, ev, evG, flT, oBo, oSeq, oRet, oSet, oIfS, oAnd, oOr, oNot, oIf, oOp1, oOp2, oVar, oC, oCall, oCons, oNil, oChain, oNxt, oCallF, refs, mkArgs, putBack, oIt, kOf, Out.bnd, Out.bnds, Out.bndb, optO, cmpF, binF, fLt, fLe, fGt, fGe, fIsa, isaB, BF.f, fLen, fInt, fNeg, fTup, fLst, fAdd, fSub, fd4, isFlows]
def ltB : D → D → Bool
  | .int a, .int b => decide (a < b)
  | _, _ => false
def isDel : D → Bool
  | .tuple xs => decide (1 ≤ xs.length) && decide (xs.length ≤ 5) && xs.all (isFrom 1 30) && (xs.zip (xs.drop 1)).all fun p => ltB p.1 p.2
  | _ => false
theorem cut1 (xs : List D) (h : 1 ≤ xs.length) : cutD xs (some 1) none = xs.drop 1 := by
  have e1 : HT.sIx xs.length 0 (some 1) = 1 := by
    show min (1 : Int).toNat xs.length = 1
    show min 1 xs.length = 1
    omega
  have e2 : HT.sIx xs.length xs.length none = xs.length := rfl
  unfold cutD
  rw [e1, e2]
  exact List.take_of_length_le (by simp)
def st2 (r : Rho) : D → Rho
  | .tuple [a, b] => (r.set 1 (.val a)).set 2 (.val b)
  | _ => r
def pairLt : D → Bool
  | .tuple [a, b] => ltB a b
  | _ => false
theorem del_ok (k : Nat) (d : D) : ∃ r, calls fds (k + 3) 5 [.val d] = .ret (.bool (isDel d)) r := by
  rw [calls_at (fs := fds) (j := 5) rfl]
  cases d with
  | tuple xs =>
    by_cases h1 : 1 ≤ xs.length
    · by_cases h2 : xs.length ≤ 5
      · have h3 : (1 : Int) ≤ xs.length := by omega
        have h4 : (xs.length : Int) ≤ 5 := by omega
        have hm := oLc_map (i := 1) (it := oIt (oVar 0)) (e := ev (calls fds (k + 2)) (.cal 1 (.con (.var 1) (.con (.cst (.int 1)) (.con (.glo (.int 30)) .nil))))) (r := [.val (.tuple xs), .un, .un]) (r1 := [.val (.tuple xs), .un, .un]) (ds := xs) (g := fun d => .bool (isFrom 1 30 d))
          (by simp [oIt, oVar, Out.bnd, kOf]) (by simp [okV, Slot.excl]) (fun d _ => by
            obtain ⟨r, h⟩ := from_ok k d 1 30
            simp [lim, ev, evG, flT, oBo, oSeq, oRet, oSet, oIfS, oAnd, oOr, oNot, oIf, oOp1, oOp2, oVar, oC, oCall, oCons, oNil, oChain, oNxt, oCallF, refs, mkArgs, putBack, oIt, kOf, Out.bnd, Out.bnds, Out.bndb, optO, cmpF, binF, fLt, fLe, fGt, fGe, fIsa, isaB, BF.f, fLen, fInt, fNeg, fTup, fLst, fAdd, fSub, h]) (by unfold lim; omega)
        simp [lim, ev, evG, flT, oBo, oSeq, oRet, oSet, oIfS, oAnd, oOr, oNot, oIf, oOp1, oOp2, oVar, oC, oCall, oCons, oNil, oChain, oNxt, oCallF, refs, mkArgs, putBack, oIt, kOf, Out.bnd, Out.bnds, Out.bndb, optO, cmpF, binF, fLt, fLe, fGt, fGe, fIsa, isaB, BF.f, fLen, fInt, fNeg, fTup, fLst, fAdd, fSub] at hm
        by_cases ha : xs.all (isFrom 1 30) = true
        · have hz := oLc_gen (vs := [1, 2]) (it := ev (calls fds (k + 2)) (.zpp (.con (.var 0) (.con (.sl (.var 0) (.pt (.cst (.int 1))) .nop) .nil)))) (f := (evG (.gt 2 (.con (.gn 1) (.con (.gn 2) .nil)))).1) (t := oYes) (e := ev (calls fds (k + 2)) (.cmp .Lt (.var 1) (.var 2)))
            (r := [.val (.tuple xs), .un, .un]) (r1 := [.val (.tuple xs), .un, .un]) (ds := zipD xs (xs.drop 1)) (p := fun _ => true) (g := fun d => .bool (pairLt d)) (st := st2 [.val (.tuple xs), .un, .un])
            (by simp [lim, ev, evG, flT, oBo, oSeq, oRet, oSet, oIfS, oAnd, oOr, oNot, oIf, oOp1, oOp2, oVar, oC, oCall, oCons, oNil, oChain, oNxt, oCallF, refs, mkArgs, putBack, oIt, kOf, Out.bnd, Out.bnds, Out.bndb, optO, cmpF, binF, fLt, fLe, fGt, fGe, fIsa, isaB, BF.f, fLen, fInt, fNeg, fTup, fLst, fAdd, fSub, oZip, oSl, oPart, oNoPart, Out.part, fSl, cut1 xs h1]) (by simp [okV, Slot.excl]) (fun d hd => ?_) (fun d hd => ?_) (fun d hd => rfl) (fun d hd _ => ?_) (by unfold lim zipD; simp; omega)
          · rw [List.filter_eq_self.mpr fun _ _ => rfl] at hz
            simp [lim, ev, evG, flT, oBo, oSeq, oRet, oSet, oIfS, oAnd, oOr, oNot, oIf, oOp1, oOp2, oVar, oC, oCall, oCons, oNil, oChain, oNxt, oCallF, refs, mkArgs, putBack, oIt, kOf, Out.bnd, Out.bnds, Out.bndb, optO, cmpF, binF, fLt, fLe, fGt, fGe, fIsa, isaB, BF.f, fLen, fInt, fNeg, fTup, fLst, fAdd, fSub] at hz
            have ez : (zipD xs (xs.drop 1)).map (fun d => PyData.bool (pairLt d)) = (xs.zip (xs.drop 1)).map (fun p => PyData.bool (ltB p.1 p.2)) := by
              unfold zipD
              rw [List.map_map]; rfl
            have ez' : (zipD xs xs.tail).map (fun d => PyData.bool (pairLt d)) = (xs.zip xs.tail).map (fun p => PyData.bool (ltB p.1 p.2)) := by
              have := ez
              simpa using this
            rw [ez'] at hz
            simp [lim, ev, evG, flT, oBo, oSeq, oRet, oSet, oIfS, oAnd, oOr, oNot, oIf, oOp1, oOp2, oVar, oC, oCall, oCons, oNil, oChain, oNxt, oCallF, refs, mkArgs, putBack, oIt, kOf, Out.bnd, Out.bnds, Out.bndb, optO, cmpF, binF, fLt, fLe, fGt, fGe, fIsa, isaB, BF.f, fLen, fInt, fNeg, fTup, fLst, fAdd, fSub, fd5, h3, h4, hm, fAll_map, isDel, h1, h2, ha, hz]
          · obtain ⟨p, hp, rfl⟩ := List.mem_map.mp hd
            simp [evG, gTup0, gCons0, gNil0, gNm, kOf, wipeR, st2]
          · obtain ⟨p, hp, rfl⟩ := List.mem_map.mp hd
            simp [wipeR, st2]
          · obtain ⟨p, hp, rfl⟩ := List.mem_map.mp hd
            obtain ⟨hp1, hp2⟩ := List.of_mem_zip hp
            have q1 := List.all_eq_true.mp ha _ hp1
            have q2 := List.all_eq_true.mp ha _ (List.mem_of_mem_drop hp2)
            obtain ⟨a, b⟩ := p
            cases a <;> first | (cases q1; done) | skip
            cases b <;> first | (cases q2; done) | skip
            simp [lim, ev, evG, flT, oBo, oSeq, oRet, oSet, oIfS, oAnd, oOr, oNot, oIf, oOp1, oOp2, oVar, oC, oCall, oCons, oNil, oChain, oNxt, oCallF, refs, mkArgs, putBack, oIt, kOf, Out.bnd, Out.bnds, Out.bndb, optO, cmpF, binF, fLt, fLe, fGt, fGe, fIsa, isaB, BF.f, fLen, fInt, fNeg, fTup, fLst, fAdd, fSub, st2, pairLt, ltB]
        · have ha' : xs.all (isFrom 1 30) = false := by simpa using ha
          simp [lim, ev, evG, flT, oBo, oSeq, oRet, oSet, oIfS, oAnd, oOr, oNot, oIf, oOp1, oOp2, oVar, oC, oCall, oCons, oNil, oChain, oNxt, oCallF, refs, mkArgs, putBack, oIt, kOf, Out.bnd, Out.bnds, Out.bndb, optO, cmpF, binF, fLt, fLe, fGt, fGe, fIsa, isaB, BF.f, fLen, fInt, fNeg, fTup, fLst, fAdd, fSub, fd5, h3, h4, hm, fAll_map, isDel, h1, h2, ha']
      · have h3 : (1 : Int) ≤ xs.length := by omega
        have h4 : ¬ (xs.length : Int) ≤ 5 := by omega
        simp [lim, ev, evG, flT, oBo, oSeq, oRet, oSet, oIfS, oAnd, oOr, oNot, oIf, oOp1, oOp2, oVar, oC, oCall, oCons, oNil, oChain, oNxt, oCallF, refs, mkArgs, putBack, oIt, kOf, Out.bnd, Out.bnds, Out.bndb, optO, cmpF, binF, fLt, fLe, fGt, fGe, fIsa, isaB, BF.f, fLen, fInt, fNeg, fTup, fLst, fAdd, fSub, fd5, h3, h4, isDel, h1, h2]
    · have h3 : ¬ (1 : Int) ≤ xs.length := by omega
      simp [lim, ev, evG, flT, oBo, oSeq, oRet, oSet, oIfS, oAnd, oOr, oNot, oIf, oOp1, oOp2, oVar, oC, oCall, oCons, oNil, oChain, oNxt, oCallF, refs, mkArgs, putBack, oIt, kOf, Out.bnd, Out.bnds, Out.bndb, optO, cmpF, binF, fLt, fLe, fGt, fGe, fIsa, isaB, BF.f, fLen, fInt, fNeg, fTup, fLst, fAdd, fSub, fd5, h3, isDel, h1]
  | _ => simp [lim, ev, evG, flT, oBo, oSeq, oRet, oSet, oIfS, oAnd, oOr, oNot, oIf, oOp1, oOp2, oVar, oC, oCall, oCons, oNil, oChain, oNxt, oCallF, refs, mkArgs, putBack, oIt, kOf, Out.bnd, Out.bnds, Out.bndb, optO, cmpF, binF, fLt, fLe, fGt, fGe, fIsa, isaB, BF.f, fLen, fInt, fNeg, fTup, fLst, fAdd, fSub, fd5, isDel]
end K85

namespace K85
open PySem Py
theorem drw : Draws fds 6 := ⟨⟨fd6, rfl, rfl, rfl⟩, ⟨fd7, rfl, rfl, rfl⟩, ⟨fd8, rfl, rfl, rfl⟩, ⟨fd9, rfl, rfl, rfl⟩⟩
theorem cut63 (ns : List Int) (h : ns.length ≤ 63) : cutD (ns.map PyData.int) none (some 63) = ns.map PyData.int := by
  have e1 : HT.sIx (ns.map PyData.int).length 0 none = 0 := rfl
  have e2 : HT.sIx (ns.map PyData.int).length (ns.map PyData.int).length (some 63) = ns.length := by
    show min (63 : Int).toNat (ns.map PyData.int).length = _
    rw [List.length_map]
    show min 63 ns.length = _
    omega
  unfold cutD
  rw [e1, e2]
  exact List.take_of_length_le (by simp)
def repD (k : Int) (xs : List D) : List D := (List.replicate k.toNat xs).flatten
theorem all_rep (xs : List D) (f : D → Bool) : ∀ n : Nat, (List.replicate n xs).flatten.all f = (decide (n = 0) || xs.all f)
  | 0 => rfl
  | n + 1 => by
    rw [List.replicate_succ, List.flatten_cons, List.all_append, all_rep xs f n]
    cases xs.all f <;> simp
theorem len_rep (xs : List D) : ∀ n : Nat, (List.replicate n xs).flatten.length = n * xs.length
  | 0 => by simp
  | n + 1 => by rw [List.replicate_succ, List.flatten_cons, List.length_append, len_rep xs n, Nat.succ_mul, Nat.add_comm]
theorem all_repD (k : Int) (xs : List D) (f : D → Bool) : (repD k xs).all f = (decide (k.toNat = 0) || xs.all f) := all_rep xs f k.toNat
theorem len_repD (k : Int) (xs : List D) : (repD k xs).length = k.toNat * xs.length := len_rep xs k.toNat
theorem mulT (xs : List D) (k : Int) (h1 : -1000000 ≤ k) (h2 : k ≤ 1000) (h3 : xs.length ≤ 1000) : fMul (.tuple xs) (.int k) = some (.tuple (repD k xs)) := if_pos ⟨h1, h2, h3⟩
theorem mulL (xs : List D) (k : Int) (h1 : -1000000 ≤ k) (h2 : k ≤ 1000) (h3 : xs.length ≤ 1000) : fMul (.list xs) (.int k) = some (.list (repD k xs)) := if_pos ⟨h1, h2, h3⟩
theorem addT (xs ys : List D) (h : xs.length + ys.length ≤ lim) : fAdd (.tuple xs) (.tuple ys) = some (.tuple (xs ++ ys)) := if_pos h
theorem row_rep (xs : List D) (k : Int) (h1 : 1 ≤ k.toNat * xs.length) (h2 : k.toNat * xs.length ≤ 40) (h3 : xs.all (isFrom (-1000) 1000) = true) : isRow (.tuple (repD k xs)) = true := by
  show (decide (1 ≤ (repD k xs).length) && decide ((repD k xs).length ≤ 40) && (repD k xs).all (isFrom (-1000) 1000)) = true
  rw [len_repD, all_repD, h3]
  simp [h1, h2]
theorem row_long (xs : List D) (h : 40 < xs.length) : isRow (.tuple xs) = false := by
  unfold isRow
  have : ¬ xs.length ≤ 40 := by omega
  simp [this]
theorem row_bad (xs : List D) (h : xs.all (isFrom (-1000) 1000) = false) : isRow (.tuple xs) = false := by
  unfold isRow
  simp only [h, Bool.and_false]
theorem fl_rep (xs : List D) (k : Int) (h2 : k.toNat * xs.length ≤ 40) (h3 : xs.all isFl = true) : isFlows (.tuple (repD k xs)) = true := by
  show (decide ((repD k xs).length ≤ 40) && (repD k xs).all isFl) = true
  rw [len_repD, all_repD, h3]
  simp [h2]
theorem fl_long (xs : List D) (h : 40 < xs.length) : isFlows (.tuple xs) = false := by
  unfold isFlows
  have : ¬ xs.length ≤ 40 := by omega
  simp [this]
section
variable {cl : Nat → O1} {R F W : D → Rho} {c : D} {s : Slot} {m u : Int} (hR : ∀ x : D, cl 3 [.val x] = .ret (.bool (isRow x)) (R x)) (hF : ∀ x : D, cl 4 [.val x] = .ret (.bool (isFlows x)) (F x)) (hW : ∀ x : D, cl 5 [.val x] = .ret (.bool (isDel x)) (W x)) (hm : 1 ≤ m ∧ m ≤ 40) (hu : 1 ≤ u ∧ u ≤ 29)
theorem seq_nxt {a b : O1} {r r1 : Rho} (h : a r = .nxt r1) : oSeq a b r = b r1 := by
  unfold oSeq
  rw [h]
theorem or_f {a b : O1} {r r1 r2 : Rho} (h1 : a r = .val (.bool false) r1) (h2 : b r1 = .val (.bool false) r2) : oOr a b r = .val (.bool false) r2 := by
  unfold oOr
  rw [h1]
  exact h2
theorem or_f0 {a b : O1} {r : Rho} (h1 : a r = .val (.bool false) r) (h2 : b r = .val (.bool false) r) : oOr a b r = .val (.bool false) r := or_f h1 h2
theorem and_t0 {a b : O1} {r : Rho} (h1 : a r = .val (.bool true) r) (h2 : b r = .val (.bool true) r) : oAnd a b r = .val (.bool true) r := by
  unfold oAnd
  rw [h1]
  exact h2
theorem ifs_f {t a : O1} {r r1 : Rho} (h : t r = .val (.bool false) r1) : oIfS t a oNxt r = .nxt r1 := by
  unfold oIfS
  rw [h]; rfl
include hR hm
theorem s2 : ev cl l_2 [s, .own c, .val (.int m), .un] = .nxt [s, .own c, .val (.int m), .un] := by
  have m1 := mulT [.int 0] m (by omega) (by omega) (by simp)
  have m2 := mulT [.int 1000, .int (-1000)] ((m + 1) / 2) (by omega) (by omega) (by simp)
  have m3 := mulT [.int 0] (40 + m) (by omega) (by omega) (by simp)
  have a1 : isRow (.tuple (repD m [.int 0])) = true := row_rep _ _ (by simp; omega) (by simp; omega) rfl
  have a2 : isRow (.tuple (repD ((m + 1) / 2) [.int 1000, .int (-1000)])) = true := row_rep _ _ (by simp; omega) (by simp; omega) rfl
  have a3 : isRow (.tuple (repD (40 + m) [.int 0])) = false := row_long _ (by rw [len_repD]; simp; omega)
  have a4 : isRow (.tuple []) = false := rfl
  simp only [l_2, ev, oBo, flT]
  refine ifs_f (or_f0 ?_ (or_f0 ?_ (or_f0 ?_ ?_)))
  · simp [lim, ev, evG, flT, oBo, oSeq, oRet, oSet, oIfS, oAnd, oOr, oNot, oIf, oOp1, oOp2, oVar, oC, oCall, oCons, oNil, oChain, oNxt, oCallF, refs, mkArgs, putBack, oIt, kOf, Out.bnd, Out.bnds, Out.bndb, optO, cmpF, binF, fLt, fLe, fGt, fGe, fIsa, isaB, BF.f, fLen, fInt, fNeg, fTup, fLst, fAdd, fSub, hR, m1, a1]
  · simp [lim, ev, evG, flT, oBo, oSeq, oRet, oSet, oIfS, oAnd, oOr, oNot, oIf, oOp1, oOp2, oVar, oC, oCall, oCons, oNil, oChain, oNxt, oCallF, refs, mkArgs, putBack, oIt, kOf, Out.bnd, Out.bnds, Out.bndb, optO, cmpF, binF, fLt, fLe, fGt, fGe, fIsa, isaB, BF.f, fLen, fInt, fNeg, fTup, fLst, fAdd, fSub, fDiv, hR, m2, a2]
  · simp [lim, ev, evG, flT, oBo, oSeq, oRet, oSet, oIfS, oAnd, oOr, oNot, oIf, oOp1, oOp2, oVar, oC, oCall, oCons, oNil, oChain, oNxt, oCallF, refs, mkArgs, putBack, oIt, kOf, Out.bnd, Out.bnds, Out.bndb, optO, cmpF, binF, fLt, fLe, fGt, fGe, fIsa, isaB, BF.f, fLen, fInt, fNeg, fTup, fLst, fAdd, fSub, hR, m3, a3]
  · simp [lim, ev, evG, flT, oBo, oSeq, oRet, oSet, oIfS, oAnd, oOr, oNot, oIf, oOp1, oOp2, oVar, oC, oCall, oCons, oNil, oChain, oNxt, oCallF, refs, mkArgs, putBack, oIt, kOf, Out.bnd, Out.bnds, Out.bndb, optO, cmpF, binF, fLt, fLe, fGt, fGe, fIsa, isaB, BF.f, fLen, fInt, fNeg, fTup, fLst, fAdd, fSub, hR, a4]
theorem s3 : ev cl l_3 [s, .own c, .val (.int m), .un] = .nxt [s, .own c, .val (.int m), .un] := by
  have m0 := mulL [.int 0] m (by omega) (by omega) (by simp)
  have m1 := mulT [.int 0] (m - 1) (by omega) (by omega) (by simp)
  have m2 := addT (repD (m - 1) [.int 0]) [.int 1001] (by rw [len_repD]; unfold lim; simp; omega)
  have m3 := addT [.int (-1001)] (repD (m - 1) [.int 0]) (by rw [len_repD]; unfold lim; simp; omega)
  have m4 := mulT [.bool false] m (by omega) (by omega) (by simp)
  have a1 : isRow (.list (repD m [.int 0])) = false := rfl
  have a2 : isRow (.tuple ((repD (m - 1) [.int 0]) ++ [.int 1001])) = false := row_bad _ (by simp [isFrom])
  have a3 : isRow (.tuple ([.int (-1001)] ++ (repD (m - 1) [.int 0]))) = false := row_bad _ (by simp [isFrom])
  have a4 : isRow (.tuple (repD m [.bool false])) = false := row_bad _ (by rw [all_repD]; simp [isFrom]; omega)
  simp only [List.cons_append, List.nil_append] at m3 a3
  simp only [l_3, ev, oBo, flT]
  refine ifs_f (or_f0 ?_ (or_f0 ?_ (or_f0 ?_ ?_)))
  · simp [lim, ev, evG, flT, oBo, oSeq, oRet, oSet, oIfS, oAnd, oOr, oNot, oIf, oOp1, oOp2, oVar, oC, oCall, oCons, oNil, oChain, oNxt, oCallF, refs, mkArgs, putBack, oIt, kOf, Out.bnd, Out.bnds, Out.bndb, optO, cmpF, binF, fLt, fLe, fGt, fGe, fIsa, isaB, BF.f, fLen, fInt, fNeg, fTup, fLst, fAdd, fSub, hR, m0, a1]
  · simp [lim, ev, evG, flT, oBo, oSeq, oRet, oSet, oIfS, oAnd, oOr, oNot, oIf, oOp1, oOp2, oVar, oC, oCall, oCons, oNil, oChain, oNxt, oCallF, refs, mkArgs, putBack, oIt, kOf, Out.bnd, Out.bnds, Out.bndb, optO, cmpF, binF, fLt, fLe, fGt, fGe, fIsa, isaB, BF.f, fLen, fInt, fNeg, fTup, fLst, fSub, hR, m1, m2, a2]
  · simp [lim, ev, evG, flT, oBo, oSeq, oRet, oSet, oIfS, oAnd, oOr, oNot, oIf, oOp1, oOp2, oVar, oC, oCall, oCons, oNil, oChain, oNxt, oCallF, refs, mkArgs, putBack, oIt, kOf, Out.bnd, Out.bnds, Out.bndb, optO, cmpF, binF, fLt, fLe, fGt, fGe, fIsa, isaB, BF.f, fLen, fInt, fNeg, fTup, fLst, fSub, hR, m1, m3, a3]
  · simp [lim, ev, evG, flT, oBo, oSeq, oRet, oSet, oIfS, oAnd, oOr, oNot, oIf, oOp1, oOp2, oVar, oC, oCall, oCons, oNil, oChain, oNxt, oCallF, refs, mkArgs, putBack, oIt, kOf, Out.bnd, Out.bnds, Out.bndb, optO, cmpF, binF, fLt, fLe, fGt, fGe, fIsa, isaB, BF.f, fLen, fInt, fNeg, fTup, fLst, fAdd, fSub, hR, m4, a4]
theorem s4 : ev cl l_4 [s, .own c, .val (.int m), .un] = .nxt [s, .own c, .val (.int m), .un] := by
  have m1 := mulT [.int 0] (m - 1) (by omega) (by omega) (by simp)
  have m2 := addT (repD (m - 1) [.int 0]) [.none] (by rw [len_repD]; unfold lim; simp; omega)
  have m4 := mulT [.tuple [.int 0, .int 1]] m (by omega) (by omega) (by simp)
  have a1 : isRow (.int m) = false := rfl
  have a2 : isRow (.tuple ((repD (m - 1) [.int 0]) ++ [.none])) = false := row_bad _ (by simp [isFrom])
  have a3 : isRow .none = false := rfl
  have a4 : isRow (.tuple (repD m [.tuple [.int 0, .int 1]])) = false := row_bad _ (by rw [all_repD]; simp [isFrom]; omega)
  simp only [l_4, ev, oBo, flT]
  refine ifs_f (or_f0 ?_ (or_f0 ?_ (or_f0 ?_ ?_)))
  · simp [lim, ev, evG, flT, oBo, oSeq, oRet, oSet, oIfS, oAnd, oOr, oNot, oIf, oOp1, oOp2, oVar, oC, oCall, oCons, oNil, oChain, oNxt, oCallF, refs, mkArgs, putBack, oIt, kOf, Out.bnd, Out.bnds, Out.bndb, optO, cmpF, binF, fLt, fLe, fGt, fGe, fIsa, isaB, BF.f, fLen, fInt, fNeg, fTup, fLst, fSub, hR, m1, m2, a2]
  · simp [lim, ev, evG, flT, oBo, oSeq, oRet, oSet, oIfS, oAnd, oOr, oNot, oIf, oOp1, oOp2, oVar, oC, oCall, oCons, oNil, oChain, oNxt, oCallF, refs, mkArgs, putBack, oIt, kOf, Out.bnd, Out.bnds, Out.bndb, optO, cmpF, binF, fLt, fLe, fGt, fGe, fIsa, isaB, BF.f, fLen, fInt, fNeg, fTup, fLst, fAdd, fSub, hR, a1]
  · simp [lim, ev, evG, flT, oBo, oSeq, oRet, oSet, oIfS, oAnd, oOr, oNot, oIf, oOp1, oOp2, oVar, oC, oCall, oCons, oNil, oChain, oNxt, oCallF, refs, mkArgs, putBack, oIt, kOf, Out.bnd, Out.bnds, Out.bndb, optO, cmpF, binF, fLt, fLe, fGt, fGe, fIsa, isaB, BF.f, fLen, fInt, fNeg, fTup, fLst, fAdd, fSub, hR, a3]
  · simp [lim, ev, evG, flT, oBo, oSeq, oRet, oSet, oIfS, oAnd, oOr, oNot, oIf, oOp1, oOp2, oVar, oC, oCall, oCons, oNil, oChain, oNxt, oCallF, refs, mkArgs, putBack, oIt, kOf, Out.bnd, Out.bnds, Out.bndb, optO, cmpF, binF, fLt, fLe, fGt, fGe, fIsa, isaB, BF.f, fLen, fInt, fNeg, fTup, fLst, fAdd, fSub, hR, m4, a4]
omit hR hm
include hW hu
theorem s6 {x : Slot} : ev cl l_6 [s, .own c, x, .val (.int u)] = .nxt [s, .own c, x, .val (.int u)] := by
  have u1 : 1 ≤ u := hu.1
  have u2 : u ≤ 30 := by omega
  have u3 : u < 30 := by omega
  have u4 : ¬ 30 < u := by omega
  have u5 : ¬ 1 ≤ -u := by omega
  have u6 : u ≤ 31 := by omega
  simp only [l_6, ev, oBo, flT]
  refine ifs_f (or_f0 ?_ (or_f0 ?_ (or_f0 ?_ (or_f0 ?_ (or_f0 ?_ (or_f0 ?_ (or_f0 ?_ (or_f0 ?_ (or_f0 ?_ (or_f0 ?_ (or_f0 ?_ (or_f0 ?_ (or_f0 ?_ ?_)))))))))))))
  all_goals simp [lim, ev, evG, flT, oBo, oSeq, oRet, oSet, oIfS, oAnd, oOr, oNot, oIf, oOp1, oOp2, oVar, oC, oCall, oCons, oNil, oChain, oNxt, oCallF, refs, mkArgs, putBack, oIt, kOf, Out.bnd, Out.bnds, Out.bndb, optO, cmpF, binF, fLt, fLe, fGt, fGe, fIsa, isaB, BF.f, fLen, fInt, fNeg, fTup, fLst, fAdd, fSub, hW, isDel, isFrom, ltB, u1, u2, u3, u4, u5]
omit hW
include hF hm
theorem s7 : ev cl l_7 [s, .own c, .val (.int m), .val (.int u)] = .nxt [s, .own c, .val (.int m), .val (.int u)] := by
  have f1 : isFl (.tuple [.int u, .int u]) = true := by
    have u1 : 0 ≤ u := by omega
    have u2 : u ≤ 100 := by omega
    simp [isFl, isFrom, u1, u2]
  have m2 := mulT [.tuple [.int 0, .int 100], .tuple [.int 100, .int 0]] ((m + 1) / 2) (by omega) (by omega) (by simp)
  have m3 := mulT [.tuple [.int u, .int u]] m (by omega) (by omega) (by simp)
  have m4 := mulT [.tuple [.int u, .int u]] (40 + m) (by omega) (by omega) (by simp)
  have a2 : isFlows (.tuple (repD ((m + 1) / 2) [.tuple [.int 0, .int 100], .tuple [.int 100, .int 0]])) = true := fl_rep _ _ (by simp; omega) rfl
  have a3 : isFlows (.tuple (repD m [.tuple [.int u, .int u]])) = true := fl_rep _ _ (by simp; omega) (by simp [f1])
  have a4 : isFlows (.tuple (repD (40 + m) [.tuple [.int u, .int u]])) = false := fl_long _ (by rw [len_repD]; simp; omega)
  have a1 : isFlows (.tuple []) = true := rfl
  simp only [l_7, ev, oBo, flT]
  refine ifs_f (or_f0 ?_ (or_f0 ?_ (or_f0 ?_ ?_)))
  · simp [lim, ev, evG, flT, oBo, oSeq, oRet, oSet, oIfS, oAnd, oOr, oNot, oIf, oOp1, oOp2, oVar, oC, oCall, oCons, oNil, oChain, oNxt, oCallF, refs, mkArgs, putBack, oIt, kOf, Out.bnd, Out.bnds, Out.bndb, optO, cmpF, binF, fLt, fLe, fGt, fGe, fIsa, isaB, BF.f, fLen, fInt, fNeg, fTup, fLst, fAdd, fSub, hF, a1]
  · simp [lim, ev, evG, flT, oBo, oSeq, oRet, oSet, oIfS, oAnd, oOr, oNot, oIf, oOp1, oOp2, oVar, oC, oCall, oCons, oNil, oChain, oNxt, oCallF, refs, mkArgs, putBack, oIt, kOf, Out.bnd, Out.bnds, Out.bndb, optO, cmpF, binF, fLt, fLe, fGt, fGe, fIsa, isaB, BF.f, fLen, fInt, fNeg, fTup, fLst, fAdd, fSub, fDiv, hF, m2, a2]
  · simp [lim, ev, evG, flT, oBo, oSeq, oRet, oSet, oIfS, oAnd, oOr, oNot, oIf, oOp1, oOp2, oVar, oC, oCall, oCons, oNil, oChain, oNxt, oCallF, refs, mkArgs, putBack, oIt, kOf, Out.bnd, Out.bnds, Out.bndb, optO, cmpF, binF, fLt, fLe, fGt, fGe, fIsa, isaB, BF.f, fLen, fInt, fNeg, fTup, fLst, fAdd, fSub, hF, m3, a3]
  · simp [lim, ev, evG, flT, oBo, oSeq, oRet, oSet, oIfS, oAnd, oOr, oNot, oIf, oOp1, oOp2, oVar, oC, oCall, oCons, oNil, oChain, oNxt, oCallF, refs, mkArgs, putBack, oIt, kOf, Out.bnd, Out.bnds, Out.bndb, optO, cmpF, binF, fLt, fLe, fGt, fGe, fIsa, isaB, BF.f, fLen, fInt, fNeg, fTup, fLst, fAdd, fSub, hF, m4, a4]
theorem s8 : ev cl l_8 [s, .own c, .val (.int m), .val (.int u)] = .nxt [s, .own c, .val (.int m), .val (.int u)] := by
  simp only [l_8, ev, oBo, flT]
  refine ifs_f (or_f0 ?_ (or_f0 ?_ (or_f0 ?_ (or_f0 ?_ (or_f0 ?_ ?_)))))
  all_goals simp [lim, ev, evG, flT, oBo, oSeq, oRet, oSet, oIfS, oAnd, oOr, oNot, oIf, oOp1, oOp2, oVar, oC, oCall, oCons, oNil, oChain, oNxt, oCallF, refs, mkArgs, putBack, oIt, kOf, Out.bnd, Out.bnds, Out.bndb, optO, cmpF, binF, fLt, fLe, fGt, fGe, fIsa, isaB, BF.f, fLen, fInt, fNeg, fTup, fLst, fAdd, fSub, hF, isFlows, isFl, isFrom]
theorem s9 : ev cl l_9 [s, .own c, .val (.int m), .val (.int u)] = .nxt [s, .own c, .val (.int m), .val (.int u)] := by
  simp only [l_9, ev, oBo, flT]
  refine ifs_f (or_f0 ?_ (or_f0 ?_ ?_))
  all_goals simp [lim, ev, evG, flT, oBo, oSeq, oRet, oSet, oIfS, oAnd, oOr, oNot, oIf, oOp1, oOp2, oVar, oC, oCall, oCons, oNil, oChain, oNxt, oCallF, refs, mkArgs, putBack, oIt, kOf, Out.bnd, Out.bnds, Out.bndb, optO, cmpF, binF, fLt, fLe, fGt, fGe, fIsa, isaB, BF.f, fLen, fInt, fNeg, fTup, fLst, fAdd, fSub, hF, isFlows, isFl, isFrom]
include hR
theorem s10 : ev cl l_10 [s, .own c, .val (.int m), .val (.int u)] = .ret (.bool true) [s, .own c, .val (.int m), .val (.int u)] := by
  have m1 := mulT [.int 0] 40 (by omega) (by omega) (by simp)
  have m2 := mulT [.int 0] 41 (by omega) (by omega) (by simp)
  have m3 := mulT [.tuple [.int 0, .int 0]] 40 (by omega) (by omega) (by simp)
  have m4 := mulT [.tuple [.int 0, .int 0]] 41 (by omega) (by omega) (by simp)
  have a1 : isRow (.tuple (repD (40 : Int) [.int 0])) = true := row_rep _ _ (by decide) (by decide) rfl
  have a2 : isRow (.tuple (repD (41 : Int) [.int 0])) = false := row_long _ (by decide)
  have a3 : isFlows (.tuple (repD (40 : Int) [.tuple [.int 0, .int 0]])) = true := fl_rep _ _ (by decide) rfl
  have a4 : isFlows (.tuple (repD (41 : Int) [.tuple [.int 0, .int 0]])) = false := fl_long _ (by decide)
  have key : oAnd (ev cl (.cal 3 (.con (.bin .Mult (.tup (.con (.cst (.int 0)) .nil)) (.cst (.int 40))) .nil))) (oAnd (oNot (ev cl (.cal 3 (.con (.bin .Mult (.tup (.con (.cst (.int 0)) .nil)) (.cst (.int 41))) .nil)))) (oAnd (ev cl (.cal 4 (.con (.bin .Mult (.tup (.con (.tup (.con (.cst (.int 0)) (.con (.cst (.int 0)) .nil))) .nil)) (.cst (.int 40))) .nil))) (oNot (ev cl (.cal 4 (.con (.bin .Mult (.tup (.con (.tup (.con (.cst (.int 0)) (.con (.cst (.int 0)) .nil))) .nil)) (.cst (.int 41))) .nil)))))) [s, .own c, .val (.int m), .val (.int u)] = .val (.bool true) [s, .own c, .val (.int m), .val (.int u)] := by
    refine and_t0 ?_ (and_t0 ?_ (and_t0 ?_ ?_))
    · simp [lim, ev, evG, flT, oBo, oSeq, oRet, oSet, oIfS, oAnd, oOr, oNot, oIf, oOp1, oOp2, oVar, oC, oCall, oCons, oNil, oChain, oNxt, oCallF, refs, mkArgs, putBack, oIt, kOf, Out.bnd, Out.bnds, Out.bndb, optO, cmpF, binF, fLt, fLe, fGt, fGe, fIsa, isaB, BF.f, fLen, fInt, fNeg, fTup, fLst, fAdd, fSub, hR, m1, a1]
    · simp [lim, ev, evG, flT, oBo, oSeq, oRet, oSet, oIfS, oAnd, oOr, oNot, oIf, oOp1, oOp2, oVar, oC, oCall, oCons, oNil, oChain, oNxt, oCallF, refs, mkArgs, putBack, oIt, kOf, Out.bnd, Out.bnds, Out.bndb, optO, cmpF, binF, fLt, fLe, fGt, fGe, fIsa, isaB, BF.f, fLen, fInt, fNeg, fTup, fLst, fAdd, fSub, hR, m2, a2]
    · simp [lim, ev, evG, flT, oBo, oSeq, oRet, oSet, oIfS, oAnd, oOr, oNot, oIf, oOp1, oOp2, oVar, oC, oCall, oCons, oNil, oChain, oNxt, oCallF, refs, mkArgs, putBack, oIt, kOf, Out.bnd, Out.bnds, Out.bndb, optO, cmpF, binF, fLt, fLe, fGt, fGe, fIsa, isaB, BF.f, fLen, fInt, fNeg, fTup, fLst, fAdd, fSub, hF, m3, a3]
    · simp [lim, ev, evG, flT, oBo, oSeq, oRet, oSet, oIfS, oAnd, oOr, oNot, oIf, oOp1, oOp2, oVar, oC, oCall, oCons, oNil, oChain, oNxt, oCallF, refs, mkArgs, putBack, oIt, kOf, Out.bnd, Out.bnds, Out.bndb, optO, cmpF, binF, fLt, fLe, fGt, fGe, fIsa, isaB, BF.f, fLen, fInt, fNeg, fTup, fLst, fAdd, fSub, hF, m4, a4]
  simp only [l_10, ev, oBo, oRet]
  simp only [ev] at key
  rw [key]
  rfl
end
theorem law_true : ∀ ns : List Int, ns.length ≤ 63 → ∃ r, (fun as : Rho => ev (calls fds 20) fd10.t (as ++ List.replicate (fd10.N.length - as.length) .un)) [.scr ns] = .ret (.bool true) r := by
  intro ns hl
  obtain ⟨v, r1, v0, v1, hd1⟩ := next_ok drw 17 ns 0 40 (by decide)
  obtain ⟨u, r2, u0, u1, hd2⟩ := next_ok drw 17 ns 1 29 (by decide)
  simp at hd1 hd2
  have e0 : ev (calls fds 20) l_0 [.scr ns, .un, .un, .un] = .nxt [.scr ns, .own (.list [.list (ns.map .int), .int 0, .int 0]), .un, .un] := by
    simp [lim, ev, evG, flT, oBo, oSeq, oRet, oSet, oIfS, oAnd, oOr, oNot, oIf, oOp1, oOp2, oVar, oC, oCall, oCons, oNil, oChain, oNxt, oCallF, refs, mkArgs, putBack, oIt, kOf, Out.bnd, Out.bnds, Out.bndb, optO, cmpF, binF, fLt, fLe, fGt, fGe, fIsa, isaB, BF.f, fLen, fInt, fNeg, fTup, fLst, fAdd, fSub, l_0, oSetO, oScr, cut63 ns hl]
  have e1 : ev (calls fds 20) l_1 [.scr ns, .own (.list [.list (ns.map .int), .int 0, .int 0]), .un, .un] = .nxt [.scr ns, .own (.list [.list (ns.map .int), .int 0, .int 1]), .val (.int (1 + v)), .un] := by
    simp [lim, ev, evG, flT, oBo, oSeq, oRet, oSet, oIfS, oAnd, oOr, oNot, oIf, oOp1, oOp2, oVar, oC, oCall, oCons, oNil, oChain, oNxt, oCallF, refs, mkArgs, putBack, oIt, kOf, Out.bnd, Out.bnds, Out.bndb, optO, cmpF, binF, fLt, fLe, fGt, fGe, fIsa, isaB, BF.f, fLen, fInt, fNeg, fTup, fLst, fAdd, fSub, l_1, oRef, Slot.excl, hd1]
  have e5 : ev (calls fds 20) l_5 [.scr ns, .own (.list [.list (ns.map .int), .int 0, .int 1]), .val (.int (1 + v)), .un] = .nxt [.scr ns, .own (.list [.list (ns.map .int), .int 0, .int 2]), .val (.int (1 + v)), .val (.int (1 + u))] := by
    simp [lim, ev, evG, flT, oBo, oSeq, oRet, oSet, oIfS, oAnd, oOr, oNot, oIf, oOp1, oOp2, oVar, oC, oCall, oCons, oNil, oChain, oNxt, oCallF, refs, mkArgs, putBack, oIt, kOf, Out.bnd, Out.bnds, Out.bndb, optO, cmpF, binF, fLt, fLe, fGt, fGe, fIsa, isaB, BF.f, fLen, fInt, fNeg, fTup, fLst, fAdd, fSub, l_5, oRef, Slot.excl, hd2]
  obtain ⟨R, hR⟩ := Classical.skolem.mp (row_ok 17)
  obtain ⟨F, hF⟩ := Classical.skolem.mp (flows_ok 17)
  obtain ⟨W, hW⟩ := Classical.skolem.mp (del_ok 17)
  have hm : 1 ≤ 1 + v ∧ 1 + v ≤ 40 := by omega
  have hu : 1 ≤ 1 + u ∧ 1 + u ≤ 29 := by omega
  refine ⟨[.scr ns, .own (.list [.list (ns.map .int), .int 0, .int 2]), .val (.int (1 + v)), .val (.int (1 + u))], ?_⟩
  refine (seq_nxt e0).trans ((seq_nxt e1).trans ((seq_nxt (s2 hR hm)).trans ((seq_nxt (s3 hR hm)).trans ((seq_nxt (s4 hR hm)).trans ((seq_nxt e5).trans ((seq_nxt (s6 hW hu)).trans ((seq_nxt (s7 hF hm hu)).trans ((seq_nxt (s8 hF hm hu)).trans ((seq_nxt (s9 hF hm hu)).trans ?_)))))))))
  show oSeq _ _ _ = _
  unfold oSeq
  rw [s10 hR hF hm hu]
end K85

namespace K85
open PySem L2 Py
theorem all_mk {l : PySem.W.OpenLaw} {w : World} {K : PySem.W.Frag} {h : Heap} {mg : Str → Option Value} {fa : Addr} {cls : Nat → Addr} (X : K.In h) (G : h.Ns mainGlobals mg) (hfa : mg ("law" : Str) = some (.ref fa))
    {f0 : Addr} {oc0 kV0 dc0 cd0 pm0 ct0 : Value} {od0 an0 : Option Addr} {sl0 : Array (Option Value)} (a0 : PySem.W.nsIn K mainGlobals ("is_whole" : Str) = some (some (.ref f0))) (l0 : K.lookup f0 = some ⟨oc0, od0, .func (PySem.W.fnOf ("is_whole" : Str) ("is_whole" : Str) (defArgs (top 1)) (defBody (top 1)) (defScope (top 1)) .none kV0 dc0 pm0 an0 cd0 ct0), sl0⟩) (c0 : PySem.W.codeIn K cd0 ("is_whole" : Str) = true) (k0 : PySem.W.keepIn K (.ref f0) = true)
    {f1 : Addr} {oc1 kV1 dc1 cd1 pm1 ct1 : Value} {od1 an1 : Option Addr} {sl1 : Array (Option Value)} (a1 : PySem.W.nsIn K mainGlobals ("is_from" : Str) = some (some (.ref f1))) (l1 : K.lookup f1 = some ⟨oc1, od1, .func (PySem.W.fnOf ("is_from" : Str) ("is_from" : Str) (defArgs (top 2)) (defBody (top 2)) (defScope (top 2)) .none kV1 dc1 pm1 an1 cd1 ct1), sl1⟩) (c1 : PySem.W.codeIn K cd1 ("is_from" : Str) = true) (k1 : PySem.W.keepIn K (.ref f1) = true)
    {f2 : Addr} {oc2 kV2 dc2 cd2 pm2 ct2 : Value} {od2 an2 : Option Addr} {sl2 : Array (Option Value)} (a2 : PySem.W.nsIn K mainGlobals ("is_many" : Str) = some (some (.ref f2))) (l2 : K.lookup f2 = some ⟨oc2, od2, .func (PySem.W.fnOf ("is_many" : Str) ("is_many" : Str) (defArgs (top 3)) (defBody (top 3)) (defScope (top 3)) .none kV2 dc2 pm2 an2 cd2 ct2), sl2⟩) (c2 : PySem.W.codeIn K cd2 ("is_many" : Str) = true) (k2 : PySem.W.keepIn K (.ref f2) = true)
    {f3 : Addr} {oc3 kV3 dc3 cd3 pm3 ct3 : Value} {od3 an3 : Option Addr} {sl3 : Array (Option Value)} (a3 : PySem.W.nsIn K mainGlobals ("is_sample_row" : Str) = some (some (.ref f3))) (l3 : K.lookup f3 = some ⟨oc3, od3, .func (PySem.W.fnOf ("is_sample_row" : Str) ("is_sample_row" : Str) (defArgs (top 6)) (defBody (top 6)) (defScope (top 6)) .none kV3 dc3 pm3 an3 cd3 ct3), sl3⟩) (c3 : PySem.W.codeIn K cd3 ("is_sample_row" : Str) = true) (k3 : PySem.W.keepIn K (.ref f3) = true)
    {f4 : Addr} {oc4 kV4 dc4 cd4 pm4 ct4 : Value} {od4 an4 : Option Addr} {sl4 : Array (Option Value)} (a4 : PySem.W.nsIn K mainGlobals ("is_flows" : Str) = some (some (.ref f4))) (l4 : K.lookup f4 = some ⟨oc4, od4, .func (PySem.W.fnOf ("is_flows" : Str) ("is_flows" : Str) (defArgs (top 9)) (defBody (top 9)) (defScope (top 9)) .none kV4 dc4 pm4 an4 cd4 ct4), sl4⟩) (c4 : PySem.W.codeIn K cd4 ("is_flows" : Str) = true) (k4 : PySem.W.keepIn K (.ref f4) = true)
    {f5 : Addr} {oc5 kV5 dc5 cd5 pm5 ct5 : Value} {od5 an5 : Option Addr} {sl5 : Array (Option Value)} (a5 : PySem.W.nsIn K mainGlobals ("is_delays" : Str) = some (some (.ref f5))) (l5 : K.lookup f5 = some ⟨oc5, od5, .func (PySem.W.fnOf ("is_delays" : Str) ("is_delays" : Str) (defArgs (top 12)) (defBody (top 12)) (defScope (top 12)) .none kV5 dc5 pm5 an5 cd5 ct5), sl5⟩) (c5 : PySem.W.codeIn K cd5 ("is_delays" : Str) = true) (k5 : PySem.W.keepIn K (.ref f5) = true)
    {f6 : Addr} {oc6 kV6 dc6 cd6 pm6 ct6 : Value} {od6 an6 : Option Addr} {sl6 : Array (Option Value)} (a6 : PySem.W.nsIn K mainGlobals ("_law_cell_at" : Str) = some (some (.ref f6))) (l6 : K.lookup f6 = some ⟨oc6, od6, .func (PySem.W.fnOf ("_law_cell_at" : Str) ("_law_cell_at" : Str) (defArgs (top 14)) (defBody (top 14)) (defScope (top 14)) .none kV6 dc6 pm6 an6 cd6 ct6), sl6⟩) (c6 : PySem.W.codeIn K cd6 ("_law_cell_at" : Str) = true) (k6 : PySem.W.keepIn K (.ref f6) = true)
    {f7 : Addr} {oc7 kV7 dc7 cd7 pm7 ct7 : Value} {od7 an7 : Option Addr} {sl7 : Array (Option Value)} (a7 : PySem.W.nsIn K mainGlobals ("_law_draw" : Str) = some (some (.ref f7))) (l7 : K.lookup f7 = some ⟨oc7, od7, .func (PySem.W.fnOf ("_law_draw" : Str) ("_law_draw" : Str) (defArgs (top 15)) (defBody (top 15)) (defScope (top 15)) .none kV7 dc7 pm7 an7 cd7 ct7), sl7⟩) (c7 : PySem.W.codeIn K cd7 ("_law_draw" : Str) = true) (k7 : PySem.W.keepIn K (.ref f7) = true)
    {f8 : Addr} {oc8 kV8 dc8 cd8 pm8 ct8 : Value} {od8 an8 : Option Addr} {sl8 : Array (Option Value)} (a8 : PySem.W.nsIn K mainGlobals ("_law_number" : Str) = some (some (.ref f8))) (l8 : K.lookup f8 = some ⟨oc8, od8, .func (PySem.W.fnOf ("_law_number" : Str) ("_law_number" : Str) (defArgs (top 16)) (defBody (top 16)) (defScope (top 16)) .none kV8 dc8 pm8 an8 cd8 ct8), sl8⟩) (c8 : PySem.W.codeIn K cd8 ("_law_number" : Str) = true) (k8 : PySem.W.keepIn K (.ref f8) = true)
    {f9 : Addr} {oc9 kV9 dc9 cd9 pm9 ct9 : Value} {od9 an9 : Option Addr} {sl9 : Array (Option Value)} (a9 : PySem.W.nsIn K mainGlobals ("_law_next" : Str) = some (some (.ref f9))) (l9 : K.lookup f9 = some ⟨oc9, od9, .func (PySem.W.fnOf ("_law_next" : Str) ("_law_next" : Str) (defArgs (top 17)) (defBody (top 17)) (defScope (top 17)) .none kV9 dc9 pm9 an9 cd9 ct9), sl9⟩) (c9 : PySem.W.codeIn K cd9 ("_law_next" : Str) = true) (k9 : PySem.W.keepIn K (.ref f9) = true)
    {f10 : Addr} {oc10 kV10 dc10 cd10 pm10 ct10 : Value} {od10 an10 : Option Addr} {sl10 : Array (Option Value)} (a10 : PySem.W.nsIn K mainGlobals ("law" : Str) = some (some (.ref f10))) (l10 : K.lookup f10 = some ⟨oc10, od10, .func (PySem.W.fnOf ("law" : Str) ("law" : Str) (defArgs (top 18)) (defBody (top 18)) (defScope (top 18)) .none kV10 dc10 pm10 an10 cd10 ct10), sl10⟩) (c10 : PySem.W.codeIn K cd10 ("law" : Str) = true) (k10 : PySem.W.keepIn K (.ref f10) = true)
    {t0 : Tok} (m0 : PySem.W.nsIn K mainGlobals ("MOST_SAMPLES" : Str) = some (some (.int 40 t0)))
    {t1 : Tok} (m1 : PySem.W.nsIn K mainGlobals ("MOST_FLOWS" : Str) = some (some (.int 40 t1)))
    {t2 : Tok} (m2 : PySem.W.nsIn K mainGlobals ("MOST_DELAY" : Str) = some (some (.int 30 t2)))
    (z0 : PySem.W.nsIn K mainGlobals ("all" : Str) = some none)
    (z1 : PySem.W.nsIn K mainGlobals ("bool" : Str) = some none)
    (z2 : PySem.W.nsIn K mainGlobals ("int" : Str) = some none)
    (z3 : PySem.W.nsIn K mainGlobals ("isinstance" : Str) = some none)
    (z4 : PySem.W.nsIn K mainGlobals ("len" : Str) = some none)
    (z5 : PySem.W.nsIn K mainGlobals ("range" : Str) = some none)
    (z6 : PySem.W.nsIn K mainGlobals ("tuple" : Str) = some none)
    (z7 : PySem.W.nsIn K mainGlobals ("zip" : Str) = some none)
    : ∃ fd : FuncData, (∀ (s : Shared) (v : Value), BindsTo s fd ⟨[v], []⟩ [("script", v)]) ∧ ∀ base : Heap, K.In base → base.Ns mainGlobals mg → FnOk l.prog w K mg base (L2.CX l.prog w) 21 fa fd ["script"] (spG K cls 1 fun as => ev (calls fds 20) fd10.t (as ++ List.replicate (fd10.N.length - as.length) .un)) := by
  have hb : ∀ x ∈ bls, mg x = none := by
    intro x hx
    simp only [bls, List.mem_cons, List.not_mem_nil, or_false] at hx
    rcases hx with rfl | rfl | rfl | rfl | rfl | rfl | rfl | rfl
    · exact PySem.W.mg_none_of X G z0
    · exact PySem.W.mg_none_of X G z1
    · exact PySem.W.mg_none_of X G z2
    · exact PySem.W.mg_none_of X G z3
    · exact PySem.W.mg_none_of X G z4
    · exact PySem.W.mg_none_of X G z5
    · exact PySem.W.mg_none_of X G z6
    · exact PySem.W.mg_none_of X G z7
  have hc : ∀ x d, cns.lookup x = some d → ∃ u v, mg x = some u ∧ RelV v u ∧ ∀ B H, Rep K B H d v := by
    refine cns_mk fun p hp => ?_
    simp only [cns, List.mem_cons, List.not_mem_nil, or_false] at hp
    rcases hp with rfl | rfl | rfl
    · exact ⟨_, (.int 40), PySem.W.mg_of X G m0, ⟨_, rfl⟩, fun _ _ => .int _⟩
    · exact ⟨_, (.int 40), PySem.W.mg_of X G m1, ⟨_, rfl⟩, fun _ _ => .int _⟩
    · exact ⟨_, (.int 30), PySem.W.mg_of X G m2, ⟨_, rfl⟩, fun _ _ => .int _⟩
  have hf : ∀ f ∈ fds, FdAt K mg f := by
    intro f hf
    simp only [fds, List.mem_cons, List.not_mem_nil, or_false] at hf
    rcases hf with rfl | rfl | rfl | rfl | rfl | rfl | rfl | rfl | rfl | rfl | rfl
    · exact fdAt (x := ("is_whole" : Str)) (st := top 1) X G a0 l0 c0 k0 fun us hl => match us, hl with | [_], _ => rfl
    · exact fdAt (x := ("is_from" : Str)) (st := top 2) X G a1 l1 c1 k1 fun us hl => match us, hl with | [_, _, _], _ => rfl
    · exact fdAt (x := ("is_many" : Str)) (st := top 3) X G a2 l2 c2 k2 fun us hl => match us, hl with | [_, _], _ => rfl
    · exact fdAt (x := ("is_sample_row" : Str)) (st := top 6) X G a3 l3 c3 k3 fun us hl => match us, hl with | [_], _ => rfl
    · exact fdAt (x := ("is_flows" : Str)) (st := top 9) X G a4 l4 c4 k4 fun us hl => match us, hl with | [_], _ => rfl
    · exact fdAt (x := ("is_delays" : Str)) (st := top 12) X G a5 l5 c5 k5 fun us hl => match us, hl with | [_], _ => rfl
    · exact fdAt (x := ("_law_cell_at" : Str)) (st := top 14) X G a6 l6 c6 k6 fun us hl => match us, hl with | [_, _], _ => rfl
    · exact fdAt (x := ("_law_draw" : Str)) (st := top 15) X G a7 l7 c7 k7 fun us hl => match us, hl with | [_, _, _], _ => rfl
    · exact fdAt (x := ("_law_number" : Str)) (st := top 16) X G a8 l8 c8 k8 fun us hl => match us, hl with | [_, _, _], _ => rfl
    · exact fdAt (x := ("_law_next" : Str)) (st := top 17) X G a9 l9 c9 k9 fun us hl => match us, hl with | [_, _], _ => rfl
    · exact fdAt (x := ("law" : Str)) (st := top 18) X G a10 l10 c10 k10 fun us hl => match us, hl with | [_], _ => rfl
  obtain ⟨fd, h1, h2⟩ := law_mk (P := l.prog) (w := w) (cls := cls) (f := fd10) (k := 20) hb hc hf chk_ok (by simp [fds]) rfl hfa
  exact ⟨fd, h1, fun base _ _ => h2 base⟩
theorem walk {l : PySem.W.OpenLaw} {q : Program} {loose : List Str} {XP : (Str → Option Value) → Heap → Prop} {YP : World → Heap → Prop} {d : DefRec} {K : Params → PySem.W.Frag} (hn : l.most = some 63) (hdf : d.params.defaults = [])
    (hg : ∀ ns : List Int, ns.length ≤ 63 → ∃ r, (fun as : Rho => ev (calls fds 20) fd10.t (as ++ List.replicate (fd10.N.length - as.length) .un)) [.scr ns] = .ret (.bool true) r)
    (hY : ∀ (w : World) (h : Heap), YP w h → (K w.params).In h)
    (F : ∀ (w : World) (mg : Str → Option Value) (fa : Addr) (h : Heap), (K w.params).In h → h.Ns mainGlobals mg → mg d.name = some (.ref fa) →
      ∃ fd : FuncData, (∀ (s : Shared) (u : Value), BindsTo s fd ⟨[u], []⟩ [("script", u)]) ∧ ∀ base : Heap, (K w.params).In base → base.Ns mainGlobals mg → FnOk l.prog w (K w.params) mg base (L2.CX l.prog w) 21 fa fd ["script"] (spG (K w.params) (fun _ => 0) 1 fun as => ev (calls fds 20) fd10.t (as ++ List.replicate (fd10.N.length - as.length) .un))) :
    PySem.W.WalkO q loose XP YP l.row.toRowW d [] (fun f vs => PySem.call f vs) :=
  L2.walk_of (n := 63) (k := 21) (x := "script") (CX := fun w => L2.CX l.prog w) (sp := fun w => spG (K w.params) (fun _ => 0) 1 fun as => ev (calls fds 20) fd10.t (as ++ List.replicate (fd10.N.length - as.length) .un)) hn (by decide) hdf ⟨rfl, by decide, by decide⟩ hY F (fun w H a ns hl hO hS => law_sp hg H a ns hl hO hS) fun w H s e s' z => no_CX H s e s' z
end K85

open PySem PySem.W PyProof.Rows in
set_option maxRecDepth 100000 in
set_option maxHeartbeats 0 in
theorem PySem.Challenge.cw_noclicks_k85_new_shapes_holds : PySem.Challenge.rw_noclicks_k85_new_shapes.Holds := by
  w_on; o_law; k_head; (case hw => w_witness2)
  k_fill
  refine K85.walk (l := PySem.Challenge.rw_noclicks_k85_new_shapes) rfl rfl K85.law_true (fun w h Y => PySem.W.kIn_of Y) ?F
  case F =>
    intro w mg fa h KX G hmg
    refine' K85.all_mk KX G hmg ?a0 ?l0 ?c0 ?k0 ?a1 ?l1 ?c1 ?k1 ?a2 ?l2 ?c2 ?k2 ?a3 ?l3 ?c3 ?k3 ?a4 ?l4 ?c4 ?k4 ?a5 ?l5 ?c5 ?k5 ?a6 ?l6 ?c6 ?k6 ?a7 ?l7 ?c7 ?k7 ?a8 ?l8 ?c8 ?k8 ?a9 ?l9 ?c9 ?k9 ?a10 ?l10 ?c10 ?k10 ?m0 ?m1 ?m2 ?z0 ?z1 ?z2 ?z3 ?z4 ?z5 ?z6 ?z7
    (case a0 => k_is)
    (case l0 => k_is)
    (case c0 => k_is)
    (case k0 => k_is)
    (case a1 => k_is)
    (case l1 => k_is)
    (case c1 => k_is)
    (case k1 => k_is)
    (case a2 => k_is)
    (case l2 => k_is)
    (case c2 => k_is)
    (case k2 => k_is)
    (case a3 => k_is)
    (case l3 => k_is)
    (case c3 => k_is)
    (case k3 => k_is)
    (case a4 => k_is)
    (case l4 => k_is)
    (case c4 => k_is)
    (case k4 => k_is)
    (case a5 => k_is)
    (case l5 => k_is)
    (case c5 => k_is)
    (case k5 => k_is)
    (case a6 => k_is)
    (case l6 => k_is)
    (case c6 => k_is)
    (case k6 => k_is)
    (case a7 => k_is)
    (case l7 => k_is)
    (case c7 => k_is)
    (case k7 => k_is)
    (case a8 => k_is)
    (case l8 => k_is)
    (case c8 => k_is)
    (case k8 => k_is)
    (case a9 => k_is)
    (case l9 => k_is)
    (case c9 => k_is)
    (case k9 => k_is)
    (case a10 => k_is)
    (case l10 => k_is)
    (case c10 => k_is)
    (case k10 => k_is)
    (case m0 => k_is)
    (case m1 => k_is)
    (case m2 => k_is)
    (case z0 => k_is)
    (case z1 => k_is)
    (case z2 => k_is)
    (case z3 => k_is)
    (case z4 => k_is)
    (case z5 => k_is)
    (case z6 => k_is)
    (case z7 => k_is)
