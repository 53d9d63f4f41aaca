import PyProof.Rows.All
import HandS.ForMost
import HandS.ForExc
import HandS.IsInst
import HandS.CallSlots
import HandS.TupAny
import HandS.TupMul
import HandS.Style
import HandS.Deep
import HandS.Zip
import HandS.Wide
import KE.SortData
import HandS.Lambda
import KE.DataEq
import KE.DataCmp
import PyProof.Rows.IntBool
import PyProof.TwoTypesSub
import KE.GoesEnum
import KE.GoesNew
import HandS.WordsExc
import HandS.ExcOwn
import HandS.Defaults
import HandS.HeadHook2
import HandS.Set
import HandS.SetFor
import HandS.TupSets
import KE.KeyNested
import HandS.Head0
import HandS.Head1
import HandS.Head2
import HandS.HeadEnd
import HandS.HeadHook1
import HandS.HeadHook4
import HandS.ExcIs
import HandS.HotCalls
import HandS.HeadWalk
import HandS.EndTab
import HandS.Strs
import HandS.Codes
import PySem.Challenge.RW_mapkeep_k02_columns_and_links
set_option Elab.async false
set_option linter.all false
set_option autoImplicit false
set_option maxRecDepth 100000
section
set_option maxHeartbeats 2000000
/-! Mk0: Python data as Lean values, the memory of mutable objects, how both lie in the abstract heap. -/
open PySem PySem.Spec PyProof.Rows L2
namespace Mk

/-- a Python value: data, or a mutable object by its place in the memory; a text is the list of its codes -/
inductive D where
  | non | bl (b : Bool) | int (i : Int) | str (x : List Nat) | tup (xs : List D) | lst (xs : List D) | ref (i : Nat)
  /-- a tuple that has no dict of its own (its methods can be called) -/
  | nms (xs : List D)
  deriving Inhabited
/-- a mutable object -/
inductive O where
  | lst (xs : List D)
  | ins (c : Nat) (fs : List (Str × D))
  /-- the table in which the code objects of a def's lambdas are kept -/
  | tab (j : Nat)
abbrev Mem := List O
/-- an exception: its class, its fields -/
structure Ex where
  cls : Nat
  fs : List (Str × D)
inductive Res (α : Type) where
  | ok (a : α) (M : Mem)
  | exc (x : Ex) (M : Mem)
  | err
def Res.bind {α β : Type} (r : Res α) (f : α → Mem → Res β) : Res β := match r with
  | .ok a M => f a M
  | .exc x M => .exc x M
  | .err => .err
@[simp] theorem Res.bind_ok {α β : Type} (a : α) (M : Mem) (f : α → Mem → Res β) : (Res.ok a M).bind f = f a M := rfl
@[simp] theorem Res.bind_exc {α β : Type} (x : Ex) (M : Mem) (f : α → Mem → Res β) : (Res.exc x M).bind f = .exc x M := rfl
@[simp] theorem Res.bind_err {α β : Type} (f : α → Mem → Res β) : (Res.err).bind f = .err := rfl

/-- what is fixed through the law: the written part, where the classes stand -/
structure Cl where
  adr : Nat → Addr
  /-- where the tables of the lambdas' code objects stand, and their names -/
  tb : List (Addr × Str)
  /-- slots that hold a handled exception -/
  xs : List (Nat × Addr) := []
  /-- the own dicts of handled exceptions, what they hold -/
  xf : List (Addr × List (Str × D)) := []
/-- no slot holds a handled exception -/
class NoX (C : Cl) : Prop where
  no : C.xs = []
  nf : C.xf = []
/-- the slot i holds none -/
class OffX (C : Cl) (i : Nat) : Prop where
  off : ∀ q ∈ C.xs, q.1 ≠ i
instance (C : Cl) (i : Nat) [h : NoX C] : OffX C i := ⟨fun q hq => by rw [h.no] at hq; cases hq⟩
structure G where
  K : PySem.W.Frag
  C : Cl

/-- where the mutable objects stand, in order; and what is hidden for now (a list that a comprehension fills) -/
structure Lay where
  mu : List Addr
  hid : List Addr
/-- neither mutable nor hidden -/
def Lay.out (L : Lay) (a : Addr) : Prop := a ∉ L.mu ∧ a ∉ L.hid
def TupAt (K : PySem.W.Frag) (H : Hp) (as : Lay) (a : Addr) (vs : List V) : Prop :=
  (Rd H a (.tup vs) ∧ as.out a) ∨
    ∃ (o : Obj) (its : Array Value) (n : Nat), K.lookup a = some o ∧ o.cls = .type "tuple" ∧ o.data = .seq its n ∧ its.size ≤ sizeLine ∧ Vals vs its.toList
theorem TupAt.sq {K : PySem.W.Frag} {H : Hp} {as : Lay} {a : Addr} {vs : List V} (h : TupAt K H as a vs) : SqT K H a vs := by
  rcases h with ⟨h, _⟩ | h
  · exact .inl h
  · exact .inr h

mutual
/-- the value v is the datum, in the heap H, the mutable objects being at as -/
def RelD (g : G) (H : Hp) (as : Lay) : D → V → Prop
  | .non, v => v = .non
  | .bl b, v => v = .bl b
  | .int i, v => v = .int i
  | .str x, v => v = .str ⟨x.toArray⟩
  | .tup xs, v => ∃ a vs, v = .ref a ∧ TupAt g.K H as a vs ∧ RelDs g H as xs vs
  | .lst xs, v => ∃ a vs, v = .ref a ∧ (Rd H a (.lst vs) ∧ as.out a) ∧ RelDs g H as xs vs
  | .ref i, v => ∃ a, v = .ref a ∧ as.mu[i]? = some a
  | .nms xs, v => ∃ a vs, v = .ref a ∧ ((∃ o : Obj, H a = some (.frz o (.tup vs)) ∧ o.cls = .type "tuple" ∧ o.dict = none) ∧ as.out a) ∧ RelDs g H as xs vs
def RelDs (g : G) (H : Hp) (as : Lay) : List D → List V → Prop
  | [], vs => vs = []
  | x :: xs, vs => ∃ v r, vs = v :: r ∧ RelD g H as x v ∧ RelDs g H as xs r
end
def RelF (g : G) (H : Hp) (as : Lay) : List (Str × D) → List (Str × V) → Prop := Paired fun (p : Str × D) (q : Str × V) => p.1 = q.1 ∧ RelD g H as p.2 q.2
def ObjR (g : G) (H : Hp) (as : Lay) (a : Addr) : O → Prop
  | .lst xs => ∃ vs, H a = some (.lst vs) ∧ RelDs g H as xs vs
  | .ins c fs => ∃ dx ws, H a = some (.ins (g.C.adr c) dx ws) ∧ RelF g H as fs ws
  | .tab j => ∃ q ps, g.C.tb[j]? = some (a, q) ∧ H a = some (.tbl ps) ∧ TriplesOk ps.toList ∧ ∀ (pos : Pos) (cv : Value), codeAmong pos ps.toList = some cv → ∃ c, cv = .ref c ∧ H c = some (LamX.CodeO c q) ∧ as.out c
structure MemR (g : G) (H : Hp) (as : Lay) (M : Mem) : Prop where
  len : as.mu.length = M.length
  nd : as.mu.Nodup
  obj : ∀ (i : Nat) (a : Addr) (o : O), as.mu[i]? = some a → M[i]? = some o → ObjR g H as a o
  hide : ∀ a, a ∈ as.hid → a ∉ as.mu ∧ ∃ vs, H a = some (.lst vs)
/-- not a table of code objects -/
def NTb (o : HO) : Prop := ∀ ps, o ≠ .tbl ps
/-- from (H, as) to (H', as'): what is not mutable stands; the mutable ones stay at their places, new ones behind them -/
structure Ext (H : Hp) (as : Lay) (H' : Hp) (as' : Lay) : Prop where
  pre : ∃ more, as'.mu = as.mu ++ more
  hid : as'.hid = as.hid
  keep : ∀ a o, H a = some o → NTb o → a ∉ as.mu → H' a = some o ∧ a ∉ as'.mu
theorem Ext.refl (H : Hp) (as : Lay) : Ext H as H as := ⟨⟨[], by simp⟩, rfl, fun _ _ h _ n => ⟨h, n⟩⟩
theorem Ext.trans {H H1 H2 : Hp} {as as1 as2 : Lay} (x : Ext H as H1 as1) (y : Ext H1 as1 H2 as2) : Ext H as H2 as2 := by
  obtain ⟨⟨m, e1⟩, h1, k⟩ := x
  obtain ⟨⟨m', e2⟩, h2, k'⟩ := y
  exact ⟨⟨m ++ m', by rw [e2, e1, List.append_assoc]⟩, h2.trans h1, fun a o h t n => k' a o (k a o h t n).1 t (k a o h t n).2⟩
theorem Ext.get {H H' : Hp} {as as' : Lay} (x : Ext H as H' as') {i : Nat} {a : Addr} (h : as.mu[i]? = some a) : as'.mu[i]? = some a := by
  obtain ⟨⟨m, e⟩, _, _⟩ := x
  have hi := (List.getElem?_eq_some_iff.mp h).1
  rw [e, List.getElem?_append_left hi]
  exact h
theorem Ext.rd {H H' : Hp} {as as' : Lay} {a : Addr} {u : HO} (x : Ext H as H' as') (h : Rd H a u) (n : as.out a) (t : NTb u := by intro _ z; cases z) : Rd H' a u ∧ as'.out a := by
  rcases h with h | ⟨o, h⟩
  · exact ⟨.inl (x.keep _ _ h t n.1).1, (x.keep _ _ h t n.1).2, by rw [x.hid]; exact n.2⟩
  · have t : NTb (.frz o u) := by intro _ z; cases z
    exact ⟨.inr ⟨o, (x.keep _ _ h t n.1).1⟩, (x.keep _ _ h t n.1).2, by rw [x.hid]; exact n.2⟩
theorem Ext.tup {K : PySem.W.Frag} {H H' : Hp} {as as' : Lay} {a : Addr} {vs : List V} (x : Ext H as H' as') (h : TupAt K H as a vs) : TupAt K H' as' a vs := by
  rcases h with ⟨h, n⟩ | h
  · exact .inl (x.rd h n)
  · exact .inr h
/-- whatever keeps what is out and the places of the mutable ones keeps the readings -/
structure Keeps (H : Hp) (as : Lay) (H' : Hp) (as' : Lay) : Prop where
  get : ∀ (i : Nat) a, as.mu[i]? = some a → as'.mu[i]? = some a
  out : ∀ a o, H a = some o → NTb o → as.out a → H' a = some o ∧ as'.out a
theorem Ext.keeps {H H' : Hp} {as as' : Lay} (x : Ext H as H' as') : Keeps H as H' as' :=
  ⟨fun i a h => x.get h, fun a o h t n => ⟨(x.keep a o h t n.1).1, (x.keep a o h t n.1).2, by rw [x.hid]; exact n.2⟩⟩
theorem Keeps.rd {H H' : Hp} {as as' : Lay} {a : Addr} {u : HO} (x : Keeps H as H' as') (h : Rd H a u) (n : as.out a) (t : NTb u := by intro _ z; cases z) : Rd H' a u ∧ as'.out a := by
  rcases h with h | ⟨o, h⟩
  · exact ⟨.inl (x.out _ _ h t n).1, (x.out _ _ h t n).2⟩
  · have t : NTb (.frz o u) := by intro _ z; cases z
    exact ⟨.inr ⟨o, (x.out _ _ h t n).1⟩, (x.out _ _ h t n).2⟩
mutual
theorem RelD.mono {g : G} {H H' : Hp} {as as' : Lay} (x : Keeps H as H' as') : ∀ (d : D) (v : V), RelD g H as d v → RelD g H' as' d v
  | .non, _, h => by unfold RelD at *; exact h
  | .bl _, _, h => by unfold RelD at *; exact h
  | .int _, _, h => by unfold RelD at *; exact h
  | .str _, _, h => by unfold RelD at *; exact h
  | .tup xs, _, h => by
    unfold RelD at *
    obtain ⟨a, vs, e, t, r⟩ := h
    refine ⟨a, vs, e, ?_, RelDs.mono x xs vs r⟩
    rcases t with ⟨t, n⟩ | t
    · exact .inl (x.rd t n)
    · exact .inr t
  | .lst xs, _, h => by
    unfold RelD at *
    obtain ⟨a, vs, e, t, r⟩ := h
    exact ⟨a, vs, e, x.rd t.1 t.2, RelDs.mono x xs vs r⟩
  | .ref i, _, h => by
    unfold RelD at *
    obtain ⟨a, e, t⟩ := h
    exact ⟨a, e, x.get i a t⟩
  | .nms xs, _, h => by
    unfold RelD at *
    obtain ⟨a, vs, e, ⟨⟨o, t, c⟩, n⟩, r⟩ := h
    have z := x.out _ _ t (by intro _ z; cases z) n
    exact ⟨a, vs, e, ⟨⟨o, z.1, c⟩, z.2⟩, RelDs.mono x xs vs r⟩
theorem RelDs.mono {g : G} {H H' : Hp} {as as' : Lay} (x : Keeps H as H' as') : ∀ (ds : List D) (vs : List V), RelDs g H as ds vs → RelDs g H' as' ds vs
  | [], _, h => by unfold RelDs at *; exact h
  | d :: ds, _, h => by
    unfold RelDs at *
    obtain ⟨v, r, e, h1, h2⟩ := h
    exact ⟨v, r, e, RelD.mono x d v h1, RelDs.mono x ds r h2⟩
end
theorem RelD.ext {g : G} {H H' : Hp} {as as' : Lay} {d : D} {v : V} (h : RelD g H as d v) (x : Ext H as H' as') : RelD g H' as' d v := RelD.mono x.keeps d v h
theorem RelDs.ext {g : G} {H H' : Hp} {as as' : Lay} {ds : List D} {vs : List V} (h : RelDs g H as ds vs) (x : Ext H as H' as') : RelDs g H' as' ds vs := RelDs.mono x.keeps ds vs h
theorem RelF.mono {g : G} {H H' : Hp} {as as' : Lay} {ds : List (Str × D)} {vs : List (Str × V)} (h : RelF g H as ds vs) (x : Keeps H as H' as') : RelF g H' as' ds vs := L2.Paired.mapP h fun _ _ q => ⟨q.1, RelD.mono x _ _ q.2⟩
theorem RelF.ext {g : G} {H H' : Hp} {as as' : Lay} {ds : List (Str × D)} {vs : List (Str × V)} (h : RelF g H as ds vs) (x : Ext H as H' as') : RelF g H' as' ds vs := h.mono x.keeps

/-! ### lists of data and of values -/
section
variable {g : G} {H : Hp} {as : Lay}
theorem relDs_nil {vs : List V} : RelDs g H as [] vs ↔ vs = [] := by unfold RelDs; exact Iff.rfl
theorem relDs_cons {d : D} {ds : List D} {vs : List V} : RelDs g H as (d :: ds) vs ↔ ∃ v r, vs = v :: r ∧ RelD g H as d v ∧ RelDs g H as ds r := by
  conv => lhs; unfold RelDs
theorem RelDs.length : ∀ {ds : List D} {vs : List V}, RelDs g H as ds vs → vs.length = ds.length
  | [], _, h => by rw [relDs_nil.mp h]; rfl
  | d :: ds, _, h => by
    obtain ⟨v, r, rfl, _, h2⟩ := relDs_cons.mp h
    rw [List.length_cons, List.length_cons, RelDs.length h2]
theorem RelDs.get : ∀ {ds : List D} {vs : List V} {i : Nat} {d : D}, RelDs g H as ds vs → ds[i]? = some d → ∃ v, vs[i]? = some v ∧ RelD g H as d v
  | [], _, _, _, _, e => by simp at e
  | x :: ds, _, 0, d, h, e => by
    obtain ⟨v, r, rfl, h1, h2⟩ := relDs_cons.mp h
    have e : x = d := by simpa using e
    subst e
    exact ⟨v, rfl, h1⟩
  | x :: ds, _, i + 1, d, h, e => by
    obtain ⟨v, r, rfl, h1, h2⟩ := relDs_cons.mp h
    obtain ⟨v', e', r'⟩ := RelDs.get (i := i) h2 (by simpa using e)
    exact ⟨v', by simpa using e', r'⟩
theorem RelDs.get' {ds : List D} {vs : List V} {i : Nat} {v : V} (h : RelDs g H as ds vs) (e : vs[i]? = some v) : ∃ d, ds[i]? = some d ∧ RelD g H as d v := by
  have hi := (List.getElem?_eq_some_iff.mp e).1
  have hl := h.length
  have hd : ds[i]? = some (ds[i]'(by omega)) := List.getElem?_eq_getElem _
  obtain ⟨v', e', r⟩ := h.get hd
  rw [e] at e'
  cases e'
  exact ⟨_, hd, r⟩
theorem RelDs.append : ∀ {xs ys : List D} {vs ws : List V}, RelDs g H as xs vs → RelDs g H as ys ws → RelDs g H as (xs ++ ys) (vs ++ ws)
  | [], _, _, _, h, k => by rw [relDs_nil.mp h]; exact k
  | x :: xs, _, _, _, h, k => by
    obtain ⟨v, r, rfl, h1, h2⟩ := relDs_cons.mp h
    exact relDs_cons.mpr ⟨v, _, rfl, h1, h2.append k⟩
theorem RelDs.take : ∀ {xs : List D} {vs : List V} (n : Nat), RelDs g H as xs vs → RelDs g H as (xs.take n) (vs.take n)
  | _, _, 0, _ => by simp [relDs_nil]
  | [], _, n + 1, h => by rw [relDs_nil.mp h]; simp [relDs_nil]
  | x :: xs, _, n + 1, h => by
    obtain ⟨v, r, rfl, h1, h2⟩ := relDs_cons.mp h
    exact relDs_cons.mpr ⟨v, _, rfl, h1, h2.take n⟩
theorem RelDs.drop : ∀ {xs : List D} {vs : List V} (n : Nat), RelDs g H as xs vs → RelDs g H as (xs.drop n) (vs.drop n)
  | _, _, 0, h => h
  | [], _, n + 1, h => by rw [relDs_nil.mp h]; simp [relDs_nil]
  | x :: xs, _, n + 1, h => by
    obtain ⟨v, r, rfl, h1, h2⟩ := relDs_cons.mp h
    exact h2.drop n
theorem RelDs.reverse : ∀ {xs : List D} {vs : List V}, RelDs g H as xs vs → RelDs g H as xs.reverse vs.reverse
  | [], _, h => by rw [relDs_nil.mp h]; exact relDs_nil.mpr rfl
  | x :: xs, _, h => by
    obtain ⟨v, r, rfl, h1, h2⟩ := relDs_cons.mp h
    rw [List.reverse_cons, List.reverse_cons]
    exact h2.reverse.append (relDs_cons.mpr ⟨v, [], rfl, h1, relDs_nil.mpr rfl⟩)
theorem RelDs.one {d : D} {v : V} (h : RelD g H as d v) : RelDs g H as [d] [v] := relDs_cons.mpr ⟨v, [], rfl, h, relDs_nil.mpr rfl⟩
theorem RelDs.set {d : D} {v : V} (q : RelD g H as d v) : ∀ {xs : List D} {vs : List V} (i : Nat), RelDs g H as xs vs → RelDs g H as (xs.set i d) (vs.set i v)
  | [], _, _, h => by rw [relDs_nil.mp h]; exact relDs_nil.mpr rfl
  | x :: xs, _, 0, h => by
    obtain ⟨w, r, rfl, h1, h2⟩ := relDs_cons.mp h
    exact relDs_cons.mpr ⟨v, r, rfl, q, h2⟩
  | x :: xs, _, i + 1, h => by
    obtain ⟨w, r, rfl, h1, h2⟩ := relDs_cons.mp h
    exact relDs_cons.mpr ⟨w, _, rfl, h1, h2.set q i⟩
theorem RelDs.rep {xs : List D} {vs : List V} (h : RelDs g H as xs vs) : ∀ k : Nat, RelDs g H as (List.replicate k xs).flatten (List.replicate k vs).flatten
  | 0 => relDs_nil.mpr rfl
  | k + 1 => by
    rw [List.replicate_succ, List.replicate_succ, List.flatten_cons, List.flatten_cons]
    exact h.append (RelDs.rep h k)
end

/-! ### the memory -/
section
variable {g : G} {H H' : Hp} {as as' : Lay} {M : Mem}
theorem MemR.there (m : MemR g H as M) {a : Addr} (h : a ∈ as.mu) : ∃ o, H a = some o := by
  obtain ⟨i, hi⟩ := List.getElem?_of_mem h
  have hl := m.len
  have hi' := (List.getElem?_eq_some_iff.mp hi).1
  have hM : M[i]? = some (M[i]'(by omega)) := List.getElem?_eq_getElem _
  have r := m.obj i a _ hi hM
  cases q : M[i]'(by omega) with
  | lst xs =>
    rw [q] at r
    obtain ⟨vs, e, _⟩ := r
    exact ⟨_, e⟩
  | ins c fs =>
    rw [q] at r
    obtain ⟨dx, ws, e, _⟩ := r
    exact ⟨_, e⟩
  | tab =>
    rw [q] at r
    obtain ⟨_, ps, _, e, _⟩ := r
    exact ⟨_, e⟩
theorem MemR.fresh (m : MemR g H as M) {p : Addr} (h : H p = none) : as.out p := by
  refine ⟨fun z => ?_, fun z => ?_⟩
  · obtain ⟨o, e⟩ := m.there z
    rw [h] at e
    cases e
  · obtain ⟨_, o, e⟩ := m.hide p z
    rw [h] at e
    cases e
/-- an immutable object laid -/
theorem Ext.laid {p : Addr} {o : HO} (h : H p = none) : Ext H as (upd H p o) as :=
  ⟨⟨[], by simp⟩, rfl, fun a u e _ n => ⟨by rw [upd_ne (ne_of_none e h)]; exact e, n⟩⟩
theorem ObjR.mono {a : Addr} {o : O} (x : Keeps H as H' as') (e : H' a = H a) (r : ObjR g H as a o) : ObjR g H' as' a o := by
  cases o with
  | lst xs =>
    obtain ⟨vs, h, r⟩ := r
    exact ⟨vs, e.trans h, RelDs.mono x _ _ r⟩
  | ins c fs =>
    obtain ⟨dx, ws, h, r⟩ := r
    exact ⟨dx, ws, e.trans h, r.mono x⟩
  | tab =>
    obtain ⟨q, ps, h1, h2, h3, h4⟩ := r
    exact ⟨q, ps, h1, e.trans h2, h3, fun pos cv hc => by
      obtain ⟨c, e1, e2, e3⟩ := h4 pos cv hc
      exact ⟨c, e1, x.out c _ e2 (fun ps z => LamX.codeO_ne ps z) e3⟩⟩
theorem MemR.laid {p : Addr} {o : HO} (m : MemR g H as M) (h : H p = none) : MemR g (upd H p o) as M := by
  refine ⟨m.len, m.nd, fun i a u e q => (m.obj i a u e q).mono (Ext.laid h).keeps (upd_ne fun z => (m.fresh h).1 (by rw [← z]; exact List.mem_of_getElem? e)), fun a ha => ?_⟩
  obtain ⟨n, u, e⟩ := m.hide a ha
  exact ⟨n, u, by rw [upd_ne (ne_of_none e h)]; exact e⟩
/-- one more mutable object -/
def Lay.push (L : Lay) (p : Addr) : Lay := ⟨L.mu ++ [p], L.hid⟩
theorem Ext.pushed {p : Addr} {o : HO} (m : MemR g H as M) (h : H p = none) : Ext H as (upd H p o) (as.push p) :=
  ⟨⟨[p], rfl⟩, rfl, fun a u e _ n => ⟨by rw [upd_ne (ne_of_none e h)]; exact e, fun z => by
    rcases List.mem_append.mp z with z | z
    · exact n z
    · rw [List.mem_singleton.mp z, h] at e; cases e⟩⟩
theorem MemR.pushed {p : Addr} {o : HO} {u : O} (m : MemR g H as M) (h : H p = none) (new : ObjR g (upd H p o) (as.push p) p u) : MemR g (upd H p o) (as.push p) (M ++ [u]) := by
  refine ⟨by show (as.mu ++ [p]).length = _; rw [List.length_append, List.length_append, m.len]; rfl, ?_, fun i a w e q => ?_, fun a ha => ?_⟩
  · show (as.mu ++ [p]).Nodup
    rw [List.nodup_append]
    refine ⟨m.nd, by simp, fun a ha b hb z => ?_⟩
    rw [List.mem_singleton.mp hb] at z
    exact (m.fresh h).1 (z ▸ ha)
  · have e : (as.mu ++ [p])[i]? = some a := e
    by_cases hi : i < as.mu.length
    · rw [List.getElem?_append_left hi] at e
      rw [List.getElem?_append_left (by rw [← m.len]; exact hi)] at q
      exact (m.obj i a w e q).mono (Ext.pushed m h).keeps (upd_ne fun z => (m.fresh h).1 (by rw [← z]; exact List.mem_of_getElem? e))
    · have hi2 : i < (as.mu ++ [p]).length := (List.getElem?_eq_some_iff.mp e).1
      rw [List.length_append] at hi2
      have : i = as.mu.length := by simp at hi2; omega
      subst this
      rw [List.getElem?_append_right (Nat.le_refl _)] at e
      rw [m.len, List.getElem?_append_right (Nat.le_refl _)] at q
      simp at e q
      subst e q
      exact new
  · obtain ⟨n, w, e⟩ := m.hide a ha
    refine ⟨fun z => ?_, w, by rw [upd_ne (ne_of_none e h)]; exact e⟩
    rcases List.mem_append.mp z with z | z
    · exact n z
    · rw [List.mem_singleton.mp z, h] at e; cases e
/-- a mutable object changed -/
theorem Ext.write {p : Addr} {o : HO} (h : p ∈ as.mu) : Ext H as (upd H p o) as :=
  ⟨⟨[], by simp⟩, rfl, fun a u e _ n => ⟨by rw [upd_ne (fun z => n (by rw [z]; exact h))]; exact e, n⟩⟩
theorem MemR.write {i : Nat} {p : Addr} {o : HO} {u : O} (m : MemR g H as M) (h : as.mu[i]? = some p) (new : ObjR g (upd H p o) as p u) : MemR g (upd H p o) as (M.set i u) := by
  have hp := List.mem_of_getElem? h
  refine ⟨by rw [List.length_set]; exact m.len, m.nd, fun j a w e q => ?_, fun a ha => ?_⟩
  · by_cases hj : i = j
    · subst hj
      rw [h] at e
      cases e
      have hl := (List.getElem?_eq_some_iff.mp h).1
      rw [List.getElem?_set_self (by rw [← m.len]; exact hl)] at q
      cases q
      exact new
    · rw [List.getElem?_set_ne hj] at q
      refine (m.obj j a w e q).mono (Ext.write hp).keeps (upd_ne fun z => hj ?_)
      subst z
      obtain ⟨l1, e1⟩ := List.getElem?_eq_some_iff.mp h
      obtain ⟨l2, e2⟩ := List.getElem?_eq_some_iff.mp e
      exact (List.getElem_inj m.nd).mp (e1.trans e2.symm)
  · obtain ⟨n, w, e⟩ := m.hide a ha
    exact ⟨n, w, by rw [upd_ne (fun z => n (by rw [z]; exact hp))]; exact e⟩
/-! a fresh list hidden while it grows -/
def Lay.cover (L : Lay) (p : Addr) : Lay := ⟨L.mu, p :: L.hid⟩
theorem Keeps.cover {p : Addr} {o : HO} (h : H p = none) : Keeps H as (upd H p o) (as.cover p) :=
  ⟨fun _ _ e => e, fun a u e _ n => ⟨by rw [upd_ne (ne_of_none e h)]; exact e, n.1, fun z => by
    rcases List.mem_cons.mp z with z | z
    · exact ne_of_none e h z
    · exact n.2 z⟩⟩
theorem MemR.cover {p : Addr} {us : List V} (m : MemR g H as M) (h : H p = none) : MemR g (upd H p (.lst us)) (as.cover p) M := by
  refine ⟨m.len, m.nd, fun i a u e q => (m.obj i a u e q).mono (Keeps.cover h) (upd_ne fun z => (m.fresh h).1 (by rw [← z]; exact List.mem_of_getElem? e)), fun a ha => ?_⟩
  rcases List.mem_cons.mp ha with z | z
  · rw [z]; exact ⟨(m.fresh h).1, us, upd_same⟩
  · obtain ⟨n, w, e⟩ := m.hide a z
    exact ⟨n, w, by rw [upd_ne (ne_of_none e h)]; exact e⟩
theorem Keeps.grow {p : Addr} {o : HO} : Keeps H (as.cover p) (upd H p o) (as.cover p) :=
  ⟨fun _ _ e => e, fun a u e _ n => ⟨by rw [upd_ne (fun z => n.2 (by rw [z]; exact List.mem_cons_self))]; exact e, n⟩⟩
theorem MemR.grow {p : Addr} {us : List V} (m : MemR g H (as.cover p) M) : MemR g (upd H p (.lst us)) (as.cover p) M := by
  have np := (m.hide p (List.mem_cons_self (l := as.hid))).1
  refine ⟨m.len, m.nd, fun i a u e q => (m.obj i a u e q).mono Keeps.grow (upd_ne fun z => np (by rw [← z]; exact List.mem_of_getElem? e)), fun a ha => ?_⟩
  obtain ⟨n, w, e⟩ := m.hide a ha
  by_cases z : a = p
  · rw [z]; exact ⟨np, us, upd_same⟩
  · exact ⟨n, w, by rw [upd_ne z]; exact e⟩
theorem Keeps.bare {p : Addr} : Keeps H (as.cover p) H as :=
  ⟨fun _ _ e => e, fun a u e _ n => ⟨e, n.1, fun z => n.2 (List.mem_cons_of_mem _ z)⟩⟩
theorem MemR.bare {p : Addr} (m : MemR g H (as.cover p) M) : MemR g H as M :=
  ⟨m.len, m.nd, fun i a u e q => (m.obj i a u e q).mono Keeps.bare rfl, fun a ha => m.hide a (List.mem_cons_of_mem _ ha)⟩
end
end Mk
end

section
set_option maxHeartbeats 2000000
/-! Mk1: the judgements (an expression's evaluator, a statement's) and the first rules. -/
open PySem PySem.Spec PyProof.Rows L2
namespace Mk

/-- the local names by slot -/
abbrev Sl := List (Option D)
abbrev Ev := Sl → Mem → Res D
abbrev EvT := Sl → Mem → Res Bool
abbrev EvA := Sl → Mem → Res (List D)
structure EnvR (g : G) (H : Hp) (as : Lay) (ρ : Sl) (σ : L2.St) : Prop where
  len : ρ.length = σ.length
  has : ∀ (i : Nat) (d : D), ρ[i]? = some (some d) → ∃ v, σ[i]? = some (some v) ∧ RelD g H as d v
  raw : ∀ q ∈ g.C.xs, σ[q.1]? = some (some (.ref q.2))
  xfs : ∀ q ∈ g.C.xf, ∃ ws, H q.1 = some (.xd ws) ∧ as.out q.1 ∧ RelF g H as q.2 ws
theorem EnvR.ext {g : G} {H H' : Hp} {as as' : Lay} {ρ : Sl} {σ : L2.St} (h : EnvR g H as ρ σ) (x : Ext H as H' as') : EnvR g H' as' ρ σ :=
  ⟨h.len, fun i d e => let ⟨v, e', r⟩ := h.has i d e; ⟨v, e', r.ext x⟩, h.raw, fun q hq => let ⟨ws, e, o, r⟩ := h.xfs q hq; ⟨ws, (x.keeps.out _ _ e (fun _ z => by cases z) o).1, (x.keeps.out _ _ e (fun _ z => by cases z) o).2, r.ext x⟩⟩
theorem EnvR.set {g : G} {H : Hp} {as : Lay} {ρ : Sl} {σ : L2.St} {d : D} {v : V} (h : EnvR g H as ρ σ) (i : Nat) (r : RelD g H as d v) (hx : ∀ q ∈ g.C.xs, q.1 ≠ i) : EnvR g H as (ρ.set i (some d)) (σ.set i (some v)) := by
  refine ⟨by rw [List.length_set, List.length_set]; exact h.len, fun j d' e => ?_, fun q hq => by rw [List.getElem?_set_ne (fun z => hx q hq z.symm)]; exact h.raw q hq, h.xfs⟩
  by_cases hj : i = j
  · subst hj
    have hl : i < (ρ.set i (some d)).length := (List.getElem?_eq_some_iff.mp e).1
    rw [List.length_set] at hl
    rw [List.getElem?_set_self hl] at e
    cases e
    exact ⟨v, List.getElem?_set_self (by rw [← h.len]; exact hl), r⟩
  · rw [List.getElem?_set_ne hj] at e
    obtain ⟨v', e', r'⟩ := h.has j d' e
    exact ⟨v', by rw [List.getElem?_set_ne hj]; exact e', r'⟩

/-- an exception as it lies -/
def RelX (g : G) (H : Hp) (as : Lay) (x : Ex) (c : Value) (o : Option Addr) : Prop :=
  c = .ref (g.C.adr x.cls) ∧ ((x.fs = [] ∧ o = none) ∨ (x.fs ≠ [] ∧ ∃ d ws, o = some d ∧ H d = some (.xd ws) ∧ as.out d ∧ RelF g H as x.fs ws))
abbrev WK := Value → Option Addr → Hp → Prop
/-- what is wanted of an outcome -/
def Fin {α β : Type} (g : G) (R : Hp → Lay → α → β → Prop) (W : WK) (H : Hp) (as : Lay) (Q : β → Hp → Prop) : Res α → Prop
  | .ok d M' => ∀ (v : β) (H' : Hp) (as' : Lay), MemR g H' as' M' → Ext H as H' as' → R H' as' d v → Q v H'
  | .exc x M' => ∀ (c : Value) (o : Option Addr) (H' : Hp) (as' : Lay), MemR g H' as' M' → Ext H as H' as' → RelX g H' as' x c o → W c o H'
  | .err => False
section
variable {α β γ δ : Type} {g : G} {R : Hp → Lay → α → β → Prop} {R' : Hp → Lay → γ → δ → Prop} {W : WK} {H H1 : Hp} {as as1 : Lay}
theorem Fin.at_ {Q : β → Hp → Prop} {r : Res α} (x : Ext H as H1 as1) (h : Fin g R W H as Q r) : Fin g R W H1 as1 Q r := by
  cases r with
  | ok d M => exact fun v H' as' m e q => h v H' as' m (x.trans e) q
  | exc y M => exact fun c o H' as' m e q => h c o H' as' m (x.trans e) q
  | err => exact h
theorem Fin.mono {Q Q' : β → Hp → Prop} {r : Res α} (h : Fin g R W H as Q r) (hq : ∀ v H', Q v H' → Q' v H') : Fin g R W H as Q' r := by
  cases r with
  | ok d M => exact fun v H' as' m e q => hq _ _ (h v H' as' m e q)
  | exc y M => exact h
  | err => exact h
theorem Fin.bind {Q : δ → Hp → Prop} {r : Res α} {f : α → Mem → Res γ} (h : Fin g R' W H as Q (r.bind f)) :
    Fin g R W H as (fun v H1 => ∃ as1 M1 d, MemR g H1 as1 M1 ∧ Ext H as H1 as1 ∧ R H1 as1 d v ∧ Fin g R' W H1 as1 Q (f d M1)) r := by
  cases r with
  | ok d M => exact fun v H' as' m e q => ⟨as', M, d, m, e, q, h.at_ e⟩
  | exc y M => exact h
  | err => exact h
end
/-- the reading of an evaluator -/
def tG {α β : Type} (g : G) (R : Hp → Lay → α → β → Prop) (W : WX) (ev : Sl → Mem → Res α) : L2.St → Hp → (β → Hp → Prop) → Prop := fun σ H Q =>
  ∃ ρ M as, EnvR g H as ρ σ ∧ MemR g H as M ∧ Fin g R (fun c o H' => W c o σ H') H as Q (ev ρ M)
abbrev RB : Hp → Lay → Bool → Bool → Prop := fun _ _ b c => b = c
abbrev tE (g : G) (W : WX) (ev : Ev) : TE := tG g (RelD g) W ev
abbrev tT (g : G) (W : WX) (ev : EvT) : TT := tG g RB W ev
abbrev tA (g : G) (W : WX) (ev : EvA) : TA := tG g (RelDs g) W ev
section
variable {α β γ δ : Type} {g : G} {R : Hp → Lay → α → β → Prop} {R' : Hp → Lay → γ → δ → Prop} {W : WX} {σ : L2.St} {H : Hp}
/-- first ea, then the rest at what it gives -/
theorem tG_bind {ea : Sl → Mem → Res α} {f : Sl → α → Mem → Res γ} {Q : δ → Hp → Prop} (h : tG g R' W (fun ρ M => (ea ρ M).bind (f ρ)) σ H Q) :
    tG g R W ea σ H (fun v H1 => ∃ ρ as1 M1 d, EnvR g H1 as1 ρ σ ∧ MemR g H1 as1 M1 ∧ R H1 as1 d v ∧ Fin g R' (fun c o H' => W c o σ H') H1 as1 Q (f ρ d M1)) := by
  obtain ⟨ρ, M, as, e, m, h⟩ := h
  refine ⟨ρ, M, as, e, m, ?_⟩
  exact (Fin.bind (R := R) h).mono fun v H1 ⟨as1, M1, d, m1, x, r, q⟩ => ⟨ρ, as1, M1, d, e.ext x, m1, r, q⟩
theorem tG_mono {ea : Sl → Mem → Res α} {Q Q' : β → Hp → Prop} (h : tG g R W ea σ H Q) (hq : ∀ v H', Q v H' → Q' v H') : tG g R W ea σ H Q' := by
  obtain ⟨ρ, M, as, e, m, h⟩ := h
  exact ⟨ρ, M, as, e, m, h.mono hq⟩
end
theorem PE.imp {X : Cx} {e : Expr} {t t' : TE} (h : PE X e t) (i : ∀ σ H Q, t' σ H Q → t σ H Q) : PE X e t' := ⟨fun pins s σ H Q I q => h.run pins s σ H Q I (i σ H Q q)⟩
theorem PT.imp {X : Cx} {e : Expr} {t t' : TT} (h : PT X e t) (i : ∀ σ H Q, t' σ H Q → t σ H Q) : PT X e t' := ⟨fun pins s σ H Q I q => h.run pins s σ H Q I (i σ H Q q)⟩
theorem PW.imp {X : Cx} {e : Expr} {t t' : TT} (h : PW X e t) (i : ∀ σ H Q, t' σ H Q → t σ H Q) : PW X e t' := ⟨fun wh pins s σ H Q I q => h.run wh pins s σ H Q I (i σ H Q q)⟩
theorem PA.imp {X : Cx} {es : List Expr} {t t' : TA} (h : PA X es t) (i : ∀ σ H Q, t' σ H Q → t σ H Q) : PA X es t' := ⟨fun pos pins s σ H Q I q => h.run pos pins s σ H Q I (i σ H Q q)⟩
theorem PS.imp {X : Cx} {st : Stmt} {t t' : TS} (h : PS X st t) (i : ∀ D σ H, t' D σ H → t D σ H) : PS X st t' := ⟨fun pins s σ H D I q => h.run pins s σ H D I (i D σ H q)⟩
theorem PSs.imp {X : Cx} {st : List Stmt} {t t' : TS} (h : PSs X st t) (i : ∀ D σ H, t' D σ H → t D σ H) : PSs X st t' := ⟨fun pins s σ H D I q => h.run pins s σ H D I (i D σ H q)⟩

/-- the evaluators of expressions, tests, arguments in the context X; C tells where the classes stand, W what is wanted of an exception -/
abbrev VE (X : Cx) (C : Cl) (W : WX) (e : Expr) (ev : Ev) : Prop := PE X e (tE ⟨X.K, C⟩ W ev)
abbrev VT (X : Cx) (C : Cl) (W : WX) (e : Expr) (ev : EvT) : Prop := PT X e (tT ⟨X.K, C⟩ W ev)
abbrev VW (X : Cx) (C : Cl) (W : WX) (e : Expr) (ev : EvT) : Prop := PW X e (tT ⟨X.K, C⟩ W ev)
abbrev VA (X : Cx) (C : Cl) (W : WX) (es : List Expr) (ev : EvA) : Prop := PA X es (tA ⟨X.K, C⟩ W ev)

/-! ### names, constants -/
section
variable {X : Cx} {C : Cl} {W : WX}
def eV (i : Nat) : Ev := fun ρ M => match ρ[i]? with
  | some (some d) => .ok d M
  | _ => .err
theorem tG_now {α β : Type} {g : G} {R : Hp → Lay → α → β → Prop} {σ : L2.St} {H : Hp} {Q : β → Hp → Prop} {d : α} {M : Mem} {as : Lay} {v : β} (h : Fin g R (fun c o H' => W c o σ H') H as Q (.ok d M)) (m : MemR g H as M) (r : R H as d v) : Q v H :=
  h v H as m (Ext.refl H as) r
theorem v_var (i : Nat) {x : Str} {pos : Pos} (hN : X.N[i]? = some x := by rfl) (hv : Vis X.env.scope x := by first | exact Or.inl rfl | exact Or.inr (Or.inl rfl) | exact Or.inr (Or.inr rfl)) (hd : (x == ("__debug__" : Str)) = false := by decide)
    (hcd : (x == ("__classdict__" : Str)) = false := by decide) : VE X C W (.Name x pos) (eV i) := by
  refine PE.imp (pe_var hN hv hd hcd) fun σ H Q h => ?_
  obtain ⟨ρ, M, as, e, m, h⟩ := h
  unfold eV at h
  cases q : ρ[i]? with
  | none => rw [q] at h; exact h.elim
  | some o =>
    cases o with
    | none => rw [q] at h; exact h.elim
    | some d =>
      rw [q] at h
      obtain ⟨v, e', r⟩ := e.has i d q
      exact ⟨v, e', tG_now h m r⟩
def eC (d : D) : Ev := fun _ M => .ok d M
theorem v_con {e : Expr} {v : V} {d : D} (h : PE X e (tC v)) (r : ∀ H as, RelD ⟨X.K, C⟩ H as d v) : VE X C W e (eC d) :=
  PE.imp h fun σ H Q ⟨ρ, M, as, e, m, q⟩ => tG_now q m (r H as)
theorem v_int {i j pos} : VE X C W (.Constant (.int i) j pos) (eC (.int i)) := v_con pe_int fun _ _ => by unfold RelD; rfl
theorem v_bl {b j pos} : VE X C W (.Constant (.bool b) j pos) (eC (.bl b)) := v_con pe_bl fun _ _ => by unfold RelD; rfl
theorem v_non {j pos} : VE X C W (.Constant .none j pos) (eC .non) := v_con pe_non fun _ _ => by unfold RelD; rfl
theorem v_str {x : Str} {l : List Nat} {j pos} (h : x = ⟨l.toArray⟩ := by decide +kernel) : VE X C W (.Constant (.str x) j pos) (eC (.str l)) := by
  subst h
  exact v_con pe_str fun _ _ => by unfold RelD; rfl
/-- a global whose value is told -/
theorem v_glob {x : Str} {v : V} {u : Value} {d : D} {pos : Pos} (hm : X.mg x = some u) (r : RelV v u) (rd : ∀ H as, RelD ⟨X.K, C⟩ H as d v) (hg : Gl X x := by rfl) (hd : (x == ("__debug__" : Str)) = false := by decide) : VE X C W (.Name x pos) (eC d) :=
  v_con (pe_glob hg hm r hd) rd

/-! ### argument lists, displays -/
def aNil : EvA := fun _ M => .ok [] M
def aCons (a : Ev) (r : EvA) : EvA := fun ρ M => (a ρ M).bind fun x M1 => (r ρ M1).bind fun xs M2 => .ok (x :: xs) M2
theorem va_nil : VA X C W [] aNil := PA.imp pa_nil fun σ H Q ⟨ρ, M, as, e, m, q⟩ => tG_now q m (relDs_nil.mpr rfl)
theorem va_cons {e : Expr} {es : List Expr} {a : Ev} {r : EvA} (ha : VE X C W e a) (hr : VA X C W es r) (hs : starEach (e :: es) X.env = (false, eval e X.env) :: starEach es X.env := by rfl) : VA X C W (e :: es) (aCons a r) := by
  refine PA.imp (pa_cons ha hr hs) fun σ H Q h => ?_
  refine tG_mono (tG_bind (R := RelD ⟨X.K, C⟩) h) fun v H1 ⟨ρ, as1, M1, d, e1, m1, r1, q1⟩ => ?_
  refine ⟨ρ, M1, as1, e1, m1, ?_⟩
  exact (Fin.bind (R := RelDs ⟨X.K, C⟩) q1).mono fun vs H2 ⟨as2, M2, ds, m2, x2, r2, q2⟩ => tG_now (W := W) q2 m2 (relDs_cons.mpr ⟨v, vs, rfl, r1.ext x2, r2⟩)
def aL : List Ev → EvA
  | [] => aNil
  | a :: r => aCons a (aL r)
theorem aL_len : ∀ (es : List Ev) (ρ : Sl) (M : Mem) (xs : List D) (M' : Mem), aL es ρ M = .ok xs M' → xs.length = es.length
  | [], _, _, _, _, h => by unfold aL aNil at h; cases h; rfl
  | a :: r, ρ, M, xs, M', h => by
    unfold aL aCons at h
    cases q : a ρ M with
    | ok x M1 =>
      rw [q] at h
      simp only [Res.bind_ok] at h
      cases q2 : aL r ρ M1 with
      | ok ys M2 =>
        rw [q2] at h
        simp only [Res.bind_ok] at h
        cases h
        rw [List.length_cons, aL_len r ρ M1 ys _ q2, List.length_cons]
      | exc y M2 => rw [q2] at h; cases h
      | err => rw [q2] at h; cases h
    | exc y M1 => rw [q] at h; cases h
    | err => rw [q] at h; cases h
/-- (a, b, ..); [a, b, ..]; a list that will be changed -/
def eTup (es : List Ev) : Ev := fun ρ M => (aL es ρ M).bind fun xs M1 => .ok (.tup xs) M1
def eLst (es : List Ev) : Ev := fun ρ M => (aL es ρ M).bind fun xs M1 => .ok (.lst xs) M1
def eNew (es : List Ev) : Ev := fun ρ M => (aL es ρ M).bind fun xs M1 => .ok (.ref M1.length) (M1 ++ [.lst xs])
theorem relD_tup {g : G} {H : Hp} {as : Lay} {a : Addr} {xs : List D} {vs : List V} (h : H a = some (.tup vs)) (n : as.out a) (r : RelDs g H as xs vs) : RelD g H as (.tup xs) (.ref a) := by
  unfold RelD
  exact ⟨a, vs, rfl, .inl ⟨.inl h, n⟩, r⟩
theorem relD_lst {g : G} {H : Hp} {as : Lay} {a : Addr} {xs : List D} {vs : List V} (h : H a = some (.lst vs)) (n : as.out a) (r : RelDs g H as xs vs) : RelD g H as (.lst xs) (.ref a) := by
  unfold RelD
  exact ⟨a, vs, rfl, ⟨.inl h, n⟩, r⟩
/-- a tuple, a list that was just laid -/
theorem new_tup {g : G} {H : Hp} {as : Lay} {M : Mem} {p : Addr} {xs : List D} {vs : List V} {Q : VK} {Wk : WK} (m : MemR g H as M) (hp : H p = none) (r : RelDs g H as xs vs) (q : Fin g (RelD g) Wk H as Q (.ok (.tup xs) M)) : Q (.ref p) (upd H p (.tup vs)) :=
  q _ _ as (m.laid hp) (Ext.laid hp) (relD_tup upd_same (m.fresh hp) (r.ext (Ext.laid hp)))
theorem new_lst {g : G} {H : Hp} {as : Lay} {M : Mem} {p : Addr} {xs : List D} {vs : List V} {Q : VK} {Wk : WK} (m : MemR g H as M) (hp : H p = none) (r : RelDs g H as xs vs) (q : Fin g (RelD g) Wk H as Q (.ok (.lst xs) M)) : Q (.ref p) (upd H p (.lst vs)) :=
  q _ _ as (m.laid hp) (Ext.laid hp) (relD_lst upd_same (m.fresh hp) (r.ext (Ext.laid hp)))
theorem new_ref {g : G} {H : Hp} {as : Lay} {M : Mem} {p : Addr} {xs : List D} {vs : List V} {Q : VK} {Wk : WK} (m : MemR g H as M) (hp : H p = none) (r : RelDs g H as xs vs) (q : Fin g (RelD g) Wk H as Q (.ok (.ref M.length) (M ++ [.lst xs]))) : Q (.ref p) (upd H p (.lst vs)) := by
  have x := Ext.pushed (o := .lst vs) m hp
  refine q _ _ (as.push p) (m.pushed hp ⟨vs, upd_same, r.ext x⟩) x ?_
  unfold RelD
  exact ⟨p, rfl, by show (as.mu ++ [p])[M.length]? = _; rw [List.getElem?_append_right (by rw [m.len]; exact Nat.le_refl _), m.len, Nat.sub_self]; rfl⟩
/-- behind an argument list its length is known too -/
theorem tA_len {α : Type} {β : Type} {g : G} {R : Hp → Lay → α → β → Prop} {es : List Ev} {f : List D → Mem → Res α} {σ : L2.St} {H : Hp} {Q : β → Hp → Prop} (h : tG g R W (fun ρ M => (aL es ρ M).bind f) σ H Q) :
    tA g W (aL es) σ H (fun vs H1 => ∃ ρ as1 M1 ds, EnvR g H1 as1 ρ σ ∧ MemR g H1 as1 M1 ∧ RelDs g H1 as1 ds vs ∧ ds.length = es.length ∧ Fin g R (fun c o H' => W c o σ H') H1 as1 Q (f ds M1)) := by
  obtain ⟨ρ, M, as, e, m, h⟩ := h
  refine ⟨ρ, M, as, e, m, ?_⟩
  change Fin g R _ H as Q ((aL es ρ M).bind f) at h
  cases q : aL es ρ M with
  | ok ds M1 =>
    rw [q] at h
    exact fun vs H1 as1 m1 x r => ⟨ρ, as1, M1, ds, e.ext x, m1, r, aL_len es ρ M ds M1 q, Fin.at_ x h⟩
  | exc y M1 => rw [q] at h; exact h
  | err => rw [q] at h; exact h
theorem v_tup {es : List Expr} {evs : List Ev} {x1 : Nat} {pos : Pos} (h : VA X C W es (aL evs)) (hn : evs.length ≤ 16777216 := by first | decide | exact Nat.le_of_ble_eq_true rfl) : VE X C W (.Tuple es x1 pos) (eTup evs) := by
  refine PE.imp (pe_tup h) fun σ H Q h => tG_mono (tA_len h) fun vs H1 ⟨ρ, as1, M1, ds, e1, m1, r1, l1, q1⟩ => ?_
  exact ⟨by rw [r1.length, l1, sizeLine_eq]; exact hn, fun p hp => new_tup m1 hp r1 q1⟩
theorem v_lst {es : List Expr} {evs : List Ev} {pos : Pos} (h : VA X C W es (aL evs)) (hn : evs.length ≤ 16777216 := by first | decide | exact Nat.le_of_ble_eq_true rfl) : VE X C W (.List es pos) (eLst evs) := by
  refine PE.imp (pe_lst h) fun σ H Q h => tG_mono (tA_len h) fun vs H1 ⟨ρ, as1, M1, ds, e1, m1, r1, l1, q1⟩ => ?_
  exact ⟨by rw [r1.length, l1, sizeLine_eq]; exact hn, fun p hp => new_lst m1 hp r1 q1⟩
theorem v_new {es : List Expr} {evs : List Ev} {pos : Pos} (h : VA X C W es (aL evs)) (hn : evs.length ≤ 16777216 := by first | decide | exact Nat.le_of_ble_eq_true rfl) : VE X C W (.List es pos) (eNew evs) := by
  refine PE.imp (pe_lst h) fun σ H Q h => tG_mono (tA_len h) fun vs H1 ⟨ρ, as1, M1, ds, e1, m1, r1, l1, q1⟩ => ?_
  exact ⟨by rw [r1.length, l1, sizeLine_eq]; exact hn, fun p hp => new_ref m1 hp r1 q1⟩
end
end Mk
end

section
set_option maxHeartbeats 2000000
/-! Mk2: equality and order of data, and how they are read off the heap. -/
open PySem PySem.Spec PyProof.Rows L2
namespace Mk

mutual
/-- as the library's data (a mutable object is none) -/
def D.py : D → PyData
  | .non => .none
  | .bl b => .bool b
  | .int i => .int i
  | .str x => .str ⟨x.toArray⟩
  | .tup xs => .tuple (D.pys xs)
  | .lst xs => .list (D.pys xs)
  | .ref _ => .none
  | .nms _ => .none
def D.pys : List D → List PyData
  | [] => []
  | x :: xs => x.py :: D.pys xs
end
mutual
/-- no mutable object lies within -/
def D.pure : D → Bool
  | .tup xs => D.pures xs
  | .lst xs => D.pures xs
  | .ref _ => false
  | .nms _ => false
  | _ => true
def D.pures : List D → Bool
  | [] => true
  | x :: xs => x.pure && D.pures xs
end
mutual
def D.depth : D → Nat
  | .tup xs => D.depths xs + 1
  | .lst xs => D.depths xs + 1
  | _ => 0
def D.depths : List D → Nat
  | [] => 0
  | x :: xs => max x.depth (D.depths xs)
end
mutual
/-- Python's == -/
def D.beq : D → D → Bool
  | .non, .non => true
  | .bl a, .bl b => a == b
  | .bl a, .int j => (if a then 1 else 0) == j
  | .int i, .bl b => i == (if b then 1 else 0)
  | .int i, .int j => i == j
  | .str x, .str y => x == y
  | .tup xs, .tup ys => D.beqs xs ys
  | .lst xs, .lst ys => D.beqs xs ys
  | _, _ => false
def D.beqs : List D → List D → Bool
  | [], [] => true
  | x :: xs, y :: ys => x.beq y && D.beqs xs ys
  | _, _ => false
end
mutual
/-- the two can be compared by order -/
def D.alike : D → D → Bool
  | .non, .non => true
  | .bl _, .bl _ => true
  | .int _, .int _ => true
  | .str _, .str _ => true
  | .tup xs, .tup ys => D.alikes xs ys
  | .lst xs, .lst ys => D.alikes xs ys
  | _, _ => false
def D.alikes : List D → List D → Bool
  | x :: xs, y :: ys => x.alike y && D.alikes xs ys
  | [], _ => true
  | _ :: _, [] => true
end
mutual
/-- Python's < of data that are alike -/
def D.ltb : D → D → Bool
  | .bl a, .bl b => !a && b
  | .int i, .int j => decide (i < j)
  | .str x, .str y => decide (x < y)
  | .tup xs, .tup ys => D.ltbs xs ys
  | .lst xs, .lst ys => D.ltbs xs ys
  | _, _ => false
def D.ltbs : List D → List D → Bool
  | _, [] => false
  | [], _ :: _ => true
  | x :: xs, y :: ys => if x.beq y then D.ltbs xs ys else x.ltb y
end
theorem pys_map : ∀ xs : List D, D.pys xs = xs.map D.py
  | [] => by unfold D.pys; rfl
  | x :: xs => by unfold D.pys; rw [pys_map xs]; rfl
theorem str_eq (x y : List Nat) : ((⟨x.toArray⟩ : Str) == ⟨y.toArray⟩) = (x == y) := by
  by_cases h : x = y
  · subst h; simp
  · have : ¬ (⟨x.toArray⟩ : Str) = ⟨y.toArray⟩ := fun e => h (by simpa using e)
    rw [beq_eq_false_iff_ne.mpr this, beq_eq_false_iff_ne.mpr h]
mutual
theorem py_plain : ∀ d : D, d.py.plain = true
  | .non => by unfold D.py; rfl
  | .bl _ => by unfold D.py; rfl
  | .int _ => by unfold D.py; rfl
  | .str _ => by unfold D.py; rfl
  | .tup xs => by unfold D.py; unfold PyData.plain; exact pys_plain xs
  | .lst xs => by unfold D.py; unfold PyData.plain; exact pys_plain xs
  | .ref _ => by unfold D.py; rfl
  | .nms _ => by unfold D.py; rfl
theorem pys_plain : ∀ ds : List D, PyData.plainAll (D.pys ds) = true
  | [] => by unfold D.pys; rfl
  | d :: ds => by unfold D.pys; unfold PyData.plainAll; rw [py_plain d, pys_plain ds]; rfl
end
mutual
theorem py_depth : ∀ d : D, d.py.depth = d.depth
  | .non => by unfold D.py D.depth; rfl
  | .bl _ => by unfold D.py D.depth; rfl
  | .int _ => by unfold D.py D.depth; rfl
  | .str _ => by unfold D.py D.depth; rfl
  | .tup xs => by unfold D.py D.depth; unfold PyData.depth; rw [pys_depth xs]
  | .lst xs => by unfold D.py D.depth; unfold PyData.depth; rw [pys_depth xs]
  | .ref _ => by unfold D.py D.depth; rfl
  | .nms _ => by unfold D.py D.depth; rfl
theorem pys_depth : ∀ ds : List D, PyData.depthAll (D.pys ds) = D.depths ds
  | [] => by unfold D.pys D.depths; rfl
  | d :: ds => by unfold D.pys D.depths; unfold PyData.depthAll; rw [py_depth d, pys_depth ds]
end
mutual
theorem py_eqv : ∀ d e : D, d.pure = true → e.pure = true → PyData.eqv d.py e.py = d.beq e
  | d, .ref _, _, h => by simp [D.pure] at h
  | .ref _, _, h, _ => by simp [D.pure] at h
  | _, .nms _, _, h => by simp [D.pure] at h
  | .nms _, _, h, _ => by simp [D.pure] at h
  | .tup xs, .tup ys, h, k => by
    simp only [D.py, PyData.eqv, D.beq]
    exact pys_eqv xs ys (by simpa [D.pure] using h) (by simpa [D.pure] using k)
  | .lst xs, .lst ys, h, k => by
    simp only [D.py, PyData.eqv, D.beq]
    exact pys_eqv xs ys (by simpa [D.pure] using h) (by simpa [D.pure] using k)
  | .str x, .str y, _, _ => by simp only [D.py, PyData.eqv, D.beq]; exact str_eq x y
  | .non, .non, _, _ => by simp [D.py, PyData.eqv, D.beq]
  | .bl _, .bl _, _, _ => by simp [D.py, PyData.eqv, D.beq]
  | .bl _, .int _, _, _ => by simp [D.py, PyData.eqv, D.beq]
  | .int _, .bl _, _, _ => by simp [D.py, PyData.eqv, D.beq]
  | .int _, .int _, _, _ => by simp [D.py, PyData.eqv, D.beq]
  | .non, .bl _, _, _ | .non, .int _, _, _ | .non, .str _, _, _ | .non, .tup _, _, _ | .non, .lst _, _, _ => by simp [D.py, PyData.eqv, D.beq]
  | .bl _, .non, _, _ | .bl _, .str _, _, _ | .bl _, .tup _, _, _ | .bl _, .lst _, _, _ => by simp [D.py, PyData.eqv, D.beq]
  | .int _, .non, _, _ | .int _, .str _, _, _ | .int _, .tup _, _, _ | .int _, .lst _, _, _ => by simp [D.py, PyData.eqv, D.beq]
  | .str _, .non, _, _ | .str _, .bl _, _, _ | .str _, .int _, _, _ | .str _, .tup _, _, _ | .str _, .lst _, _, _ => by simp [D.py, PyData.eqv, D.beq]
  | .tup _, .non, _, _ | .tup _, .bl _, _, _ | .tup _, .int _, _, _ | .tup _, .str _, _, _ | .tup _, .lst _, _, _ => by simp [D.py, PyData.eqv, D.beq]
  | .lst _, .non, _, _ | .lst _, .bl _, _, _ | .lst _, .int _, _, _ | .lst _, .str _, _, _ | .lst _, .tup _, _, _ => by simp [D.py, PyData.eqv, D.beq]
theorem pys_eqv : ∀ xs ys : List D, D.pures xs = true → D.pures ys = true → PyData.eqvAll (D.pys xs) (D.pys ys) = D.beqs xs ys
  | [], [], _, _ => by simp [D.pys, PyData.eqvAll, D.beqs]
  | [], _ :: _, _, _ => by simp [D.pys, PyData.eqvAll, D.beqs]
  | _ :: _, [], _, _ => by simp [D.pys, PyData.eqvAll, D.beqs]
  | x :: xs, y :: ys, h, k => by
    simp only [D.pures, Bool.and_eq_true] at h k
    simp only [D.pys, PyData.eqvAll, D.beqs]
    rw [py_eqv x y h.1 k.1, pys_eqv xs ys h.2 k.2]
end
mutual
theorem py_alike : ∀ d e : D, d.alike e = true → PySem.W.alike d.py e.py = true
  | .tup xs, .tup ys, h => by
    simp only [D.py, PySem.W.alike]
    exact pys_alike xs ys (by simpa [D.alike] using h)
  | .lst xs, .lst ys, h => by
    simp only [D.py, PySem.W.alike]
    exact pys_alike xs ys (by simpa [D.alike] using h)
  | .str x, .str y, _ => by simp [D.py, PySem.W.alike]
  | .non, .non, _ => by simp [D.py, PySem.W.alike]
  | .bl _, .bl _, _ => by simp [D.py, PySem.W.alike]
  | .int _, .int _, _ => by simp [D.py, PySem.W.alike]
  | .bl _, .int _, h | .int _, .bl _, h => by simp [D.alike] at h
  | .non, .bl _, h | .non, .int _, h | .non, .str _, h | .non, .tup _, h | .non, .lst _, h | .non, .ref _, h => by simp [D.alike] at h
  | .bl _, .non, h | .bl _, .str _, h | .bl _, .tup _, h | .bl _, .lst _, h | .bl _, .ref _, h => by simp [D.alike] at h
  | .int _, .non, h | .int _, .str _, h | .int _, .tup _, h | .int _, .lst _, h | .int _, .ref _, h => by simp [D.alike] at h
  | .str _, .non, h | .str _, .bl _, h | .str _, .int _, h | .str _, .tup _, h | .str _, .lst _, h | .str _, .ref _, h => by simp [D.alike] at h
  | .tup _, .non, h | .tup _, .bl _, h | .tup _, .int _, h | .tup _, .str _, h | .tup _, .lst _, h | .tup _, .ref _, h => by simp [D.alike] at h
  | .lst _, .non, h | .lst _, .bl _, h | .lst _, .int _, h | .lst _, .str _, h | .lst _, .tup _, h | .lst _, .ref _, h => by simp [D.alike] at h
  | .ref _, .non, h | .ref _, .bl _, h | .ref _, .int _, h | .ref _, .str _, h | .ref _, .tup _, h | .ref _, .lst _, h | .ref _, .ref _, h => by simp [D.alike] at h
theorem pys_alike : ∀ xs ys : List D, D.alikes xs ys = true → PySem.W.alikeAll (D.pys xs) (D.pys ys) = true
  | [], ys, _ => by cases ys <;> simp [D.pys, PySem.W.alikeAll]
  | _ :: _, [], _ => by simp [D.pys, PySem.W.alikeAll]
  | x :: xs, y :: ys, h => by
    simp only [D.alikes, Bool.and_eq_true] at h
    simp only [D.pys, PySem.W.alikeAll]
    rw [py_alike x y h.1, pys_alike xs ys h.2]
    rfl
end
theorem toks_nil_nil : PyProof.Rows.lexLt itemOrd (PySem.W.keyToksAll []) (PySem.W.keyToksAll []) = false := by
  simp only [PySem.W.keyToksAll]
  exact PyProof.Rows.lex_irrefl (O := itemOrd) _
theorem toks_cons_nil (x : PyData) (xs : List PyData) : PyProof.Rows.lexLt itemOrd (PySem.W.keyToksAll (x :: xs)) (PySem.W.keyToksAll []) = false := by
  rw [PySem.W.toks_all_cons]
  simp only [PySem.W.keyToksAll]
  rw [PyProof.Rows.lex_diff (O := itemOrd) (by decide)]
  rfl
theorem toks_nil_cons (x : PyData) (xs : List PyData) : PyProof.Rows.lexLt itemOrd (PySem.W.keyToksAll []) (PySem.W.keyToksAll (x :: xs)) = true := by
  rw [PySem.W.toks_all_cons]
  simp only [PySem.W.keyToksAll]
  rw [PyProof.Rows.lex_diff (O := itemOrd) (by decide)]
  rfl
mutual
theorem py_lt : ∀ d e : D, d.alike e = true → d.pure = true → e.pure = true → PySem.W.dataLt d.py e.py = d.ltb e
  | .tup xs, .tup ys, h, p, q => by
    simp only [D.py, D.ltb, PySem.W.dataLt_tuple]
    exact pys_lt xs ys (by simpa [D.alike] using h) (by simpa [D.pure] using p) (by simpa [D.pure] using q)
  | .lst xs, .lst ys, h, p, q => by
    simp only [D.py, D.ltb, PySem.W.dataLt_list]
    exact pys_lt xs ys (by simpa [D.alike] using h) (by simpa [D.pure] using p) (by simpa [D.pure] using q)
  | .str x, .str y, _, _, _ => by simp only [D.py, D.ltb, PySem.W.dataLt_str]
  | .non, .non, _, _, _ => by
    simp only [D.py, D.ltb, PySem.W.dataLt, PySem.W.keyToks]
    exact PyProof.Rows.lex_irrefl (O := itemOrd) _
  | .bl a, .bl b, _, _, _ => by
    simp only [D.py, D.ltb, PySem.W.dataLt_bool]
    cases a <;> cases b <;> decide
  | .int _, .int _, _, _, _ => by simp only [D.py, D.ltb, PySem.W.dataLt_int]
  | .bl _, .int _, h, _, _ | .int _, .bl _, h, _, _ => by simp [D.alike] at h
  | .non, .bl _, h, _, _ | .non, .int _, h, _, _ | .non, .str _, h, _, _ | .non, .tup _, h, _, _ | .non, .lst _, h, _, _ | .non, .ref _, h, _, _ => by simp [D.alike] at h
  | .bl _, .non, h, _, _ | .bl _, .str _, h, _, _ | .bl _, .tup _, h, _, _ | .bl _, .lst _, h, _, _ | .bl _, .ref _, h, _, _ => by simp [D.alike] at h
  | .int _, .non, h, _, _ | .int _, .str _, h, _, _ | .int _, .tup _, h, _, _ | .int _, .lst _, h, _, _ | .int _, .ref _, h, _, _ => by simp [D.alike] at h
  | .str _, .non, h, _, _ | .str _, .bl _, h, _, _ | .str _, .int _, h, _, _ | .str _, .tup _, h, _, _ | .str _, .lst _, h, _, _ | .str _, .ref _, h, _, _ => by simp [D.alike] at h
  | .tup _, .non, h, _, _ | .tup _, .bl _, h, _, _ | .tup _, .int _, h, _, _ | .tup _, .str _, h, _, _ | .tup _, .lst _, h, _, _ | .tup _, .ref _, h, _, _ => by simp [D.alike] at h
  | .lst _, .non, h, _, _ | .lst _, .bl _, h, _, _ | .lst _, .int _, h, _, _ | .lst _, .str _, h, _, _ | .lst _, .tup _, h, _, _ | .lst _, .ref _, h, _, _ => by simp [D.alike] at h
  | .ref _, .non, h, _, _ | .ref _, .bl _, h, _, _ | .ref _, .int _, h, _, _ | .ref _, .str _, h, _, _ | .ref _, .tup _, h, _, _ | .ref _, .lst _, h, _, _ | .ref _, .ref _, h, _, _ => by simp [D.alike] at h
theorem pys_lt : ∀ xs ys : List D, D.alikes xs ys = true → D.pures xs = true → D.pures ys = true → PyProof.Rows.lexLt itemOrd (PySem.W.keyToksAll (D.pys xs)) (PySem.W.keyToksAll (D.pys ys)) = D.ltbs xs ys
  | [], [], _, _, _ => by simp only [D.pys, D.ltbs]; exact toks_nil_nil
  | _ :: _, [], _, _, _ => by simp only [D.pys, D.ltbs]; exact toks_cons_nil _ _
  | [], _ :: _, _, _, _ => by simp only [D.pys, D.ltbs]; exact toks_nil_cons _ _
  | x :: xs, y :: ys, h, p, q => by
    simp only [D.alikes, Bool.and_eq_true] at h
    simp only [D.pures, Bool.and_eq_true] at p q
    simp only [D.pys, D.ltbs]
    cases e : x.beq y with
    | true =>
      rw [if_pos rfl, PySem.W.dataLt_all_yes (py_alike x y h.1) (by rw [py_eqv x y p.1 q.1, e])]
      exact pys_lt xs ys h.2 p.2 q.2
    | false =>
      rw [if_neg Bool.false_ne_true, PySem.W.dataLt_all_no (py_alike x y h.1) (by rw [py_eqv x y p.1 q.1, e])]
      exact py_lt x y h.1 p.1 q.1
end

/-! ### data as they lie -/
section
variable {g : G} {H : Hp} {as : Lay}
theorem RelD.weak {xs : List D} {v : V} (h : RelD g H as (.nms xs) v) : RelD g H as (.tup xs) v := by
  unfold RelD at *
  obtain ⟨a, vs, e, ⟨⟨o, t, _⟩, n⟩, r⟩ := h
  exact ⟨a, vs, e, .inl ⟨.inr ⟨o, t⟩, n⟩, r⟩
mutual
theorem RelD.dp : ∀ (d : D) (v : V), d.pure = true → RelD g H as d v → Dp g.K H v d.py
  | .non, _, _, h => by unfold RelD at h; subst h; unfold D.py; exact .non
  | .bl _, _, _, h => by unfold RelD at h; subst h; unfold D.py; exact .bl _
  | .int _, _, _, h => by unfold RelD at h; subst h; unfold D.py; exact .int _
  | .str _, _, _, h => by unfold RelD at h; subst h; unfold D.py; exact .str _
  | .tup xs, _, p, h => by
    unfold RelD at h
    obtain ⟨a, vs, rfl, t, r⟩ := h
    unfold D.py
    exact .tup t.sq (RelDs.dp xs vs (by simpa [D.pure] using p) r)
  | .lst xs, _, p, h => by
    unfold RelD at h
    obtain ⟨a, vs, rfl, t, r⟩ := h
    unfold D.py
    exact .lst (.inl t.1) (RelDs.dp xs vs (by simpa [D.pure] using p) r)
  | .ref _, _, p, _ => by simp [D.pure] at p
  | .nms _, _, p, _ => by simp [D.pure] at p
theorem RelDs.dp : ∀ (ds : List D) (vs : List V), D.pures ds = true → RelDs g H as ds vs → DpAll g.K H vs (D.pys ds)
  | [], _, _, h => by rw [relDs_nil.mp h]; unfold D.pys; exact .nil
  | d :: ds, _, p, h => by
    obtain ⟨v, r, rfl, h1, h2⟩ := relDs_cons.mp h
    simp only [D.pures, Bool.and_eq_true] at p
    unfold D.pys
    exact .cons (RelD.dp d v p.1 h1) (RelDs.dp ds r p.2 h2)
end
end
/-- a mutable list seen as a list -/
def deref (M : Mem) : D → D
  | .ref i => match M[i]? with
    | some (.lst xs) => .lst xs
    | _ => .ref i
  | .nms xs => .tup xs
  | d => d
/-- the items of a list -/
def lstOf (M : Mem) (d : D) : Option (List D) := match deref M d with
  | .lst xs => some xs
  | _ => none
/-- the items of a list or a tuple -/
def seqOf (M : Mem) (d : D) : Option (List D) := match deref M d with
  | .lst xs => some xs
  | .tup xs => some xs
  | _ => none
section
variable {g : G} {H : Hp} {as : Lay} {M : Mem}
theorem lst_at {d : D} {xs : List D} {v : V} (m : MemR g H as M) (e : deref M d = .lst xs) (r : RelD g H as d v) : ∃ a vs, v = .ref a ∧ Rd H a (.lst vs) ∧ RelDs g H as xs vs := by
  cases d with
  | lst ys =>
    cases e
    unfold RelD at r
    obtain ⟨a, vs, e, h, q⟩ := r
    exact ⟨a, vs, e, h.1, q⟩
  | ref i =>
    unfold RelD at r
    obtain ⟨a, e1, h⟩ := r
    unfold deref at e
    simp only at e
    cases q : M[i]? with
    | none => rw [q] at e; cases e
    | some o =>
      rw [q] at e
      cases o with
      | lst ys =>
        cases e
        obtain ⟨vs, h1, h2⟩ := m.obj i a _ h q
        exact ⟨a, vs, e1, .inl h1, h2⟩
      | _ => cases e
  | _ => cases e
theorem deref_dp {d : D} {v : V} (m : MemR g H as M) (p : (deref M d).pure = true) (r : RelD g H as d v) : Dp g.K H v (deref M d).py := by
  cases d with
  | ref i =>
    cases q : deref M (.ref i) with
    | lst xs =>
      obtain ⟨a, vs, rfl, h, q'⟩ := lst_at m q r
      rw [q] at p
      unfold D.py
      exact .lst (.inl h) (RelDs.dp xs vs (by simpa [D.pure] using p) q')
    | _ =>
      exfalso
      unfold deref at q p
      simp only at q p
      split at q <;> first | (cases q; done) | (cases q; split at p <;> simp_all [D.pure])
  | nms xs => exact RelD.dp (.tup xs) _ p r.weak
  | _ => exact RelD.dp _ _ p r
theorem tup_at {d : D} {xs : List D} {v : V} (q : deref M d = .tup xs) (r : RelD g H as d v) : RelD g H as (.tup xs) v := by
  cases d with
  | ref i =>
    unfold deref at q
    simp only at q
    split at q <;> cases q
  | nms ys => cases q; exact r.weak
  | tup ys => cases q; exact r
  | _ => cases q
theorem seq_at {d : D} {xs : List D} {v : V} (m : MemR g H as M) (e : seqOf M d = some xs) (r : RelD g H as d v) : ∃ a vs, v = .ref a ∧ (SqL g.K H a vs ∨ SqT g.K H a vs) ∧ RelDs g H as xs vs := by
  unfold seqOf at e
  cases q : deref M d with
  | lst ys =>
    rw [q] at e
    cases e
    obtain ⟨a, vs, e1, h, r⟩ := lst_at m q r
    exact ⟨a, vs, e1, .inl (.inl h), r⟩
  | tup ys =>
    rw [q] at e
    cases e
    have r := tup_at q r
    unfold RelD at r
    obtain ⟨a, vs, e1, h, r⟩ := r
    exact ⟨a, vs, e1, .inr h.sq, r⟩
  | _ => rw [q] at e; cases e
end
end Mk
end

section
set_option maxHeartbeats 2000000
/-! Mk3: operators, comparisons, tests, subscripts: by what the values are when they run. -/
open PySem PySem.Spec PyProof.Rows L2
namespace Mk

/-- the longest list, tuple, text -/
abbrev lim : Nat := 16777216
theorem lim_eq : sizeLine = lim := sizeLine_eq
/-- what is wanted behind an operation that changes no mutable object -/
def Then (g : G) (H : Hp) (as : Lay) (M : Mem) (d : D) (Q : VK) : Prop := ∀ v H', MemR g H' as M → Ext H as H' as → RelD g H' as d v → Q v H'
section
variable {g : G} {H : Hp} {as : Lay} {M : Mem} {Q : VK}
theorem Then.now {d : D} {v : V} (q : Then g H as M d Q) (m : MemR g H as M) (r : RelD g H as d v) : Q v H := q v H m (Ext.refl H as) r
theorem Then.bl {b : Bool} (q : Then g H as M (.bl b) Q) (m : MemR g H as M) : Q (.bl b) H := q.now m (by unfold RelD; rfl)
theorem Then.int {i : Int} (q : Then g H as M (.int i) Q) (m : MemR g H as M) : Q (.int i) H := q.now m (by unfold RelD; rfl)
theorem Then.str {x : List Nat} (q : Then g H as M (.str x) Q) (m : MemR g H as M) : Q (.str ⟨x.toArray⟩) H := q.now m (by unfold RelD; rfl)
theorem Then.tup {p : Addr} {xs : List D} {vs : List V} (q : Then g H as M (.tup xs) Q) (m : MemR g H as M) (hp : H p = none) (r : RelDs g H as xs vs) : Q (.ref p) (upd H p (.tup vs)) :=
  q _ _ (m.laid hp) (Ext.laid hp) (relD_tup upd_same (m.fresh hp) (r.ext (Ext.laid hp)))
theorem Then.lst {p : Addr} {xs : List D} {vs : List V} (q : Then g H as M (.lst xs) Q) (m : MemR g H as M) (hp : H p = none) (r : RelDs g H as xs vs) : Q (.ref p) (upd H p (.lst vs)) :=
  q _ _ (m.laid hp) (Ext.laid hp) (relD_lst upd_same (m.fresh hp) (r.ext (Ext.laid hp)))
end
/-- an operation on two values: what it gives, or none where nothing is told -/
abbrev P1 := D → Mem → Option D
abbrev P2 := D → D → Mem → Option D
abbrev PN := List D → Mem → Option D
def rP1 (g : G) (f : P1) : V → Hp → VK → Prop := fun x H Q => ∃ as M dx d, MemR g H as M ∧ RelD g H as dx x ∧ f dx M = some d ∧ Then g H as M d Q
def rP2 (g : G) (f : P2) : R2 := fun x y H Q => ∃ as M dx dy d, MemR g H as M ∧ RelD g H as dx x ∧ RelD g H as dy y ∧ f dx dy M = some d ∧ Then g H as M d Q
def rPN (g : G) (f : PN) : List V → Hp → VK → Prop := fun xs H Q => ∃ as M ds d, MemR g H as M ∧ RelDs g H as ds xs ∧ f ds M = some d ∧ Then g H as M d Q
def out (M : Mem) : Option D → Res D
  | some d => .ok d M
  | none => .err
@[simp] theorem out_some (M : Mem) (d : D) : out M (some d) = .ok d M := rfl
@[simp] theorem out_none (M : Mem) : out M none = .err := rfl
theorem Fin.out {g : G} {H : Hp} {as : Lay} {M : Mem} {Q : VK} {W : WK} {o : Option D} (h : Fin g (RelD g) W H as Q (out M o)) : ∃ d, o = some d ∧ Then g H as M d Q := by
  cases o with
  | none => exact h.elim
  | some d => exact ⟨d, rfl, fun v H' m x r => h v H' as m x r⟩
/-- an expression of one value, of two -/
def eU (f : P1) (a : Ev) : Ev := fun ρ M => (a ρ M).bind fun x M1 => out M1 (f x M1)
def eB (f : P2) (a b : Ev) : Ev := fun ρ M => (a ρ M).bind fun x M1 => (b ρ M1).bind fun y M2 => out M2 (f x y M2)
/-- a test -/
def asT (d : D) (M : Mem) : Res Bool := match d with
  | .bl b => .ok b M
  | _ => .err
def eT (a : Ev) : EvT := fun ρ M => (a ρ M).bind asT
section
variable {X : Cx} {C : Cl} {W : WX} {a b : Expr} {ea eb : Ev} {pos : Pos} {σ : L2.St} {H : Hp} {Q : VK}
theorem unE {f : P1} (h : tE ⟨X.K, C⟩ W (eU f ea) σ H Q) : tE ⟨X.K, C⟩ W ea σ H fun x H1 => rP1 ⟨X.K, C⟩ f x H1 Q := by
  refine tG_mono (tG_bind (R := RelD ⟨X.K, C⟩) h) fun v H1 ⟨ρ, as1, M1, d, e1, m1, r1, q1⟩ => ?_
  obtain ⟨o, e, q⟩ := Fin.out q1
  exact ⟨as1, M1, d, o, m1, r1, e, q⟩
theorem binE {f : P2} (h : tE ⟨X.K, C⟩ W (eB f ea eb) σ H Q) : tE ⟨X.K, C⟩ W ea σ H fun x H1 => tE ⟨X.K, C⟩ W eb σ H1 fun y H2 => rP2 ⟨X.K, C⟩ f x y H2 Q := by
  refine tG_mono (tG_bind (R := RelD ⟨X.K, C⟩) h) fun v H1 ⟨ρ, as1, M1, d, e1, m1, r1, q1⟩ => ?_
  refine ⟨ρ, M1, as1, e1, m1, ?_⟩
  refine (Fin.bind (R := RelD ⟨X.K, C⟩) q1).mono fun u H2 ⟨as2, M2, d2, m2, x2, r2, q2⟩ => ?_
  obtain ⟨o, e, q⟩ := Fin.out q2
  exact ⟨as2, M2, d, d2, o, m2, r1.ext x2, r2, e, q⟩
theorem v_bin {op : Operator} {f : P2} (ho : OpR X (binaryOp op) (rP2 ⟨X.K, C⟩ f)) (ha : VE X C W a ea) (hb : VE X C W b eb) : VE X C W (.BinOp a op b pos) (eB f ea eb) :=
  PE.imp (pe_op ho ha hb) fun σ H Q h => binE h
theorem v_cmp {op : CmpOp} {f : P2} (ho : OpR X (compareOp op) (rP2 ⟨X.K, C⟩ f)) (ha : VE X C W a ea) (hb : VE X C W b eb) (hm : behindInMarks op b = false := by first | exact nomark _ | rfl) : VE X C W (.Compare a [op] [b] pos) (eB f ea eb) :=
  PE.imp (pe_cmpR ho ha hb hm) fun σ H Q h => binE h
/-- a value that must be a truth value, as a test -/
theorem tst {ev : Ev} {Q : Bool → Hp → Prop} (h : tT ⟨X.K, C⟩ W (eT ev) σ H Q) : tE ⟨X.K, C⟩ W ev σ H fun x H' => ∃ k, x = .bl k ∧ Q k H' := by
  refine tG_mono (tG_bind (R := RelD ⟨X.K, C⟩) h) fun v H1 ⟨ρ, as1, M1, d, e1, m1, r1, q1⟩ => ?_
  cases d with
  | bl c =>
    unfold RelD at r1
    exact ⟨c, r1, q1 c H1 as1 m1 (Ext.refl _ _) rfl⟩
  | _ => exact q1.elim
theorem vt_cmp {op : CmpOp} {f : P2} (ho : OpR X (compareOp op) (rP2 ⟨X.K, C⟩ f)) (ha : VE X C W a ea) (hb : VE X C W b eb) (hm : behindInMarks op b = false := by first | exact nomark _ | rfl) : VT X C W (.Compare a [op] [b] pos) (eT (eB f ea eb)) :=
  PT.imp (pt_cmpR ho ha hb hm) fun σ H Q h => binE (tst h)
/-- an expression that gives a truth value, as a test -/
theorem vt_val {e : Expr} {ev : Ev} (h : VE X C W e ev) (he : ∀ whole, isTrue e X.env whole = (do let v ← whole; standAt e.pos; holding [v] (truthy v)) := by intro _; rfl) : VT X C W e (eT ev) :=
  PT.imp (pt_val h he) fun σ H Q h => tst h
/-- a <= b <= c -/
def eCh (f g : P2) (a b c : Ev) : Ev := fun ρ M => (a ρ M).bind fun x M1 => (b ρ M1).bind fun y M2 => match f x y M2 with
  | some (.bl true) => (c ρ M2).bind fun z M3 => out M3 (g y z M3)
  | some (.bl false) => .ok (.bl false) M2
  | _ => .err
theorem chE {f f' : P2} {ec : Ev} (h : tE ⟨X.K, C⟩ W (eCh f f' ea eb ec) σ H Q) : tChain (rP2 ⟨X.K, C⟩ f) (rP2 ⟨X.K, C⟩ f') (tE ⟨X.K, C⟩ W ea) (tE ⟨X.K, C⟩ W eb) (tE ⟨X.K, C⟩ W ec) σ H Q := by
  refine tG_mono (tG_bind (R := RelD ⟨X.K, C⟩) h) fun v H1 ⟨ρ, as1, M1, d, e1, m1, r1, q1⟩ => ?_
  refine ⟨ρ, M1, as1, e1, m1, ?_⟩
  refine (Fin.bind (R := RelD ⟨X.K, C⟩) q1).mono fun u H2 ⟨as2, M2, d2, m2, x2, r2, q2⟩ => ?_
  cases e : f d d2 M2 with
  | none => rw [e] at q2; exact q2.elim
  | some o =>
    rw [e] at q2
    cases o with
    | bl c =>
      refine ⟨as2, M2, d, d2, .bl c, m2, r1.ext x2, r2, e, fun z H3 m3 x3 r3 => ?_⟩
      unfold RelD at r3
      refine ⟨c, r3, ?_⟩
      cases c with
      | true =>
        rw [if_pos rfl]
        refine ⟨ρ, M2, as2, (e1.ext x2).ext x3, m3, ?_⟩
        refine (Fin.bind (R := RelD ⟨X.K, C⟩) (q2.at_ x3)).mono fun w H4 ⟨as4, M4, d4, m4, x4, r4, q4⟩ => ?_
        obtain ⟨o, e', q⟩ := Fin.out q4
        exact ⟨as4, M4, d2, d4, o, m4, (r2.ext x3).ext x4, r4, e', q⟩
      | false =>
        rw [if_neg Bool.false_ne_true]
        exact (q2.at_ x3) _ H3 as2 m3 (Ext.refl _ _) (by unfold RelD; rfl)
    | _ => exact q2.elim
end
end Mk
end

section
set_option maxHeartbeats 2000000
/-! Mk4: and, or, not, if-expressions; the operators by the kinds of their values. -/
open PySem PySem.Spec PyProof.Rows L2
namespace Mk
section
variable {X : Cx} {C : Cl} {W : WX} {a b c : Expr} {ea eb ec : Ev} {ta tb : EvT} {pos : Pos} {σ : L2.St} {H : Hp}
theorem v_ch {op op' : CmpOp} {f f' : P2} (ho : OpR X (compareOp op) (rP2 ⟨X.K, C⟩ f)) (ho' : OpR X (compareOp op') (rP2 ⟨X.K, C⟩ f')) (ha : VE X C W a ea) (hb : VE X C W b eb) (hc : VE X C W c ec)
    (hm : lastMarks [op, op'] [b, c] = false := by with_unfolding_all rfl) : VE X C W (.Compare a [op, op'] [b, c] pos) (eCh f f' ea eb ec) :=
  PE.imp (pe_chain ho ho' ha hb hc hm) fun σ H Q h => chE h
theorem vt_ch {op op' : CmpOp} {f f' : P2} (ho : OpR X (compareOp op) (rP2 ⟨X.K, C⟩ f)) (ho' : OpR X (compareOp op') (rP2 ⟨X.K, C⟩ f')) (ha : VE X C W a ea) (hb : VE X C W b eb) (hc : VE X C W c ec)
    (hm : lastMarks [op, op'] [b, c] = false := by with_unfolding_all rfl) : VT X C W (.Compare a [op, op'] [b, c] pos) (eT (eCh f f' ea eb ec)) :=
  PT.imp (pt_chain ho ho' ha hb hc hm) fun σ H Q h => chE (tst h)
/-! tests joined -/
def tAnd (t u : EvT) : EvT := fun ρ M => (t ρ M).bind fun k M1 => if k = true then u ρ M1 else .ok false M1
def tOr (t u : EvT) : EvT := fun ρ M => (t ρ M).bind fun k M1 => if k = true then .ok true M1 else u ρ M1
def tNot (t : EvT) : EvT := fun ρ M => (t ρ M).bind fun k M1 => .ok (!k) M1
theorem andE {Q : Bool → Hp → Prop} (h : tT ⟨X.K, C⟩ W (tAnd ta tb) σ H Q) : L2.tAnd (tT ⟨X.K, C⟩ W ta) (tT ⟨X.K, C⟩ W tb) σ H Q := by
  refine tG_mono (tG_bind (R := RB) h) fun k H1 ⟨ρ, as1, M1, d, e1, m1, r1, q1⟩ => ?_
  obtain rfl : d = k := r1
  cases d with
  | true => rw [if_pos rfl] at *; exact ⟨ρ, M1, as1, e1, m1, q1⟩
  | false => rw [if_neg Bool.false_ne_true] at *; exact q1 _ _ _ m1 (Ext.refl _ _) rfl
theorem orE {Q : Bool → Hp → Prop} (h : tT ⟨X.K, C⟩ W (tOr ta tb) σ H Q) : L2.tOr (tT ⟨X.K, C⟩ W ta) (tT ⟨X.K, C⟩ W tb) σ H Q := by
  refine tG_mono (tG_bind (R := RB) h) fun k H1 ⟨ρ, as1, M1, d, e1, m1, r1, q1⟩ => ?_
  obtain rfl : d = k := r1
  cases d with
  | true => rw [if_pos rfl] at *; exact q1 _ _ _ m1 (Ext.refl _ _) rfl
  | false => rw [if_neg Bool.false_ne_true] at *; exact ⟨ρ, M1, as1, e1, m1, q1⟩
theorem notE {Q : Bool → Hp → Prop} (h : tT ⟨X.K, C⟩ W (tNot ta) σ H Q) : L2.tNot (tT ⟨X.K, C⟩ W ta) σ H Q := by
  refine tG_mono (tG_bind (R := RB) h) fun k H1 ⟨ρ, as1, M1, d, e1, m1, r1, q1⟩ => ?_
  obtain rfl : d = k := r1
  exact q1 _ _ _ m1 (Ext.refl _ _) rfl
theorem vw_and1 (ha : VT X C W a ta) : VW X C W (.BoolOp .And [a] pos) ta := pw_and1 ha
theorem vw_or1 (ha : VT X C W a ta) : VW X C W (.BoolOp .Or [a] pos) ta := pw_or1 ha
theorem vw_and {rest : List Expr} (ha : VT X C W a ta) (hb : VW X C W (.BoolOp .And (b :: rest) pos) tb) : VW X C W (.BoolOp .And (a :: b :: rest) pos) (tAnd ta tb) :=
  PW.imp (pw_and ha hb) fun σ H Q h => andE h
theorem vw_or {rest : List Expr} (ha : VT X C W a ta) (hb : VW X C W (.BoolOp .Or (b :: rest) pos) tb) : VW X C W (.BoolOp .Or (a :: b :: rest) pos) (tOr ta tb) :=
  PW.imp (pw_or ha hb) fun σ H Q h => orE h
theorem vt_w {e : Expr} {t : EvT} (h : VW X C W e t) : VT X C W e t := L2.PW.pt h
theorem vt_not (ha : VT X C W a ta) : VT X C W (.UnaryOp .Not a pos) (tNot ta) := PT.imp (pt_not ha) fun σ H Q h => notE h
/-! as values -/
def eAnd (x y : Ev) : Ev := fun ρ M => (x ρ M).bind fun d M1 => match d with
  | .bl true => y ρ M1
  | .bl false => .ok (.bl false) M1
  | _ => .err
def eOr (x y : Ev) : Ev := fun ρ M => (x ρ M).bind fun d M1 => match d with
  | .bl true => .ok (.bl true) M1
  | .bl false => y ρ M1
  | _ => .err
def eNot (x : Ev) : Ev := fun ρ M => (x ρ M).bind fun d M1 => match d with
  | .bl k => .ok (.bl (!k)) M1
  | _ => .err
theorem v_one {op} {e : Ev} (h : VE X C W a e) : VE X C W (.BoolOp op [a] pos) e := pe_one h
theorem v_and {rest : List Expr} (ha : VE X C W a ea) (hb : VE X C W (.BoolOp .And (b :: rest) pos) eb) : VE X C W (.BoolOp .And (a :: b :: rest) pos) (eAnd ea eb) := by
  refine PE.imp (pe_and ha hb) fun σ H Q h => ?_
  refine tG_mono (tG_bind (R := RelD ⟨X.K, C⟩) h) fun v H1 ⟨ρ, as1, M1, d, e1, m1, r1, q1⟩ => ?_
  cases d with
  | bl k =>
    unfold RelD at r1
    refine ⟨k, r1, ?_⟩
    cases k with
    | true => rw [if_pos rfl]; exact ⟨ρ, M1, as1, e1, m1, q1⟩
    | false => rw [if_neg Bool.false_ne_true]; exact tG_now (W := W) q1 m1 (by unfold RelD; rfl)
  | _ => exact q1.elim
theorem v_or {rest : List Expr} (ha : VE X C W a ea) (hb : VE X C W (.BoolOp .Or (b :: rest) pos) eb) : VE X C W (.BoolOp .Or (a :: b :: rest) pos) (eOr ea eb) := by
  refine PE.imp (pe_or ha hb) fun σ H Q h => ?_
  refine tG_mono (tG_bind (R := RelD ⟨X.K, C⟩) h) fun v H1 ⟨ρ, as1, M1, d, e1, m1, r1, q1⟩ => ?_
  cases d with
  | bl k =>
    unfold RelD at r1
    refine ⟨k, r1, ?_⟩
    cases k with
    | true => rw [if_pos rfl]; exact tG_now (W := W) q1 m1 (by unfold RelD; rfl)
    | false => rw [if_neg Bool.false_ne_true]; exact ⟨ρ, M1, as1, e1, m1, q1⟩
  | _ => exact q1.elim
theorem v_not (ha : VE X C W a ea) : VE X C W (.UnaryOp .Not a pos) (eNot ea) := by
  refine PE.imp (pe_not ha) fun σ H Q h => ?_
  refine tG_mono (tG_bind (R := RelD ⟨X.K, C⟩) h) fun v H1 ⟨ρ, as1, M1, d, e1, m1, r1, q1⟩ => ?_
  cases d with
  | bl k =>
    unfold RelD at r1
    exact ⟨k, r1, tG_now (W := W) q1 m1 (by unfold RelD; rfl)⟩
  | _ => exact q1.elim
def eIf (t : EvT) (x y : Ev) : Ev := fun ρ M => (t ρ M).bind fun k M1 => if k = true then x ρ M1 else y ρ M1
theorem v_if {t : Expr} (ht : VT X C W t ta) (ha : VE X C W a ea) (hb : VE X C W b eb) : VE X C W (.IfExp t a b pos) (eIf ta ea eb) := by
  refine PE.imp (pe_ifExp ht ha hb) fun σ H Q h => ?_
  refine tG_mono (tG_bind (R := RB) h) fun k H1 ⟨ρ, as1, M1, d, e1, m1, r1, q1⟩ => ?_
  obtain rfl : d = k := r1
  cases d with
  | true => rw [if_pos rfl] at *; exact ⟨ρ, M1, as1, e1, m1, q1⟩
  | false => rw [if_neg Bool.false_ne_true] at *; exact ⟨ρ, M1, as1, e1, m1, q1⟩
/-- -n -/
def negD : P1 := fun x _ => match x with
  | .int i => some (.int (-i))
  | _ => none
theorem v_neg (ha : VE X C W a ea) : VE X C W (.UnaryOp .USub a pos) (eU negD ea) := by
  refine PE.imp (pe_un un_neg ha) fun σ H Q h => tG_mono (unE h) fun v H1 ⟨as, M, dx, d, m, r, e, q⟩ => ?_
  cases dx with
  | int i =>
    cases e
    unfold RelD at r
    exact ⟨i, r, q.int m⟩
  | _ => cases e
end

/-! ### the operators -/
def b2i (b : Bool) : Int := if b = true then 1 else 0
def addD : P2 := fun x y M => match x, y with
  | .int i, .int j => some (.int (i + j))
  | .int i, .bl b => some (.int (i + b2i b))
  | .bl b, .int j => some (.int (b2i b + j))
  | .str i, .str j => if i.length + j.length ≤ lim then some (.str (i ++ j)) else none
  | .tup i, .tup j => if i.length + j.length ≤ lim then some (.tup (i ++ j)) else none
  | x, y => match lstOf M x, lstOf M y with
    | some i, some j => if i.length + j.length ≤ lim then some (.lst (i ++ j)) else none
    | _, _ => none
def subD : P2 := fun x y _ => match x, y with
  | .int i, .int j => some (.int (i - j))
  | .int i, .bl b => some (.int (i - b2i b))
  | .bl b, .int j => some (.int (b2i b - j))
  | _, _ => none
def repOk (n : Nat) (k : Int) : Bool := decide (-(2 ^ 63) ≤ k ∧ k < 2 ^ 63 ∧ n * k.toNat ≤ lim)
def mulD : P2 := fun x y M => match x, y with
  | .int i, .int j => if (-(2 ^ 64) < i ∧ i < 2 ^ 64) ∨ (-(2 ^ 64) < j ∧ j < 2 ^ 64) then some (.int (i * j)) else none
  | .tup i, .int k => if i.length ≠ 0 ∧ i.length ≤ 1000 ∧ 2 ≤ k ∧ k ≤ 1000 then some (.tup (List.replicate k.toNat i).flatten) else none
  | x, .int k => match lstOf M x with
    | some i => if repOk i.length k = true then some (.lst (List.replicate k.toNat i).flatten) else none
    | none => none
  | _, _ => none
def divD : P2 := fun x y _ => match x, y with
  | .int i, .int j => if 0 < j ∧ j < 2 ^ 62 then some (.int (i / j)) else none
  | _, _ => none
def modD : P2 := fun x y _ => match x, y with
  | .int i, .int j => if 0 < j then some (.int (i % j)) else none
  | _, _ => none
def powD : P2 := fun x y _ => match x, y with
  | .int i, .int j => if 0 ≤ j ∧ j ≤ 1000 ∧ i.natAbs < 2 ^ 64 then some (.int (i ^ j.toNat)) else none
  | _, _ => none
section
variable {X : Cx} {C : Cl}
theorem lenDs {g : G} {H : Hp} {as : Lay} {ds : List D} {vs : List V} (r : RelDs g H as ds vs) : vs.length = ds.length := r.length
/-- two lists that stand, joined -/
theorem cat_lists {pins : List (Addr × Obj)} {s : Shared} {σ : L2.St} {H : Hp} {a b : Addr} {xs ys : List V} {Q : VK} (I : Inv X pins σ H s) (ha : SqL X.K H a xs) (hb : SqL X.K H b ys) (hz : xs.length + ys.length ≤ sizeLine)
    (q : ∀ p, H p = none → Q (.ref p) (upd H p (.lst (xs ++ ys)))) : wpAny (model X.prog X.w) X.A (binaryOp .Add (.ref a) (.ref b)) (EP X pins σ Q) X.xe s := by
  obtain ⟨its, r, ⟨⟨c1, d1, o1, s1⟩, n, h1, hc1, hd1, ho1⟩, _⟩ := I.list ha
  obtain ⟨its2, r2, ⟨⟨c2, d2, o2, s2⟩, n2, h2, hc2, hd2, ho2⟩, _⟩ := I.list hb
  simp only at hc1 ho1 hc2 ho2
  subst hc1 ho1 hc2 ho2
  have l1 := r.length
  have l2 := r2.length
  have hsz : its.toArray.size + its2.toArray.size ≤ sizeLine := by rw [List.size_toArray, List.size_toArray]; omega
  refine concat_meets ⟨_, h1, rfl⟩ ⟨_, h2, rfl⟩ noFill_list_add seq_list_add PySem.F.slot_list_add PySem.F.entry_list_add (PySem.F.args_list_add_2 _ _) (list_addW a b its.toArray its2.toArray n n2 d1 d2 s1 s2 hsz) ⟨h1, h2, ?_⟩
  have ea : its.toArray ++ its2.toArray = (its ++ its2).toArray := by simp
  rw [ea]
  exact ⟨.ref _, _, I.lnew (t' := s.toks) (r.append r2) (by rw [List.length_append]; omega), rfl, q _ I.fresh⟩
theorem lstOf_deref {M : Mem} {d : D} {i : List D} (h : lstOf M d = some i) : deref M d = .lst i := by
  unfold lstOf at h
  split at h
  · rename_i q; cases h; exact q
  · cases h
/-- a list that stands, repeated -/
theorem rep_list : OpR X (binaryOp .Mult) (fun x y H Q => ∃ l k xs, x = .ref l ∧ y = .int k ∧ Rd H l (.lst xs) ∧ -(2 ^ 63) ≤ k ∧ k < 2 ^ 63 ∧ xs.length * k.toNat ≤ sizeLine ∧ ∀ p, H p = none → Q (.ref p) (upd H p (.lst (List.replicate k.toNat xs).flatten))) := by
  intro pins s σ H x y v u Q I rx ry ⟨l, k, xs, e1, e2, hR, lo, hi, hz, q⟩
  subst e1 e2
  cases rx
  obtain ⟨t, rfl⟩ := ry
  obtain ⟨zz, its, n, r, ho⟩ := hR.ok I.hok
  have el := r.length
  have long : its.toArray.size * k.toNat ≤ sizeLine := by rw [List.size_toArray, ← el]; exact hz
  have cap : ¬ its.toArray.size * k.toNat > (2 ^ 63 - 1) / 8 := fun z => by
    have h8 : (sizeLine : Nat) ≤ (2 ^ 63 - 1) / 8 := by decide
    omega
  have fits : ¬ (!Builtin.List.listFitsIndex k) = true := by rw [fitsIndex_both lo hi]; decide
  have short : ¬ Builtin.List.listTooLong (its.toArray.size * k.toNat) = true := by rw [notLongL long]; decide
  have flat : ∀ m : Nat, List.foldl (fun x1 x2 => x1 ++ x2) #[] (List.replicate m its.toArray) = (List.replicate m its).flatten.toArray := fun m => by
    have z := foldl_rep its m []
    simpa using z
  have made : List.foldl (fun x1 x2 => x1 ++ x2) #[] (List.replicate (if its.toArray.isEmpty = true then 0 else k.toNat) its.toArray) = (List.replicate k.toNat its).flatten.toArray := by
    rw [flat]
    cases its with
    | nil => simp
    | cons y ys => rw [if_neg (by simp)]
  refine wpAny_binaryOp_repeat_ref (T := "list") (U := "int") (by decide) ⟨_, ho, rfl⟩ (fun z => typeIs_int z k t) noFill_list_mul
    F.fills_int_mul F.slot_int_rmul repeat_list F.slot_int_index.lookup ?_
  refine call_meets F.slot_int_rmul (typeIs_int s k t) F.entry_int_rmul (F.args_int_rmul_2 _ _) (int___rmul___int_list k t l its.toArray n) ⟨ho, rfl, ⟨_, ho, rfl⟩, ?_⟩
  refine call_meets F.slot_list_mul ⟨_, ho, rfl⟩ F.entry_list_mul (F.args_list_mul_2 _ _) (AutoListH.list___mul___list_int_3 l its.toArray n k t fits cap short) ⟨ho, ?_⟩
  rw [made]
  refine ⟨.ref _, _, I.lnew (t' := s.toks) (r.rep k.toNat) ?_, rfl, q _ I.fresh⟩
  rw [PyProof.Rows.lm_len_rep_flat, Nat.mul_comm]
  exact hz
theorem op_addD : OpR X (binaryOp .Add) (rP2 ⟨X.K, C⟩ addD) := by
  intro pins s σ H x y v u Q I rx ry ⟨as, M, dx, dy, d, m, r1, r2, e, q⟩
  have lists : ∀ i j, lstOf M dx = some i → lstOf M dy = some j → d = .lst (i ++ j) → i.length + j.length ≤ lim → wpAny (model X.prog X.w) X.A (binaryOp .Add v u) (EP X pins σ Q) X.xe s := fun i j e1 e2 e3 hl => by
    subst e3
    have z : ∀ {d : D} {i : List D}, lstOf M d = some i → deref M d = .lst i := fun {d i} h => by
      unfold lstOf at h
      split at h
      · rename_i q; cases h; exact q
      · cases h
    obtain ⟨a, vs, rfl, h1, q1⟩ := lst_at m (z e1) r1
    obtain ⟨b, ws, rfl, h2, q2⟩ := lst_at m (z e2) r2
    cases rx
    cases ry
    exact cat_lists I (.inl h1) (.inl h2) (by rw [q1.length, q2.length, lim_eq]; exact hl) fun p hp => q.lst m hp (q1.append q2)
  unfold addD at e
  split at e
  · rename_i i j
    cases e
    unfold RelD at r1 r2
    subst r1 r2
    exact L2.op_add pins s σ H _ _ v u Q I rx ry ⟨_, _, rfl, rfl, q.int m⟩
  · rename_i i b
    cases e
    unfold RelD at r1 r2
    subst r1 r2
    obtain ⟨t, rfl⟩ := rx
    cases ry
    exact PySem.add_int_bool ⟨.int _, H, I.tok _, ⟨_, rfl⟩, q.int m⟩
  · rename_i b j
    cases e
    unfold RelD at r1 r2
    subst r1 r2
    obtain ⟨t, rfl⟩ := ry
    cases rx
    exact PySem.IntBool.add_bool_int ⟨.int _, H, I.tok _, ⟨_, rfl⟩, q.int m⟩
  · rename_i i j
    split at e
    · rename_i hl
      cases e
      unfold RelD at r1 r2
      subst r1 r2
      refine op_add_str pins s σ H _ _ v u Q I rx ry ⟨_, _, rfl, rfl, by rw [lim_eq]; simpa [Str.length] using hl, ?_⟩
      have := q.str m
      have e2 : (⟨i.toArray⟩ : Str) ++ ⟨j.toArray⟩ = ⟨(i ++ j).toArray⟩ := by
        show (⟨i.toArray ++ j.toArray⟩ : Str) = _
        simp
      rw [e2]
      exact this
    · cases e
  · rename_i i j
    split at e
    · rename_i hl
      cases e
      have k1 := r1
      have k2 := r2
      unfold RelD at r1 r2
      obtain ⟨a, vs, rfl, h1, q1⟩ := r1
      obtain ⟨b, ws, rfl, h2, q2⟩ := r2
      refine op_catA pins s σ H _ _ v u Q I rx ry ⟨a, b, vs, ws, rfl, rfl, h1.sq, h2.sq, by rw [q1.length, q2.length, lim_eq]; exact hl, fun h0 => ?_, fun _ h0 => ?_, fun _ _ p hp => q.tup m hp (q1.append q2)⟩
      · have : i = [] := List.length_eq_zero_iff.mp (by rw [← q1.length, h0]; rfl)
        subst this
        exact q.now m k2
      · have : j = [] := List.length_eq_zero_iff.mp (by rw [← q2.length, h0]; rfl)
        subst this
        rw [List.append_nil] at q
        exact q.now m k1
    · cases e
  · split at e
    · rename_i i j e1 e2
      split at e
      · rename_i hl
        cases e
        exact lists i j e1 e2 rfl hl
      · cases e
    · cases e
theorem int2 {g : G} {H : Hp} {as : Lay} {i j : Int} {x y : V} (r1 : RelD g H as (.int i) x) (r2 : RelD g H as (.int j) y) : x = .int i ∧ y = .int j := by
  unfold RelD at r1 r2
  exact ⟨r1, r2⟩
theorem op_subD : OpR X (binaryOp .Sub) (rP2 ⟨X.K, C⟩ subD) := by
  intro pins s σ H x y v u Q I rx ry ⟨as, M, dx, dy, d, m, r1, r2, e, q⟩
  unfold subD at e
  split at e
  · cases e
    obtain ⟨rfl, rfl⟩ := int2 r1 r2
    exact L2.op_sub pins s σ H _ _ v u Q I rx ry ⟨_, _, rfl, rfl, q.int m⟩
  · cases e
    unfold RelD at r1 r2
    subst r1 r2
    obtain ⟨t, rfl⟩ := rx
    cases ry
    exact PySem.IntBool.sub_int_bool ⟨.int _, H, I.tok _, ⟨_, rfl⟩, q.int m⟩
  · cases e
    unfold RelD at r1 r2
    subst r1 r2
    obtain ⟨t, rfl⟩ := ry
    cases rx
    exact PySem.IntBool.sub_bool_int ⟨.int _, H, I.tok _, ⟨_, rfl⟩, q.int m⟩
  · cases e
theorem op_divD : OpR X (binaryOp .FloorDiv) (rP2 ⟨X.K, C⟩ divD) := by
  intro pins s σ H x y v u Q I rx ry ⟨as, M, dx, dy, d, m, r1, r2, e, q⟩
  unfold divD at e
  split at e
  · split at e
    · rename_i i j hj
      cases e
      obtain ⟨rfl, rfl⟩ := int2 r1 r2
      exact op_fdivW pins s σ H _ _ v u Q I rx ry ⟨_, _, rfl, rfl, wide_div (b := 62) hj.1 (by have := hj.2; omega) (by decide) (by decide), q.int m⟩
    · cases e
  · cases e
theorem op_modD : OpR X (binaryOp .Mod) (rP2 ⟨X.K, C⟩ modD) := by
  intro pins s σ H x y v u Q I rx ry ⟨as, M, dx, dy, d, m, r1, r2, e, q⟩
  unfold modD at e
  split at e
  · split at e
    · rename_i i j hj
      cases e
      obtain ⟨rfl, rfl⟩ := int2 r1 r2
      exact L2.op_mod pins s σ H _ _ v u Q I rx ry ⟨_, _, rfl, rfl, hj, q.int m⟩
    · cases e
  · cases e
theorem op_powD : OpR X (binaryOp .Pow) (rP2 ⟨X.K, C⟩ powD) := by
  intro pins s σ H x y v u Q I rx ry ⟨as, M, dx, dy, d, m, r1, r2, e, q⟩
  unfold powD at e
  split at e
  · split at e
    · rename_i i j hj
      cases e
      obtain ⟨rfl, rfl⟩ := int2 r1 r2
      exact L2.op_pow pins s σ H _ _ v u Q I rx ry ⟨_, _, rfl, rfl, ⟨hj.1, by omega, hj.2.2⟩, q.int m⟩
    · cases e
  · cases e
theorem op_mulD : OpR X (binaryOp .Mult) (rP2 ⟨X.K, C⟩ mulD) := by
  intro pins s σ H x y v u Q I rx ry ⟨as, M, dx, dy, d, m, r1, r2, e, q⟩
  unfold mulD at e
  split at e
  · split at e
    · rename_i i j hj
      cases e
      obtain ⟨rfl, rfl⟩ := int2 r1 r2
      exact L2.op_mul pins s σ H _ _ v u Q I rx ry ⟨_, _, rfl, rfl, hj, q.int m⟩
    · cases e
  · rename_i i k
    split at e
    · rename_i hk
      cases e
      unfold RelD at r1 r2
      obtain ⟨a, vs, rfl, h1, q1⟩ := r1
      subst r2
      exact op_repT pins s σ H _ _ v u Q I rx ry ⟨a, k, vs, rfl, rfl, h1.sq, fun z => hk.1 (by rw [← q1.length, z]; rfl), hk.2.2.1, hk.2.2.2, by rw [q1.length]; exact hk.2.1, fun p hp => q.tup m hp (q1.rep _)⟩
    · cases e
  · rename_i k _ _
    split at e
    · rename_i i e1
      split at e
      · rename_i hk
        cases e
        have h0 := of_decide_eq_true hk
        obtain ⟨a, vs, rfl, h1, q1⟩ := lst_at m (lstOf_deref e1) r1
        unfold RelD at r2
        subst r2
        exact rep_list pins s σ H _ _ v u Q I rx ry ⟨a, k, vs, rfl, rfl, h1, h0.1, h0.2.1, by rw [q1.length, lim_eq]; exact h0.2.2, fun p hp => q.lst m hp (q1.rep _)⟩
      · cases e
    · cases e
  · cases e
end
end Mk
end

section
set_option maxHeartbeats 2000000
/-! Mk5: comparisons, membership, subscripts, slices. -/
open PySem PySem.Spec PyProof.Rows L2
namespace Mk
/-- the data can be compared by == -/
def cmpOk (x y : D) : Bool := x.pure && y.pure && decide (min x.depth y.depth ≤ 100)
def eqD : P2 := fun x y M => if cmpOk (deref M x) (deref M y) = true then some (.bl ((deref M x).beq (deref M y))) else none
def neD : P2 := fun x y M => if cmpOk (deref M x) (deref M y) = true then some (.bl (!(deref M x).beq (deref M y))) else none
def isNon : D → Bool
  | .non => true
  | _ => false
def ordOk (x y : D) : Bool := x.alike y && !isNon x && cmpOk x y
def ltD : P2 := fun x y M => if ordOk (deref M x) (deref M y) = true then some (.bl ((deref M x).ltb (deref M y))) else none
def gtD : P2 := fun x y M => if ordOk (deref M x) (deref M y) = true then some (.bl ((deref M y).ltb (deref M x))) else none
def leD : P2 := fun x y M => match x, y with
  | .int i, .int j => some (.bl (decide (i ≤ j)))
  | x, y => if ordOk (deref M x) (deref M y) = true then some (.bl (!(deref M y).ltb (deref M x))) else none
def geD : P2 := fun x y M => match x, y with
  | .int i, .int j => some (.bl (decide (j ≤ i)))
  | x, y => if ordOk (deref M x) (deref M y) = true then some (.bl (!(deref M x).ltb (deref M y))) else none
def isD : P2 := fun x y _ => match y with
  | .non => some (.bl (isNon x))
  | .bl b => match x with
    | .bl a => some (.bl (a == b))
    | _ => none
  | _ => none
def isNotD : P2 := fun x y _ => match y with
  | .non => some (.bl (!isNon x))
  | .bl b => match x with
    | .bl a => some (.bl (!(a == b)))
    | _ => none
  | _ => none
/-- x in y: an item of a list or tuple; one sign of a text -/
def inB (x y : D) (M : Mem) : Option Bool := match deref M y with
  | .lst ys => if cmpOk (deref M x) (.lst ys) = true then some (ys.any fun z => z.beq (deref M x)) else none
  | .tup ys => if cmpOk (deref M x) (.tup ys) = true then some (ys.any fun z => z.beq (deref M x)) else none
  | .str ys => match x with
    | .str [c] => some (decide (c ∈ ys))
    | _ => none
  | _ => none
def inD : P2 := fun x y M => (inB x y M).map .bl
def notInD : P2 := fun x y M => (inB x y M).map fun b => .bl (!b)
theorem cmp_dp {g : G} {H : Hp} {as : Lay} {M : Mem} {x y : D} {v u : V} (m : MemR g H as M) (c : cmpOk (deref M x) (deref M y) = true) (r1 : RelD g H as x v) (r2 : RelD g H as y u) :
    Dp g.K H v (deref M x).py ∧ Dp g.K H u (deref M y).py ∧ min (deref M x).py.depth (deref M y).py.depth ≤ 100 := by
  simp only [cmpOk, Bool.and_eq_true, decide_eq_true_eq] at c
  refine ⟨deref_dp m c.1.1 r1, deref_dp m c.1.2 r2, ?_⟩
  rw [py_depth, py_depth]
  exact c.2
theorem cmp_eqv {x y : D} (c : cmpOk x y = true) : PyData.eqv x.py y.py = x.beq y := by
  simp only [cmpOk, Bool.and_eq_true, decide_eq_true_eq] at c
  exact py_eqv x y c.1.1 c.1.2
theorem py_none {x : D} (p : x.pure = true) (h : isNon x = false) : x.py ≠ .none := by
  cases x with
  | non => simp [isNon] at h
  | ref i => simp [D.pure] at p
  | nms xs => simp [D.pure] at p
  | _ => intro e; simp [D.py] at e
section
variable {X : Cx} {C : Cl}
theorem eq_reads {pins : List (Addr × Obj)} {s : Shared} {σ : L2.St} {H : Hp} {x y : V} {v u : Value} {d e : PyData} (I : Inv X pins σ H s) (h1 : Dp X.K H x d) (h2 : Dp X.K H y e) (rx : RelV x v) (ry : RelV y u) :
    (∃ as, Reads s.heap v d as) ∧ ∃ bs, Reads s.heap u e bs := ⟨Dp.reads I d x v h1 rx, Dp.reads I e y u h2 ry⟩
theorem op_eqD' (hu : X.A.units + 150 < cLine) : OpR X (compareOp .Eq) (rP2 ⟨X.K, C⟩ eqD) := by
  intro pins s σ H x y v u Q I rx ry ⟨as, M, dx, dy, d, m, r1, r2, e, q⟩
  unfold eqD at e
  split at e
  · rename_i c
    cases e
    obtain ⟨h1, h2, hd⟩ := cmp_dp m c r1 r2
    obtain ⟨⟨_, k1⟩, ⟨_, k2⟩⟩ := eq_reads I h1 h2 rx ry
    refine SeqAt.eq_plain k1 k2 (py_plain _) (py_plain _) (by omega) ⟨.bl _, H, I, rfl, ?_⟩
    rw [cmp_eqv c]
    exact q.bl m
  · cases e
theorem op_neD' (hu : X.A.units + 150 < cLine) : OpR X (compareOp .NotEq) (rP2 ⟨X.K, C⟩ neD) := by
  intro pins s σ H x y v u Q I rx ry ⟨as, M, dx, dy, d, m, r1, r2, e, q⟩
  unfold neD at e
  split at e
  · rename_i c
    cases e
    obtain ⟨h1, h2, hd⟩ := cmp_dp m c r1 r2
    obtain ⟨⟨_, k1⟩, ⟨_, k2⟩⟩ := eq_reads I h1 h2 rx ry
    refine SeqAt.ne_plain k1 k2 (py_plain _) (py_plain _) (by omega) ⟨.bl _, H, I, rfl, ?_⟩
    rw [cmp_eqv c]
    exact q.bl m
  · cases e
theorem ord_at {pins : List (Addr × Obj)} {s : Shared} {σ : L2.St} {H : Hp} {x y : V} {v u : Value} {as : Lay} {M : Mem} {dx dy : D} (I : Inv X pins σ H s) (hu : X.A.units + 150 < cLine) (m : MemR ⟨X.K, C⟩ H as M) (c : ordOk (deref M dx) (deref M dy) = true)
    (r1 : RelD ⟨X.K, C⟩ H as dx x) (r2 : RelD ⟨X.K, C⟩ H as dy y) (rx : RelV x v) (ry : RelV y u) :
    ∃ as bs, Reads s.heap v (deref M dx).py as ∧ Reads s.heap u (deref M dy).py bs ∧ PySem.W.alike (deref M dx).py (deref M dy).py = true ∧ (deref M dx).py ≠ .none ∧ X.A.units + min (deref M dx).py.depth (deref M dy).py.depth < cLine ∧
      (PySem.W.dataLt (deref M dx).py (deref M dy).py = (deref M dx).ltb (deref M dy)) ∧ ((deref M dy).alike (deref M dx) = true → PySem.W.dataLt (deref M dy).py (deref M dx).py = (deref M dy).ltb (deref M dx)) := by
  simp only [ordOk, Bool.and_eq_true, Bool.not_eq_true'] at c
  obtain ⟨⟨c1, c2⟩, c3⟩ := c
  obtain ⟨h1, h2, hd⟩ := cmp_dp m c3 r1 r2
  obtain ⟨⟨as', k1⟩, ⟨bs', k2⟩⟩ := eq_reads I h1 h2 rx ry
  simp only [cmpOk, Bool.and_eq_true, decide_eq_true_eq] at c3
  exact ⟨as', bs', k1, k2, py_alike _ _ c1, py_none c3.1.1 c2, by omega, py_lt _ _ c1 c3.1.1 c3.1.2, fun z => py_lt _ _ z c3.1.2 c3.1.1⟩
end
mutual
theorem alike_comm' : ∀ x y : D, x.alike y = y.alike x
  | .tup xs, .tup ys => by simp only [D.alike]; exact alikes_comm' xs ys
  | .lst xs, .lst ys => by simp only [D.alike]; exact alikes_comm' xs ys
  | .str x, .str y => by simp [D.alike]
  | .non, .non => by simp [D.alike]
  | .bl _, .bl _ => by simp [D.alike]
  | .int _, .int _ => by simp [D.alike]
  | .bl _, .int _ | .int _, .bl _ => by simp [D.alike]
  | .non, .bl _ | .non, .int _ | .non, .str _ | .non, .tup _ | .non, .lst _ | .non, .ref _ => by simp [D.alike]
  | .bl _, .non | .bl _, .str _ | .bl _, .tup _ | .bl _, .lst _ | .bl _, .ref _ => by simp [D.alike]
  | .int _, .non | .int _, .str _ | .int _, .tup _ | .int _, .lst _ | .int _, .ref _ => by simp [D.alike]
  | .str _, .non | .str _, .bl _ | .str _, .int _ | .str _, .tup _ | .str _, .lst _ | .str _, .ref _ => by simp [D.alike]
  | .tup _, .non | .tup _, .bl _ | .tup _, .int _ | .tup _, .str _ | .tup _, .lst _ | .tup _, .ref _ => by simp [D.alike]
  | .lst _, .non | .lst _, .bl _ | .lst _, .int _ | .lst _, .str _ | .lst _, .tup _ | .lst _, .ref _ => by simp [D.alike]
  | .ref _, .non | .ref _, .bl _ | .ref _, .int _ | .ref _, .str _ | .ref _, .tup _ | .ref _, .lst _ | .ref _, .ref _ => by simp [D.alike]
  | .nms _, y => by cases y <;> simp [D.alike]
  | .non, .nms _ | .bl _, .nms _ | .int _, .nms _ | .str _, .nms _ | .tup _, .nms _ | .lst _, .nms _ | .ref _, .nms _ => by simp [D.alike]
theorem alikes_comm' : ∀ xs ys : List D, D.alikes xs ys = D.alikes ys xs
  | [], [] => rfl
  | [], _ :: _ => by simp [D.alikes]
  | _ :: _, [] => by simp [D.alikes]
  | x :: xs, y :: ys => by simp only [D.alikes]; rw [alike_comm' x y, alikes_comm' xs ys]
end
section
variable {X : Cx} {C : Cl}
theorem ord_alike {x y : D} (c : ordOk x y = true) : y.alike x = true := by
  simp only [ordOk, Bool.and_eq_true, Bool.not_eq_true'] at c
  rw [alike_comm']
  exact c.1.1
theorem op_ltD (hu : X.A.units + 150 < cLine) : OpR X (compareOp .Lt) (rP2 ⟨X.K, C⟩ ltD) := by
  intro pins s σ H x y v u Q I rx ry ⟨as, M, dx, dy, d, m, r1, r2, e, q⟩
  unfold ltD at e
  split at e
  · rename_i c
    cases e
    obtain ⟨_, _, k1, k2, a, n, h, l, _⟩ := ord_at I hu m c r1 r2 rx ry
    exact PySem.W.lt_data k1 k2 a n h ⟨.bl _, H, I, rfl, by rw [l]; exact q.bl m⟩
  · cases e
theorem op_gtD (hu : X.A.units + 150 < cLine) : OpR X (compareOp .Gt) (rP2 ⟨X.K, C⟩ gtD) := by
  intro pins s σ H x y v u Q I rx ry ⟨as, M, dx, dy, d, m, r1, r2, e, q⟩
  unfold gtD at e
  split at e
  · rename_i c
    cases e
    obtain ⟨_, _, k1, k2, a, n, h, _, l⟩ := ord_at I hu m c r1 r2 rx ry
    exact PySem.W.gt_data k1 k2 a n h ⟨.bl _, H, I, rfl, by rw [l (ord_alike c)]; exact q.bl m⟩
  · cases e
theorem op_leD (hu : X.A.units + 150 < cLine) : OpR X (compareOp .LtE) (rP2 ⟨X.K, C⟩ leD) := by
  intro pins s σ H x y v u Q I rx ry ⟨as, M, dx, dy, d, m, r1, r2, e, q⟩
  unfold leD at e
  split at e
  · cases e
    obtain ⟨rfl, rfl⟩ := int2 r1 r2
    exact op_le pins s σ H _ _ v u Q I rx ry ⟨_, _, rfl, rfl, q.bl m⟩
  · split at e
    · rename_i c
      cases e
      obtain ⟨_, _, k1, k2, a, n, h, _, l⟩ := ord_at I hu m c r1 r2 rx ry
      exact PySem.W.le_data k1 k2 a n h ⟨.bl _, H, I, rfl, by rw [l (ord_alike c)]; exact q.bl m⟩
    · cases e
theorem op_geD (hu : X.A.units + 150 < cLine) : OpR X (compareOp .GtE) (rP2 ⟨X.K, C⟩ geD) := by
  intro pins s σ H x y v u Q I rx ry ⟨as, M, dx, dy, d, m, r1, r2, e, q⟩
  unfold geD at e
  split at e
  · cases e
    obtain ⟨rfl, rfl⟩ := int2 r1 r2
    exact op_ge pins s σ H _ _ v u Q I rx ry ⟨_, _, rfl, rfl, q.bl m⟩
  · split at e
    · rename_i c
      cases e
      obtain ⟨_, _, k1, k2, a, n, h, l, _⟩ := ord_at I hu m c r1 r2 rx ry
      exact PySem.W.ge_data k1 k2 a n h ⟨.bl _, H, I, rfl, by rw [l]; exact q.bl m⟩
    · cases e
theorem isNon_rel {g : G} {H : Hp} {as : Lay} {d : D} {v : V} (r : RelD g H as d v) : decide (v = .non) = isNon d := by
  cases d <;> unfold RelD at r
  case tup => obtain ⟨_, _, rfl, _⟩ := r; rfl
  case lst => obtain ⟨_, _, rfl, _⟩ := r; rfl
  case ref => obtain ⟨_, rfl, _⟩ := r; rfl
  case nms => obtain ⟨_, _, rfl, _⟩ := r; rfl
  all_goals (subst r; rfl)
theorem op_isD : OpR X (compareOp .Is) (rP2 ⟨X.K, C⟩ isD) := by
  intro pins s σ H x y v u Q I rx ry ⟨as, M, dx, dy, d, m, r1, r2, e, q⟩
  unfold isD at e
  split at e
  · cases e
    unfold RelD at r2
    subst r2
    refine op_isN pins s σ H _ _ v u Q I rx ry ⟨rfl, ?_⟩
    rw [isNon_rel r1]
    exact q.bl m
  · split at e
    · cases e
      unfold RelD at r1 r2
      subst r1 r2
      refine op_isBl pins s σ H _ _ v u Q I rx ry ⟨_, _, rfl, rfl, ?_⟩
      have := q.bl m
      rwa [Bool.beq_eq_decide_eq] at this
    · cases e
  · cases e
theorem op_isNotD : OpR X (compareOp .IsNot) (rP2 ⟨X.K, C⟩ isNotD) := by
  intro pins s σ H x y v u Q I rx ry ⟨as, M, dx, dy, d, m, r1, r2, e, q⟩
  unfold isNotD at e
  split at e
  · cases e
    unfold RelD at r2
    subst r2
    refine op_notN pins s σ H _ _ v u Q I rx ry ⟨rfl, ?_⟩
    rw [isNon_rel r1]
    exact q.bl m
  · split at e
    · cases e
      unfold RelD at r1 r2
      subst r1 r2
      refine op_notBl pins s σ H _ _ v u Q I rx ry ⟨_, _, rfl, rfl, ?_⟩
      have := q.bl m
      rwa [Bool.beq_eq_decide_eq] at this
    · cases e
  · cases e
theorem any_pys {d : D} : ∀ ys : List D, D.pures ys = true → d.pure = true → ((D.pys ys).any fun z => PyData.eqv z d.py) = ys.any fun z => z.beq d
  | [], _, _ => by simp [D.pys]
  | y :: ys, h, p => by
    simp only [D.pures, Bool.and_eq_true] at h
    simp only [D.pys, List.any_cons]
    rw [any_pys ys h.2 p, py_eqv y d h.1 p]
theorem in_run {neg : Bool} {pins : List (Addr × Obj)} {s : Shared} {σ : L2.St} {H : Hp} {x y : V} {v u : Value} {Q : VK} {as : Lay} {M : Mem} {dx dy : D} {b : Bool} (hu : X.A.units + 150 < cLine) (I : Inv X pins σ H s) (rx : RelV x v) (ry : RelV y u)
    (m : MemR ⟨X.K, C⟩ H as M) (r1 : RelD ⟨X.K, C⟩ H as dx x) (r2 : RelD ⟨X.K, C⟩ H as dy y) (e : inB dx dy M = some b) (q : Q (.bl (if neg = true then !b else b)) H) : wpAny (model X.prog X.w) X.A (compareOp (if neg = true then .NotIn else .In) v u) (EP X pins σ Q) X.xe s := by
  unfold inB at e
  split at e
  · rename_i ys ey
    split at e
    · rename_i c
      cases e
      have c' : cmpOk (deref M dx) (deref M dy) = true := by rw [ey]; exact c
      obtain ⟨h1, h2, hd⟩ := cmp_dp m c' r1 r2
      obtain ⟨⟨_, k1⟩, ⟨_, k2⟩⟩ := eq_reads I h1 h2 rx ry
      rw [ey] at k2 hd
      have ed : (D.lst ys).py = .list (D.pys ys) := by simp [D.py]
      rw [ed] at k2 hd
      have dd : (PyData.list (D.pys ys)).depth = PyData.depthAll (D.pys ys) + 1 := by simp [PyData.depth]
      rw [dd] at hd
      simp only [cmpOk, Bool.and_eq_true, decide_eq_true_eq] at c
      rw [← any_pys ys (by simpa [D.pure] using c.1.2) c.1.1] at q
      cases neg with
      | true => exact SeqAt.notIn_list_data k2 k1 (pys_plain ys) (py_plain _) (by omega) ⟨.bl _, H, I, rfl, q⟩
      | false => exact SeqAt.in_list_data k2 k1 (pys_plain ys) (py_plain _) (by omega) ⟨.bl _, H, I, rfl, q⟩
    · cases e
  · rename_i ys ey
    split at e
    · rename_i c
      cases e
      have c' : cmpOk (deref M dx) (deref M dy) = true := by rw [ey]; exact c
      obtain ⟨h1, h2, hd⟩ := cmp_dp m c' r1 r2
      obtain ⟨⟨_, k1⟩, ⟨_, k2⟩⟩ := eq_reads I h1 h2 rx ry
      rw [ey] at k2 hd
      have ed : (D.tup ys).py = .tuple (D.pys ys) := by simp [D.py]
      rw [ed] at k2 hd
      have dd : (PyData.tuple (D.pys ys)).depth = PyData.depthAll (D.pys ys) + 1 := by simp [PyData.depth]
      rw [dd] at hd
      simp only [cmpOk, Bool.and_eq_true, decide_eq_true_eq] at c
      rw [← any_pys ys (by simpa [D.pure] using c.1.2) c.1.1] at q
      cases neg with
      | true => exact SeqAt.notIn_tuple_data k2 k1 (pys_plain ys) (py_plain _) (by omega) ⟨.bl _, H, I, rfl, q⟩
      | false => exact SeqAt.in_tuple_data k2 k1 (pys_plain ys) (py_plain _) (by omega) ⟨.bl _, H, I, rfl, q⟩
    · cases e
  · rename_i ys ey
    split at e
    · rename_i c
      cases e
      have ey' : dy = .str ys := by
        cases dy with
        | ref i =>
          unfold deref at ey
          simp only at ey
          split at ey <;> cases ey
        | nms xs => cases ey
        | _ => exact ey
      subst ey'
      unfold RelD at r1 r2
      subst r1 r2
      cases neg with
      | true => exact op_notIn_sign pins s σ H _ _ v u Q I rx ry ⟨c, _, rfl, rfl, by simpa using q⟩
      | false => exact op_in_sign pins s σ H _ _ v u Q I rx ry ⟨c, _, rfl, rfl, by simpa using q⟩
    · cases e
  · cases e
theorem op_inD' (hu : X.A.units + 150 < cLine) : OpR X (compareOp .In) (rP2 ⟨X.K, C⟩ inD) := by
  intro pins s σ H x y v u Q I rx ry ⟨as, M, dx, dy, d, m, r1, r2, e, q⟩
  unfold inD at e
  obtain ⟨b, e', rfl⟩ := Option.map_eq_some_iff.mp e
  exact in_run (neg := false) hu I rx ry m r1 r2 e' (q.bl m)
theorem op_notInD' (hu : X.A.units + 150 < cLine) : OpR X (compareOp .NotIn) (rP2 ⟨X.K, C⟩ notInD) := by
  intro pins s σ H x y v u Q I rx ry ⟨as, M, dx, dy, d, m, r1, r2, e, q⟩
  unfold notInD at e
  obtain ⟨b, e', rfl⟩ := Option.map_eq_some_iff.mp e
  exact in_run (neg := true) hu I rx ry m r1 r2 e' (q.bl m)
end
end Mk
end

section
set_option maxHeartbeats 2000000
/-! Mk6: subscripts, slices, calls of built-ins. -/
open PySem PySem.Spec PyProof.Rows L2
namespace Mk
/-! ### subscripts -/
def ixD : P2 := fun x y M => match deref M x, y with
  | .lst xs, .int i => atI xs i
  | .tup xs, .int i => atI xs i
  | .str xs, .int i => if xs.length ≤ lim then (atI xs i).map fun c => .str [c] else none
  | _, _ => none
section
variable {g : G} {H : Hp} {as : Lay}
theorem RelDs.atI {ds : List D} {vs : List V} {i : Int} {d : D} (r : RelDs g H as ds vs) (e : L2.atI ds i = some d) : ∃ v, L2.atI vs i = some v ∧ RelD g H as d v := by
  unfold L2.atI at *
  rw [r.length]
  cases q : ixN ds.length i with
  | none => rw [q] at e; cases e
  | some j =>
    rw [q] at e
    exact r.get e
end
theorem deref_str {M : Mem} {d : D} {x : List Nat} (h : deref M d = .str x) : d = .str x := by
  cases d with
  | ref i =>
    unfold deref at h
    simp only at h
    split at h <;> cases h
  | nms xs => cases h
  | _ => exact h
section
variable {X : Cx} {C : Cl} {W : WX} {a b : Expr} {ea eb : Ev} {pos : Pos}
theorem ix_D : IxR X (rP2 ⟨X.K, C⟩ ixD) := by
  intro vE sE pins s σ H x y v u Q I rx ry ⟨as, M, dx, dy, d, m, r1, r2, e, q⟩ hs
  unfold ixD at e
  split at e
  · rename_i xs i ed
    unfold RelD at r2
    subst r2
    obtain ⟨p, vs, rfl, h1, q1⟩ := lst_at m ed r1
    obtain ⟨w, ew, rw'⟩ := q1.atI e
    exact ix_list vE sE pins s σ H _ _ v u Q I rx ry ⟨p, vs, i, w, rfl, rfl, .inl h1, ew, q.now m rw'⟩ hs
  · rename_i xs i ed
    unfold RelD at r2
    subst r2
    replace r1 := tup_at ed r1
    unfold RelD at r1
    obtain ⟨p, vs, rfl, h1, q1⟩ := r1
    obtain ⟨w, ew, rw'⟩ := q1.atI e
    exact ix_tup vE sE pins s σ H _ _ v u Q I rx ry ⟨p, vs, i, w, rfl, rfl, h1.sq, ew, q.now m rw'⟩ hs
  · rename_i xs i ed
    split at e
    · rename_i hl
      obtain ⟨c, ec, rfl⟩ := Option.map_eq_some_iff.mp e
      obtain rfl := deref_str ed
      unfold RelD at r1 r2
      subst r1 r2
      refine ix_str vE sE pins s σ H _ _ v u Q I rx ry ⟨_, i, c, rfl, rfl, by rw [lim_eq]; simpa [Str.length] using hl, by simpa using ec, ?_⟩ hs
      have := q.str m
      simpa using this
    · cases e
  · cases e
theorem v_ix (ha : VE X C W a ea) (hb : VE X C W b eb) (hs : PlainIx b := by exact fun _ _ => rfl) : VE X C W (.Subscript a b pos) (eB ixD ea eb) :=
  PE.imp (pe_ix ix_D ha hb hs) fun σ H Q h => binE h
end
/-! ### slices -/
def cut {α : Type} (xs : List α) (lo hi : Option Int) : List α := (xs.drop (HT.sIx xs.length 0 lo)).take (HT.sIx xs.length xs.length hi - HT.sIx xs.length 0 lo)
abbrev EvP := Sl → Mem → Res (Option Int)
def pNo : EvP := fun _ M => .ok none M
def pSo (e : Ev) : EvP := fun ρ M => (e ρ M).bind fun d M1 => match d with
  | .int i => .ok (some i) M1
  | _ => .err
abbrev RP : Hp → Lay → Option Int → Option Int → Prop := fun _ _ a b => a = b
def cutD (x : D) (lo hi : Option Int) (M : Mem) : Option D := match deref M x with
  | .lst xs => some (.lst (cut xs lo hi))
  | .tup xs => some (.tup (cut xs lo hi))
  | .str xs => if xs.length ≤ lim then some (.str (cut xs lo hi)) else none
  | _ => none
def eSl (a : Ev) (lo hi : EvP) : Ev := fun ρ M => (a ρ M).bind fun x M1 => (lo ρ M1).bind fun l M2 => (hi ρ M2).bind fun h M3 => out M3 (cutD x l h M3)
theorem RelDs.cut {g : G} {H : Hp} {as : Lay} {ds : List D} {vs : List V} (r : RelDs g H as ds vs) (lo hi : Option Int) : RelDs g H as (Mk.cut ds lo hi) (cutV vs lo hi) := by
  unfold Mk.cut cutV
  rw [r.length]
  exact (r.drop _).take _
theorem sIx_le' {n : Nat} {o : Option Int} : HT.sIx n n o ≤ n := HT.sIx_le n n (Nat.le_refl n) o
theorem cut_whole {α : Type} {xs : List α} {lo hi : Option Int} (h : HT.sIx xs.length 0 lo = 0 ∧ HT.sIx xs.length xs.length hi = xs.length) : cut xs lo hi = xs := by
  unfold cut
  rw [h.1, h.2]
  simp
section
variable {X : Cx} {C : Cl} {W : WX} {a : Expr} {ea : Ev} {pos p2 : Pos}
abbrev VP (X : Cx) (C : Cl) (W : WX) (e : Option Expr) (ev : EvP) : Prop := PO X e (tG ⟨X.K, C⟩ RP W ev)
theorem vp_no : VP X C W none pNo := ⟨fun pins s σ H Q I ⟨ρ, M, as, e, m, q⟩ => po_none.run pins s σ H Q I (q none H as m (Ext.refl _ _) rfl)⟩
theorem vp_so {e : Expr} {ev : Ev} (h : VE X C W e ev) : VP X C W (some e) (pSo ev) := ⟨fun pins s σ H Q I q => (po_some h).run pins s σ H Q I (by
  refine tG_mono (tG_bind (R := RelD ⟨X.K, C⟩) q) fun v H1 ⟨ρ, as1, M1, d, e1, m1, r1, q1⟩ => ?_
  cases d with
  | int i =>
    unfold RelD at r1
    exact ⟨i, r1, q1 (some i) H1 as1 m1 (Ext.refl _ _) rfl⟩
  | _ => exact q1.elim)⟩
theorem sl_D : SlR X (fun x lo hi H Q => ∃ as M dx d, MemR ⟨X.K, C⟩ H as M ∧ RelD ⟨X.K, C⟩ H as dx x ∧ cutD dx lo hi M = some d ∧ Then ⟨X.K, C⟩ H as M d Q) := by
  intro pins s σ H x v vl vu lo hi sl Q I rx hs pl pu ⟨as, M, dx, d, m, r, e, q⟩
  unfold cutD at e
  split at e
  · rename_i xs ed
    cases e
    obtain ⟨p, vs, rfl, h1, q1⟩ := lst_at m ed r
    exact sl_list pins s σ H _ v vl vu lo hi sl Q I rx hs pl pu ⟨p, vs, rfl, .inl h1, fun p hp => q.lst m hp (q1.cut lo hi)⟩
  · rename_i xs ed
    cases e
    replace r := tup_at ed r
    have r0 := r
    unfold RelD at r
    obtain ⟨p, vs, rfl, h1, q1⟩ := r
    refine sl_tupA pins s σ H _ v vl vu lo hi sl Q I rx hs pl pu ⟨p, vs, rfl, h1.sq, fun hw => ?_, fun _ p hp => q.tup m hp (q1.cut lo hi)⟩
    rw [q1.length] at hw
    rw [cut_whole hw] at q
    exact q.now m r0
  · rename_i xs ed
    split at e
    · rename_i hl
      cases e
      obtain rfl := deref_str ed
      unfold RelD at r
      subst r
      refine sl_str pins s σ H _ v vl vu lo hi sl Q I rx hs pl pu ⟨_, rfl, by rw [lim_eq]; simpa [Str.length] using hl, ?_⟩
      have := q.str m
      unfold cutS
      unfold cut at this
      simpa [Str.length] using this
    · cases e
  · cases e
theorem v_sl {lo hi : Option Expr} {el eh : EvP} (ha : VE X C W a ea) (hl : VP X C W lo el) (hh : VP X C W hi eh) : VE X C W (.Subscript a (.Slice lo hi none p2) pos) (eSl ea el eh) := by
  refine PE.imp (pe_slice (sl_D (C := C)) ha hl hh) fun σ H Q h => ?_
  refine tG_mono (tG_bind (R := RelD ⟨X.K, C⟩) h) fun v H1 ⟨ρ, as1, M1, d, e1, m1, r1, q1⟩ => ?_
  refine ⟨ρ, M1, as1, e1, m1, ?_⟩
  refine (Fin.bind (R := RP) q1).mono fun l H2 ⟨as2, M2, l2, m2, x2, r2, q2⟩ => ?_
  refine ⟨ρ, M2, as2, e1.ext x2, m2, ?_⟩
  refine (Fin.bind (R := RP) q2).mono fun h H3 ⟨as3, M3, h3, m3, x3, r3, q3⟩ => ?_
  obtain rfl : l2 = l := r2
  obtain rfl : h3 = h := r3
  obtain ⟨o, e, q⟩ := Fin.out q3
  exact ⟨as3, M3, d, o, m3, (r1.ext x2).ext x3, e, q⟩
end
/-! ### calls of built-ins -/
def eN (f : PN) (es : List Ev) : Ev := fun ρ M => (aL es ρ M).bind fun xs M1 => out M1 (f xs M1)
section
variable {X : Cx} {C : Cl} {W : WX} {x : Str} {p pos : Pos} {e : Expr} {es : List Expr} {evs : List Ev} {id T : String} {f : PN}
theorem v_callB (hc : CallR X (.builtin id) (rPN ⟨X.K, C⟩ f)) (hm : X.mg x = none) (hv : bootBuiltins x = some (.builtin id)) (ha : VA X C W (e :: es) (aL evs)) (hg : Gl X x := by rfl) (hn : x ≠ "__name__" := by decide) (hdb : (x == ("__debug__" : Str)) = false := by decide)
    (he : starEach (e :: es) X.env = (false, eval e X.env) :: starEach es X.env := by rfl) (hpl : (backTo pos (starEach es X.env)).any (·.1) = false := by rfl) : VE X C W (.Call (.Name x p) (e :: es) [] pos) (eN f evs) := by
  refine PE.imp (pe_callB hc hg hm hv ha hn hdb he hpl) fun σ H Q h => tG_mono (tG_bind (R := RelDs ⟨X.K, C⟩) h) fun vs H1 ⟨ρ, as1, M1, ds, e1, m1, r1, q1⟩ => ?_
  obtain ⟨o, e, q⟩ := Fin.out q1
  exact ⟨as1, M1, ds, o, m1, r1, e, q⟩
theorem v_callT (hc : CallR X (.type T) (rPN ⟨X.K, C⟩ f)) (hm : X.mg x = none) (hv : bootBuiltins x = some (.type T)) (ha : VA X C W (e :: es) (aL evs)) (hg : Gl X x := by rfl) (hn : x ≠ "__name__" := by decide) (hdb : (x == ("__debug__" : Str)) = false := by decide)
    (he : starEach (e :: es) X.env = (false, eval e X.env) :: starEach es X.env := by rfl) (hpl : (backTo pos (starEach es X.env)).any (·.1) = false := by rfl) : VE X C W (.Call (.Name x p) (e :: es) [] pos) (eN f evs) := by
  refine PE.imp (pe_callTy hc hg hm hv ha hn hdb he hpl) fun σ H Q h => tG_mono (tG_bind (R := RelDs ⟨X.K, C⟩) h) fun vs H1 ⟨ρ, as1, M1, ds, e1, m1, r1, q1⟩ => ?_
  obtain ⟨o, e, q⟩ := Fin.out q1
  exact ⟨as1, M1, ds, o, m1, r1, e, q⟩
theorem one_of {g : G} {H : Hp} {as : Lay} {d : D} {vs : List V} (r : RelDs g H as [d] vs) : ∃ v, vs = [v] ∧ RelD g H as d v := by
  obtain ⟨v, r', rfl, h, h2⟩ := relDs_cons.mp r
  rw [relDs_nil.mp h2]
  exact ⟨v, rfl, h⟩
theorem two_of {g : G} {H : Hp} {as : Lay} {d e : D} {vs : List V} (r : RelDs g H as [d, e] vs) : ∃ v w, vs = [v, w] ∧ RelD g H as d v ∧ RelD g H as e w := by
  obtain ⟨v, r', rfl, h, h2⟩ := relDs_cons.mp r
  obtain ⟨w, rfl, h3⟩ := one_of h2
  exact ⟨v, w, rfl, h, h3⟩
/-! len -/
def lenD : PN := fun xs M => match xs with
  | [x] => match deref M x with
    | .str s => if s.length ≤ lim then some (.int s.length) else none
    | _ => (seqOf M x).map fun ys => .int ys.length
  | _ => none
theorem cr_lenD : CallR X (.builtin "len") (rPN ⟨X.K, C⟩ lenD) := by
  intro pins s σ H xs us Q I r ⟨as, M, ds, d, m, rd, e, q⟩
  unfold lenD at e
  split at e
  · rename_i y
    obtain ⟨v, rfl, r1⟩ := one_of rd
    split at e
    · rename_i z ez
      split at e
      · rename_i hl
        cases e
        obtain rfl := deref_str ez
        unfold RelD at r1
        subst r1
        refine call_len_str pins s σ H _ us Q I r ⟨_, rfl, by rw [lim_eq]; simpa [Str.length] using hl, ?_⟩
        have := q.int m
        simpa [Str.length] using this
      · cases e
    · obtain ⟨ys, ey, rfl⟩ := Option.map_eq_some_iff.mp e
      obtain ⟨a, vs, rfl, h1, q1⟩ := seq_at m ey r1
      refine call_len_seq pins s σ H _ us Q I r ⟨a, vs, rfl, h1, ?_⟩
      rw [q1.length]
      exact q.int m
  · cases e
/-! all, any -/
def bools : List D → Option (List Bool)
  | [] => some []
  | .bl b :: r => (bools r).map (b :: ·)
  | _ => none
theorem bools_at {g : G} {H : Hp} {as : Lay} : ∀ {ds : List D} {bs : List Bool} {vs : List V}, bools ds = some bs → RelDs g H as ds vs → vs = bs.map V.bl
  | [], bs, vs, e, r => by unfold bools at e; cases e; rw [relDs_nil.mp r]; rfl
  | .bl b :: ds, bs, vs, e, r => by
    unfold bools at e
    obtain ⟨cs, ec, rfl⟩ := Option.map_eq_some_iff.mp e
    obtain ⟨v, w, rfl, h1, h2⟩ := relDs_cons.mp r
    unfold RelD at h1
    rw [h1, bools_at ec h2]
    rfl
  | .non :: _, _, _, e, _ => by simp [bools] at e
  | .int _ :: _, _, _, e, _ => by simp [bools] at e
  | .str _ :: _, _, _, e, _ => by simp [bools] at e
  | .tup _ :: _, _, _, e, _ => by simp [bools] at e
  | .lst _ :: _, _, _, e, _ => by simp [bools] at e
  | .ref _ :: _, _, _, e, _ => by simp [bools] at e
def allD : PN := fun xs M => match xs with
  | [x] => (lstOf M x).bind fun ys => (bools ys).map fun bs => .bl (bs.all fun b => b)
  | _ => none
theorem cr_allD (hc : X.calm = true) : CallR X (.builtin "all") (rPN ⟨X.K, C⟩ allD) := by
  intro pins s σ H xs us Q I r ⟨as, M, ds, d, m, rd, e, q⟩
  unfold allD at e
  split at e
  · rename_i y
    obtain ⟨v, rfl, r1⟩ := one_of rd
    obtain ⟨ys, ey, e⟩ := Option.bind_eq_some_iff.mp e
    obtain ⟨bs, eb, rfl⟩ := Option.map_eq_some_iff.mp e
    obtain ⟨a, vs, rfl, h1, q1⟩ := lst_at m (lstOf_deref ey) r1
    have := bools_at eb q1
    subst this
    exact cr_all hc pins s σ H _ us Q I r ⟨a, bs, rfl, .inl h1, q.bl m⟩
  · cases e
/-! tuple, list -/
def tupD : PN := fun xs M => match xs with
  | [x] => (seqOf M x).map .tup
  | _ => none
theorem seqOf_cases {M : Mem} {d : D} {xs : List D} (h : seqOf M d = some xs) : deref M d = .lst xs ∨ deref M d = .tup xs := by
  unfold seqOf at h
  split at h
  · rename_i q; cases h; exact .inl q
  · rename_i q; cases h; exact .inr q
  · cases h
theorem cr_tupD : CallR X (.type "tuple") (rPN ⟨X.K, C⟩ tupD) := by
  intro pins s σ H xs us Q I r ⟨as, M, ds, d, m, rd, e, q⟩
  unfold tupD at e
  split at e
  · obtain ⟨v, rfl, r1⟩ := one_of rd
    obtain ⟨ys, ey, rfl⟩ := Option.map_eq_some_iff.mp e
    rcases seqOf_cases ey with h | h
    · obtain ⟨a, vs, rfl, h1, q1⟩ := lst_at m h r1
      exact call_tuple_of pins s σ H _ us Q I r ⟨a, vs, rfl, .inl ⟨.inl h1, fun p hp => q.tup m hp q1⟩⟩
    · replace r1 := tup_at h r1
      have r2 := r1
      unfold RelD at r1
      obtain ⟨a, vs, rfl, h1, q1⟩ := r1
      exact call_tuple_of pins s σ H _ us Q I r ⟨a, vs, rfl, .inr ⟨h1.sq, q.now m r2⟩⟩
  · cases e
def lstD : PN := fun xs M => match xs with
  | [x] => (seqOf M x).map .lst
  | _ => none
theorem cr_lstD : CallR X (.type "list") (rPN ⟨X.K, C⟩ lstD) := by
  intro pins s σ H xs us Q I r ⟨as, M, ds, d, m, rd, e, q⟩
  unfold lstD at e
  split at e
  · obtain ⟨v, rfl, r1⟩ := one_of rd
    obtain ⟨ys, ey, rfl⟩ := Option.map_eq_some_iff.mp e
    obtain ⟨a, vs, rfl, h1, q1⟩ := seq_at m ey r1
    exact call_list_of pins s σ H _ us Q I r ⟨a, vs, rfl, h1, fun p hp => q.lst m hp q1⟩
  · cases e
/-! int(flag), int(n), str(n) -/
def intD : PN := fun xs _ => match xs with
  | [.int i] => some (.int i)
  | [.bl b] => some (.int (if b then 1 else 0))
  | _ => none
theorem cr_intD : CallR X (.type "int") (rPN ⟨X.K, C⟩ intD) := by
  intro pins s σ H xs us Q I r ⟨as, M, ds, d, m, rd, e, q⟩
  unfold intD at e
  split at e
  · cases e
    obtain ⟨v, rfl, r1⟩ := one_of rd
    unfold RelD at r1
    subst r1
    exact call_int1 pins s σ H _ us Q I r (.inl ⟨_, rfl, q.int m⟩)
  · cases e
    obtain ⟨v, rfl, r1⟩ := one_of rd
    unfold RelD at r1
    subst r1
    exact call_int1 pins s σ H _ us Q I r (.inr ⟨_, rfl, q.int m⟩)
  · cases e
/-- the signs of a number -/
def signs (i : Int) : List Nat := (toString i).toList.map Char.toNat
theorem signs_eq (i : Int) : ((toString i : String) : Str) = ⟨(signs i).toArray⟩ := by
  show Str.ofString (toString i) = _
  unfold Str.ofString signs
  rw [cpsOfBytes_string]
def strD : PN := fun xs _ => match xs with
  | [.int i] => if i.natAbs < 10 ^ 100 then some (.str (signs i)) else none
  | [.bl b] => some (.str (if b = true then [84, 114, 117, 101] else [70, 97, 108, 115, 101]))
  | _ => none
theorem cr_strD : CallR X (.type "str") (rPN ⟨X.K, C⟩ strD) := by
  intro pins s σ H xs us Q I r ⟨as, M, ds, d, m, rd, e, q⟩
  unfold strD at e
  split at e
  · split at e
    · rename_i i hi
      cases e
      obtain ⟨v, rfl, r1⟩ := one_of rd
      unfold RelD at r1
      subst r1
      refine call_str_int pins s σ H _ us Q I r ⟨i, rfl, ?_, ?_⟩
      · have h1 : i.natAbs < 2 ^ 400 := Nat.lt_of_lt_of_le hi (by decide +kernel)
        have := PySem.Flt.log2_lt_of (by decide : 0 < 400) h1
        omega
      · rw [signs_eq]
        exact q.str m
    · cases e
  · rename_i b
    cases e
    obtain ⟨v, rfl, r1⟩ := one_of rd
    unfold RelD at r1
    subst r1
    cases r with
    | cons r rr =>
      cases rr
      cases r
      cases b with
      | true => exact PySem.P.str_of_bool ⟨.str _, H, I.tok _, ⟨_, rfl⟩, q.str m⟩
      | false => exact PySem.P.str_of_bool ⟨.str _, H, I.tok _, ⟨_, rfl⟩, q.str m⟩
  · cases e
end
/-! ### isinstance -/
/-- is the value of the built-in class -/
def isiB (T : String) (d : D) (M : Mem) : Option Bool := match deref M d with
  | .non => some false
  | .bl _ => some (T == "bool" || T == "int")
  | .int _ => some (T == "int")
  | .str _ => some (T == "str")
  | .tup _ => some (T == "tuple")
  | .lst _ => some (T == "list")
  | .ref _ => none
  | .nms _ => none
def isiD (T : String) : P1 := fun d M => (isiB T d M).map .bl
theorem kit_tab {K : PySem.W.Frag} : ∀ T ∈ ["bool", "int", "str", "tuple", "list"], PySem.W.kitOne K (.type "NoneType") (.type T) = some false ∧ PySem.W.kitOne K (.type "bool") (.type T) = some (T == "bool" || T == "int") ∧ PySem.W.kitOne K (.type "int") (.type T) = some (T == "int") ∧
    PySem.W.kitOne K (.type "str") (.type T) = some (T == "str") ∧ PySem.W.kitOne K (.type "tuple") (.type T) = some (T == "tuple") ∧ PySem.W.kitOne K (.type "list") (.type T) = some (T == "list") := by
  intro T hT
  simp only [List.mem_cons, List.mem_singleton, List.not_mem_nil, or_false] at hT
  rcases hT with rfl | rfl | rfl | rfl | rfl <;> exact ⟨kit_ty (by decide +kernel), kit_ty (by decide +kernel), kit_ty (by decide +kernel), kit_ty (by decide +kernel), kit_ty (by decide +kernel), kit_ty (by decide +kernel)⟩
section
variable {X : Cx} {C : Cl} {W : WX} {a : Expr} {ea : Ev}
theorem tyx_of {H : Hp} {as : Lay} {M : Mem} {d : D} {v : V} {T : String} {k : Bool} (hT : T ∈ ["bool", "int", "str", "tuple", "list"]) (m : MemR ⟨X.K, C⟩ H as M) (r : RelD ⟨X.K, C⟩ H as d v) (e : isiB T d M = some k) :
    ∃ t, TyX X.K H v t ∧ PySem.W.kitOne X.K t (.type T) = some k := by
  obtain ⟨h0, h1, h2, h3, h4, h5⟩ := kit_tab (K := X.K) T hT
  unfold isiB at e
  split at e
  · rename_i q
    have : d = .non := by
      cases d with
      | ref i => unfold deref at q; simp only at q; split at q <;> cases q
      | nms xs => cases q
      | _ => exact q
    subst this
    unfold RelD at r
    subst r
    cases e
    exact ⟨_, .base .non, h0⟩
  · rename_i b q
    have : d = .bl b := by
      cases d with
      | ref i => unfold deref at q; simp only at q; split at q <;> cases q
      | nms xs => cases q
      | _ => exact q
    subst this
    unfold RelD at r
    subst r
    cases e
    exact ⟨_, .base (.bl b), h1⟩
  · rename_i b q
    have : d = .int b := by
      cases d with
      | ref i => unfold deref at q; simp only at q; split at q <;> cases q
      | nms xs => cases q
      | _ => exact q
    subst this
    unfold RelD at r
    subst r
    cases e
    exact ⟨_, .base (.int b), h2⟩
  · rename_i b q
    obtain rfl := deref_str q
    unfold RelD at r
    subst r
    cases e
    exact ⟨_, .base (.str _), h3⟩
  · rename_i b q
    replace r := tup_at q r
    unfold RelD at r
    obtain ⟨a, vs, rfl, h, _⟩ := r
    cases e
    rcases h with ⟨h | ⟨o, h⟩, _⟩ | ⟨o, its, n, hk, hc, _⟩
    · exact ⟨_, .base (.tup h), h4⟩
    · exact ⟨_, .fTuple h, h4⟩
    · exact ⟨_, .kTuple hk hc, h4⟩
  · rename_i b q
    obtain ⟨a, vs, rfl, h, _⟩ := lst_at m q r
    cases e
    rcases h with h | ⟨o, h⟩
    · exact ⟨_, .base (.lst h), h5⟩
    · exact ⟨_, .base (.frz h), h5⟩
  · cases e
  · cases e
/-- isinstance(e, T) -/
theorem v_isi {T : String} {xT : Str} {p pt pos : Pos} (ha : VE X C W a ea) (mi : X.mg "isinstance" = none) (mt : X.mg xT = none) (hT : T ∈ ["bool", "int", "str", "tuple", "list"] := by decide) (hvi : bootBuiltins "isinstance" = some (.builtin "isinstance") := by decide +kernel)
    (hv : bootBuiltins xT = some (.type T) := by decide +kernel) (gi : Gl X "isinstance" := by rfl) (gt : Gl X xT := by rfl) (hn : xT ≠ "__name__" := by decide) (hd : (xT == ("__debug__" : Str)) = false := by decide)
    (s2 : starEach [.Name xT pt] X.env = (false, eval (.Name xT pt) X.env) :: starEach [] X.env := by rfl) (s1 : starEach [a, .Name xT pt] X.env = (false, eval a X.env) :: starEach [.Name xT pt] X.env := by rfl)
    (hpl : (backTo pos (starEach [.Name xT pt] X.env)).any (·.1) = false := by rfl) : VE X C W (.Call (.Name "isinstance" p) [a, .Name xT pt] [] pos) (eU (isiD T) ea) := by
  have pT : PE X (.Name xT pt) (tC (.ty T)) := pe_bltn gt mt hv rfl hn hd
  refine PE.imp (pe_callB call_isi gi mi hvi (pa_cons ha (pa_cons pT pa_nil s2) s1) (by decide) (by decide) s1 hpl) fun σ H Q h => ?_
  refine tG_mono (unE h) fun v H1 ⟨as, M, dx, d, m, r, e, q⟩ => ?_
  unfold isiD at e
  obtain ⟨k, ek, rfl⟩ := Option.map_eq_some_iff.mp e
  obtain ⟨t, ty, kt⟩ := tyx_of hT m r ek
  exact ⟨v, .ty T, t, .type T, k, rfl, .ty T, ty, kt, q.bl m⟩
end
end Mk
end

section
set_option maxHeartbeats 2000000
/-! Mk7: targets, what is walked, list comprehensions. -/
open PySem PySem.Spec PyProof.Rows L2
namespace Mk

/-! ### targets -/
inductive Tg where
  | name (i : Nat)
  | tup (ts : List Tg)
mutual
def Tg.set : Tg → D → Sl → Mem → Option Sl
  | .name i, d, ρ, _ => some (ρ.set i (some d))
  | .tup ts, d, ρ, M => match d with
    | .tup xs => Tg.sets ts xs ρ M
    | _ => none
def Tg.sets : List Tg → List D → Sl → Mem → Option Sl
  | [], [], ρ, _ => some ρ
  | t :: ts, x :: xs, ρ, M => match t.set x ρ M with
    | some ρ1 => Tg.sets ts xs ρ1 M
    | none => none
  | _, _, _, _ => none
end
mutual
def Tg.slots : Tg → List Nat
  | .name i => [i]
  | .tup ts => Tg.slotss ts
def Tg.slotss : List Tg → List Nat
  | [] => []
  | t :: ts => t.slots ++ Tg.slotss ts
end
/-- the same slots but for some -/
def SameOff (vs : List Nat) (σ σ' : L2.St) : Prop := σ.length = σ'.length ∧ ∀ i, i ∉ vs → σ[i]? = σ'[i]?
theorem SameOff.trans {vs ws : List Nat} {σ σ1 σ2 : L2.St} (a : SameOff vs σ σ1) (b : SameOff ws σ1 σ2) : SameOff (vs ++ ws) σ σ2 :=
  ⟨a.1.trans b.1, fun i h => (a.2 i fun z => h (List.mem_append_left _ z)).trans (b.2 i fun z => h (List.mem_append_right _ z))⟩
theorem wipe_at (σ : L2.St) : ∀ (vs : List Nat) (i : Nat), (wipe σ vs)[i]? = if i ∈ vs then (if i < σ.length then some none else none) else σ[i]?
  | [], i => by simp [wipe]
  | v :: vs, i => by
    unfold wipe
    by_cases h : v = i
    · subst h
      rw [List.getElem?_set, if_pos rfl, wipe_length]
      simp
    · rw [List.getElem?_set_ne h, wipe_at σ vs i]
      have : (i ∈ v :: vs) ↔ i ∈ vs := ⟨fun z => (List.mem_cons.mp z).elim (fun e => absurd e.symm h) (fun z => z), List.mem_cons_of_mem _⟩
      simp only [this]
theorem SameOff.wipe {vs ws : List Nat} {σ σ' : L2.St} (h : SameOff vs σ σ') (hs : ∀ i ∈ vs, i ∈ ws) : wipe σ' ws = wipe σ ws := by
  apply List.ext_getElem?
  intro i
  rw [wipe_at, wipe_at, h.1]
  split
  · rfl
  · rename_i hi
    exact (h.2 i fun z => hi (hs i z)).symm
def gT (g : G) (t : Tg) : TG := fun v σ H Q => ∃ ρ M as d ρ', EnvR g H as ρ σ ∧ MemR g H as M ∧ RelD g H as d v ∧ t.set d ρ M = some ρ' ∧ ∀ σ', EnvR g H as ρ' σ' → SameOff t.slots σ σ' → Q σ' H
def gTs (g : G) (ts : List Tg) : TGs := fun vs σ H Q => ∃ ρ M as ds ρ', EnvR g H as ρ σ ∧ MemR g H as M ∧ RelDs g H as ds vs ∧ Tg.sets ts ds ρ M = some ρ' ∧ ∀ σ', EnvR g H as ρ' σ' → SameOff (Tg.slotss ts) σ σ' → Q σ' H
theorem PG.imp {X : Cx} {e : Expr} {t t' : TG} (h : PG X e t) (i : ∀ v σ H Q, t' v σ H Q → t v σ H Q) : PG X e t' := ⟨fun pins s σ H v u Q I r q => h.run pins s σ H v u Q I r (i v σ H Q q)⟩
theorem PGs.imp {X : Cx} {e : List Expr} {t t' : TGs} (h : PGs X e t) (i : ∀ v σ H Q, t' v σ H Q → t v σ H Q) : PGs X e t' := ⟨fun pins s σ H v u Q I r q => h.run pins s σ H v u Q I r (i v σ H Q q)⟩
section
variable {X : Cx} {C : Cl} {pos : Pos}
abbrev VG (X : Cx) (C : Cl) (e : Expr) (t : Tg) : Prop := PG X e (gT ⟨X.K, C⟩ t)
abbrev VGs (X : Cx) (C : Cl) (es : List Expr) (ts : List Tg) : Prop := PGs X es (gTs ⟨X.K, C⟩ ts)
theorem vg_name [NoX C] (i : Nat) {x : Str} (hN : X.N.Nodup) (hi : X.N[i]? = some x := by rfl) (hx : Loc X.env.scope x := by first | exact Or.inl rfl | exact Or.inr rfl) (hf : X.fn x = true ∨ X.env.scope.names.lookup x = some .local := by first | exact .inl rfl | exact .inr rfl) : VG X C (.Name x pos) (.name i) := by
  refine PG.imp (pg_name hN hi hx hf) fun v σ H Q ⟨ρ, M, as, d, ρ', e, m, r, h, q⟩ => ?_
  unfold Tg.set at h
  cases h
  refine q _ (e.set i r (OffX.off (C := C))) ⟨by rw [List.length_set], fun j hj => ?_⟩
  have : i ≠ j := fun z => hj (by rw [z]; simp [Tg.slots])
  rw [List.getElem?_set_ne this]
theorem vgs_nil : VGs X C [] [] := by
  refine PGs.imp pgs_nil fun vs σ H Q ⟨ρ, M, as, ds, ρ', e, m, r, h, q⟩ => ?_
  cases ds with
  | nil =>
    unfold Tg.sets at h
    cases h
    exact ⟨relDs_nil.mp r, q σ e ⟨rfl, fun _ _ => rfl⟩⟩
  | cons d ds => unfold Tg.sets at h; cases h
theorem vgs_cons {e : Expr} {es : List Expr} {t : Tg} {ts : List Tg} (h1 : VG X C e t) (h2 : VGs X C es ts) (hs : (assignEach (e :: es) X.env).map (·.2) = assign e X.env :: (assignEach es X.env).map (·.2) := by rfl) : VGs X C (e :: es) (t :: ts) := by
  refine PGs.imp (pgs_cons h1 h2 hs) fun vs σ H Q ⟨ρ, M, as, ds, ρ', e, m, r, h, q⟩ => ?_
  cases ds with
  | nil => unfold Tg.sets at h; cases h
  | cons d ds =>
    obtain ⟨v, w, rfl, r1, r2⟩ := relDs_cons.mp r
    unfold Tg.sets at h
    split at h
    · rename_i ρ1 h1
      refine ⟨v, w, rfl, ρ, M, as, d, ρ1, e, m, r1, h1, fun σ1 e1 s1 => ?_⟩
      exact ⟨ρ1, M, as, ds, ρ', e1, m, r2, h, fun σ2 e2 s2 => q σ2 e2 (by unfold Tg.slotss; exact s1.trans s2)⟩
    · cases h
theorem vg_tup {es : List Expr} {ts : List Tg} {k : Nat} (hc : X.calm = true) (h : VGs X C es ts) (hn : (assignEach es X.env).length = ts.length := by rfl) (hst : (assignEach es X.env).findIdx? (·.1) = none := by rfl) : VG X C (.Tuple es k pos) (.tup ts) := by
  refine PG.imp (pg_tup hc h hn hst) fun v σ H Q ⟨ρ, M, as, d, ρ', e, m, r, h, q⟩ => ?_
  unfold Tg.set at h
  split at h
  · rename_i xs
    unfold RelD at r
    obtain ⟨a, vs, rfl, h1, q1⟩ := r
    have ln : ∀ (ts : List Tg) (xs : List D) (ρ ρ' : Sl), Tg.sets ts xs ρ M = some ρ' → xs.length = ts.length := by
      intro ts
      induction ts with
      | nil => intro xs ρ ρ' h; cases xs with
        | nil => rfl
        | cons x xs => unfold Tg.sets at h; cases h
      | cons t ts ih => intro xs ρ ρ' h; cases xs with
        | nil => unfold Tg.sets at h; cases h
        | cons x xs =>
          unfold Tg.sets at h
          split at h
          · rw [List.length_cons, ih _ _ _ h, List.length_cons]
          · cases h
    exact ⟨a, vs, rfl, h1.sq, by rw [q1.length]; exact ln _ _ _ _ h, ρ, M, as, xs, ρ', e, m, q1, h, fun σ' e' s' => q σ' e' (by unfold Tg.slots; exact s')⟩
  · cases h
end

/-! ### what is walked -/
/-- the items; the mutable lists that must stand as they stood; the memory then -/
structure Src where
  items : List D
  keep : List Nat
  mem : Mem
def Src.ok (r : Src) (M : Mem) : Prop := ∀ j ∈ r.keep, M[j]? = r.mem[j]?
structure IterOk (g : G) (H1 : Hp) (as1 : Lay) (r : Src) (J : It) : Prop where
  go : ∀ (i : Nat) (H : Hp) (as : Lay) (M : Mem) (d : D), Keeps H1 as1 H as → MemR g H as M → r.ok M → r.items[i]? = some d → J.go i H ∧ ∀ x H', J.yld i H x H' → MemR g H' as M ∧ Ext H as H' as ∧ RelD g H' as d x
  stop : ∀ (H : Hp) (as : Lay) (M : Mem), Keeps H1 as1 H as → MemR g H as M → r.ok M → J.stop r.items.length H
abbrev EvI := Sl → Mem → Res Src
def tI (g : G) (W : WX) (ev : EvI) : TI := fun σ H R => tG g (fun H1 as1 r J => IterOk g H1 as1 r J) W ev σ H R
theorem PI.imp {X : Cx} {tg e : Expr} {t t' : TI} (h : PI X tg e t) (i : ∀ σ H Q, t' σ H Q → t σ H Q) : PI X tg e t' := ⟨fun pins s σ H R I q => h.run pins s σ H R I (i σ H R q)⟩
abbrev VI (X : Cx) (C : Cl) (W : WX) (tg e : Expr) (ev : EvI) : Prop := PI X tg e (tI ⟨X.K, C⟩ W ev)
theorem Keeps.lst {g : G} {H1 H : Hp} {as1 as : Lay} {r : Src} {M : Mem} {d : D} {xs : List D} {v : V} (k : Keeps H1 as1 H as) (m1 : deref r.mem d = .lst xs) (hk : ∀ i, d = .ref i → i ∈ r.keep) (m : MemR g H as M) (ok : r.ok M) (rd : RelD g H1 as1 d v) :
    ∃ a vs, v = .ref a ∧ Rd H a (.lst vs) ∧ RelDs g H as xs vs := by
  refine lst_at m ?_ (RelD.mono k d v rd)
  cases d with
  | ref i =>
    have := ok i (hk i rfl)
    unfold deref at *
    simp only at *
    rw [this]
    exact m1
  | _ => exact m1
/-- a list, a tuple, a text: its items -/
def strItems (x : List Nat) : List D := x.map fun c => .str [c]
def keepOf : D → List Nat
  | .ref i => [i]
  | _ => []
def srcOf (d : D) (M : Mem) : Option Src := match deref M d with
  | .lst xs => some ⟨xs, keepOf d, M⟩
  | .tup xs => some ⟨xs, [], M⟩
  | .str xs => some ⟨strItems xs, [], M⟩
  | _ => none
def outS (M : Mem) : Option Src → Res Src
  | some d => .ok d M
  | none => .err
def eIt (a : Ev) : EvI := fun ρ M => (a ρ M).bind fun d M1 => outS M1 (srcOf d M1)
theorem Fin.outS {β : Type} {g : G} {R : Hp → Lay → Src → β → Prop} {H : Hp} {as : Lay} {M : Mem} {Q : β → Hp → Prop} {W : WK} {o : Option Src} (h : Fin g R W H as Q (outS M o)) (m : MemR g H as M) : ∃ d, o = some d ∧ ∀ v, R H as d v → Q v H := by
  cases o with
  | none => exact h.elim
  | some d => exact ⟨d, rfl, fun v r => h v H as m (Ext.refl _ _) r⟩
theorem at_lt {α : Type} {xs : List α} {i : Nat} {d : α} (h : xs[i]? = some d) : i < xs.length := (List.getElem?_eq_some_iff.mp h).1
section
variable {X : Cx} {C : Cl} {W : WX} {tg a : Expr} {ea : Ev}
theorem v_iter (ha : VE X C W a ea) : VI X C W tg a (eIt ea) := by
  refine ⟨fun pins s σ H R I h => ?_⟩
  have h2 : tE ⟨X.K, C⟩ W ea σ H fun v H1 => ∃ as M d sr, MemR ⟨X.K, C⟩ H1 as M ∧ RelD ⟨X.K, C⟩ H1 as d v ∧ srcOf d M = some sr ∧ ∀ J, IterOk ⟨X.K, C⟩ H1 as sr J → R J H1 := by
    refine tG_mono (tG_bind (R := RelD ⟨X.K, C⟩) h) fun v H1 ⟨ρ, as1, M1, d, e1, m1, r1, q1⟩ => ?_
    obtain ⟨sr, e, q⟩ := Fin.outS q1 m1
    exact ⟨as1, M1, d, sr, m1, r1, e, q⟩
  refine thn (ha.run pins s σ H _ I h2) fun v s1 ⟨x, H1, I1, r1, as, M, d, sr, m, rd, e, q⟩ => ?_
  unfold srcOf at e
  split at e
  · rename_i xs ed
    cases e
    have rd0 := rd
    obtain ⟨p, vs, rfl, h1, q1⟩ := lst_at m ed rd
    cases r1
    obtain ⟨its, rv, pl, hz⟩ := I1.list (.inl h1)
    refine wpAny_pyIter_list pl.isList ?_
    refine ⟨s1.heap.objs.size, [s1.heap.objs.size], _, _, H1, rfl, I1.kept (t' := s1.toks) fun b o z => Heap.get?_push_of_some _ z, turn_list p _, ⟨_, Heap.get?_push_size _ rfl, rfl, rfl⟩, fun b hb => ?_, q _ ?_⟩
    · rw [List.mem_singleton.mp hb]
      exact I1.fpOk (Nat.le_refl _) (I1.hok.fresh (Nat.le_refl _))
    · have hk : ∀ i, d = .ref i → i ∈ keepOf d := fun i z => by subst z; simp [keepOf]
      refine ⟨fun i H' as' M' x k m' ok hx => ?_, fun H' as' M' k m' ok => ?_⟩
      · obtain ⟨a, vs, ea, h1, q1⟩ := k.lst (r := ⟨xs, _, M⟩) ed hk m' ok rd0
        cases ea
        obtain ⟨w, ew, rw'⟩ := q1.get hx
        refine ⟨⟨vs, w, .inl h1, ew⟩, fun y H2 ⟨eH, fy⟩ => ?_⟩
        subst eH
        have := (fy vs (.inl h1)).symm.trans ew
        cases this
        exact ⟨m', Ext.refl _ _, rw'⟩
      · obtain ⟨a, vs, ea, h1, q1⟩ := k.lst (r := ⟨xs, _, M⟩) ed hk m' ok rd0
        cases ea
        exact ⟨vs, .inl h1, by rw [q1.length]; exact Nat.le_refl _⟩
  · rename_i xs ed
    cases e
    replace rd := tup_at ed rd
    have rd0 := rd
    unfold RelD at rd
    obtain ⟨p, vs, rfl, h1, q1⟩ := rd
    cases r1
    obtain ⟨its, rv, pt, hz⟩ := I1.tuple h1.sq
    refine wpAny_pyIter_tuple (show s1.heap.IsTuple p its.toArray from pt) ?_
    refine ⟨s1.heap.objs.size, [s1.heap.objs.size], _, _, H1, rfl, I1.kept (t' := s1.toks) fun b o z => Heap.get?_push_of_some _ z, turn_tuple p _, ⟨_, Heap.get?_push_size _ rfl, rfl, rfl⟩, fun b hb => ?_, q _ ?_⟩
    · rw [List.mem_singleton.mp hb]
      exact I1.fpOk (Nat.le_refl _) (I1.hok.fresh (Nat.le_refl _))
    · refine ⟨fun i H' as' M' x k m' ok hx => ?_, fun H' as' M' k m' ok => ?_⟩
      · have r2 := RelD.mono k _ _ rd0
        unfold RelD at r2
        obtain ⟨a, vs, ea, h1, q1⟩ := r2
        cases ea
        obtain ⟨w, ew, rw'⟩ := q1.get hx
        refine ⟨⟨vs, w, h1.sq, ew⟩, fun y H2 ⟨eH, fy⟩ => ?_⟩
        subst eH
        have := (fy vs h1.sq).symm.trans ew
        cases this
        exact ⟨m', Ext.refl _ _, rw'⟩
      · have r2 := RelD.mono k _ _ rd0
        unfold RelD at r2
        obtain ⟨a, vs, ea, h1, q1⟩ := r2
        cases ea
        exact ⟨vs, h1.sq, by rw [q1.length]; exact Nat.le_refl _⟩
  · rename_i xs ed
    cases e
    obtain rfl := deref_str ed
    unfold RelD at rd
    subst rd
    obtain ⟨t, rfl⟩ := r1
    have io : IterOk ⟨X.K, C⟩ H1 as ⟨strItems xs, [], M⟩ (Its ⟨xs.toArray⟩) := by
      refine ⟨fun i H' as' M' x k m' ok hx => ?_, fun H' as' M' k m' ok => ?_⟩
      · have hl := at_lt hx
        rw [strItems, List.length_map] at hl
        refine ⟨by show i < xs.toArray.size; simpa using hl, fun y H2 ⟨eH, c, ec, ey⟩ => ?_⟩
        subst eH ey
        have ec : xs.toArray[i]? = some c := ec
        rw [List.getElem?_toArray] at ec
        rw [strItems, List.getElem?_map, ec] at hx
        cases hx
        exact ⟨m', Ext.refl _ _, by unfold RelD; rfl⟩
      · show xs.toArray.size ≤ (strItems xs).length
        rw [strItems, List.length_map]
        simp
    cases hc : (⟨xs.toArray⟩ : Str).cps.all (· < 128)
    · exact wpAny_pyIter_wide hc (pi_one (tk := s1.toks) I1 _ (turn_str _ ⟨xs.toArray⟩ t "str_iterator" (.inr rfl)) ⟨_, Heap.get?_push_size _ rfl, rfl, rfl⟩ (q _ io))
    · exact wpAny_pyIter_ascii hc (pi_one (tk := s1.toks) I1 _ (turn_str _ ⟨xs.toArray⟩ t "str_ascii_iterator" (.inl rfl)) ⟨_, Heap.get?_push_size _ rfl, rfl, rfl⟩ (q _ io))
  · cases e
end
end Mk
end

section
set_option maxHeartbeats 4000000
/-! Mk8: range, zip and enumerate of lists and tuples in any mix. -/
open PySem PySem.Spec PyProof.Rows L2
namespace Mk
/-! ### a list or a tuple (k: a list) at the library's level -/
def IsIt (k : Bool) (h : Heap) (it a : Addr) (i : Nat) : Prop := if k = true then h.IsListIter it a i else h.IsTupleIter it a i
def IsSq (k : Bool) (h : Heap) (a : Addr) (items : Array Value) : Prop := if k = true then h.IsList a items else h.IsTuple a items
def itO (k : Bool) (a : Addr) : Obj := if k = true then { cls := .type "list_iterator", data := .fields #[.ref a, .int 0 0] } else { cls := .type "tuple_iterator", data := .fields #[.ref a, .int 0 0] }
def SqK (K : PySem.W.Frag) (k : Bool) (H : Hp) (a : Addr) (xs : List V) : Prop := if k = true then SqL K H a xs else SqT K H a xs
theorem begins_sq (k : Bool) (a : Addr) (items : Array Value) : Begins (.ref a) (itO k a) fun h => IsSq k h a items := by
  cases k with
  | true => exact begins_list a items
  | false => exact begins_tuple a items
theorem draws_sq {prog : Program} {w : World} {A : Around} (hh : A.handled = none) (k : Bool) (it a : Addr) (hne : a ≠ it) (items : Array Value) :
    Draws prog w A it [it, a] items.size (fun i v => items[i]? = some v) (fun i h => IsIt k h it a i ∧ IsSq k h a items) := by
  cases k with
  | true => exact Draws.list hh it a hne items
  | false => exact Draws.tuple hh it a hne items
theorem isIt_new {k : Bool} {h : Heap} {it a : Addr} (e : h.get? it = some (itO k a)) : IsIt k h it a 0 := by
  cases k with
  | true => exact ⟨_, e, rfl, rfl⟩
  | false => exact ⟨_, e, rfl, rfl⟩
theorem IsIt.at_ {k : Bool} {h h' : Heap} {it a : Addr} {i : Nat} (x : IsIt k h it a i) (f : ∀ o, h.get? it = some o → h'.get? it = some o) : IsIt k h' it a i := by
  cases k with
  | true =>
    have x : h.IsListIter it a i := x
    exact x.at f
  | false =>
    have x : h.IsTupleIter it a i := x
    exact x.at f
theorem IsIt.obj {k : Bool} {h : Heap} {it a : Addr} {i : Nat} (x : IsIt k h it a i) : ∃ o, h.get? it = some o ∧ ∀ v, o.data ≠ .cell v := by
  cases k with
  | true =>
    obtain ⟨o, e, c, d⟩ := (show h.IsListIter it a i from x)
    exact ⟨o, e, fun v z => by rw [d] at z; cases z⟩
  | false =>
    obtain ⟨o, e, c, d⟩ := (show h.IsTupleIter it a i from x)
    exact ⟨o, e, fun v z => by rw [d] at z; cases z⟩
section
variable {X : Cx} {pins : List (Addr × Obj)} {σ : L2.St} {H : Hp} {s : Shared}
theorem sq_at {k : Bool} {a : Addr} {xs : List V} (I : Inv X pins σ H s) (h : SqK X.K k H a xs) : ∃ its : List Value, Vals xs its ∧ IsSq k s.heap a its.toArray ∧ xs.length ≤ sizeLine := by
  cases k with
  | true =>
    obtain ⟨its, r, p, z⟩ := I.list (show SqL X.K H a xs from h)
    exact ⟨its, r, p.isList, z⟩
  | false =>
    obtain ⟨its, r, p, z⟩ := I.tuple (show SqT X.K H a xs from h)
    exact ⟨its, r, p, z⟩
theorem sq_inj {k : Bool} {a : Addr} {xs ys : List V} (I : Inv X pins σ H s) (h : SqK X.K k H a xs) (h' : SqK X.K k H a ys) : xs = ys := by
  cases k with
  | true => exact I.list_inj (show SqL X.K H a xs from h) (show SqL X.K H a ys from h')
  | false => exact I.tuple_inj (show SqT X.K H a xs from h) (show SqT X.K H a ys from h')
theorem IsSq.lt {k : Bool} {h : Heap} {a : Addr} {items : Array Value} (x : IsSq k h a items) : a < h.objs.size := by
  cases k with
  | true =>
    obtain ⟨o, e, _⟩ := (show h.IsList a items from x)
    exact Heap.lt_size e
  | false =>
    obtain ⟨o, e, _⟩ := (show h.IsTuple a items from x)
    exact Heap.lt_size e
end
/-! ### zip of two -/
def It2 (K : PySem.W.Frag) (ka kb : Bool) (a b : Addr) : It :=
  ⟨fun i H => ∃ (xs ys : List V) (x y : V), SqK K ka H a xs ∧ SqK K kb H b ys ∧ xs[i]? = some x ∧ ys[i]? = some y,
    fun i H v H' => ∃ T x y, v = .ref T ∧ H T = none ∧ H' = upd H T (.tup [x, y]) ∧ (∀ xs, SqK K ka H a xs → xs[i]? = some x) ∧ ∀ ys, SqK K kb H b ys → ys[i]? = some y,
    fun i H => ∃ xs ys : List V, SqK K ka H a xs ∧ SqK K kb H b ys ∧ i ≤ xs.length ∧ i ≤ ys.length ∧ (i = xs.length ∨ i = ys.length)⟩
theorem sep2 {z TI TO i1 i2 a b : Addr} (D : ZipApart z TI TO i1 i2 a b) : ZipSep2 z TI TO i1 i2 [i1, a] [i2, b] := by
  refine ⟨D.TIz, D.TOz, D.TITO, D.TIi1, by simp, ?_, ?_, D.TIi2, by simp, ?_, ?_, ?_, ?_⟩ <;> simp only [List.mem_cons, List.not_mem_nil, or_false, not_or]
  · exact ⟨D.i1z.symm, D.l1z.symm⟩
  · exact ⟨D.TOi1, D.l1TO.symm⟩
  · exact ⟨D.i2z.symm, D.l2z.symm⟩
  · exact ⟨D.TOi2, D.l2TO.symm⟩
  · exact ⟨D.i12, D.l2i1.symm⟩
  · exact ⟨D.i12.symm, D.l1i2.symm⟩
theorem turn_2 {P : Program} {w : World} {K : PySem.W.Frag} {elts : List Expr} {kk : Nat} {tpos : Pos} {ka kb : Bool} {a b z TI TO i1 i2 : Addr} (D : ZipApart z TI TO i1 i2 a b) :
    Turn P w K (.Tuple elts kk tpos) (It2 K ka kb a b) [z, TI, TO, i1, i2] z (fun i h => IsZip h z TI TO .none ∧ IsTupOf2 h TI (.ref i1) (.ref i2) ∧ (∃ x y, IsTupOf2 h TO x y) ∧ IsIt ka h i1 a i ∧ IsIt kb h i2 b i) where
  mem := List.mem_cons_self
  obj := fun i h ⟨hz, hTI, ⟨x, y, hTO⟩, h1, h2⟩ c hc => by
    simp only [List.mem_cons, List.not_mem_nil, or_false] at hc
    rcases hc with rfl | rfl | rfl | rfl | rfl
    · exact ⟨_, hz, fun v q => nomatch q⟩
    · exact ⟨_, hTI, fun v q => nomatch q⟩
    · exact ⟨_, hTO, fun v q => nomatch q⟩
    · exact h1.obj
    · exact h2.obj
  keep := fun i h h' ⟨hz, hTI, ⟨x, y, hTO⟩, h1, h2⟩ k =>
    ⟨k z (by simp) _ hz, k TI (by simp) _ hTI, ⟨x, y, k TO (by simp) _ hTO⟩, h1.at_ fun o q => k i1 (by simp) o q, h2.at_ fun o q => k i2 (by simp) o q⟩
  item := by
    intro X hP hw hK hc i pins s σ H E I hf ⟨hz, hTI, ⟨x0, y0, hTO⟩, h1, h2⟩ ⟨xs, ys, x, y, hqx, hqy, hx, hy⟩
    subst hP hw hK
    obtain ⟨its, rv, p, _⟩ := sq_at I hqx
    obtain ⟨its2, rv2, p2, _⟩ := sq_at I hqy
    obtain ⟨u, hu, ru⟩ := rv.get hx
    obtain ⟨u2, hu2, ru2⟩ := rv2.get hy
    have hzl : z < s.heap.objs.size := Heap.lt_size hz
    have hh : X.A.in1.handled = none := I.ok.hd hc
    refine wpAny_pyNext_zipD2_item (sep2 D) (draws_sq hh ka i1 a D.l1i1 its.toArray) (draws_sq hh kb i2 b D.l2i2 its2.toArray) hz hTI hTO ⟨h1, p⟩ ⟨h2, p2⟩ (at_lt (xs := its) hu) (at_lt (xs := its2) hu2)
      fun x1 x2 h' tk e1 e2 z' TO' s1 s2 hT hsz hk => ?_
    have e1 : its.toArray[i]? = some x1 := e1
    have e2 : its2.toArray[i]? = some x2 := e2
    rw [List.getElem?_toArray, hu] at e1
    rw [List.getElem?_toArray, hu2] at e2
    cases e1
    cases e2
    refine ⟨_, rfl, wpAny_letOwnedTupleGo_zip (s := { s with heap := h', toks := tk }) z' fun h'' z'' sb => ?_⟩
    have hT2 : h''.get? s.heap.objs.size = some { cls := .type "tuple", data := .seq #[u, u2] } := (sb.2 _ (Nat.ne_of_gt hzl)).trans hT
    have new : ObjOk X.prog X.w (upd H s.heap.objs.size (.tup [x, y])) h'' s.heap.objs.size (.tup [x, y]) :=
      ⟨by show 2 ≤ sizeLine; decide, [u, u2], .cons ru (.cons ru2 .nil), ⟨_, hT2, rfl, _, rfl⟩⟩
    have kk : ∀ c o, c ∉ [z, TI, TO, i1, i2] → s.heap.get? c = some o → h''.get? c = some o := fun c o hb q => by
      simp only [List.mem_cons, List.not_mem_nil, or_false, not_or] at hb
      exact (sb.2 c hb.1).trans (hk c o hb.1 hb.2.2.1 hb.2.2.2.1 hb.2.2.2.2 q)
    have I1 : Inv X pins σ (upd H s.heap.objs.size (.tup [x, y])) { s with heap := h'', toks := tk } := I.turnedNew (t' := tk) (ch := [z, TI, TO, i1, i2]) kk hf (Nat.le_refl _) new
    refine ⟨.ref s.heap.objs.size, _, I1, rfl, ⟨_, x, y, rfl, I.hok.fresh (Nat.le_refl _), rfl, fun l hl => by rw [sq_inj I hl hqx]; exact hx, fun l hl => by rw [sq_inj I hl hqy]; exact hy⟩, ⟨z'', ?_, ⟨u, u2, ?_⟩, ?_, ?_⟩, fun c hcm => ?_⟩
    · exact (sb.2 _ D.TIz).trans (hk _ _ D.TIz D.TITO D.TIi1 D.TIi2 hTI)
    · exact (sb.2 _ D.TOz).trans TO'
    · exact s1.1.at_ fun o q => (sb.2 _ D.i1z).trans q
    · exact s2.1.at_ fun o q => (sb.2 _ D.i2z).trans q
    · have hlt : c < s.heap.objs.size := by
        simp only [List.mem_cons, List.not_mem_nil, or_false] at hcm
        rcases hcm with q | q | q | q | q
        · rw [q]; exact hzl
        · rw [q]; exact Heap.lt_size hTI
        · rw [q]; exact Heap.lt_size hTO
        · rw [q]; obtain ⟨_, e1, _⟩ := h1.obj; exact Heap.lt_size e1
        · rw [q]; obtain ⟨_, e2, _⟩ := h2.obj; exact Heap.lt_size e2
      rw [upd_ne (Nat.ne_of_lt hlt)]
      exact (hf c hcm).1
  done := by
    intro X hP hw hK hc i pins s σ H E I hf ⟨hz, hTI, ⟨x0, y0, hTO⟩, h1, h2⟩ ⟨xs, ys, hqx, hqy, hl1, hl2, hend⟩
    subst hP hw hK
    obtain ⟨its, rv, p, _⟩ := sq_at I hqx
    obtain ⟨its2, rv2, p2, _⟩ := sq_at I hqy
    have l1 := rv.length
    have l2 := rv2.length
    have hh : X.A.in1.handled = none := I.ok.hd hc
    refine wpAny_pyNext_zipD2_end (sep2 D) (draws_sq hh ka i1 a D.l1i1 its.toArray) (draws_sq hh kb i2 b D.l2i2 its2.toArray) hz hTI hTO ⟨h1, p⟩ ⟨h2, p2⟩ (by rw [List.size_toArray]; omega) (by rw [List.size_toArray]; omega)
      (by rw [List.size_toArray, List.size_toArray]; omega) fun h' tk hk => ⟨rfl, I.turnedL (t' := tk) (ch := [z, TI, TO, i1, i2]) (fun c o hb q => ?_) hf⟩
    simp only [List.mem_cons, List.not_mem_nil, or_false, not_or] at hb
    exact hk c o hb.1 hb.2.2.1 hb.2.2.2.1 hb.2.2.2.2 q
  self := fun A i s Q E st h => wpAny_pyIter_zip st.1 h

/-! ### what a pair of data gives -/
def zipD (xs ys : List D) : List D := List.zipWith (fun a b => .tup [a, b]) xs ys
theorem zipD_get {xs ys : List D} {i : Nat} {d : D} (h : (zipD xs ys)[i]? = some d) : ∃ x y, xs[i]? = some x ∧ ys[i]? = some y ∧ d = .tup [x, y] := by
  unfold zipD at h
  rw [List.getElem?_zipWith] at h
  split at h
  · rename_i x y e1 e2
    cases h
    exact ⟨x, y, e1, e2, rfl⟩
  · cases h
/-- the kind of a sequence -/
theorem seq_kind {g : G} {H : Hp} {as : Lay} {M : Mem} {d : D} {xs : List D} {v : V} (m : MemR g H as M) (e : seqOf M d = some xs) (r : RelD g H as d v) :
    ∃ k a, v = .ref a ∧ ∀ (H' : Hp) (as' : Lay) (M' : Mem), Keeps H as H' as' → MemR g H' as' M' → (∀ j ∈ keepOf d, M'[j]? = M[j]?) → ∃ vs, SqK g.K k H' a vs ∧ RelDs g H' as' xs vs := by
  rcases seqOf_cases e with h | h
  · obtain ⟨a, vs, rfl, h1, q1⟩ := lst_at m h r
    refine ⟨true, a, rfl, fun H' as' M' k m' ok => ?_⟩
    obtain ⟨a', ws, e', h2, q2⟩ := k.lst (r := ⟨xs, keepOf d, M⟩) h (fun i z => by subst z; simp [keepOf]) m' ok r
    cases e'
    exact ⟨ws, .inl h2, q2⟩
  · replace r := tup_at h r
    have r0 := r
    unfold RelD at r
    obtain ⟨a, vs, rfl, h1, q1⟩ := r
    refine ⟨false, a, rfl, fun H' as' M' k m' ok => ?_⟩
    have r2 := RelD.mono k _ _ r0
    unfold RelD at r2
    obtain ⟨a', ws, e', h2, q2⟩ := r2
    cases e'
    exact ⟨ws, h2.sq, q2⟩
def eZip (a b : Ev) : EvI := fun ρ M => (a ρ M).bind fun x M1 => (b ρ M1).bind fun y M2 => outS M2 (match seqOf M2 x, seqOf M2 y with
  | some xs, some ys => some ⟨zipD xs ys, keepOf x ++ keepOf y, M2⟩
  | _, _ => none)
section
variable {X : Cx} {C : Cl} {W : WX} {a b : Expr} {ea eb : Ev}
theorem v_zip {elts : List Expr} {kk : Nat} {tpos p pos : Pos} (ha : VE X C W a ea) (hb : VE X C W b eb) (hm : X.mg "zip" = none) (hg : Gl X "zip" := by rfl) (s2 : starEach [b] X.env = (false, eval b X.env) :: starEach [] X.env := by rfl)
    (hs : starEach [a, b] X.env = (false, eval a X.env) :: starEach [b] X.env := by rfl) (hpl : (backTo pos (starEach [b] X.env)).any (·.1) = false := by rfl) : VI X C W (.Tuple elts kk tpos) (.Call (.Name "zip" p) [a, b] [] pos) (eZip ea eb) := by
  refine ⟨fun pins s σ H R I h => ?_⟩
  have hA : PA X [a, b] (tCons (tE ⟨X.K, C⟩ W ea) (tCons (tE ⟨X.K, C⟩ W eb) tNil)) := pa_cons ha (pa_cons hb pa_nil s2) hs
  have h2 : tCons (tE ⟨X.K, C⟩ W ea) (tCons (tE ⟨X.K, C⟩ W eb) tNil) σ H fun vs H2 => ∃ as M x y v u sr, vs = [v, u] ∧ MemR ⟨X.K, C⟩ H2 as M ∧ RelD ⟨X.K, C⟩ H2 as x v ∧ RelD ⟨X.K, C⟩ H2 as y u ∧
      (match seqOf M x, seqOf M y with | some xs, some ys => some ⟨zipD xs ys, keepOf x ++ keepOf y, M⟩ | _, _ => none) = some sr ∧ ∀ J, IterOk ⟨X.K, C⟩ H2 as sr J → R J H2 := by
    refine tG_mono (tG_bind (R := RelD ⟨X.K, C⟩) h) fun v H1 ⟨ρ, as1, M1, d, e1, m1, r1, q1⟩ => ?_
    refine ⟨ρ, M1, as1, e1, m1, ?_⟩
    refine (Fin.bind (R := RelD ⟨X.K, C⟩) q1).mono fun u H2 ⟨as2, M2, d2, m2, x2, r2, q2⟩ => ?_
    obtain ⟨sr, e, q⟩ := Fin.outS q2 m2
    exact ⟨as2, M2, d, d2, v, u, sr, rfl, m2, r1.ext x2, r2, e, q⟩
  refine Call_ (ld_blt I hg hm PyProof.Rows.boot_zip (PyProof.Rows.callWith_type1 (thn (hA.run pos pins s σ H _ I h2) fun us s1 ⟨vs, H1, I1, r1, q1⟩ => ?_) hs hpl))
  obtain ⟨as, M, x, y, v, u, sr, rfl, m, rx, ry, e, q⟩ := q1
  split at e
  · rename_i xs ys ex ey
    cases e
    obtain ⟨ka, pa, rfl, fa⟩ := seq_kind m ex rx
    obtain ⟨kb, pb, rfl, fb⟩ := seq_kind m ey ry
    obtain ⟨u1, u2, rfl, t1, t2⟩ := vals2 r1
    cases t1
    cases t2
    obtain ⟨vs, hvs, _⟩ := fa H1 as M (Ext.refl _ _).keeps m fun _ _ => rfl
    obtain ⟨ws, hws, _⟩ := fb H1 as M (Ext.refl _ _).keeps m fun _ _ => rfl
    obtain ⟨its, rv, p1, _⟩ := sq_at I1 hvs
    obtain ⟨its2, rv2, p2, _⟩ := sq_at I1 hws
    refine zip_begins2 (begins_sq ka pa its.toArray) (begins_sq kb pb its2.toArray) p1 p2 fun h' hz hTI hTO g1 g2 hsz hk => wpAny_pyIter_zip hz ?_
    have I2 : Inv X pins σ H1 { s1 with heap := h' } := I1.kept (t' := s1.toks) hk
    refine ⟨s1.heap.objs.size + 4, [s1.heap.objs.size + 4, s1.heap.objs.size + 2, s1.heap.objs.size + 3, s1.heap.objs.size, s1.heap.objs.size + 1], _, _, H1, rfl, I2,
      turn_2 (PySem.W.ktu_apart s1.heap.objs.size pa pb p1.lt p2.lt), ⟨hz, hTI, ⟨_, _, hTO⟩, isIt_new g1, isIt_new g2⟩, fun c hcm => ?_, q _ ?_⟩
    · have hle : s1.heap.objs.size ≤ c := by
        simp only [List.mem_cons, List.not_mem_nil, or_false] at hcm
        rcases hcm with z | z | z | z | z
        · rw [z]; exact Nat.le_add_right _ _
        · rw [z]; exact Nat.le_add_right _ _
        · rw [z]; exact Nat.le_add_right _ _
        · rw [z]; exact Nat.le_refl _
        · rw [z]; exact Nat.le_add_right _ _
      exact I1.fpOk hle (I1.hok.fresh hle)
    · refine ⟨fun i H' as' M' d k m' ok hx => ?_, fun H' as' M' k m' ok => ?_⟩
      · obtain ⟨dx, dy, e1, e2, rfl⟩ := zipD_get hx
        obtain ⟨vs, hvs, q1⟩ := fa H' as' M' k m' fun j hj => ok j (List.mem_append_left _ hj)
        obtain ⟨ws, hws, q2⟩ := fb H' as' M' k m' fun j hj => ok j (List.mem_append_right _ hj)
        obtain ⟨v1, ev1, rv1⟩ := q1.get e1
        obtain ⟨w1, ew1, rw1⟩ := q2.get e2
        refine ⟨⟨vs, ws, v1, w1, hvs, hws, ev1, ew1⟩, fun z H2 ⟨T, x, y, ez, hT, eH, f1, f2⟩ => ?_⟩
        subst ez eH
        cases (f1 vs hvs).symm.trans ev1
        cases (f2 ws hws).symm.trans ew1
        exact ⟨m'.laid hT, Ext.laid hT, relD_tup upd_same (m'.fresh hT) (relDs_cons.mpr ⟨_, _, rfl, rv1.ext (Ext.laid hT), RelDs.one (rw1.ext (Ext.laid hT))⟩)⟩
      · obtain ⟨vs, hvs, q1⟩ := fa H' as' M' k m' fun j hj => ok j (List.mem_append_left _ hj)
        obtain ⟨ws, hws, q2⟩ := fb H' as' M' k m' fun j hj => ok j (List.mem_append_right _ hj)
        have l1 := q1.length
        have l2 := q2.length
        refine ⟨vs, ws, hvs, hws, ?_, ?_, ?_⟩
        all_goals (show _; simp only [zipD, List.length_zipWith]; omega)
  · cases e
end
/-! ### enumerate -/
def ItE (K : PySem.W.Frag) (ka : Bool) (a : Addr) : It :=
  ⟨fun i H => ∃ (xs : List V) (x : V), SqK K ka H a xs ∧ xs[i]? = some x, fun i H v H' => ∃ T x, v = .ref T ∧ H T = none ∧ H' = upd H T (.tup [.int (i : Nat), x]) ∧ ∀ xs, SqK K ka H a xs → xs[i]? = some x,
    fun i H => ∃ xs : List V, SqK K ka H a xs ∧ xs.length = i⟩
theorem turn_E {P : Program} {w : World} {K : PySem.W.Frag} {elts : List Expr} {kk : Nat} {tpos : Pos} {ka : Bool} {a e it : Addr} (hae : a ≠ e) (hai : a ≠ it) (hei : e ≠ it) :
    Turn P w K (.Tuple elts kk tpos) (ItE K ka a) [e, it] e (fun i h => (∃ old, IsEnum h e it ((i : Nat) : Int) old) ∧ IsIt ka h it a i) where
  mem := List.mem_cons_self
  obj := fun i h ⟨⟨old, he⟩, hi⟩ c hc => by
    simp only [List.mem_cons, List.not_mem_nil, or_false] at hc
    rcases hc with rfl | rfl
    · exact ⟨_, he, fun v q => nomatch q⟩
    · exact hi.obj
  keep := fun i h h' ⟨⟨old, he⟩, hi⟩ k => ⟨⟨old, k e (by simp) _ he⟩, hi.at_ fun o q => k it (by simp) o q⟩
  item := by
    intro X hP hw hK hc i pins s σ H E I hf ⟨⟨old, he⟩, hit⟩ ⟨xs, x, hq, hx⟩
    subst hP hw hK
    obtain ⟨its, rv, p, _⟩ := sq_at I hq
    obtain ⟨u, hu, ru⟩ := rv.get hx
    have hel : e < s.heap.objs.size := Heap.lt_size he
    have hh : X.A.in1.handled = none := I.ok.hd hc
    have nf : e ∉ [it, a] := by simp [hei, Ne.symm hae]
    refine wpAny_pyNext_enum_itemC (draws_sq hh ka it a hai its.toArray) he ⟨hit, p⟩ (at_lt (xs := its) hu) hei nf fun x1 h' tk e1 ho s1 hT hsz hk => ?_
    have e1 : its.toArray[i]? = some x1 := e1
    rw [List.getElem?_toArray, hu] at e1
    cases e1
    refine ⟨_, rfl, wpAny_letOwnedTupleGo_enum (s := { s with heap := h', toks := tk + 1 }) ho fun h'' he' sb => ?_⟩
    have hT2 : h''.get? s.heap.objs.size = some { cls := .type "tuple", data := .seq #[.int i tk, u] } := (sb.2 _ (Nat.ne_of_gt hel)).trans hT
    have new : ObjOk X.prog X.w (upd H s.heap.objs.size (.tup [.int (i : Nat), x])) h'' s.heap.objs.size (.tup [.int (i : Nat), x]) :=
      ⟨by show 2 ≤ sizeLine; decide, [.int i tk, u], .cons ⟨_, rfl⟩ (.cons ru .nil), ⟨_, hT2, rfl, _, rfl⟩⟩
    have kk : ∀ c o, c ∉ [e, it] → s.heap.get? c = some o → h''.get? c = some o := fun c o hb q => by
      simp only [List.mem_cons, List.not_mem_nil, or_false, not_or] at hb
      exact (sb.2 c hb.1).trans (hk c o hb.1 hb.2 q)
    have I1 : Inv X pins σ (upd H s.heap.objs.size (.tup [.int (i : Nat), x])) { s with heap := h'', toks := tk + 1 } := I.turnedNew (ch := [e, it]) kk hf (Nat.le_refl _) new
    refine ⟨.ref s.heap.objs.size, _, I1, rfl, ⟨_, x, rfl, I.hok.fresh (Nat.le_refl _), rfl, fun ys hy => by rw [sq_inj I hy hq]; exact hx⟩, ⟨⟨u, ?_⟩, s1.1.at_ fun o q => (sb.2 it (Ne.symm hei)).trans q⟩, fun c hcm => ?_⟩
    · have e1 : ((i + 1 : Nat) : Int) = (i : Int) + 1 := by omega
      rw [e1]; exact he'
    · have hlt : c < s.heap.objs.size := by
        simp only [List.mem_cons, List.not_mem_nil, or_false] at hcm
        rcases hcm with q | q
        · rw [q]; exact hel
        · rw [q]; obtain ⟨_, e1, _⟩ := hit.obj; exact Heap.lt_size e1
      rw [upd_ne (Nat.ne_of_lt hlt)]
      exact (hf c hcm).1
  done := by
    intro X hP hw hK hc i pins s σ H E I hf ⟨⟨old, he⟩, hit⟩ ⟨xs, hq, hx⟩
    subst hP hw hK
    obtain ⟨its, rv, p, _⟩ := sq_at I hq
    have l1 := rv.length
    have hh : X.A.in1.handled = none := I.ok.hd hc
    obtain ⟨f0, f1, f2, f3, f4, f5⟩ := hf it (by simp)
    have en : i = its.toArray.size := by rw [List.size_toArray]; omega
    subst en
    exact wpAny_pyNext_enum_endD (draws_sq hh ka it a hai its.toArray) he ⟨hit, p⟩ fun h' eb => ⟨rfl, I.turned (t' := s.toks) (fun b o hb q => eb b o hb q) f0 f1 f3 f4 f5⟩
  self := fun A i s Q E st h => let ⟨⟨_, he⟩, _⟩ := st; wpAny_pyIter_enum he h
theorem meets_enum1 {v : Value} {o : Obj} {H : Heap → Prop} (B : Begins v o H) :
    Meets (Builtin.«enumerate.__new__» ⟨[.type "enumerate", v], []⟩) (fun _ R s => H s.heap ∧
      R (.ok (.ret (.ref (s.heap.push o).objs.size))) { s with heap := (s.heap.push o).push { cls := .type "enumerate", data := .fields #[.none, .bool false, .ref s.heap.objs.size, rawInt 0, .none, .none] } }) :=
  .of_wp fun prog w A R s ⟨h1, h⟩ => by
    obtain ⟨hp, ge, dr, tk, os⟩ := s
    have hsub := sub_enumerate
    have qi : ∀ {A' : Around} {E : Value → Shared → Prop} {Q : Value → Shared → Prop}, Q (.ref hp.objs.size) ⟨hp.push o, ge, dr, tk, os⟩ → wpAny (model prog w) A' (pyIter v) Q E ⟨hp, ge, dr, tk, os⟩ :=
      fun q => B.iter prog w _ _ ⟨hp, ge, dr, tk, os⟩ _ h1 q
    wp_walk using qi
    refine wpAny_stack_any fun st => wpAny_pure ?_
    split
    · rename_i c _ _ _ _ _
      cases (c == Value.type "enumerate") <;> (wp_walk using qi; exact ⟨_, rfl, h⟩)
    · wp_walk using qi
      exact ⟨_, rfl, h⟩
theorem enum_new {prog : Program} {w : World} {A : Around} {E : Value → Shared → Prop} {s : Shared} {v : Value} {o : Obj} {H : Heap → Prop} {Q : Value → Shared → Prop} (B : Begins v o H) (h1 : H s.heap)
    (h : ∀ h', IsEnum h' (s.heap.objs.size + 1) s.heap.objs.size 0 .none → h'.get? s.heap.objs.size = some o → (∀ b o, s.heap.get? b = some o → h'.get? b = some o) → Q (.ref (s.heap.objs.size + 1)) { s with heap := h' }) :
    wpAny (model prog w) A (call (.type "enumerate") [v]) Q E s := by
  refine callType_new F.called_enumerate (by decide) (F.typeCall_enumerate_1 _) (F.newCall_enumerate_1 _) (fun obj => F.args_object_init_2 obj _) F.entry_enumerate_new (meets_enum1 B) ⟨h1, ?_⟩
  have hz : (s.heap.push o).objs.size = s.heap.objs.size + 1 := Heap.size_push ..
  show _ ∧ _
  rw [hz]
  have he := Heap.get?_push_size (s.heap.push o) (o := { cls := .type "enumerate", data := .fields #[.none, .bool false, .ref s.heap.objs.size, rawInt 0, .none, .none] }) rfl
  rw [hz] at he
  exact ⟨⟨_, he, rfl⟩, h _ he (Heap.get?_push_of_some _ (Heap.get?_push_size _ B.free)) fun b ob x => Heap.get?_push_of_some _ (Heap.get?_push_of_some _ x)⟩
def enumD (xs : List D) : List D := (List.range xs.length).zipWith (fun i a => .tup [.int (i : Nat), a]) xs
theorem enumD_get {xs : List D} {i : Nat} {d : D} (h : (enumD xs)[i]? = some d) : ∃ x, xs[i]? = some x ∧ d = .tup [.int (i : Nat), x] := by
  unfold enumD at h
  rw [List.getElem?_zipWith] at h
  split at h
  · rename_i j y e1 e2
    cases h
    rw [List.getElem?_range (at_lt e2)] at e1
    cases e1
    exact ⟨y, e2, rfl⟩
  · cases h
theorem enumD_len (xs : List D) : (enumD xs).length = xs.length := by simp [enumD]
def eEnum (a : Ev) : EvI := fun ρ M => (a ρ M).bind fun x M1 => outS M1 ((seqOf M1 x).map fun xs => ⟨enumD xs, keepOf x, M1⟩)
section
variable {X : Cx} {C : Cl} {W : WX} {a b : Expr} {ea eb : Ev}
theorem v_enum {elts : List Expr} {kk : Nat} {tpos p pos : Pos} (ha : VE X C W a ea) (hm : X.mg "enumerate" = none) (hg : Gl X "enumerate" := by rfl) (hs : starEach [a] X.env = (false, eval a X.env) :: starEach [] X.env := by rfl) : VI X C W (.Tuple elts kk tpos) (.Call (.Name "enumerate" p) [a] [] pos) (eEnum ea) := by
  refine ⟨fun pins s σ H R I h => ?_⟩
  have hA : PA X [a] (tCons (tE ⟨X.K, C⟩ W ea) tNil) := pa_cons ha pa_nil hs
  have h2 : tCons (tE ⟨X.K, C⟩ W ea) tNil σ H fun vs H2 => ∃ as M x v sr, vs = [v] ∧ MemR ⟨X.K, C⟩ H2 as M ∧ RelD ⟨X.K, C⟩ H2 as x v ∧ ((seqOf M x).map fun xs => (⟨enumD xs, keepOf x, M⟩ : Src)) = some sr ∧ ∀ J, IterOk ⟨X.K, C⟩ H2 as sr J → R J H2 := by
    refine tG_mono (tG_bind (R := RelD ⟨X.K, C⟩) h) fun v H1 ⟨ρ, as1, M1, d, e1, m1, r1, q1⟩ => ?_
    obtain ⟨sr, e, q⟩ := Fin.outS q1 m1
    exact ⟨as1, M1, d, v, sr, rfl, m1, r1, e, q⟩
  refine Call_ (ld_blt I hg hm boot_enumerate (PyProof.Rows.callWith_type1 (thn (hA.run pos pins s σ H _ I h2) fun us s1 ⟨vs, H1, I1, r1, q1⟩ => ?_) hs rfl))
  obtain ⟨as, M, x, v, sr, rfl, m, rx, e, q⟩ := q1
  obtain ⟨xs, ex, rfl⟩ := Option.map_eq_some_iff.mp e
  obtain ⟨ka, pa, rfl, fa⟩ := seq_kind m ex rx
  obtain ⟨u1, rfl, t1⟩ := vals1 r1
  cases t1
  obtain ⟨vs, hvs, _⟩ := fa H1 as M (Ext.refl _ _).keeps m fun _ _ => rfl
  obtain ⟨its, rv, p1, _⟩ := sq_at I1 hvs
  have hlt := p1.lt
  refine enum_new (begins_sq ka pa its.toArray) p1 fun h' he g1 hk => wpAny_pyIter_enum he ?_
  have I2 : Inv X pins σ H1 { s1 with heap := h' } := I1.kept (t' := s1.toks) hk
  refine ⟨s1.heap.objs.size + 1, [s1.heap.objs.size + 1, s1.heap.objs.size], _, _, H1, rfl, I2, turn_E (ka := ka) (a := pa) (Nat.ne_of_lt (Nat.lt_succ_of_lt hlt)) (Nat.ne_of_lt hlt) (Nat.succ_ne_self _), ⟨⟨.none, he⟩, isIt_new g1⟩, fun c hcm => ?_, q _ ?_⟩
  · have hle : s1.heap.objs.size ≤ c := by
      simp only [List.mem_cons, List.not_mem_nil, or_false] at hcm
      rcases hcm with z | z
      · rw [z]; exact Nat.le_add_right _ _
      · rw [z]; exact Nat.le_refl _
    exact I1.fpOk hle (I1.hok.fresh hle)
  · refine ⟨fun i H' as' M' d k m' ok hx => ?_, fun H' as' M' k m' ok => ?_⟩
    · obtain ⟨dx, e1, rfl⟩ := enumD_get hx
      obtain ⟨vs, hvs, q1⟩ := fa H' as' M' k m' ok
      obtain ⟨v1, ev1, rv1⟩ := q1.get e1
      refine ⟨⟨vs, v1, hvs, ev1⟩, fun z H2 ⟨T, x, ez, hT, eH, f1⟩ => ?_⟩
      subst ez eH
      cases (f1 vs hvs).symm.trans ev1
      exact ⟨m'.laid hT, Ext.laid hT, relD_tup upd_same (m'.fresh hT) (relDs_cons.mpr ⟨_, _, rfl, by unfold RelD; rfl, RelDs.one (rv1.ext (Ext.laid hT))⟩)⟩
    · obtain ⟨vs, hvs, q1⟩ := fa H' as' M' k m' ok
      exact ⟨vs, hvs, by rw [q1.length]; exact (enumD_len xs).symm⟩
/-! ### range -/
def intsD (lo : Int) (n : Nat) : List D := (List.range n).map fun k => .int (lo + (k : Nat))
theorem intsD_get {lo : Int} {n i : Nat} {d : D} (h : (intsD lo n)[i]? = some d) : i < n ∧ d = .int (lo + (i : Nat)) := by
  have hl := at_lt h
  simp only [intsD, List.length_map, List.length_range] at hl
  simp only [intsD, List.getElem?_map, List.getElem?_range hl] at h
  cases h
  exact ⟨hl, rfl⟩
theorem iter_range {g : G} {H : Hp} {as : Lay} {M : Mem} (lo : Int) (n : Nat) : IterOk g H as ⟨intsD lo n, [], M⟩ (Itr lo n) := by
  refine ⟨fun i H' as' M' d k m' ok hx => ?_, fun H' as' M' k m' ok => by simp [intsD, Itr]⟩
  obtain ⟨hi, rfl⟩ := intsD_get hx
  refine ⟨hi, fun z H2 ⟨eH, ez⟩ => ?_⟩
  subst ez eH
  exact ⟨m', Ext.refl _ _, by unfold RelD; rfl⟩
def fit62 (i : Int) : Bool := decide (-(2 ^ 62) ≤ i ∧ i < 2 ^ 62)
def rngS (xs : List D) (M : Mem) : Option Src := match xs with
  | [.int j] => if fit62 j = true then some ⟨intsD 0 j.toNat, [], M⟩ else none
  | [.int i, .int j] => if fit62 i = true ∧ fit62 j = true then some ⟨intsD i (j - i).toNat, [], M⟩ else none
  | _ => none
def eRng (es : List Ev) : EvI := fun ρ M => (aL es ρ M).bind fun xs M1 => outS M1 (rngS xs M1)
theorem rng_core {evs : List Ev} {σ : L2.St} {H : Hp} {R : It → Hp → Prop} (h : tI ⟨X.K, C⟩ W (eRng evs) σ H R) : tA ⟨X.K, C⟩ W (aL evs) σ H fun vs H1 => ∃ (ds : List D) (M : Lay × Mem), RelDs ⟨X.K, C⟩ H1 M.1 ds vs ∧ ds.length = evs.length ∧ ∃ sr, rngS ds M.2 = some sr ∧ ∀ J, IterOk ⟨X.K, C⟩ H1 M.1 sr J → R J H1 := by
  refine tG_mono (tA_len h) fun vs H1 ⟨ρ, as1, M1, ds, e1, m1, r1, l1, q1⟩ => ?_
  obtain ⟨sr, e, q⟩ := Fin.outS q1 m1
  exact ⟨ds, (as1, M1), r1, l1, sr, e, q⟩
theorem v_rng1 {tg e : Expr} {ev : Ev} {p pos : Pos} (ha : VA X C W [e] (aL [ev])) (hm : X.mg "range" = none) (hg : Gl X "range" := by rfl) (hs : starEach [e] X.env = [(false, eval e X.env)] := by rfl) : VI X C W tg (.Call (.Name "range" p) [e] [] pos) (eRng [ev]) := by
  refine PI.imp (pi_range1 hg hm ha hs) fun σ H R h => tG_mono (rng_core h) fun vs H1 ⟨ds, M, r, l, sr, e, q⟩ => ?_
  unfold rngS at e
  split at e
  · split at e
    · rename_i j hj
      cases e
      obtain ⟨v, rfl, r1⟩ := one_of r
      unfold RelD at r1
      subst r1
      have hj := of_decide_eq_true hj
      exact ⟨j, rfl, hj.1, hj.2, q _ (iter_range 0 j.toNat)⟩
    · cases e
  · simp at l
  · cases e
theorem v_rng2 {tg e e2 : Expr} {ev ev2 : Ev} {p pos : Pos} (ha : VA X C W [e, e2] (aL [ev, ev2])) (hm : X.mg "range" = none) (hg : Gl X "range" := by rfl) (hs : starEach [e, e2] X.env = [(false, eval e X.env), (false, eval e2 X.env)] := by rfl) (hs2 : starEach [e2] X.env = [(false, eval e2 X.env)] := by rfl) :
    VI X C W tg (.Call (.Name "range" p) [e, e2] [] pos) (eRng [ev, ev2]) := by
  refine PI.imp (pi_range2 hg hm ha hs hs2) fun σ H R h => tG_mono (rng_core h) fun vs H1 ⟨ds, M, r, l, sr, e, q⟩ => ?_
  unfold rngS at e
  split at e
  · simp at l
  · split at e
    · rename_i i j hj
      cases e
      obtain ⟨v, w, rfl, r1, r2⟩ := two_of r
      obtain ⟨rfl, rfl⟩ := int2 r1 r2
      have h1 := of_decide_eq_true hj.1
      have h2 := of_decide_eq_true hj.2
      exact ⟨i, j, rfl, ⟨h1.1, h1.2, h2.1, h2.2⟩, q _ (iter_range i (j - i).toNat)⟩
    · cases e
  · cases e
end
end Mk
end

section
set_option maxHeartbeats 4000000
/-! Mk9: list comprehensions of one and of two clauses. -/
open PySem PySem.Spec PyProof.Rows L2
namespace Mk
/-- no exception may leave -/
def noX {α : Type} : Res α → Res α
  | .ok a M => .ok a M
  | _ => .err
theorem noX_ok {α : Type} {r : Res α} {a : α} {M : Mem} (h : noX r = .ok a M) : r = .ok a M := by
  cases r with
  | ok b M' => exact h
  | exc x M' => cases h
  | err => cases h
theorem bind_ok {α β : Type} {r : Res α} {f : α → Mem → Res β} {b : β} {M : Mem} (h : r.bind f = .ok b M) : ∃ a M1, r = .ok a M1 ∧ f a M1 = .ok b M := by
  cases r with
  | ok a M1 => exact ⟨a, M1, rfl, h⟩
  | exc x M' => cases h
  | err => cases h
def wipeE (ρ : Sl) : List Nat → Sl
  | [] => ρ
  | v :: vs => (wipeE ρ vs).set v none
theorem wipeE_len (ρ : Sl) : ∀ vs : List Nat, (wipeE ρ vs).length = ρ.length
  | [] => rfl
  | v :: vs => by unfold wipeE; rw [List.length_set, wipeE_len ρ vs]
theorem wipeE_some {ρ : Sl} {i : Nat} {d : D} : ∀ {vs : List Nat}, (wipeE ρ vs)[i]? = some (some d) → ρ[i]? = some (some d) ∧ i ∉ vs
  | [], h => ⟨h, by simp⟩
  | v :: vs, h => by
    unfold wipeE at h
    by_cases e : v = i
    · subst e
      have hl := at_lt h
      rw [List.length_set] at hl
      rw [List.getElem?_set_self hl] at h
      cases h
    · rw [List.getElem?_set_ne e] at h
      obtain ⟨h1, h2⟩ := wipeE_some h
      exact ⟨h1, fun z => (List.mem_cons.mp z).elim (fun z => e z.symm) h2⟩
theorem EnvR.wipe {g : G} {H : Hp} {as : Lay} {ρ : Sl} {σ : L2.St} (h : EnvR g H as ρ σ) (vs : List Nat) (hx : g.C.xs = []) : EnvR g H as (wipeE ρ vs) (L2.wipe σ vs) := by
  refine ⟨by rw [wipeE_len, wipe_length]; exact h.len, fun i d e => ?_, fun q hq => (by rw [hx] at hq; cases hq), h.xfs⟩
  obtain ⟨e1, n⟩ := wipeE_some e
  obtain ⟨v, e2, r⟩ := h.has i d e1
  exact ⟨v, by rw [wipe_at, if_neg n]; exact e2, r⟩
theorem EnvR.mono {g : G} {H H' : Hp} {as as' : Lay} {ρ : Sl} {σ : L2.St} (h : EnvR g H as ρ σ) (x : Keeps H as H' as') : EnvR g H' as' ρ σ :=
  ⟨h.len, fun i d e => let ⟨v, e', r⟩ := h.has i d e; ⟨v, e', RelD.mono x _ _ r⟩, h.raw, fun q hq => let ⟨ws, e, o, r⟩ := h.xfs q hq; ⟨ws, (x.out _ _ e (fun _ z => by cases z) o).1, (x.out _ _ e (fun _ z => by cases z) o).2, r.mono x⟩⟩
theorem wipe_wipe (σ : L2.St) (vs : List Nat) : L2.wipe (L2.wipe σ vs) vs = L2.wipe σ vs := by
  apply List.ext_getElem?
  intro i
  rw [wipe_at, wipe_at, wipe_length]
  split
  · rfl
  · rfl
open Classical in
/-- [elt for t in items if test] -/
noncomputable def comp (ok : Mem → Prop) (t : Tg) (test : EvT) (elt : Ev) (ρw : Sl) : List D → Mem → Res (List D)
  | [], M => if ok M then .ok [] M else .err
  | d :: ds, M => if ok M then match t.set d ρw M with
    | none => .err
    | some ρ1 => (noX (test ρ1 M)).bind fun b M1 => if b = true then (noX (elt ρ1 M1)).bind fun y M2 => (comp ok t test elt ρw ds M2).bind fun ys M3 => .ok (y :: ys) M3 else comp ok t test elt ρw ds M1
    else .err
noncomputable def eLc (it : EvI) (t : Tg) (own : List Nat) (test : EvT) (elt : Ev) : Ev := fun ρ M => (it ρ M).bind fun src M1 =>
  if src.items.length ≤ lim then (match comp src.ok t test elt (wipeE ρ own) src.items M1 with
    | .ok ys M2 => .ok (.lst ys) M2
    | _ => .err) else .err
noncomputable def eLcF (fin : List D → Mem → Res D) (it : EvI) (t : Tg) (own : List Nat) (test : EvT) (elt : Ev) : Ev := fun ρ M => (it ρ M).bind fun src M1 =>
  if src.items.length ≤ lim then (match comp src.ok t test elt (wipeE ρ own) src.items M1 with
    | .ok ys M2 => fin ys M2
    | _ => .err) else .err
noncomputable def eLcN (it : EvI) (t : Tg) (own : List Nat) (test : EvT) (elt : Ev) : Ev := eLcF (fun ys M => .ok (.ref M.length) (M ++ [O.lst ys])) it t own test elt
/-- no exception is wished for -/
abbrev W0 : WX := fun _ _ _ _ => False
/-- where a list at D grows: what stands of the base -/
structure Grow (g : G) (H1 : Hp) (as1 : Lay) (D : Addr) (H : Hp) (as : Lay) (M : Mem) (vs : List V) (ys : List Mk.D) : Prop where
  ext : Ext H1 as1 H as
  mem : MemR g H (as.cover D) M
  at_ : H D = some (.lst vs)
  rel : RelDs g H (as.cover D) ys vs
theorem Lay.covered {as as2 : Lay} {H H' : Hp} {D : Addr} (x : Ext H (as.cover D) H' as2) : ∃ as', as2 = as'.cover D ∧ Ext H as H' as' := by
  obtain ⟨p, h, k⟩ := x
  refine ⟨⟨as2.mu, as.hid⟩, ?_, p, rfl, k⟩
  cases as2
  simp only [Lay.cover] at h ⊢
  rw [h]
theorem Grow.start {g : G} {H1 : Hp} {as1 : Lay} {M : Mem} {D : Addr} (m : MemR g H1 as1 M) (h : H1 D = none) : Grow g H1 as1 D (upd H1 D (.lst [])) as1 M [] [] :=
  ⟨Ext.laid h, m.cover h, upd_same, relDs_nil.mpr rfl⟩
theorem Grow.keeps {g : G} {H1 : Hp} {as1 : Lay} {M : Mem} {D : Addr} {H : Hp} {as : Lay} {vs : List V} {ys : List Mk.D} (h : H1 D = none) (x : Grow g H1 as1 D H as M vs ys) : Keeps H1 as1 H (as.cover D) :=
  ⟨fun i a e => x.ext.get e, fun a o e nt n => ⟨(x.ext.keep a o e nt n.1).1, (x.ext.keep a o e nt n.1).2, fun z => by
    rcases List.mem_cons.mp z with z | z
    · exact ne_of_none e h z
    · rw [x.ext.hid] at z; exact n.2 z⟩⟩
theorem Grow.step {g : G} {H1 : Hp} {as1 : Lay} {M M' : Mem} {D : Addr} {H H' : Hp} {as as2 : Lay} {vs : List V} {ys : List Mk.D} (x : Grow g H1 as1 D H as M vs ys) (m : MemR g H' as2 M') (e : Ext H (as.cover D) H' as2) : ∃ as', as2 = as'.cover D ∧ Grow g H1 as1 D H' as' M' vs ys := by
  obtain ⟨as', rfl, e'⟩ := Lay.covered e
  have np := (x.mem.hide D List.mem_cons_self).1
  exact ⟨as', rfl, x.ext.trans e', m, (e.keep D _ x.at_ (by intro _ z; cases z) np).1, x.rel.ext e⟩
theorem Grow.add {g : G} {H1 : Hp} {as1 : Lay} {M : Mem} {D : Addr} {H : Hp} {as : Lay} {vs : List V} {ys : List Mk.D} {y : Mk.D} {v : V} (h : H1 D = none) (x : Grow g H1 as1 D H as M vs ys) (r : RelD g H (as.cover D) y v) : Grow g H1 as1 D (upd H D (.lst (vs ++ [v]))) as M (vs ++ [v]) (ys ++ [y]) := by
  refine ⟨⟨x.ext.pre, x.ext.hid, fun a o e nt n => ⟨?_, (x.ext.keep a o e nt n).2⟩⟩, x.mem.grow, upd_same, ?_⟩
  · rw [upd_ne (ne_of_none e h)]
    exact (x.ext.keep a o e nt n).1
  · exact RelDs.mono Keeps.grow _ _ (x.rel.append (RelDs.one r))
theorem Grow.done {g : G} {H1 : Hp} {as1 : Lay} {M : Mem} {D : Addr} {H : Hp} {as : Lay} {vs : List V} {ys : List Mk.D} (h : H1 D = none) (m1 : as1.out D) (x : Grow g H1 as1 D H as M vs ys) : MemR g H as M ∧ Ext H1 as1 H as ∧ RelD g H as (.lst ys) (.ref D) := by
  refine ⟨x.mem.bare, x.ext, ?_⟩
  refine relD_lst x.at_ ⟨(x.mem.hide D List.mem_cons_self).1, ?_⟩ (RelDs.mono Keeps.bare _ _ x.rel)
  rw [x.ext.hid]
  exact m1.2
/-- what grew hidden is a mutable object -/
theorem Lay.pushK {H : Hp} {as : Lay} {p : Addr} : Keeps H (as.cover p) H (as.push p) := ⟨fun i a e => by
    have e : as.mu[i]? = some a := e
    show (as.mu ++ [p])[i]? = some a
    rw [List.getElem?_append_left (List.getElem?_eq_some_iff.mp e).1]; exact e, fun a o e _ n => ⟨e, fun z => by
    rcases List.mem_append.mp (show a ∈ as.mu ++ [p] from z) with z | z
    · exact n.1 z
    · exact n.2 (by rw [List.mem_singleton.mp z]; exact List.mem_cons_self), fun z => n.2 (List.mem_cons_of_mem _ z)⟩⟩
theorem MemR.pushK {g : G} {H : Hp} {as : Lay} {M : Mem} {p : Addr} {vs : List V} {ys : List D} (m : MemR g H (as.cover p) M) (hn : p ∉ as.hid) (h : H p = some (.lst vs)) (r : RelDs g H (as.cover p) ys vs) : MemR g H (as.push p) (M ++ [.lst ys]) := by
  have np := (m.hide p List.mem_cons_self).1
  refine ⟨by show (as.mu ++ [p]).length = _; rw [List.length_append, List.length_append]; exact congrArg (· + 1) m.len, ?_, fun i a w e q => ?_, fun a ha => ?_⟩
  · show (as.mu ++ [p]).Nodup
    rw [List.nodup_append]
    exact ⟨m.nd, by simp, fun a ha b hb z => np (by rw [List.mem_singleton.mp hb] at z; rw [← z]; exact ha)⟩
  · have e : (as.mu ++ [p])[i]? = some a := e
    by_cases hi : i < as.mu.length
    · rw [List.getElem?_append_left hi] at e
      rw [List.getElem?_append_left (by rw [← m.len]; exact hi)] at q
      exact (m.obj i a w e q).mono Lay.pushK rfl
    · have hi2 := (List.getElem?_eq_some_iff.mp e).1
      rw [List.length_append] at hi2
      have hml : as.mu.length = M.length := m.len
      have : i = as.mu.length := by simp at hi2; omega
      subst this
      rw [List.getElem?_append_right (Nat.le_refl _)] at e
      rw [hml, List.getElem?_append_right (Nat.le_refl _)] at q
      simp at e q
      subst e q
      exact ⟨vs, h, RelDs.mono Lay.pushK _ _ r⟩
  · obtain ⟨n, w, e⟩ := m.hide a (List.mem_cons_of_mem _ ha)
    refine ⟨fun z => ?_, w, e⟩
    rcases List.mem_append.mp (show a ∈ as.mu ++ [p] from z) with z | z
    · exact n z
    · exact hn (by rw [← List.mem_singleton.mp z]; exact ha)
theorem Grow.doneN {g : G} {H1 : Hp} {as1 : Lay} {M : Mem} {D : Addr} {H : Hp} {as : Lay} {vs : List V} {ys : List Mk.D} (h : H1 D = none) (m1 : as1.out D) (x : Grow g H1 as1 D H as M vs ys) : MemR g H (as.push D) (M ++ [.lst ys]) ∧ Ext H1 as1 H (as.push D) ∧ RelD g H (as.push D) (.ref M.length) (.ref D) := by
  have hn : D ∉ as.hid := by rw [x.ext.hid]; exact m1.2
  refine ⟨x.mem.pushK hn x.at_ x.rel, ?_, ?_⟩
  · obtain ⟨⟨more, e⟩, h2, k⟩ := x.ext
    refine ⟨⟨more ++ [D], by show as.mu ++ [D] = _; rw [e, List.append_assoc]⟩, h2, fun a o e1 t n => ⟨(k a o e1 t n).1, fun z => ?_⟩⟩
    rcases List.mem_append.mp (show a ∈ as.mu ++ [D] from z) with z | z
    · exact (k a o e1 t n).2 z
    · exact ne_of_none e1 h (List.mem_singleton.mp z)
  · have hl : as.mu.length = M.length := x.mem.len
    unfold RelD
    exact ⟨D, rfl, by show (as.mu ++ [D])[M.length]? = _; rw [← hl, List.getElem?_append_right (Nat.le_refl _), Nat.sub_self]; rfl⟩
section
variable {X : Cx} {C : Cl} {W : WX} [NoX C]
theorem lc_impF {fin : List D → Mem → Res D} (hF : ∀ {H1 H : Hp} {as1 as : Lay} {A : Addr} {M M1 : Mem} {vs : List V} {ys : List Mk.D} {Q : VK} {Wk : WK}, H1 A = none → MemR ⟨X.K, C⟩ H1 as1 M1 → Grow ⟨X.K, C⟩ H1 as1 A H as M vs ys → Fin ⟨X.K, C⟩ (RelD ⟨X.K, C⟩) Wk H1 as1 Q (fin ys M) → Q (.ref A) H)
    {it : EvI} {t : Tg} {own : List Nat} {test : EvT} {elt : Ev} (hs : ∀ i ∈ t.slots, i ∈ own) {σ : L2.St} {H : Hp} {Q : VK} (h : tE ⟨X.K, C⟩ W (eLcF fin it t own test elt) σ H Q) :
    tLc (tI ⟨X.K, C⟩ W it) (gT ⟨X.K, C⟩ t) (tT ⟨X.K, C⟩ W0 test) (tE ⟨X.K, C⟩ W0 elt) own σ H Q := by
  refine tG_mono (tG_bind (R := fun H1 as1 r J => IterOk ⟨X.K, C⟩ H1 as1 r J) h) fun J H1 ⟨ρ, as1, M1, src, e1, m1, io, q1⟩ => ?_
  intro D hD
  by_cases hl : src.items.length ≤ lim
  case neg => rw [if_neg hl] at q1; exact q1.elim
  rw [if_pos hl] at q1
  cases ec : comp src.ok t test elt (wipeE ρ own) src.items M1 with
  | exc x M2 => rw [ec] at q1; exact q1.elim
  | err => rw [ec] at q1; exact q1.elim
  | ok all Me =>
    rw [ec] at q1
    have mD := m1.fresh hD
    refine ⟨fun i m H => ∃ as M vs ys zs, m = src.items.length - i ∧ i ≤ src.items.length ∧ Grow ⟨X.K, C⟩ H1 as1 D H as M vs ys ∧ ys.length ≤ i ∧ comp src.ok t test elt (wipeE ρ own) (src.items.drop i) M = .ok zs Me ∧ all = ys ++ zs,
      ⟨src.items.length, as1, M1, [], [], all, by simp, Nat.zero_le _, Grow.start m1 hD, Nat.le_refl _, ec, rfl⟩, ?_⟩
    rintro i m H ⟨as, M, vs, ys, zs, rfl, hi, gr, hy, ed, ea⟩
    have kp := gr.keeps hD
    by_cases hlt : i < src.items.length
    · have hx : src.items[i]? = some src.items[i] := List.getElem?_eq_getElem hlt
      rw [List.drop_eq_getElem_cons hlt] at ed
      unfold comp at ed
      by_cases hok : src.ok M
      case neg => rw [if_neg hok] at ed; cases ed
      rw [if_pos hok] at ed
      cases et : t.set src.items[i] (wipeE ρ own) M with
      | none => rw [et] at ed; cases ed
      | some ρ1 =>
        rw [et] at ed
        obtain ⟨b, M2, eb, ed⟩ := bind_ok ed
        have eb := noX_ok eb
        obtain ⟨hgo, hyl⟩ := io.go i H (as.cover D) M src.items[i] kp gr.mem hok hx
        refine .inr ⟨hgo, fun H' => ∃ as M vs ys zs, i + 1 ≤ src.items.length ∧ Grow ⟨X.K, C⟩ H1 as1 D H' as M vs ys ∧ ys.length ≤ i + 1 ∧ comp src.ok t test elt (wipeE ρ own) (src.items.drop (i + 1)) M = .ok zs Me ∧ all = ys ++ zs, fun H' ⟨as, M, vs, ys, zs, a1, a2, a3, a4, a5⟩ => ⟨src.items.length - (i + 1), by omega, as, M, vs, ys, zs, rfl, a1, a2, a3, a4, a5⟩, fun x H2 hyx => ?_⟩
        obtain ⟨my, xy, ry⟩ := hyl x H2 hyx
        obtain ⟨as2, eas, gr2⟩ := gr.step my xy
        have eas2 : as2.cover D = as.cover D := eas.symm
        have env2 : EnvR ⟨X.K, C⟩ H2 (as.cover D) (wipeE ρ own) (L2.wipe σ own) := (e1.wipe own (NoX.no (C := C))).mono ⟨fun j a e => xy.keeps.get j a (kp.get j a e), fun a o e nt n => let z := kp.out a o e nt n; xy.keeps.out a o z.1 nt z.2⟩
        refine ⟨wipeE ρ own, M, as.cover D, src.items[i], ρ1, env2, my, ry, et, fun σ2 env3 so => ⟨?_, ?_⟩⟩
        · rw [so.wipe hs, wipe_wipe]
        refine ⟨ρ1, M, as.cover D, env3, my, ?_⟩
        rw [eb]
        intro b' H3 as3 m3 x3 hb
        obtain rfl : b = b' := hb
        rw [← eas2] at x3
        obtain ⟨as4, rfl, gr4⟩ := gr2.step m3 x3
        cases b with
        | false =>
          rw [if_neg Bool.false_ne_true] at ed ⊢
          exact ⟨as4, M2, vs, ys, zs, hlt, gr4, by omega, ed, ea⟩
        | true =>
          rw [if_pos rfl] at ed ⊢
          obtain ⟨y, M3, ey, ed⟩ := bind_ok ed
          have ey := noX_ok ey
          obtain ⟨ws, M4, ew, ed⟩ := bind_ok ed
          cases ed
          refine ⟨ρ1, M2, as4.cover D, (by rw [← eas2] at env3; exact env3.ext x3), m3, ?_⟩
          rw [ey]
          intro v H5 as5 m5 x5 r5
          obtain ⟨as6, rfl, gr6⟩ := gr4.step m5 x5
          refine ⟨vs, gr6.at_, ?_, as6, M3, vs ++ [v], ys ++ [y], ws, hlt, gr6.add hD r5, ?_, ew, by rw [ea]; simp⟩
          · rw [gr6.rel.length, lim_eq]
            omega
          · rw [List.length_append, List.length_singleton]
            omega
    · have e : i = src.items.length := by omega
      subst e
      rw [List.drop_length] at ed
      unfold comp at ed
      by_cases hok : src.ok M
      case neg => rw [if_neg hok] at ed; cases ed
      rw [if_pos hok] at ed
      cases ed
      rw [List.append_nil] at ea
      subst ea
      exact .inl ⟨io.stop H (as.cover D) _ kp gr.mem hok, hF hD m1 gr q1⟩
theorem lc_imp {it : EvI} {t : Tg} {own : List Nat} {test : EvT} {elt : Ev} (hs : ∀ i ∈ t.slots, i ∈ own) {σ : L2.St} {H : Hp} {Q : VK} (h : tE ⟨X.K, C⟩ W (eLc it t own test elt) σ H Q) :
    tLc (tI ⟨X.K, C⟩ W it) (gT ⟨X.K, C⟩ t) (tT ⟨X.K, C⟩ W0 test) (tE ⟨X.K, C⟩ W0 elt) own σ H Q :=
  lc_impF (fin := fun ys M => .ok (.lst ys) M) (fun hD m1 gr q => let ⟨a1, a2, a3⟩ := gr.done hD (m1.fresh hD); q _ _ _ a1 a2 a3) hs h
/-- the list is from then on a mutable object -/
theorem lc_impN {it : EvI} {t : Tg} {own : List Nat} {test : EvT} {elt : Ev} (hs : ∀ i ∈ t.slots, i ∈ own) {σ : L2.St} {H : Hp} {Q : VK} (h : tE ⟨X.K, C⟩ W (eLcN it t own test elt) σ H Q) :
    tLc (tI ⟨X.K, C⟩ W it) (gT ⟨X.K, C⟩ t) (tT ⟨X.K, C⟩ W0 test) (tE ⟨X.K, C⟩ W0 elt) own σ H Q :=
  lc_impF (fin := fun ys M => .ok (.ref M.length) (M ++ [O.lst ys])) (fun hD m1 gr q => let ⟨a1, a2, a3⟩ := gr.doneN hD (m1.fresh hD); q _ _ _ a1 a2 a3) hs h
abbrev VTs (X : Cx) (C : Cl) (W : WX) (es : List Expr) (ev : EvT) : Prop := PTs X es (tT ⟨X.K, C⟩ W ev)
def tYes : EvT := fun _ M => .ok true M
theorem vts_nil : VTs X C W [] tYes := ⟨fun pins s σ H Q I h => by
  obtain ⟨ρ, M, as, e, m, q⟩ := h
  exact pts_nil.run pins s σ H Q I (q true H as m (Ext.refl _ _) rfl)⟩
theorem vts_one {c : Expr} {t : EvT} (h : VT X C W c t) : VTs X C W [c] t := pts_one h
theorem v_lc {elt tg iter : Expr} {ifs : List Expr} {scope : Scope} {pos : Pos} {it : EvI} {t : Tg} {test : EvT} {ev : Ev} (own : List (Str × Nat)) (hc : X.calm = true) (hN : X.N.Nodup) (ok : BlkOk X.N X.env.scope scope own) (hsl : ∀ i ∈ t.slots, i ∈ own.map (·.2)) (hi : VI X C W tg iter it)
    (hg : ∀ (s : Shared) (H : Hp) (Ca : Addr) (cl : List (Str × Addr)) (fp : List Addr), VG (X.blk s H scope (compEnvC scope cl Ca X.env) fp) C tg t) (ht : ∀ (s : Shared) (H : Hp) (Ca : Addr) (cl : List (Str × Addr)) (fp : List Addr), VTs (X.blk s H scope (compEnvC scope cl Ca X.env) fp) C W0 ifs test)
    (he : ∀ (s : Shared) (H : Hp) (Ca : Addr) (cl : List (Str × Addr)) (fp : List Addr), VE (X.blk s H scope (compEnvC scope cl Ca X.env) fp) C W0 elt ev) (hs : ∀ x, foldedSetIterable iter X.env x = pure x := by intro _; rfl) :
    VE X C W (.ListComp elt [⟨tg, iter, ifs, 0⟩] scope pos) (eLc it t (own.map (·.2)) test ev) :=
  PE.imp (pe_lc hc hN hi ok hg ht he hs) fun σ H Q h => lc_imp hsl h
end
end Mk
end

section
set_option maxHeartbeats 2000000
/-! Mk10: statements. -/
open PySem PySem.Spec PyProof.Rows L2
namespace Mk

/-- how a statement ends -/
inductive SR where
  | nx (ρ : Sl) (M : Mem)
  | rt (d : D) (M : Mem)
  | bk (ρ : Sl) (M : Mem)
  | ct (ρ : Sl) (M : Mem)
  | exc (x : Ex) (ρ : Sl) (M : Mem)
  | err
abbrev EvS := Sl → Mem → SR
/-- a value first -/
def ofR {α : Type} (r : Res α) (ρ : Sl) (f : α → Mem → SR) : SR := match r with
  | .ok a M => f a M
  | .exc x M => .exc x ρ M
  | .err => .err
@[simp] theorem ofR_ok {α : Type} (a : α) (M : Mem) (ρ : Sl) (f : α → Mem → SR) : ofR (.ok a M) ρ f = f a M := rfl
@[simp] theorem ofR_exc {α : Type} (x : Ex) (M : Mem) (ρ : Sl) (f : α → Mem → SR) : ofR (.exc x M) ρ f = .exc x ρ M := rfl
@[simp] theorem ofR_err {α : Type} (ρ : Sl) (f : α → Mem → SR) : ofR (.err : Res α) ρ f = .err := rfl
def SR.then (r : SR) (f : EvS) : SR := match r with
  | .nx ρ M => f ρ M
  | r => r
@[simp] theorem SR.then_nx (ρ : Sl) (M : Mem) (f : EvS) : (SR.nx ρ M).then f = f ρ M := rfl
@[simp] theorem SR.then_rt (d : D) (M : Mem) (f : EvS) : (SR.rt d M).then f = .rt d M := rfl
@[simp] theorem SR.then_bk (ρ : Sl) (M : Mem) (f : EvS) : (SR.bk ρ M).then f = .bk ρ M := rfl
@[simp] theorem SR.then_ct (ρ : Sl) (M : Mem) (f : EvS) : (SR.ct ρ M).then f = .ct ρ M := rfl
@[simp] theorem SR.then_exc (x : Ex) (ρ : Sl) (M : Mem) (f : EvS) : (SR.exc x ρ M).then f = .exc x ρ M := rfl
@[simp] theorem SR.then_err (f : EvS) : SR.err.then f = .err := rfl
def FinS (g : G) (W : WX) (H : Hp) (as : Lay) (Dn : Ends) : SR → Prop
  | .nx ρ M => ∀ σ' H' as', EnvR g H' as' ρ σ' → MemR g H' as' M → Ext H as H' as' → Dn.nx σ' H'
  | .bk ρ M => ∀ σ' H' as', EnvR g H' as' ρ σ' → MemR g H' as' M → Ext H as H' as' → Dn.bk σ' H'
  | .ct ρ M => ∀ σ' H' as', EnvR g H' as' ρ σ' → MemR g H' as' M → Ext H as H' as' → Dn.ct σ' H'
  | .rt d M => ∀ v H' as', MemR g H' as' M → Ext H as H' as' → RelD g H' as' d v → Dn.rt v H'
  | .exc x ρ M => ∀ c o σ' H' as', EnvR g H' as' ρ σ' → MemR g H' as' M → Ext H as H' as' → RelX g H' as' x c o → W c o σ' H'
  | .err => False
def tS (g : G) (W : WX) (ev : EvS) : TS := fun Dn σ H => ∃ ρ M as, EnvR g H as ρ σ ∧ MemR g H as M ∧ FinS g W H as Dn (ev ρ M)
section
variable {g : G} {W : WX} {H H1 : Hp} {as as1 : Lay} {Dn : Ends} {ρ : Sl} {M : Mem} {σ : L2.St}
theorem FinS.at_ {r : SR} (x : Ext H as H1 as1) (h : FinS g W H as Dn r) : FinS g W H1 as1 Dn r := by
  cases r with
  | nx ρ M => exact fun σ' H' as' e m y => h σ' H' as' e m (x.trans y)
  | bk ρ M => exact fun σ' H' as' e m y => h σ' H' as' e m (x.trans y)
  | ct ρ M => exact fun σ' H' as' e m y => h σ' H' as' e m (x.trans y)
  | rt d M => exact fun v H' as' m y r => h v H' as' m (x.trans y) r
  | exc z ρ M => exact fun c o σ' H' as' e m y r => h c o σ' H' as' e m (x.trans y) r
  | err => exact h
theorem FinS.nx_ (h : FinS g W H as Dn (.nx ρ M)) (e : EnvR g H as ρ σ) (m : MemR g H as M) : Dn.nx σ H := h σ H as e m (Ext.refl _ _)
theorem FinS.rt_ {d : D} {v : V} (h : FinS g W H as Dn (.rt d M)) (m : MemR g H as M) (r : RelD g H as d v) : Dn.rt v H := h v H as m (Ext.refl _ _) r
/-- a value, then the rest -/
theorem tS_val {α β : Type} {R : Hp → Lay → α → β → Prop} {ea : Sl → Mem → Res α} {f : Sl → α → Mem → SR} (h : tS g W (fun ρ M => ofR (ea ρ M) ρ (f ρ)) Dn σ H) :
    tG g R W ea σ H fun v H1 => ∃ ρ as1 M1 d, EnvR g H1 as1 ρ σ ∧ MemR g H1 as1 M1 ∧ R H1 as1 d v ∧ FinS g W H1 as1 Dn (f ρ d M1) := by
  obtain ⟨ρ, M, as, e, m, h⟩ := h
  refine ⟨ρ, M, as, e, m, ?_⟩
  change FinS g W H as Dn (ofR (ea ρ M) ρ (f ρ)) at h
  cases q : ea ρ M with
  | ok d M1 =>
    rw [q] at h
    exact fun v H1 as1 m1 x r => ⟨ρ, as1, M1, d, e.ext x, m1, r, h.at_ x⟩
  | exc y M1 =>
    rw [q] at h
    exact fun c o H1 as1 m1 x r => h c o σ H1 as1 (e.ext x) m1 x r
  | err => rw [q] at h; exact h
end
abbrev VS (X : Cx) (C : Cl) (W : WX) (st : Stmt) (ev : EvS) : Prop := PS X st (tS ⟨X.K, C⟩ W ev)
abbrev VSs (X : Cx) (C : Cl) (W : WX) (sts : List Stmt) (ev : EvS) : Prop := PSs X sts (tS ⟨X.K, C⟩ W ev)
def sNil : EvS := fun ρ M => .nx ρ M
def sCons (a b : EvS) : EvS := fun ρ M => (a ρ M).then b
def sL : List EvS → EvS
  | [] => sNil
  | [a] => a
  | a :: r => sCons a (sL r)
def sDo (a : Ev) : EvS := fun ρ M => ofR (a ρ M) ρ fun _ M1 => .nx ρ M1
def outR (M : Mem) : Option Sl → SR
  | some ρ => .nx ρ M
  | none => .err
def sSet (t : Tg) (a : Ev) : EvS := fun ρ M => ofR (a ρ M) ρ fun d M1 => outR M1 (t.set d ρ M1)
/-- name = value -/
def sLet (i : Nat) (a : Ev) : EvS := fun ρ M => ofR (a ρ M) ρ fun d M1 => .nx (ρ.set i (some d)) M1
/-- a, b = x, y -/
def sPar (i j : Nat) (a b : Ev) : EvS := fun ρ M => ofR (a ρ M) ρ fun x M1 => ofR (b ρ M1) ρ fun y M2 => .nx ((ρ.set i (some x)).set j (some y)) M2
def sRet (a : Ev) : EvS := fun ρ M => ofR (a ρ M) ρ fun d M1 => .rt d M1
def sRetN : EvS := fun _ M => .rt .non M
def sIf (c : EvT) (a b : EvS) : EvS := fun ρ M => ofR (c ρ M) ρ fun k M1 => if k = true then a ρ M1 else b ρ M1
def sBk : EvS := fun ρ M => .bk ρ M
def sCt : EvS := fun ρ M => .ct ρ M
section
variable {X : Cx} {C : Cl} {W : WX} {st : Stmt} {rest p q : List Stmt} {e tg c : Expr} {ev : Ev} {a b : EvS} {pos : Pos}
theorem vss_nil : VSs X C W [] sNil := PSs.imp pss_nil fun D σ H ⟨ρ, M, as, e, m, q⟩ => FinS.nx_ (W := W) q e m
theorem vs_pass : VS X C W (.Pass pos) sNil := PS.imp ps_pass fun D σ H ⟨ρ, M, as, e, m, q⟩ => FinS.nx_ (W := W) q e m
theorem vs_break : VS X C W (.Break pos) sBk := PS.imp ps_break fun D σ H ⟨ρ, M, as, e, m, q⟩ => q σ H as e m (Ext.refl _ _)
theorem vs_cont : VS X C W (.Continue pos) sCt := PS.imp ps_continue fun D σ H ⟨ρ, M, as, e, m, q⟩ => q σ H as e m (Ext.refl _ _)
theorem vs_doc {x j pos'} : VS X C W (.Expr (.Constant (.str x) j pos) pos') sNil := PS.imp ps_doc fun D σ H ⟨ρ, M, as, e, m, q⟩ => FinS.nx_ (W := W) q e m
theorem seq_imp {g : G} {D : Ends} {σ : L2.St} {H : Hp} (h : tS g W (sCons a b) D σ H) : tSeq (tS g W a) (tS g W b) D σ H := by
  obtain ⟨ρ, M, as, e, m, h⟩ := h
  refine ⟨ρ, M, as, e, m, ?_⟩
  change FinS g W H as D ((a ρ M).then b) at h
  cases q : a ρ M with
  | nx ρ' M' => rw [q] at h; exact fun σ' H' as' e' m' x => ⟨ρ', M', as', e', m', h.at_ x⟩
  | bk ρ M => rw [q] at h; exact h
  | ct ρ M => rw [q] at h; exact h
  | rt d M => rw [q] at h; exact h
  | exc z ρ M => rw [q] at h; exact h
  | err => rw [q] at h; exact h
theorem vss_cons (h1 : VS X C W st a) (h2 : VSs X C W rest b) : VSs X C W (st :: rest) (sCons a b) := PSs.imp (pss_cons h1 h2) fun D σ H h => seq_imp h
theorem vss_one (h1 : VS X C W st a) : VSs X C W [st] a := pss_one h1
theorem vs_do (he : VE X C W e ev) (hs : swapsWith e none pos.line X.env = pure false := by rfl) : VS X C W (.Expr e pos) (sDo ev) :=
  PS.imp (ps_expr he hs) fun D σ H h => tG_mono (tS_val (R := RelD ⟨X.K, C⟩) h) fun v H1 ⟨ρ, as1, M1, d, e1, m1, r1, q1⟩ => q1.nx_ e1 m1
theorem vs_ret (he : VE X C W e ev) : VS X C W (.Return (some e) pos) (sRet ev) :=
  PS.imp (ps_ret he) fun D σ H h => tG_mono (tS_val (R := RelD ⟨X.K, C⟩) h) fun v H1 ⟨ρ, as1, M1, d, e1, m1, r1, q1⟩ => q1.rt_ m1 r1
theorem vs_retN : VS X C W (.Return none pos) sRetN := PS.imp ps_retN fun D σ H ⟨ρ, M, as, e, m, q⟩ => FinS.rt_ (W := W) q m (by unfold RelD; rfl)
theorem vs_if {c : Expr} {t : EvT} (hc : VT X C W c t) (ha : VSs X C W p a) (hb : VSs X C W q b) : VS X C W (.If c p q pos) (sIf t a b) := by
  refine PS.imp (ps_if hc ha hb) fun D σ H h => tG_mono (tS_val (R := RB) h) fun v H1 ⟨ρ, as1, M1, d, e1, m1, r1, q1⟩ => ?_
  obtain rfl : d = v := r1
  cases d with
  | true => exact ⟨ρ, M1, as1, e1, m1, q1⟩
  | false => exact ⟨ρ, M1, as1, e1, m1, q1⟩
theorem let_imp {g : G} {i : Nat} {D : Ends} {σ : L2.St} {H : Hp} (hx : ∀ q ∈ g.C.xs, q.1 ≠ i) (h : tS g W (sLet i ev) D σ H) : tAsg (tE g W ev) (gName i) D σ H :=
  tG_mono (tS_val (R := RelD g) h) fun v H1 ⟨ρ, as1, M1, d, e1, m1, r1, q1⟩ => q1.nx_ (e1.set i r1 hx) m1
theorem vs_let (i : Nat) [OffX C i] {x : Str} {pos' : Pos} (hN : X.N.Nodup) (he : VE X C W e ev) (hi : X.N[i]? = some x := by rfl) (hx : Loc X.env.scope x := by first | exact Or.inl rfl | exact Or.inr rfl)
    (hs : swapsWith e (some (.Name x pos')) pos.line X.env = pure false := by rfl) (hf : X.fn x = true ∨ X.env.scope.names.lookup x = some .local := by first | exact .inl rfl | exact .inr rfl) :
    VS X C W (.Assign [.Name x pos'] e pos) (sLet i ev) := PS.imp (ps_set hN hi hx he hs hf) fun D σ H h => let_imp (OffX.off (C := C)) h
/-- a target of any kind -/
theorem vs_set {t : Tg} (he : VE X C W e ev) (hg : VG X C tg t) (hs : swapsWithSole [tg] e pos.line X.env = pure false := by rfl) (hw : swappedStores [tg] e X.env = pure none := by rfl) (h1 : (assignEach [tg] X.env).map (·.2) = [assign tg X.env] := by rfl) :
    VS X C W (.Assign [tg] e pos) (sSet t ev) := by
  refine PS.imp (ps_asg he hg hs hw h1) fun D σ H h => tG_mono (tS_val (R := RelD ⟨X.K, C⟩) h) fun v H1 ⟨ρ, as1, M1, d, e1, m1, r1, q1⟩ => ?_
  cases et : t.set d ρ M1 with
  | none => rw [et] at q1; exact q1.elim
  | some ρ1 =>
    rw [et] at q1
    exact ⟨ρ, M1, as1, d, ρ1, e1, m1, r1, et, fun σ' e' _ => q1.nx_ e' m1⟩
theorem vs_par [NoX C] (i j : Nat) {x y : Str} {u v : Expr} {eu ew : Ev} {px py pt : Pos} {kt k2 pt2} (hc : X.calm = true) (hN : X.N.Nodup) (hu : VE X C W u eu) (hv : VE X C W v ew) (hi : X.N[i]? = some x := by rfl) (hj : X.N[j]? = some y := by rfl) (hij : i ≠ j := by decide)
    (hx : X.env.scope.names.lookup x = some .local := by rfl) (hy : X.env.scope.names.lookup y = some .local := by rfl)
    (hw : swappedStores [.Tuple [.Name x px, .Name y py] kt pt] (.Tuple [u, v] k2 pt2) X.env = pure (some [x, y]) := by rfl)
    (hs : swapsWithSole [.Tuple [.Name x px, .Name y py] kt pt] (.Tuple [u, v] k2 pt2) pos.line X.env = pure false := by rfl)
    (hst : starEach [u, v] X.env = (false, eval u X.env) :: starEach [v] X.env := by rfl) (hst' : starEach [v] X.env = (false, eval v X.env) :: starEach [] X.env := by rfl) :
    VS X C W (.Assign [.Tuple [.Name x px, .Name y py] kt pt] (.Tuple [u, v] k2 pt2) pos) (sPar i j eu ew) := by
  refine PS.imp (ps_par hc hN hi hj hij hx hy (pa_cons hu (pa_cons hv pa_nil hst') hst) hw hs) fun D σ H h => ?_
  refine tG_mono (tS_val (R := RelD ⟨X.K, C⟩) h) fun v1 H1 ⟨ρ, as1, M1, d, e1, m1, r1, q1⟩ => ?_
  have q2 : tS ⟨X.K, C⟩ W (fun ρ' M' => ofR (ew ρ' M') ρ' fun y M2 => .nx ((ρ'.set i (some d)).set j (some y)) M2) D σ H1 := ⟨ρ, M1, as1, e1, m1, q1⟩
  obtain ⟨ρ0, M0, as0, e0, m0, f0⟩ := q2
  refine ⟨ρ, M1, as1, e1, m1, ?_⟩
  change FinS _ W H1 as1 D (ofR (ew ρ M1) ρ fun y M2 => .nx ((ρ.set i (some d)).set j (some y)) M2) at q1
  cases hq : ew ρ M1 with
  | ok z M2 =>
    rw [hq] at q1
    intro v2 H2 as2 m2 x2 r2
    exact ⟨v1, v2, rfl, (q1.at_ x2).nx_ (((e1.ext x2).set i (r1.ext x2) (OffX.off (C := C))).set j r2 (OffX.off (C := C))) m2⟩
  | exc z M2 =>
    rw [hq] at q1
    exact fun c o H2 as2 m2 x2 r2 => q1 c o σ H2 as2 (e1.ext x2) m2 x2 r2
  | err => rw [hq] at q1; exact q1
/-- y = [.. for ..] on one line, y a plain local -/
theorem vs_letLc [NoX C] (i : Nat) {y : Str} {py : Pos} {elt tg iter : Expr} {ifs : List Expr} {scope : Scope} {it : EvI} {t : Tg} {test : EvT} {ee : Ev} {spos : Pos} (own : List (Str × Nat)) (hc : X.calm = true) (hN : X.N.Nodup) (ok : BlkOk X.N X.env.scope scope own) (hsl : ∀ i ∈ t.slots, i ∈ own.map (·.2))
    (hi : VI X C W tg iter it)
    (hg : ∀ (s : Shared) (H : Hp) (Ca : Addr) (cl : List (Str × Addr)) (fp : List Addr), VG (X.blk s H scope (compEnvC scope cl Ca X.env) fp) C tg t) (ht : ∀ (s : Shared) (H : Hp) (Ca : Addr) (cl : List (Str × Addr)) (fp : List Addr), VTs (X.blk s H scope (compEnvC scope cl Ca X.env) fp) C W0 ifs test)
    (he : ∀ (s : Shared) (H : Hp) (Ca : Addr) (cl : List (Str × Addr)) (fp : List Addr), VE (X.blk s H scope (compEnvC scope cl Ca X.env) fp) C W0 elt ee)
    (hsw : swapsWith (.ListComp elt [⟨tg, iter, ifs, 0⟩] scope pos) (some (.Name y py)) spos.line X.env = pure true)
    (hy : X.N[i]? = some y := by rfl) (hyl : X.env.scope.names.lookup y = some .local := by rfl)
    (hs : ∀ x, foldedSetIterable iter X.env x = pure x := by intro _; rfl) :
    VS X C W (.Assign [.Name y py] (.ListComp elt [⟨tg, iter, ifs, 0⟩] scope pos) spos) (sLet i (eLc it t (own.map (·.2)) test ee)) :=
  PS.imp (ps_setLc hc hN hy hyl hsw hi ok hg ht he hs) fun D σ H h => lc_imp hsl (let_imp (OffX.off (C := C)) h)
end

/-! ### for -/
open Classical in
noncomputable def loop (ok : Mem → Prop) (t : Tg) (body : EvS) : List D → Sl → Mem → SR
  | [], ρ, M => if ok M then .nx ρ M else .err
  | d :: ds, ρ, M => if ok M then match t.set d ρ M with
    | none => .err
    | some ρ1 => match body ρ1 M with
      | .nx ρ2 M2 => loop ok t body ds ρ2 M2
      | .ct ρ2 M2 => loop ok t body ds ρ2 M2
      | .bk ρ2 M2 => .nx ρ2 M2
      | r => r
    else .err
noncomputable def sFor (it : EvI) (t : Tg) (body : EvS) : EvS := fun ρ M => ofR (it ρ M) ρ fun src M1 => loop src.ok t body src.items ρ M1
section
variable {X : Cx} {C : Cl} {W : WX} {pos : Pos}
theorem vs_for {tg iter : Expr} {body : List Stmt} {it : EvI} {t : Tg} {b : EvS} (hp : PassesOwn (model X.prog X.w) X.A X.env X.xe) (hc : X.calm = true) (hi : VI X C W tg iter it) (hg : VG X C tg t) (hb : VSs X C W body b)
    (hs : ∀ x, foldedSetIterable iter X.env x = pure x := by intro _; rfl) : VS X C W (.For tg iter body [] pos) (sFor it t b) := by
  refine PS.imp (ps_for hp hc hi hg hb hs) fun D σ H h => ?_
  refine tG_mono (tS_val (R := fun H1 as1 r J => IterOk ⟨X.K, C⟩ H1 as1 r J) h) fun J H1 ⟨ρ, as1, M1, src, e1, m1, io, q1⟩ => ?_
  refine ⟨fun i m σ' H' => ∃ ρ' M as, m = src.items.length - i ∧ i ≤ src.items.length ∧ EnvR ⟨X.K, C⟩ H' as ρ' σ' ∧ MemR ⟨X.K, C⟩ H' as M ∧ Ext H1 as1 H' as ∧ FinS ⟨X.K, C⟩ W H' as D (loop src.ok t b (src.items.drop i) ρ' M),
    ⟨src.items.length, ρ, M1, as1, by simp, Nat.zero_le _, e1, m1, Ext.refl _ _, q1⟩, ?_⟩
  rintro i m σ' H' ⟨ρ', M, as, rfl, hi, e', m', x', f⟩
  by_cases hlt : i < src.items.length
  · have hx : src.items[i]? = some src.items[i] := List.getElem?_eq_getElem hlt
    rw [List.drop_eq_getElem_cons hlt] at f
    unfold loop at f
    by_cases hok : src.ok M
    case neg => rw [if_neg hok] at f; exact f.elim
    rw [if_pos hok] at f
    cases et : t.set src.items[i] ρ' M with
    | none => rw [et] at f; exact f.elim
    | some ρ1 =>
      rw [et] at f
      obtain ⟨hgo, hyl⟩ := io.go i H' as M src.items[i] x'.keeps m' hok hx
      refine .inr ⟨hgo, fun σ2 H2 => ∃ ρ' M as, i + 1 ≤ src.items.length ∧ EnvR ⟨X.K, C⟩ H2 as ρ' σ2 ∧ MemR ⟨X.K, C⟩ H2 as M ∧ Ext H1 as1 H2 as ∧ FinS ⟨X.K, C⟩ W H2 as D (loop src.ok t b (src.items.drop (i + 1)) ρ' M),
        fun σ2 H2 ⟨ρ', M, as, a1, a2, a3, a4, a5⟩ => ⟨src.items.length - (i + 1), by omega, ρ', M, as, rfl, a1, a2, a3, a4, a5⟩, fun x H2 hy => ?_⟩
      obtain ⟨my, xy, ry⟩ := hyl x H2 hy
      refine ⟨ρ', M, as, src.items[i], ρ1, e'.ext xy, my, ry, et, fun σ3 e3 _ => ⟨ρ1, M, as, e3, my, ?_⟩⟩
      have f := f.at_ xy
      have x2 := x'.trans xy
      change FinS ⟨X.K, C⟩ W H2 as D (match b ρ1 M with
        | .nx ρ2 M2 => loop src.ok t b (src.items.drop (i + 1)) ρ2 M2
        | .ct ρ2 M2 => loop src.ok t b (src.items.drop (i + 1)) ρ2 M2
        | .bk ρ2 M2 => .nx ρ2 M2
        | r => r) at f
      cases q : b ρ1 M with
      | nx ρ2 M2 => rw [q] at f; exact fun σ4 H4 as4 e4 m4 x4 => ⟨ρ2, M2, as4, hlt, e4, m4, x2.trans x4, f.at_ x4⟩
      | ct ρ2 M2 => rw [q] at f; exact fun σ4 H4 as4 e4 m4 x4 => ⟨ρ2, M2, as4, hlt, e4, m4, x2.trans x4, f.at_ x4⟩
      | bk ρ2 M2 => rw [q] at f; exact f
      | rt d M2 => rw [q] at f; exact f
      | exc z ρ2 M2 => rw [q] at f; exact f
      | err => rw [q] at f; exact f
  · have e : i = src.items.length := by omega
    subst e
    rw [List.drop_length] at f
    unfold loop at f
    by_cases hok : src.ok M
    case neg => rw [if_neg hok] at f; exact f.elim
    rw [if_pos hok] at f
    exact .inl ⟨io.stop H' as M x'.keeps m' hok, f.nx_ e' m'⟩
end
end Mk
end

section
set_option maxHeartbeats 2000000
/-! Mk11: defs and calls; the module's own data. -/
open PySem PySem.Spec PyProof.Rows L2
namespace Mk

abbrev Fv := List D → Mem → Res D
/-- a def's promise: n arguments; what its evaluator says -/
def spF (g : G) (n : Nat) (ev : Fv) : Sp := fun vs H Q E => vs.length = n ∧ ∃ ds M as, RelDs g H as ds vs ∧ MemR g H as M ∧ Fin g (RelD g) (fun c o H' => E c o H') H as Q (ev ds M)
/-- a def's evaluator from its body's: N names -/
def fnE (N : Nat) (body : EvS) : Fv := fun ds M => match body (ds.map some ++ List.replicate (N - ds.length) none) M with
  | .nx _ M' => .ok .non M'
  | .rt d M' => .ok d M'
  | .exc x _ M' => .exc x M'
  | _ => .err
theorem EnvR.start {g : G} {H : Hp} {as : Lay} {ds : List D} {vs : List V} (N : List Str) (r : RelDs g H as ds vs) (hx : g.C.xs = []) (hf : g.C.xf = []) : EnvR g H as (ds.map some ++ List.replicate (N.length - ds.length) none) (L2.start N vs) := by
  unfold L2.start
  have hl := r.length
  refine ⟨by simp [hl], fun i d e => ?_, fun q hq => (by rw [hx] at hq; cases hq), fun q hq => (by rw [hf] at hq; cases hq)⟩
  by_cases hi : i < ds.length
  · rw [List.getElem?_append_left (by simpa using hi), List.getElem?_map] at e
    cases q : ds[i]? with
    | none => rw [q] at e; cases e
    | some d' =>
      rw [q] at e
      cases e
      obtain ⟨v, ev, rv⟩ := r.get q
      refine ⟨v, ?_, rv⟩
      rw [List.getElem?_append_left (by simp; omega), List.getElem?_map, ev]
      rfl
  · rw [List.getElem?_append_right (by simpa using hi), List.getElem?_replicate] at e
    split at e <;> cases e
section
variable {P : Program} {w : World} {K : PySem.W.Frag} {mg : Str → Option Value} {base : Heap} {C : Cl} {x qual : Str} {params : Arguments} {body : List Stmt} {scope : Scope} {dvs : List V} {kws : List (Str × V)} {f : Addr} {fd : FuncData}
/-- a def's body keeps its promise -/
theorem fn_ok [NoX C] {N ps : List Str} {k n : Nat} {ev : EvS} (F : FunD K x qual params body scope dvs kws f fd) (S : FnScope N ps scope) (hn : ps.length = n)
    (hb : ∀ (cdv : Value) (A : Around) (outer : List Env) (s : Shared) (H : Hp) (E : XK), Room k (A.deeper (envOfC qual scope s.heap.objs.size f cdv)) →
      Takes (cxOf (L2.CX P w) P w K mg base N qual scope f cdv A outer s H E) (fun c o _ H' => E c o H') →
      PassesOwn (model P w) (cxOf (L2.CX P w) P w K mg base N qual scope f cdv A outer s H E).A (cxOf (L2.CX P w) P w K mg base N qual scope f cdv A outer s H E).env (cxOf (L2.CX P w) P w K mg base N qual scope f cdv A outer s H E).xe →
      VSs (cxOf (L2.CX P w) P w K mg base N qual scope f cdv A outer s H E) C (fun c o _ H' => E c o H') body ev) :
    FnOk P w K mg base (L2.CX P w) (k + 1) f fd ps (spF ⟨K, C⟩ n (fnE N.length ev)) := by
  refine F.ok S (fun vs H Q E h => h.1.trans hn.symm) fun cdv A outer s H vs Q E hr h => ?_
  obtain ⟨hl, ds, M, as, r, m, q⟩ := h
  refine ⟨_, hb cdv A outer s H E hr (takes_of rfl rfl rfl rfl) (passes_of rfl), ?_⟩
  refine ⟨_, M, as, EnvR.start N r (NoX.no (C := C)) (NoX.nf (C := C)), m, ?_⟩
  unfold fnE at q
  cases e : ev (ds.map some ++ List.replicate (N.length - ds.length) none) M with
  | nx ρ M' => rw [e] at q; exact fun σ' H' as' e' m' x => q .non H' as' m' x (by unfold RelD; rfl)
  | rt d M' => rw [e] at q; exact fun v H' as' m' x r => q v H' as' m' x r
  | exc z ρ M' => rw [e] at q; exact fun c o σ' H' as' e' m' x r => q c o H' as' m' x r
  | bk ρ M' => rw [e] at q; exact q.elim
  | ct ρ M' => rw [e] at q; exact q.elim
  | err => rw [e] at q; exact q.elim
/-- the def of that name, of level k -/
structure Def (P : Program) (w : World) (K : PySem.W.Frag) (mg : Str → Option Value) (base : Heap) (C : Cl) (x : Str) (k n : Nat) (ev : Fv) : Prop where
  ex : ∃ f fd ps, mg x = some (.ref f) ∧ PySem.W.keepIn K (.ref f) = true ∧ Binds K fd ps [] ∧ FnOk P w K mg base (L2.CX P w) k f fd ps (spF ⟨K, C⟩ n ev)
theorem def_ok [NoX C] {N ps : List Str} {k n : Nat} {ev : EvS} (F : FunD K x qual params body scope [] [] f fd) (g : mg x = some (.ref f)) (S : FnScope N ps scope) (hn : ps.length = n)
    (hbi : ∀ (kV doc pm : Value) (an : Option Addr) (cdv ct : Value) (us : List Value), us.length = ps.length → bindArgs (PySem.W.fnOf x qual params body scope .none kV doc pm an cdv ct) ⟨us, []⟩ = pure (ps.zip us))
    (hb : ∀ (cdv : Value) (A : Around) (outer : List Env) (s : Shared) (H : Hp) (E : XK), Room k (A.deeper (envOfC qual scope s.heap.objs.size f cdv)) →
      Takes (cxOf (L2.CX P w) P w K mg base N qual scope f cdv A outer s H E) (fun c o _ H' => E c o H') →
      PassesOwn (model P w) (cxOf (L2.CX P w) P w K mg base N qual scope f cdv A outer s H E).A (cxOf (L2.CX P w) P w K mg base N qual scope f cdv A outer s H E).env (cxOf (L2.CX P w) P w K mg base N qual scope f cdv A outer s H E).xe →
      VSs (cxOf (L2.CX P w) P w K mg base N qual scope f cdv A outer s H E) C (fun c o _ H' => E c o H') body ev) :
    Def P w K mg base C x (k + 1) n (fnE N.length ev) := ⟨f, fd, ps, g, F.kp, F.bindsN hbi, fn_ok F S hn hb⟩
/-- nothing promised -/
def never : Fv := fun _ _ => .err
theorem def_never {ps : List Str} {n : Nat} (F : FunD K x qual params body scope [] [] f fd) (g : mg x = some (.ref f)) (hn : ps.length = n)
    (hbi : ∀ (kV doc pm : Value) (an : Option Addr) (cdv ct : Value) (us : List Value), us.length = ps.length → bindArgs (PySem.W.fnOf x qual params body scope .none kV doc pm an cdv ct) ⟨us, []⟩ = pure (ps.zip us)) : Def P w K mg base C x 0 n never :=
  ⟨f, fd, ps, g, F.kp, F.bindsN hbi, ⟨fun vs H Q E h => h.1.trans hn.symm, fun A outer s H args us vs Q E _ _ _ _ ⟨_, _, _, _, _, _, z⟩ => z.elim⟩⟩
theorem Def.mono {x : Str} {j k n : Nat} {ev : Fv} (d : Def P w K mg base C x j n ev) (h : j ≤ k) : Def P w K mg base C x k n ev := by
  obtain ⟨f, fd, ps, a, b, c, F⟩ := d.ex
  exact ⟨f, fd, ps, a, b, c, F.mono h⟩
end
def eCall (ev : Fv) (as : List Ev) : Ev := fun ρ M => (aL as ρ M).bind fun ds M1 => ev ds M1
section
variable {X : Cx} {C : Cl} {W : WX}
theorem v_call {x : Str} {j k n : Nat} {ev : Fv} {e : Expr} {es : List Expr} {evs : List Ev} {p pos : Pos} (F : Def X.prog X.w X.K X.mg X.base C x j n ev) (hj : j ≤ k) (hr : Room k X.A) (tk : Takes X W) (ha : VA X C W (e :: es) (aL evs)) (hn : evs.length = n := by rfl) (hg : Gl X x := by rfl)
    (hdb : (x == ("__debug__" : Str)) = false := by decide) (he : starEach (e :: es) X.env = (false, eval e X.env) :: starEach es X.env := by rfl) (hpl : (backTo pos (starEach es X.env)).any (·.1) = false := by rfl) :
    VE X C W (.Call (.Name x p) (e :: es) [] pos) (eCall ev evs) := by
  obtain ⟨f, fd, ps, g, kp, b, F⟩ := F.ex
  refine PE.imp (pe_callS (F.mono hj) hr hg g kp b (fun σ => passAt tk σ) ha hdb he hpl) fun σ H Q h => ?_
  refine tG_mono (tA_len h) fun vs H1 ⟨ρ, as1, M1, ds, e1, m1, r1, l1, q1⟩ => ?_
  exact ⟨by rw [r1.length, l1]; exact hn, ds, M1, as1, r1, m1, q1⟩
end

/-! ### the module's own data -/
mutual
def datB (K : PySem.W.Frag) : D → Value → Bool
  | .non, .none => true
  | .bl b, .bool c => b == c
  | .int i, .int j _ => decide (i = j)
  | .str x, .str y _ => decide (y = ⟨x.toArray⟩)
  | .tup xs, .ref a => match K.lookup a with
    | some ⟨.type c, _, .seq its _, _⟩ => decide (c = "tuple") && (decide (its.size ≤ sizeLine) && datsB K xs its.toList)
    | _ => false
  | _, _ => false
def datsB (K : PySem.W.Frag) : List D → List Value → Bool
  | [], [] => true
  | d :: ds, u :: us => datB K d u && datsB K ds us
  | _, _ => false
end
mutual
theorem datB_ok {g : G} : ∀ (d : D) (u : Value), datB g.K d u = true → ∃ v, RelV v u ∧ ∀ H as, RelD g H as d v
  | .non, u, h => by
    cases u with
    | none => exact ⟨.non, rfl, fun _ _ => by unfold RelD; rfl⟩
    | _ => exact absurd h (by unfold datB; exact Bool.false_ne_true)
  | .bl b, u, h => by
    cases u with
    | bool c =>
      unfold datB at h
      exact ⟨.bl b, (by rw [eq_of_beq h]; rfl), fun _ _ => by unfold RelD; rfl⟩
    | _ => exact absurd h (by unfold datB; exact Bool.false_ne_true)
  | .int i, u, h => by
    cases u with
    | int j t =>
      unfold datB at h
      exact ⟨.int i, ⟨t, by rw [of_decide_eq_true h]⟩, fun _ _ => by unfold RelD; rfl⟩
    | _ => exact absurd h (by unfold datB; exact Bool.false_ne_true)
  | .str x, u, h => by
    cases u with
    | str y t =>
      unfold datB at h
      exact ⟨.str ⟨x.toArray⟩, ⟨t, by rw [of_decide_eq_true h]⟩, fun _ _ => by unfold RelD; rfl⟩
    | _ => exact absurd h (by unfold datB; exact Bool.false_ne_true)
  | .tup xs, u, h => by
    cases u with
    | ref a =>
      unfold datB at h
      cases q : g.K.lookup a with
      | none => rw [q] at h; cases h
      | some o =>
        obtain ⟨oc, od, dt, osl⟩ := o
        rw [q] at h
        cases oc with
        | type c =>
          cases dt with
          | seq its n =>
            obtain ⟨h1, h2⟩ := He.ba h
            obtain ⟨h3, h4⟩ := He.ba h2
            obtain ⟨vs, r, rd⟩ := datsB_ok (g := g) xs its.toList h4
            refine ⟨.ref a, rfl, fun H as => ?_⟩
            unfold RelD
            exact ⟨a, vs, rfl, .inr ⟨_, its, n, q, congrArg Value.type (of_decide_eq_true h1), rfl, of_decide_eq_true h3, r⟩, rd H as⟩
          | _ => cases h
        | _ => cases dt <;> cases h
    | _ => exact absurd h (by unfold datB; exact Bool.false_ne_true)
  | .lst xs, u, h => absurd h (by unfold datB; exact Bool.false_ne_true)
  | .ref i, u, h => absurd h (by unfold datB; exact Bool.false_ne_true)
theorem datsB_ok {g : G} : ∀ (ds : List D) (us : List Value), datsB g.K ds us = true → ∃ vs, Vals vs us ∧ ∀ H as, RelDs g H as ds vs
  | [], us, h => by
    cases us with
    | nil => exact ⟨[], .nil, fun _ _ => relDs_nil.mpr rfl⟩
    | cons u us => exact absurd h (by unfold datsB; exact Bool.false_ne_true)
  | d :: ds, us, h => by
    cases us with
    | nil => exact absurd h (by unfold datsB; exact Bool.false_ne_true)
    | cons u us =>
      unfold datsB at h
      obtain ⟨h1, h2⟩ := He.ba h
      obtain ⟨v, r, rd⟩ := datB_ok (g := g) d u h1
      obtain ⟨vs, rs, rds⟩ := datsB_ok (g := g) ds us h2
      exact ⟨v :: vs, .cons r rs, fun H as => relDs_cons.mpr ⟨v, vs, rfl, rd H as, rds H as⟩⟩
end
/-- a global that stands for a datum -/
def Dat (K : PySem.W.Frag) (C : Cl) (mg : Str → Option Value) (x : Str) (d : D) : Prop := ∃ u v, mg x = some u ∧ RelV v u ∧ ∀ H as, RelD ⟨K, C⟩ H as d v
def glB (K : PySem.W.Frag) (q : Str × D) : Bool := match PySem.W.nsIn K mainGlobals q.1 with
  | some (some u) => datB K q.2 u
  | _ => false
theorem glB_ok {K : PySem.W.Frag} {h : Heap} {mg : Str → Option Value} (C : Cl) (X : K.In h) (G : h.Ns mainGlobals mg) {q : Str × D} (c : glB K q = true) : Dat K C mg q.1 q.2 := by
  unfold glB at c
  cases e : PySem.W.nsIn K mainGlobals q.1 with
  | none => rw [e] at c; cases c
  | some r =>
    rw [e] at c
    cases r with
    | none => cases c
    | some u =>
      obtain ⟨v, rv, rd⟩ := datB_ok (g := ⟨K, C⟩) q.2 u c
      exact ⟨u, v, PySem.W.mg_of X G e, rv, rd⟩
section
variable {X : Cx} {C : Cl} {W : WX}
theorem v_dat {x : Str} {d : D} {pos : Pos} (h : Dat X.K C X.mg x d) (hg : Gl X x := by rfl) (hd : (x == ("__debug__" : Str)) = false := by decide) : VE X C W (.Name x pos) (eC d) := by
  obtain ⟨u, v, e, r, rd⟩ := h
  exact v_glob e r rd hg hd
end
end Mk
end

section
set_option maxHeartbeats 4000000
/-! Mk12: list comprehensions of two clauses. -/
open PySem PySem.Spec PyProof.Rows L2
namespace Mk
theorem Keeps.trans {H H1 H2 : Hp} {as as1 as2 : Lay} (x : Keeps H as H1 as1) (y : Keeps H1 as1 H2 as2) : Keeps H as H2 as2 :=
  ⟨fun i a e => y.get i a (x.get i a e), fun a o e nt n => let z := x.out a o e nt n; y.out a o z.1 nt z.2⟩
theorem Keeps.refl (H : Hp) (as : Lay) : Keeps H as H as := ⟨fun _ _ e => e, fun _ _ e _ n => ⟨e, n⟩⟩
open Classical in
/-- [elt for t in items if test for t1 in it1 if test1] -/
noncomputable def comp2 (ok : Mem → Prop) (t : Tg) (test : EvT) (it1 : EvI) (t1 : Tg) (test1 : EvT) (elt : Ev) (ρw : Sl) (vs1 : List Nat) : List D → Mem → Res (List D)
  | [], M => if ok M then .ok [] M else .err
  | d :: ds, M => if ok M then match t.set d ρw M with
    | none => .err
    | some ρ1 => (noX (test ρ1 M)).bind fun b M1 => if b = true then (noX (it1 ρ1 M1)).bind fun src M2 => (comp src.ok t1 test1 elt (wipeE ρ1 vs1) src.items M2).bind fun ys M3 => (comp2 ok t test it1 t1 test1 elt ρw vs1 ds M3).bind fun zs M4 => .ok (ys ++ zs) M4
      else comp2 ok t test it1 t1 test1 elt ρw vs1 ds M1
    else .err
noncomputable def eLc2 (it : EvI) (t : Tg) (own vs1 : List Nat) (test : EvT) (it1 : EvI) (t1 : Tg) (test1 : EvT) (elt : Ev) : Ev := fun ρ M => (it ρ M).bind fun src M1 =>
  match comp2 src.ok t test it1 t1 test1 elt (wipeE ρ own) vs1 src.items M1 with
    | .ok ys M2 => if ys.length ≤ lim then .ok (.lst ys) M2 else .err
    | _ => .err
section
variable {g : G} {H1 : Hp} {as1 : Lay} {D : Addr}
/-- one walk that fills the list at D -/
theorem comp_run (hxn : g.C.xs = []) (hD : H1 D = none) {t : Tg} {test : EvT} {elt : Ev} {ρ0 : Sl} {σ0 : L2.St} {ws : List Nat} (hs : ∀ i ∈ t.slots, i ∈ ws) {J : It} {src : Src} {H4 : Hp} {as4 : Lay} {M4 Me : Mem} {vs0 : List V} {ys0 zs : List Mk.D}
    (io : IterOk g H4 (as4.cover D) src J) (e4 : EnvR g H4 (as4.cover D) ρ0 σ0) (gr : Grow g H1 as1 D H4 as4 M4 vs0 ys0) (ec : comp src.ok t test elt (wipeE ρ0 ws) src.items M4 = .ok zs Me) (hl : ys0.length + zs.length ≤ lim) {Nx : Hp → Prop}
    (hN : ∀ H as vs, Grow g H1 as1 D H as Me vs (ys0 ++ zs) → Keeps H4 (as4.cover D) H (as.cover D) → Nx H) :
    ∃ W1 : Nat → Nat → Hp → Prop, (∃ m, W1 0 m H4) ∧ ∀ j k H, W1 j k H → (J.stop j H ∧ Nx H) ∨ (J.go j H ∧ ∃ Nx1 : Hp → Prop, (∀ H', Nx1 H' → ∃ k', k' < k ∧ W1 (j + 1) k' H') ∧ ∀ x H', J.yld j H x H' → gT g t x (L2.wipe σ0 ws) H' fun σ3 H5 => L2.wipe σ3 ws = L2.wipe σ0 ws ∧ tT g W0 test σ3 H5 fun b H6 =>
      if b = true then tE g W0 elt σ3 H6 fun y H7 => ∃ acc, H7 D = some (.lst acc) ∧ acc.length < sizeLine ∧ Nx1 (upd H7 D (.lst (acc ++ [y]))) else Nx1 H6) := by
  refine ⟨fun i m H => ∃ as M vs ys zs', m = src.items.length - i ∧ i ≤ src.items.length ∧ Grow g H1 as1 D H as M vs ys ∧ Keeps H4 (as4.cover D) H (as.cover D) ∧ comp src.ok t test elt (wipeE ρ0 ws) (src.items.drop i) M = .ok zs' Me ∧ ys0 ++ zs = ys ++ zs',
    ⟨src.items.length, as4, M4, vs0, ys0, zs, by simp, Nat.zero_le _, gr, Keeps.refl _ _, ec, rfl⟩, ?_⟩
  rintro i m H ⟨as, M, vs, ys, zs', rfl, hi, gr, kp, ed, ea⟩
  by_cases hlt : i < src.items.length
  · have hx : src.items[i]? = some src.items[i] := List.getElem?_eq_getElem hlt
    rw [List.drop_eq_getElem_cons hlt] at ed
    unfold comp at ed
    by_cases hok : src.ok M
    case neg => rw [if_neg hok] at ed; cases ed
    rw [if_pos hok] at ed
    cases et : t.set src.items[i] (wipeE ρ0 ws) M with
    | none => rw [et] at ed; cases ed
    | some ρ1 =>
      rw [et] at ed
      obtain ⟨b, M2, eb, ed⟩ := bind_ok ed
      have eb := noX_ok eb
      obtain ⟨hgo, hyl⟩ := io.go i H (as.cover D) M src.items[i] kp gr.mem hok hx
      refine .inr ⟨hgo, fun H' => ∃ as M vs ys zs', i + 1 ≤ src.items.length ∧ Grow g H1 as1 D H' as M vs ys ∧ Keeps H4 (as4.cover D) H' (as.cover D) ∧ comp src.ok t test elt (wipeE ρ0 ws) (src.items.drop (i + 1)) M = .ok zs' Me ∧ ys0 ++ zs = ys ++ zs',
        fun H' ⟨as, M, vs, ys, zs', a1, a2, a3, a4, a5⟩ => ⟨src.items.length - (i + 1), by omega, as, M, vs, ys, zs', rfl, a1, a2, a3, a4, a5⟩, fun x H2 hyx => ?_⟩
      obtain ⟨my, xy, ry⟩ := hyl x H2 hyx
      obtain ⟨as2, eas, gr2⟩ := gr.step my xy
      have eas2 : as2.cover D = as.cover D := eas.symm
      have k2 : Keeps H4 (as4.cover D) H2 (as.cover D) := kp.trans xy.keeps
      have env2 : EnvR g H2 (as.cover D) (wipeE ρ0 ws) (L2.wipe σ0 ws) := (e4.wipe ws hxn).mono k2
      refine ⟨wipeE ρ0 ws, M, as.cover D, src.items[i], ρ1, env2, my, ry, et, fun σ2 env3 so => ⟨?_, ?_⟩⟩
      · rw [so.wipe hs, wipe_wipe]
      refine ⟨ρ1, M, as.cover D, env3, my, ?_⟩
      rw [eb]
      intro b' H3 as3 m3 x3 hb
      obtain rfl : b = b' := hb
      rw [← eas2] at x3 k2
      obtain ⟨as4', rfl, gr4⟩ := gr2.step m3 x3
      have k3 := k2.trans x3.keeps
      cases b with
      | false =>
        rw [if_neg Bool.false_ne_true] at ed ⊢
        exact ⟨as4', M2, vs, ys, zs', hlt, gr4, k3, ed, ea⟩
      | true =>
        rw [if_pos rfl] at ed ⊢
        obtain ⟨y, M3, ey, ed⟩ := bind_ok ed
        have ey := noX_ok ey
        obtain ⟨us, M4', ew, ed⟩ := bind_ok ed
        cases ed
        refine ⟨ρ1, M2, as4'.cover D, (by rw [← eas2] at env3; exact env3.ext x3), m3, ?_⟩
        rw [ey]
        intro v H5 as5 m5 x5 r5
        obtain ⟨as6, rfl, gr6⟩ := gr4.step m5 x5
        have k5 := k3.trans x5.keeps
        have hlen := congrArg List.length ea
        rw [List.length_append, List.length_append, List.length_cons] at hlen
        refine ⟨vs, gr6.at_, ?_, as6, M3, vs ++ [v], ys ++ [y], us, hlt, gr6.add hD r5, k5.trans Keeps.grow, ew, by rw [ea]; simp⟩
        rw [gr6.rel.length, lim_eq]
        omega
  · have e : i = src.items.length := by omega
    subst e
    rw [List.drop_length] at ed
    unfold comp at ed
    by_cases hok : src.ok M
    case neg => rw [if_neg hok] at ed; cases ed
    rw [if_pos hok] at ed
    cases ed
    rw [List.append_nil] at ea
    exact .inl ⟨io.stop H (as.cover D) _ kp gr.mem hok, hN H as vs (by rw [ea]; exact gr) kp⟩
end
section
variable {X : Cx} {C : Cl} {W : WX} [NoX C]
theorem lc2_imp {it it1 : EvI} {t t1 : Tg} {own vs1 : List Nat} {test test1 : EvT} {elt : Ev} (hs : ∀ i ∈ t.slots, i ∈ own) (hs1 : ∀ i ∈ t1.slots, i ∈ vs1) {σ : L2.St} {H : Hp} {Q : VK} (h : tE ⟨X.K, C⟩ W (eLc2 it t own vs1 test it1 t1 test1 elt) σ H Q) :
    tLc2 (tI ⟨X.K, C⟩ W it) (gT ⟨X.K, C⟩ t) (tT ⟨X.K, C⟩ W0 test) (tI ⟨X.K, C⟩ W0 it1) (gT ⟨X.K, C⟩ t1) (tT ⟨X.K, C⟩ W0 test1) (tE ⟨X.K, C⟩ W0 elt) own vs1 σ H Q := by
  refine tG_mono (tG_bind (R := fun H1 as1 r J => IterOk ⟨X.K, C⟩ H1 as1 r J) h) fun J H1 ⟨ρ, as1, M1, src, e1, m1, io, q1⟩ => ?_
  intro D hD
  cases ec : comp2 src.ok t test it1 t1 test1 elt (wipeE ρ own) vs1 src.items M1 with
  | exc x M2 => rw [ec] at q1; exact q1.elim
  | err => rw [ec] at q1; exact q1.elim
  | ok all Me =>
    rw [ec] at q1
    change Fin _ (RelD ⟨X.K, C⟩) _ _ _ _ (if all.length ≤ lim then Res.ok (Mk.D.lst all) Me else Res.err) at q1
    by_cases hl : all.length ≤ lim
    case neg => rw [if_neg hl] at q1; exact q1.elim
    rw [if_pos hl] at q1
    have mD := m1.fresh hD
    refine ⟨fun i m H => ∃ as M vs ys zs, m = src.items.length - i ∧ i ≤ src.items.length ∧ Grow ⟨X.K, C⟩ H1 as1 D H as M vs ys ∧ comp2 src.ok t test it1 t1 test1 elt (wipeE ρ own) vs1 (src.items.drop i) M = .ok zs Me ∧ all = ys ++ zs,
      ⟨src.items.length, as1, M1, [], [], all, by simp, Nat.zero_le _, Grow.start m1 hD, ec, rfl⟩, ?_⟩
    rintro i m H ⟨as, M, vs, ys, zs, rfl, hi, gr, ed, ea⟩
    have kp := gr.keeps hD
    by_cases hlt : i < src.items.length
    · have hx : src.items[i]? = some src.items[i] := List.getElem?_eq_getElem hlt
      rw [List.drop_eq_getElem_cons hlt] at ed
      unfold comp2 at ed
      by_cases hok : src.ok M
      case neg => rw [if_neg hok] at ed; cases ed
      rw [if_pos hok] at ed
      cases et : t.set src.items[i] (wipeE ρ own) M with
      | none => rw [et] at ed; cases ed
      | some ρ1 =>
        rw [et] at ed
        obtain ⟨b, M2, eb, ed⟩ := bind_ok ed
        have eb := noX_ok eb
        obtain ⟨hgo, hyl⟩ := io.go i H (as.cover D) M src.items[i] kp gr.mem hok hx
        refine .inr ⟨hgo, fun H' => ∃ as M vs ys zs, i + 1 ≤ src.items.length ∧ Grow ⟨X.K, C⟩ H1 as1 D H' as M vs ys ∧ comp2 src.ok t test it1 t1 test1 elt (wipeE ρ own) vs1 (src.items.drop (i + 1)) M = .ok zs Me ∧ all = ys ++ zs,
          fun H' ⟨as, M, vs, ys, zs, a1, a2, a4, a5⟩ => ⟨src.items.length - (i + 1), by omega, as, M, vs, ys, zs, rfl, a1, a2, a4, a5⟩, fun x H2 hyx => ?_⟩
        obtain ⟨my, xy, ry⟩ := hyl x H2 hyx
        obtain ⟨as2, eas, gr2⟩ := gr.step my xy
        have eas2 : as2.cover D = as.cover D := eas.symm
        have env2 : EnvR ⟨X.K, C⟩ H2 (as.cover D) (wipeE ρ own) (L2.wipe σ own) := (e1.wipe own (NoX.no (C := C))).mono ((gr.keeps hD).trans xy.keeps)
        refine ⟨wipeE ρ own, M, as.cover D, src.items[i], ρ1, env2, my, ry, et, fun σ2 env3 so => ⟨?_, ?_⟩⟩
        · rw [so.wipe hs, wipe_wipe]
        refine ⟨ρ1, M, as.cover D, env3, my, ?_⟩
        rw [eb]
        intro b' H3 as3 m3 x3 hb
        obtain rfl : b = b' := hb
        rw [← eas2] at x3
        obtain ⟨as4, rfl, gr4⟩ := gr2.step m3 x3
        cases b with
        | false =>
          rw [if_neg Bool.false_ne_true] at ed ⊢
          exact ⟨as4, M2, vs, ys, zs, hlt, gr4, ed, ea⟩
        | true =>
          rw [if_pos rfl] at ed ⊢
          obtain ⟨src1, M3, ei, ed⟩ := bind_ok ed
          have ei := noX_ok ei
          obtain ⟨us, M4, eu, ed⟩ := bind_ok ed
          obtain ⟨ws, M5, ew, ed⟩ := bind_ok ed
          cases ed
          have env4 : EnvR ⟨X.K, C⟩ H3 (as4.cover D) ρ1 σ2 := by rw [← eas2] at env3; exact env3.ext x3
          refine ⟨ρ1, M2, as4.cover D, env4, m3, ?_⟩
          rw [ei]
          intro J1 H5 as5 m5 x5 io1
          obtain ⟨as6, rfl, gr6⟩ := gr4.step m5 x5
          have hlen := congrArg List.length ea
          simp only [List.length_append] at hlen
          refine comp_run (NoX.no (C := C)) hD hs1 io1 (env4.ext x5) gr6 eu (by omega) fun H7 as7 vs7 gr7 k7 => ?_
          exact ⟨as7, M4, vs7, ys ++ us, ws, hlt, gr7, ew, by rw [ea, List.append_assoc]⟩
    · have e : i = src.items.length := by omega
      subst e
      rw [List.drop_length] at ed
      unfold comp2 at ed
      by_cases hok : src.ok M
      case neg => rw [if_neg hok] at ed; cases ed
      rw [if_pos hok] at ed
      cases ed
      rw [List.append_nil] at ea
      subst ea
      obtain ⟨a1, a2, a3⟩ := gr.done hD mD
      exact .inl ⟨io.stop H (as.cover D) _ kp gr.mem hok, q1 _ H as a1 a2 a3⟩
theorem v_lc2 {elt tg iter tg1 iter1 : Expr} {ifs ifs1 : List Expr} {scope : Scope} {pos : Pos} {it it1 : EvI} {t t1 : Tg} {test test1 : EvT} {ev : Ev} (own : List (Str × Nat)) (vs1 : List Nat) (hc : X.calm = true) (hN : X.N.Nodup) (ok : BlkOk X.N X.env.scope scope own) (hsl : ∀ i ∈ t.slots, i ∈ own.map (·.2))
    (hv : ∀ i ∈ vs1, i ∈ own.map (·.2)) (hsl1 : ∀ i ∈ t1.slots, i ∈ vs1) (hi : VI X C W tg iter it)
    (hg : ∀ (s : Shared) (H : Hp) (Ca : Addr) (cl : List (Str × Addr)) (fp : List Addr), VG (X.blk s H scope (compEnvC scope cl Ca X.env) fp) C tg t) (ht : ∀ (s : Shared) (H : Hp) (Ca : Addr) (cl : List (Str × Addr)) (fp : List Addr), VTs (X.blk s H scope (compEnvC scope cl Ca X.env) fp) C W0 ifs test)
    (hi1 : ∀ (s : Shared) (H : Hp) (Ca : Addr) (cl : List (Str × Addr)) (fp : List Addr), VI (X.blk s H scope (compEnvC scope cl Ca X.env) fp) C W0 tg1 iter1 it1)
    (hg1 : ∀ (s : Shared) (H : Hp) (Ca : Addr) (cl : List (Str × Addr)) (fp : List Addr), VG (X.blk s H scope (compEnvC scope cl Ca X.env) fp) C tg1 t1) (ht1 : ∀ (s : Shared) (H : Hp) (Ca : Addr) (cl : List (Str × Addr)) (fp : List Addr), VTs (X.blk s H scope (compEnvC scope cl Ca X.env) fp) C W0 ifs1 test1)
    (he : ∀ (s : Shared) (H : Hp) (Ca : Addr) (cl : List (Str × Addr)) (fp : List Addr), VE (X.blk s H scope (compEnvC scope cl Ca X.env) fp) C W0 elt ev) (hs : ∀ x, foldedSetIterable iter X.env x = pure x := by intro _; rfl) (hs1 : ∀ env x, foldedSetIterable iter1 env x = pure x := by intro _ _; rfl) :
    VE X C W (.ListComp elt [⟨tg, iter, ifs, 0⟩, ⟨tg1, iter1, ifs1, 0⟩] scope pos) (eLc2 it t (own.map (·.2)) vs1 test it1 t1 test1 ev) :=
  PE.imp (pe_lc2 hc hN hi ok hv hg ht hi1 hg1 ht1 he hs hs1) fun σ H Q h => lc2_imp hsl hsl1 h
theorem vs_letLc2 (i : Nat) {y : Str} {py : Pos} {elt tg iter tg1 iter1 : Expr} {ifs ifs1 : List Expr} {scope : Scope} {pos spos : Pos} {it it1 : EvI} {t t1 : Tg} {test test1 : EvT} {ev : Ev} (own : List (Str × Nat)) (vs1 : List Nat) (hc : X.calm = true) (hN : X.N.Nodup) (ok : BlkOk X.N X.env.scope scope own) (hsl : ∀ i ∈ t.slots, i ∈ own.map (·.2))
    (hv : ∀ i ∈ vs1, i ∈ own.map (·.2)) (hsl1 : ∀ i ∈ t1.slots, i ∈ vs1) (hi : VI X C W tg iter it)
    (hg : ∀ (s : Shared) (H : Hp) (Ca : Addr) (cl : List (Str × Addr)) (fp : List Addr), VG (X.blk s H scope (compEnvC scope cl Ca X.env) fp) C tg t) (ht : ∀ (s : Shared) (H : Hp) (Ca : Addr) (cl : List (Str × Addr)) (fp : List Addr), VTs (X.blk s H scope (compEnvC scope cl Ca X.env) fp) C W0 ifs test)
    (hi1 : ∀ (s : Shared) (H : Hp) (Ca : Addr) (cl : List (Str × Addr)) (fp : List Addr), VI (X.blk s H scope (compEnvC scope cl Ca X.env) fp) C W0 tg1 iter1 it1)
    (hg1 : ∀ (s : Shared) (H : Hp) (Ca : Addr) (cl : List (Str × Addr)) (fp : List Addr), VG (X.blk s H scope (compEnvC scope cl Ca X.env) fp) C tg1 t1) (ht1 : ∀ (s : Shared) (H : Hp) (Ca : Addr) (cl : List (Str × Addr)) (fp : List Addr), VTs (X.blk s H scope (compEnvC scope cl Ca X.env) fp) C W0 ifs1 test1)
    (he : ∀ (s : Shared) (H : Hp) (Ca : Addr) (cl : List (Str × Addr)) (fp : List Addr), VE (X.blk s H scope (compEnvC scope cl Ca X.env) fp) C W0 elt ev)
    (hsw : swapsWith (.ListComp elt [⟨tg, iter, ifs, 0⟩, ⟨tg1, iter1, ifs1, 0⟩] scope pos) (some (.Name y py)) spos.line X.env = pure true)
    (hy : X.N[i]? = some y := by rfl) (hyl : X.env.scope.names.lookup y = some .local := by rfl)
    (hs : ∀ x, foldedSetIterable iter X.env x = pure x := by intro _; rfl) (hs1 : ∀ env x, foldedSetIterable iter1 env x = pure x := by intro _ _; rfl) :
    VS X C W (.Assign [.Name y py] (.ListComp elt [⟨tg, iter, ifs, 0⟩, ⟨tg1, iter1, ifs1, 0⟩] scope pos) spos) (sLet i (eLc2 it t (own.map (·.2)) vs1 test it1 t1 test1 ev)) :=
  PS.imp (ps_setLc2 hc hN hy hyl hsw hi ok hv hg ht hi1 hg1 ht1 he hs hs1) fun D σ H h => lc2_imp hsl hsl1 (let_imp (OffX.off (C := C)) h)
end
end Mk
end

section
set_option maxHeartbeats 4000000
/-! Mk13: stores into lists, reversed slices. -/
open PySem PySem.Spec PyProof.Rows L2
namespace MkT
open HT
section
variable {prog : Program} {w : World} {A : Around} {E : Value → Shared → Prop} {s : Shared}
theorem fm_congr {α β : Type} {f g : α → Option β} : ∀ {l : List α}, (∀ x ∈ l, f x = g x) → l.filterMap f = l.filterMap g
  | [], _ => rfl
  | a :: l, h => by
    rw [List.filterMap_cons, List.filterMap_cons, h a List.mem_cons_self, fm_congr fun x hx => h x (List.mem_cons_of_mem _ hx)]
theorem adjust_rev (n : Nat) : Builtin.Slice.sliceAdjust none none (-1) (n : Int) = ((n : Int) - 1, -1) := rfl
theorem places_rev (n : Nat) : Builtin.Slice.slicePlaces ((n : Int) - 1) (-1) (-1) = n := by
  unfold Builtin.Slice.slicePlaces
  have h1 : ¬ ((-1 : Int) > 0) := by omega
  simp only [h1, if_false]
  have e : ((n : Int) - 1 - -1 - 1) / (- -1) = (n : Int) - 1 := by
    rw [show (- -1 : Int) = 1 by decide, Int.ediv_one]
    omega
  rw [e]
  split <;> omega
theorem sliceApplied_rev {sl : Addr} {vs : Value} {n : Nat} {Q : Int × Int × Nat → Shared → Prop} (hs : s.heap.IsSliceOf sl .none .none vs) (ps : IsPart vs (some (-1)))
    (h : Q ((n : Int) - 1, -1, n) s) : wpAny (model prog w) A (Builtin.Slice.sliceApplied (.ref sl) (pure (n : Int))) Q E s := by
  obtain ⟨os, hos, hcs, hds⟩ := id hs
  unfold Builtin.Slice.sliceApplied Builtin.Slice.sliceFields
  refine wpAny_bind (wpAny_bind (wpAny_field hos hds (x := .none) rfl (wpAny_bind (wpAny_field hos hds (x := .none) rfl (wpAny_bind (wpAny_field hos hds (x := vs) rfl (wpAny_pure ?_)))))))
  refine wpAny_bind (slicePart_ ps ?_)
  show wpAny _ _ (if ((-1 : Int) == 0) = true then _ else _) _ _ s
  rw [if_neg (by decide)]
  refine wpAny_bind (slicePart_ .none (wpAny_bind (slicePart_ .none (wpAny_bind (wpAny_pure ?_)))))
  show wpAny _ _ (match Builtin.Slice.sliceAdjust none none (-1) (n : Int) with | (lo, hi) => pure (lo, (-1 : Int), Builtin.Slice.slicePlaces lo hi (-1))) _ _ s
  rw [adjust_rev n]
  show wpAny _ _ (pure (((n : Int) - 1), (-1 : Int), Builtin.Slice.slicePlaces ((n : Int) - 1) (-1) (-1))) _ _ s
  rw [places_rev]
  exact wpAny_pure h
theorem pick_rev (xs : Array Value) : ((List.range xs.size).filterMap fun (k : Nat) => xs[((xs.size : Int) - 1 + (k : Int) * (-1)).toNat]?).toArray = xs.toList.reverse.toArray := by
  have e : ((List.range xs.size).filterMap fun (k : Nat) => xs[((xs.size : Int) - 1 + (k : Int) * (-1)).toNat]?) = ((List.range xs.size).map fun k => xs.size - 1 - k).filterMap (xs[·]?) := by
    rw [List.filterMap_map]
    refine fm_congr fun k hk => ?_
    have := List.mem_range.mp hk
    have e2 : ((xs.size : Int) - 1 + (k : Int) * (-1)).toNat = xs.size - 1 - k := by omega
    show xs[((xs.size : Int) - 1 + (k : Int) * (-1)).toNat]? = xs[xs.size - 1 - k]?
    rw [e2]
  rw [e, PySem.W.krv_range, List.filterMap_reverse, PySem.W.krv_all]
theorem getItem_tup_rev {t sl : Addr} {items : Array Value} {vs : Value} {Q : Value → Shared → Prop} (ht : IsTup s.heap t items) (hs : s.heap.IsSliceOf sl .none .none vs) (ps : IsPart vs (some (-1)))
    (h : Q (.ref s.heap.objs.size) { s with heap := s.heap.push { cls := .type "tuple", data := .seq items.toList.reverse.toArray } }) (hsz : items.size ≤ sizeLine) : wpAny (model prog w) A (getItem (.ref t) (.ref sl)) Q E s := by
  have htake : sizeOk (.seq items.toList.reverse.toArray) := by
    show items.toList.reverse.toArray.size ≤ sizeLine
    rw [List.size_toArray, List.length_reverse, Array.length_toList]
    exact hsz
  obtain ⟨os, hos, hcs, hds⟩ := id hs
  have hTs : s.TypeIs (.ref sl) "slice" := ⟨os, hos, hcs⟩
  unfold getItem
  try with_reducible refine wpAny_holding ?_
  first | refine wpAny_bind (wpAny_pure ?_) | skip
  refine wpAny_bind (wpAny_sequenceKey ht.typeIs (by decide) ?_)
  refine wpAny_bind (wpAny_callSpecial?_slot (name := Str.ofString "__getitem__") ht.typeIs PyProof.Rows.slot_tuple_getitem
    (wpAny_call_entry PyProof.Rows.slot_tuple_getitem ht.typeIs entry_tuple_getitem ?_ (args_tuple_getitem _ _)))
  show wpAny _ _ (Builtin.Tuple.tupleItemsOf (.ref t) >>= _) _ _ s
  refine wpAny_bind (tupleItemsOf_ ht ?_)
  refine wpAny_bind (wpAny_typeOf hTs ?_)
  rw [if_pos (by decide)]
  refine wpAny_bind (sliceApplied_rev hs ps ?_)
  have hno : ¬ ((((items.size : Int) - 1) == 0 && (-1 : Int) == 1 && items.size == items.size) = true) := by
    intro q
    rw [Bool.and_eq_true, Bool.and_eq_true] at q
    exact absurd q.1.2 (by decide)
  show wpAny _ _ (if (((items.size : Int) - 1) == 0 && (-1 : Int) == 1 && items.size == items.size) = true then _ else _) _ _ s
  rw [if_neg hno, pick_rev]
  first
    | exact wpAny_bind (m := Builtin.Tuple.tupleExact _) (wpAny_newObj_type (wpAny_pure ⟨_, rfl, wpAny_pure h⟩) htake)
    | exact wpAny_bind (m := Builtin.Tuple.tupleExact _) (wpAny_newObj_type (wpAny_bind (wpAny_pure (wpAny_pure ⟨_, rfl, wpAny_pure h⟩))) htake)
    | exact wpAny_bind (wpAny_bind (m := Builtin.Tuple.tupleExact _) (wpAny_newObj_type (wpAny_pure (wpAny_pure ⟨_, rfl, wpAny_pure h⟩)) htake))
    | exact wpAny_bind (wpAny_bind (m := Builtin.Tuple.tupleExact _) (wpAny_newObj_type (wpAny_pure ⟨_, rfl, wpAny_pure h⟩) htake))
end
end MkT
namespace Mk
def revD : P1 := fun d M => match deref M d with
  | .lst xs => some (.lst xs.reverse)
  | .tup xs => some (.tup xs.reverse)
  | _ => none
/-- o[i] = v for a mutable list -/
def sSt (o i v : Ev) : EvS := fun ρ M => ofR (v ρ M) ρ fun d M1 => ofR (o ρ M1) ρ fun od M2 => ofR (i ρ M2) ρ fun id M3 => match od, id with
  | .ref k, .int z => match M3[k]? with
    | some (.lst xs) => match ixN xs.length z with
      | some j => .nx ρ (M3.set k (.lst (xs.set j d)))
      | none => .err
    | _ => .err
  | _, _ => .err
section
variable {X : Cx} {C : Cl} {W : WX} {pos : Pos}
theorem v_rev {e : Expr} {ev : Ev} {k : Nat} {p1 p2 p3 : Pos} (he : VE X C W e ev) : VE X C W (.Subscript e (.Slice none none (some (.UnaryOp .USub (.Constant (.int 1) k p1) p2)) p3) pos) (eU revD ev) := by
  refine ⟨fun pins s σ H Q I h => ?_⟩
  refine Subscript_ (thn (he.run pins s σ H _ I (unE h)) fun v s1 ⟨x, H1, I1, r1, q1⟩ => ?_)
  obtain ⟨as, M, dx, d, m, rx, hf, q⟩ := q1
  have hst : PO X (some (.UnaryOp .USub (.Constant (.int 1) k p1) p2)) (tPart (tUn (rU fun i => .int (-i)) (tC (.int 1)))) := po_some (pe_un un_neg pe_int)
  refine wpAny_Slice (thn (po_none.run pins s1 σ H1 (fun o H2 => o = none ∧ H2 = H1) I1 ⟨rfl, rfl⟩) fun vl s2 ⟨l, H2, I2, pl, el, e2⟩ => ?_)
  subst el e2
  refine thn (po_none.run pins s2 σ H2 (fun o H3 => o = none ∧ H3 = H2) I2 ⟨rfl, rfl⟩) fun vu s3 ⟨u, H3, I3, pu, eu, e3⟩ => ?_
  subst eu e3
  refine thn (hst.run pins s3 σ H3 (fun o H4 => o = some (-1) ∧ H4 = H3) I3 ⟨1, rfl, -1, rfl, rfl, rfl⟩) fun vs s4 ⟨o, H4, I4, ps, eo, e4⟩ => ?_
  subst eo e4
  have I5 : Inv X pins σ H4 { s4 with heap := s4.heap.push { cls := .type "slice", data := .fields #[vl, vu, vs] } } := I4.kept (t' := s4.toks) fun b ob q => Heap.get?_push_of_some _ q
  unfold revD at hf
  split at hf
  · rename_i xs ed
    cases hf
    obtain ⟨a, ws, rfl, h1, r2⟩ := lst_at m ed rx
    cases r1
    obtain ⟨its, r, ht, hz⟩ := I5.list (.inl h1)
    show wpAny (model X.prog X.w) X.A (subscriptTail e (.Slice none none (some (.UnaryOp .USub (.Constant (.int 1) k p1) p2)) p3) (.ref a) (.ref s4.heap.objs.size)) (EP X pins σ Q) X.xe { s4 with heap := s4.heap.push { cls := .type "slice", data := .fields #[vl, vu, vs] } }
    refine tail_any (ops := [.ref a, .ref s4.heap.objs.size]) ht.isList.typeIs (PySem.slot_list_getitem.lookup) ?_ (by with_unfolding_all rfl)
    refine wpAny_getItem_list_slice ht.isList (Heap.IsSliceOf.new _ vl vu vs) pl pu ps (by decide) ?_ (by have := r.length; rw [List.size_toArray]; omega)
    rw [PySem.W.krv_pick]
    have hp := I5.hok.fresh (Nat.le_refl _)
    refine ⟨.ref _, _, I5.laid (t' := s4.toks) (o := .lst ws.reverse) (fun b ob q => Heap.get?_push_of_some _ q) (Nat.le_refl _) ?_, rfl, q.lst m hp r2.reverse⟩
    exact ⟨by rw [List.length_reverse]; exact hz, _, 0, r.reverse, Heap.get?_push_size _ rfl⟩
  · rename_i xs ed
    cases hf
    replace rx := tup_at ed rx
    unfold RelD at rx
    obtain ⟨a, ws, rfl, h1, r2⟩ := rx
    cases r1
    cases pl
    cases pu
    obtain ⟨its, r, ht, hz⟩ := I5.tuple h1.sq
    have hl := r.length
    show wpAny (model X.prog X.w) X.A (subscriptTail e (.Slice none none (some (.UnaryOp .USub (.Constant (.int 1) k p1) p2)) p3) (.ref a) (.ref s4.heap.objs.size)) (EP X pins σ Q) X.xe { s4 with heap := s4.heap.push { cls := .type "slice", data := .fields #[.none, .none, vs] } }
    refine tail_any (ops := [.ref a, .ref s4.heap.objs.size]) ht.typeIs PyProof.Rows.slot_tuple_getitem.lookup ?_ (by with_unfolding_all rfl)
    refine MkT.getItem_tup_rev ht (Heap.IsSliceOf.new _ .none .none vs) ps ?_ (by rw [List.size_toArray]; omega)
    have hp := I5.hok.fresh (Nat.le_refl _)
    refine ⟨.ref _, _, I5.laid (t' := s4.toks) (o := .tup ws.reverse) (fun b ob q => Heap.get?_push_of_some _ q) (Nat.le_refl _) ?_, rfl, q.tup m hp r2.reverse⟩
    exact ⟨by rw [List.length_reverse]; exact hz, _, r.reverse, ⟨_, Heap.get?_push_size _ rfl, rfl, _, rfl⟩⟩
  · cases hf
theorem vs_st {o i e : Expr} {eo ei ee : Ev} {p : Pos} (he : VE X C W e ee) (ho : VE X C W o eo) (hi : VE X C W i ei) (hs : swapsWithSole [.Subscript o i p] e pos.line X.env = pure false := by rfl) (hw : swappedStores [.Subscript o i p] e X.env = pure none := by rfl)
    (h1 : (assignEach [.Subscript o i p] X.env).map (·.2) = [assign (.Subscript o i p) X.env] := by rfl)
    (ha : ∀ v, assign (.Subscript o i p) X.env v = (do
      let ov ← holding [v] (eval o X.env)
      let iv ← holding [v, ov] (eval i X.env)
      standAt p
      holding [v, ov, iv] (setItem ov iv v)
      release [v, ov, iv] []) := by intro _; rfl) : VS X C W (.Assign [.Subscript o i p] e pos) (sSt eo ei ee) := by
  refine PS.imp (ps_asg he (pg_sub ho hi set_list ha) hs hw h1) fun Dn σ H h => ?_
  refine tG_mono (tS_val (R := RelD ⟨X.K, C⟩) h) fun v H1 ⟨ρ, as1, M1, d, e1, m1, r1, q1⟩ => ?_
  have q1' : tS ⟨X.K, C⟩ W (fun ρ' M' => ofR (eo ρ' M') ρ' fun od M2 => ofR (ei ρ' M2) ρ' fun id M3 => match od, id with
    | .ref k, .int z => match M3[k]? with
      | some (.lst xs) => match ixN xs.length z with
        | some j => .nx ρ' (M3.set k (.lst (xs.set j d)))
        | none => .err
      | _ => .err
    | _, _ => .err) Dn σ H1 := ⟨ρ, M1, as1, e1, m1, q1⟩
  -- the object
  refine ⟨ρ, M1, as1, e1, m1, ?_⟩
  change FinS _ W H1 as1 Dn (ofR (eo ρ M1) ρ _) at q1
  cases h2 : eo ρ M1 with
  | err => rw [h2] at q1; exact q1
  | exc z M2 =>
    rw [h2] at q1
    exact fun c oo H2 as2 m2 x2 r2 => q1 c oo σ H2 as2 (e1.ext x2) m2 x2 r2
  | ok od M2 =>
    rw [h2] at q1
    intro ov H2 as2 m2 x2 r2
    have q2 := q1.at_ x2
    have e2 := e1.ext x2
    refine ⟨ρ, M2, as2, e2, m2, ?_⟩
    change FinS _ W H2 as2 Dn (ofR (ei ρ M2) ρ _) at q2
    cases h3 : ei ρ M2 with
    | err => rw [h3] at q2; exact q2
    | exc z M3 =>
      rw [h3] at q2
      exact fun c oo H3 as3 m3 x3 r3 => q2 c oo σ H3 as3 (e2.ext x3) m3 x3 r3
    | ok id M3 =>
      rw [h3] at q2
      intro iv H3 as3 m3 x3 r3
      have q3 := q2.at_ x3
      have e3 := e2.ext x3
      have rv := (r1.ext x2).ext x3
      have ro := r2.ext x3
      cases od with
      | ref k =>
        cases id with
        | int z =>
          change FinS _ W H3 as3 Dn (match M3[k]? with
            | some (.lst xs) => match ixN xs.length z with
              | some j => .nx ρ (M3.set k (.lst (xs.set j d)))
              | none => .err
            | _ => .err) at q3
          cases hk : M3[k]? with
          | none => rw [hk] at q3; exact q3.elim
          | some ob =>
            rw [hk] at q3
            cases ob with
            | ins c fs => exact q3.elim
            | tab => exact q3.elim
            | lst xs =>
              change FinS _ W H3 as3 Dn (match ixN xs.length z with
                | some j => .nx ρ (M3.set k (.lst (xs.set j d)))
                | none => .err) at q3
              cases hj : ixN xs.length z with
              | none => rw [hj] at q3; exact q3.elim
              | some j =>
                rw [hj] at q3
                unfold RelD at ro r3
                obtain ⟨a, rfl, ha⟩ := ro
                subst r3
                obtain ⟨vs, hv, rs⟩ := m3.obj k a _ ha hk
                refine ⟨a, vs, z, j, rfl, rfl, hv, by rw [rs.length]; exact hj, ?_⟩
                have xw : Ext H3 as3 (upd H3 a (.lst (vs.set j v))) as3 := Ext.write (List.mem_of_getElem? ha)
                exact q3 σ _ as3 (e3.ext xw) (m3.write ha ⟨_, upd_same, (RelDs.set rv j rs).ext xw⟩) xw
        | _ => exact q3.elim
      | _ => exact q3.elim
end
end Mk
end

section
set_option maxHeartbeats 4000000
/-! Mk14: sorted. -/
open PySem PySem.Spec PyProof.Rows L2
namespace Mk

/-- not below: the order that sorting goes by -/
def D.le (a b : D) : Bool := !(b.ltb a)
def D.sort (xs : List D) : List D := xs.mergeSort D.le
def isTup : D → Bool
  | .tup (_ :: _) => true
  | _ => false
def isFlat : D → Bool
  | .tup _ => false
  | .non => false
  | _ => true
/-- a list that can be sorted -/
def srtOk (xs : List D) : Bool := decide (xs.length ≤ lim) && D.pures xs && (xs.all fun x => xs.all fun y => x.alike y) && (xs.all isTup || xs.all isFlat) && decide (D.depths xs ≤ 100)
def srtD : PN := fun ds M => match ds with
  | [d] => match deref M d with
    | .lst xs => if srtOk xs = true then some (.lst (D.sort xs)) else none
    | _ => none
  | _ => none
theorem sort_congr {α : Type} {r s : α → α → Bool} {xs : List α} (h : ∀ a ∈ xs, ∀ b ∈ xs, r a b = s a b) : xs.mergeSort r = xs.mergeSort s := by
  have := List.map_mergeSort (f := id) (r := r) (s := s) (l := xs) (by simpa using h)
  simpa using this
theorem pures_mem : ∀ {xs : List D}, D.pures xs = true → ∀ x ∈ xs, x.pure = true
  | [], _, x, hx => by cases hx
  | y :: ys, h, x, hx => by
    unfold D.pures at h
    obtain ⟨h1, h2⟩ := Bool.and_eq_true_iff.mp h
    rcases List.mem_cons.mp hx with e | e
    · rw [e]; exact h1
    · exact pures_mem h2 x e
theorem depths_mem : ∀ {xs : List D} {n : Nat}, D.depths xs ≤ n → ∀ x ∈ xs, x.depth ≤ n
  | [], _, _, x, hx => by cases hx
  | y :: ys, n, h, x, hx => by
    unfold D.depths at h
    rcases List.mem_cons.mp hx with e | e
    · rw [e]; omega
    · exact depths_mem (by omega) x e
theorem each_of {g : G} {H : Hp} {as : Lay} : ∀ {xs : List D} {vs : List V} {us : List Value}, RelDs g H as xs vs → Vals vs us → PySem.W.EachIs (fun u d => ∃ v, RelV v u ∧ RelD g H as d v) us xs
  | [], vs, us, r, q => by
    rw [relDs_nil.mp r] at q
    cases q
    exact .nil
  | x :: xs, vs, us, r, q => by
    obtain ⟨v, vs', rfl, r1, r2⟩ := relDs_cons.mp r
    cases q with
    | cons q1 q2 => exact .cons ⟨v, q1, r1⟩ (each_of r2 q2)
theorem of_each {g : G} {H : Hp} {as : Lay} : ∀ {xs : List D} {us : List Value}, PySem.W.EachIs (fun u d => ∃ v, RelV v u ∧ RelD g H as d v) us xs → ∃ vs, Vals vs us ∧ RelDs g H as xs vs
  | _, _, .nil => ⟨[], .nil, relDs_nil.mpr rfl⟩
  | _, _, .cons ⟨v, q, r⟩ t => by
    obtain ⟨vs, qs, rs⟩ := of_each t
    exact ⟨v :: vs, .cons q qs, relDs_cons.mpr ⟨v, vs, rfl, r, rs⟩⟩
theorem each_imp {α β : Type} {R S : α → β → Prop} : ∀ {as : List α} {bs : List β}, PySem.W.EachIs R as bs → (∀ a b, b ∈ bs → R a b → S a b) → PySem.W.EachIs S as bs
  | _, _, .nil, _ => .nil
  | _, _, .cons h t, k => .cons (k _ _ List.mem_cons_self h) (each_imp t fun a b m r => k a b (List.mem_cons_of_mem _ m) r)
theorem tup_py {x : D} (h : isTup x = true) : ∃ y r, x.py = .tuple (y :: r) := by
  cases x with
  | tup xs =>
    cases xs with
    | nil => cases h
    | cons y ys => exact ⟨y.py, D.pys ys, by simp [D.py, D.pys]⟩
  | _ => cases h
theorem flat_py {x : D} (h : isFlat x = true) (p : x.pure = true) : x.py ≠ .none ∧ ∀ xs, x.py ≠ .tuple xs := by
  cases x with
  | tup xs => cases h
  | non => cases h
  | ref i => simp [D.pure] at p
  | nms xs => simp [D.pure] at p
  | _ => exact ⟨by simp [D.py], by simp [D.py]⟩
section
variable {X : Cx} {C : Cl}
/-- what the walk needs of a list that can be sorted -/
theorem sort_facts {pins : List (Addr × Obj)} {s : Shared} {σ : L2.St} {H : Hp} {as : Lay} {xs : List D} {vs : List V} {us : List Value} (I : Inv X pins σ H s) (hu : X.A.units + 150 < cLine) (ok : srtOk xs = true) (r : RelDs ⟨X.K, C⟩ H as xs vs) (q : Vals vs us) :
    PySem.W.EachIs (fun u d => ∃ v, RelV v u ∧ RelD ⟨X.K, C⟩ H as d v) us xs ∧ PySem.W.EachIs (fun u d => ∃ as, Reads s.heap u (D.py d) as) us xs ∧ PySem.W.AllAlike (xs.map D.py) ∧ PySem.W.Sortable (xs.map D.py) ∧ xs.length ≤ sizeLine ∧
      (∀ b, b ∈ xs → X.A.units + 2 + (D.py b).depth < cLine) ∧ xs.mergeSort (PySem.W.dataLe false D.py) = D.sort xs := by
  unfold srtOk at ok
  simp only [Bool.and_eq_true, decide_eq_true_eq] at ok
  obtain ⟨⟨⟨⟨h1, h2⟩, h3⟩, h4⟩, h5⟩ := ok
  have al : ∀ x ∈ xs, ∀ y ∈ xs, x.alike y = true := fun x hx y hy => List.all_eq_true.mp (List.all_eq_true.mp h3 x hx) y hy
  have e := each_of r q
  refine ⟨e, each_imp e fun u d hd ⟨v, rv, rd⟩ => Dp.reads I _ v u (RelD.dp d v (pures_mem h2 d hd) rd) rv, ?_, ?_, by rw [lim_eq]; exact h1, fun b hb => ?_, ?_⟩
  · intro d hd d' hd'
    obtain ⟨x, hx, rfl⟩ := List.mem_map.mp hd
    obtain ⟨y, hy, rfl⟩ := List.mem_map.mp hd'
    exact py_alike x y (al x hx y hy)
  · rcases Bool.or_eq_true_iff.mp h4 with z | z
    · exact .inl fun d hd => by
        obtain ⟨x, hx, rfl⟩ := List.mem_map.mp hd
        exact tup_py (List.all_eq_true.mp z x hx)
    · exact .inr fun d hd => by
        obtain ⟨x, hx, rfl⟩ := List.mem_map.mp hd
        exact flat_py (List.all_eq_true.mp z x hx) (pures_mem h2 x hx)
  · rw [py_depth]
    have := depths_mem h5 b hb
    omega
  · refine sort_congr fun a ha b hb => ?_
    rw [PySem.W.dataLe_eq]
    show (!PySem.W.dataLt b.py a.py) = !(b.ltb a)
    rw [py_lt b a (al b hb a ha) (pures_mem h2 b hb) (pures_mem h2 a ha)]
theorem cr_srtD (hu : X.A.units + 150 < cLine) : CallR X (.builtin "sorted") (rPN ⟨X.K, C⟩ srtD) := by
  intro pins s σ H xs us Q I r ⟨as, M, ds, d, m, rd, e, q⟩
  unfold srtD at e
  split at e
  · rename_i d0
    obtain ⟨v, rfl, r1⟩ := one_of rd
    split at e
    · rename_i ys ed
      split at e
      · rename_i ok
        cases e
        obtain ⟨a, vs, rfl, h1, q1⟩ := lst_at m ed r1
        cases r with
        | cons r rr =>
          cases rr
          cases r
          obtain ⟨its, rv, pl, hz⟩ := I.list (.inl h1)
          obtain ⟨f1, f2, f3, f4, f5, f6, f7⟩ := sort_facts I hu ok q1 rv
          refine PySem.W.sorted_data pl.isList f1 f2 f3 f4 f5 f6 fun out ol eo => ?_
          rw [f7] at eo
          obtain ⟨ws, qw, rw'⟩ := of_each eo
          obtain ⟨c, hc⟩ := sortedAll_at s.heap its out.toArray
          have hp : H (s.heap.objs.size + 1) = none := I.hok.fresh (Nat.le_succ _)
          refine ⟨.ref _, _, I.laid (t' := s.toks) (o := .lst ws) (fun b u z => sortedAll_old z) (Nat.le_succ _) ?_, rfl, q.lst m hp rw'⟩
          exact ⟨by rw [qw.length, ol]; exact f5, out, c, qw, hc⟩
      · cases e
    · cases e
  · cases e
end
end Mk
end

section
set_option maxHeartbeats 4000000
/-! Mk15: a set made of a list or of a tuple, whatever its keys are. Printed by mk15.py. -/
open PySem PySem.Spec PyProof.Rows L2
namespace Mk
def fresh0 (w : World) : Obj := { cls := .type "set", dict := none, data := .set #[] 0 (.fresh 0 0 (!w.params.followText "set-order")) }
/-- a kind of sets: which values are which keys, what it is to hold entries -/
structure SetK (P : Program) (w : World) (κ : Type) where
  is : Heap → κ → Value → Prop
  at_ : Heap → Addr → List (κ × Value) → Prop
  keep : ∀ {h h' : Heap} {a : Addr} {L : List (κ × Value)}, at_ h a L → (∀ o, h.get? a = some o → h'.get? a = some o) → (∀ p ∈ L, is h' p.1 p.2) → at_ h' a L
  isKeep : ∀ {h h' : Heap} {k : κ} {v : Value}, is h k v → (∀ b o, h.get? b = some o → h'.get? b = some o) → is h' k v
  fresh : ∀ {h : Heap} {a : Addr}, h.get? a = some (fresh0 w) → at_ h a []
  add : ∀ {A : Around} {E : Value → Shared → Prop} {s : Shared} {a : Addr} {L : List (κ × Value)} {k : κ} {v : Value} {Q : Bool → Shared → Prop}, A.units + 20 < cLine → at_ s.heap a L → is s.heap k v → L.length + 1 < 64 →
    (∀ (b : Bool) (h' : Heap) (tk : Nat) (L' : List (κ × Value)), Heap.SameBut a s.heap h' → s.toks ≤ tk → at_ h' a L' → (k ∈ L.map (·.1) → L' = L) → (k ∉ L.map (·.1) → L'.Perm ((k, v) :: L)) → Q b { s with heap := h', toks := tk }) →
    wpAny (model P w) A (setAdd a v) Q E s
/-- what the first i items have left -/
structure Gained {κ : Type} (ks : List (κ × Value)) (i : Nat) (L : List (κ × Value)) : Prop where
  sub : ∀ p ∈ L, p ∈ ks.take i
  all : ∀ p ∈ ks.take i, p.1 ∈ L.map (·.1)
  nd : (L.map (·.1)).Nodup
  len : L.length ≤ i
section
variable {κ : Type} {ks L L' : List (κ × Value)} {i : Nat} {x : κ × Value}
theorem Gained.zero (ks : List (κ × Value)) : Gained ks 0 [] := ⟨fun p h => (by cases h), fun p h => (by simp at h), List.nodup_nil, Nat.le_refl _⟩
theorem take_one {α : Type} {l : List α} {i : Nat} {x : α} (h : l[i]? = some x) : l.take (i + 1) = l.take i ++ [x] := by
  rw [List.take_succ, h] <;> rfl
theorem Gained.same (g : Gained ks i L) (h : ks[i]? = some x) (hm : x.1 ∈ L.map (·.1)) : Gained ks (i + 1) L := by
  refine ⟨fun p hp => by rw [take_one h]; exact List.mem_append_left _ (g.sub p hp), fun p hp => ?_, g.nd, Nat.le_succ_of_le g.len⟩
  rw [take_one h] at hp
  rcases List.mem_append.mp hp with z | z
  · exact g.all p z
  · rw [List.mem_singleton.mp z]; exact hm
theorem Gained.more (g : Gained ks i L) (h : ks[i]? = some x) (hm : x.1 ∉ L.map (·.1)) (pm : L'.Perm (x :: L)) : Gained ks (i + 1) L' := by
  refine ⟨fun p hp => ?_, fun p hp => ?_, ?_, ?_⟩
  · rw [take_one h]
    rcases List.mem_cons.mp (pm.mem_iff.mp hp) with e | z
    · rw [e]; exact List.mem_append_right _ (List.mem_singleton.mpr rfl)
    · exact List.mem_append_left _ (g.sub p z)
  · rw [take_one h] at hp
    refine (pm.map (·.1)).mem_iff.mpr ?_
    rcases List.mem_append.mp hp with z | z
    · exact List.mem_cons_of_mem _ (g.all p z)
    · rw [List.mem_singleton.mp z]; exact List.mem_cons_self
  · refine (pm.map (·.1)).nodup_iff.mpr ?_
    rw [List.map_cons]
    exact List.nodup_cons.mpr ⟨hm, g.nd⟩
  · rw [pm.length_eq]
    exact Nat.succ_le_succ g.len
end
section
variable {P : Program} {w : World} {A : Around} {E : Value → Shared → Prop} {s : Shared} {κ : Type} (J : SetK P w κ)
/-- set.update's walk -/
theorem set_walk {I : Addr} {fp wr : List Addr} {G : Array GenState → Array GenState → Prop} {n : Nat} {Pv : Nat → Value → Prop} {St : Nat → Shared → Prop} {R : Result → Shared → Prop}
    (W : WalksS P w A.in1 I fp wr G n Pv St) (S : Addr) (hSf : S ∉ fp) (ks : List (κ × Value)) (hn : n = ks.length) (hfew : ks.length < 64) (hval : ∀ i v, Pv i v → ∃ p, ks[i]? = some p ∧ v = p.2)
    (h0 : Heap) (hk : ∀ p ∈ ks, J.is h0 p.1 p.2) (hS0 : h0.get? S = none) (hw0 : ∀ b ∈ wr, h0.get? b = none) (hu : A.in1.units + 20 < cLine) :
    ∀ (k i : Nat) (s : Shared), n - i = k → i ≤ n → St i s → (∀ b o, h0.get? b = some o → s.heap.get? b = some o) → (∃ L, J.at_ s.heap S L ∧ Gained ks i L) →
      (∀ s' L, Moved (S :: wr) G s s' → J.at_ s'.heap S L → Gained ks n L → (∀ b o, h0.get? b = some o → s'.heap.get? b = some o) → R (.ok (.ret .none)) s') →
      codeAny (model P w) A (.builtin "set.update.loop" ⟨[.ref S, .ref I], []⟩) R s := by
  have hSw : S ∉ wr := fun z => hSf (W.sub _ z)
  have widen : ∀ b ∈ wr, b ∈ S :: wr := fun b hb => List.mem_cons_of_mem _ hb
  have keepM : ∀ {s s' : Shared}, Moved wr G s s' → (∀ b o, h0.get? b = some o → s.heap.get? b = some o) → ∀ b o, h0.get? b = some o → s'.heap.get? b = some o := fun hm hkp b o e =>
    hm.heap b o (fun hb => by rw [hw0 b hb] at e; cases e) (hkp b o e)
  intro k
  induction k with
  | zero =>
    intro i s hk' hi hst hkp ⟨L, hS, g⟩ hR
    obtain rfl : i = n := by omega
    refine codeAny_builtin F.entry_set_update_loop ?_
    rw [Around.under_plainId F.plain_set_update_loop _]
    show wpAny _ A.in1 (pyNext (.ref I) >>= _) _ _ s
    refine wpAny_bind (W.done s _ _ hst fun s' hm => ?_)
    have hkp' := keepM hm hkp
    exact wpAny_pure (hR s' L (hm.mono widen) (J.keep hS (fun o e => hm.heap S o hSw e) fun p hp => J.isKeep (hk p (List.mem_of_mem_take (g.sub p hp))) hkp') g hkp')
  | succ k ih =>
    intro i s hk' hi hst hkp ⟨L, hS, g⟩ hR
    have hlt : i < n := by omega
    refine codeAny_builtin F.entry_set_update_loop ?_
    rw [Around.under_plainId F.plain_set_update_loop _]
    show wpAny _ A.in1 (pyNext (.ref I) >>= _) _ _ s
    refine wpAny_bind (W.item i s _ _ hlt hst fun v s' hP hst' hm => ?_)
    obtain ⟨p, hp, rfl⟩ := hval i v hP
    have hkp' := keepM hm hkp
    have hS' := J.keep hS (fun o e => hm.heap S o hSw e) fun q hq => J.isKeep (hk q (List.mem_of_mem_take (g.sub q hq))) hkp'
    show wpAny _ A.in1 (holding [p.2] (setAdd S p.2) >>= _) _ _ s'
    refine wpAny_bind (wpAny_holding ?_)
    refine J.add hu hS' (J.isKeep (hk p (List.mem_of_getElem? hp)) hkp') (by have := g.len; omega) fun b h' tk L' hsb ht hS2 c1 c2 => ?_
    have g' : Gained ks (i + 1) L' := by
      rcases Classical.em (p.1 ∈ L.map (·.1)) with c | c
      · rw [c1 c]; exact g.same hp c
      · exact g.more hp c (c2 c)
    have hkp2 : ∀ b o, h0.get? b = some o → h'.get? b = some o := fun b o e => (hsb.2 b (fun z => by rw [z, hS0] at e; cases e)).trans (hkp' b o e)
    refine wpAny_pure ⟨plainId_quiet F.plain_set_update_loop _, ih (i + 1) _ (by omega) hlt (W.frame _ s' _ _ hst' ht fun b hb o e => ?_) hkp2 ⟨L', hS2, g'⟩ fun s'' L2 hm'' hS'' g'' hkp'' => ?_⟩
    · rw [hsb.2 b (fun z : b = S => hSf (by rw [← z]; exact hb))]; exact e
    · refine hR s'' L2 (Moved.trans W.gtrans ((hm.mono widen).then_heap ht fun b o hb e => ?_) hm'') hS'' g'' hkp''
      rw [hsb.2 b (fun z : b = S => hb (by rw [z]; exact List.mem_cons_self))]; exact e

/-- set(a list) -/
theorem set_of_list {l : Addr} {items : Array Value} (ks : List (κ × Value)) {Q : Value → Shared → Prop} (hh : A.handled = none) (hl : s.heap.IsList l items) (hit : items.toList = ks.map (·.2))
    (hk : ∀ p ∈ ks, J.is s.heap p.1 p.2) (hfew : ks.length < 64) (hu : A.units + 30 < cLine)
    (h : ∀ (h' : Heap) (tk : Nat) L, J.at_ h' s.heap.objs.size L → Gained ks ks.length L → (∀ b o, s.heap.get? b = some o → h'.get? b = some o) → Q (.ref s.heap.objs.size) { s with heap := h', toks := tk }) :
    wpAny (model P w) A (call (.type "set") [.ref l]) Q E s := by
  have hisz : items.size = ks.length := by
    have q := congrArg List.length hit
    rw [Array.length_toList, List.length_map] at q
    exact q
  obtain ⟨c, tl, hmro⟩ := F.called_set.mro
  have hmade := F.called_set.made
  have hsub := F.called_set.sub
  refine wpAny_call (codeAny_of_tree ?_)
  show wpAny _ _ (callAny (.type "set") _) _ _ _
  refine wpAny_pure ⟨Code.quiet_builtin _ (by decide +kernel), codeAny_builtin F.entry_type_call ?_⟩
  rw [Around.under_plain (weight_type_call_type "set" [.ref l] []) rfl]
  have h1 := F.called_set.notType
  have h2 := F.called_set.canCreate
  have hct := F.typeCall_set_1 (.ref l)
  repeat (any_goals (first | assumption | wp_step))
  refine codeAny_mono (code_set_led1 (.ref l) (E := E) (Q₁ := fun obj s₁ => obj = .ref s.heap.objs.size ∧ s₁ = { s with heap := s.heap.push (fresh0 w) }) ⟨rfl, rfl⟩) fun r s₁ hr => ?_
  cases r with
  | error e => exact hr
  | ok fl =>
    cases fl with
    | ret obj =>
      obtain ⟨rfl, rfl⟩ := hr
      have hS : (s.heap.push (fresh0 w)).get? s.heap.objs.size = some (fresh0 w) := Heap.get?_push_size _ rfl
      have hT : Shared.TypeIs { s with heap := s.heap.push (fresh0 w) } (.ref s.heap.objs.size) "set" := ⟨_, hS, rfl⟩
      have hli := F.called_set.init.lookup
      have hbi := F.called_set.init.bind (.ref s.heap.objs.size)
      repeat (any_goals (first | assumption | wp_step))
      refine codeAny_mono (codeAny_call_builtin (R := wants (fun r s₂ => r = .none ∧ ∃ h' tk L, s₂ = { s with heap := h', toks := tk } ∧ J.at_ h' s.heap.objs.size L ∧ Gained ks ks.length L ∧ (∀ b o, s.heap.get? b = some o → h'.get? b = some o)) E)
        F.called_set.init.plain F.entry_set_init (check_set_init_1 hT ?_)) fun r₂ s₂ hr₂ => ?_
      · obtain ⟨⟨ocls, odict, odata, oslots⟩, hol, hcl, nl, hdl⟩ := hl
        simp only at hcl hdl
        subst hcl; subst hdl
        have hol' : (s.heap.push (fresh0 w)).get? l = some { cls := .type "list", dict := odict, data := .seq items nl, slots := oslots } := Heap.get?_push_of_some _ hol
        have hsls := F.sub_list_set
        have hslf := F.sub_list_frozenset
        have hne : (Value.type "list" == Value.type "dict") = false := by decide
        have hl1 : (s.heap.push (fresh0 w)).IsList l items := ⟨_, hol', rfl, nl, rfl⟩
        unfold Builtin.«set.__init__» noKeywords Builtin.Frozenset.updateFrom
        generalize hPI : pyIter = PI
        wp_walk
        subst hPI
        refine wpAny_pyIter_list hl1 ?_
        refine wpAny_bind (wpAny_runValue ?_)
        have hlS : l < s.heap.objs.size := Heap.lt_size hol
        have hh3 : A.in1.in1.in1.handled = none := by simp [hh]
        have hz1 : (s.heap.push (fresh0 w)).objs.size = s.heap.objs.size + 1 := Heap.size_push ..
        have hneI : l ≠ (s.heap.push (fresh0 w)).objs.size := by rw [hz1]; exact Nat.ne_of_lt (Nat.lt_succ_of_lt hlS)
        have hSf : s.heap.objs.size ∉ [(s.heap.push (fresh0 w)).objs.size, l] := by
          rw [hz1]; simp only [List.mem_cons, List.mem_singleton, List.not_mem_nil, or_false, not_or]
          exact ⟨Nat.ne_of_lt (Nat.lt_succ_self _), Nat.ne_of_gt hlS⟩
        have hval : ∀ (i : Nat) (v : Value), items[i]? = some v → ∃ p, ks[i]? = some p ∧ v = p.2 := fun i v hv => by
          have q : items.toList[i]? = some v := by rw [Array.getElem?_toList]; exact hv
          rw [hit, List.getElem?_map] at q
          cases hq : ks[i]? with
          | none => rw [hq] at q; cases q
          | some p => rw [hq] at q; exact ⟨p, rfl, (Option.some.inj q).symm⟩
        have none_of : ∀ b, s.heap.objs.size ≤ b → s.heap.get? b = none := fun b hb => by
          cases q : s.heap.get? b with
          | none => rfl
          | some o => exact absurd (Nat.lt_of_lt_of_le (Heap.lt_size q) hb) (Nat.lt_irrefl _)
        refine set_walk J ((Walks.list hh3 _ l hneI items).toS) s.heap.objs.size hSf ks hisz hfew hval s.heap hk (none_of _ (Nat.le_refl _)) (fun b hb => none_of b (by rw [List.mem_singleton.mp hb, hz1]; exact Nat.le_succ _))
          (by simp only [Around.in1_units]; omega) (items.size - 0) 0 _ (by omega) (Nat.zero_le _)
          ⟨⟨_, Heap.get?_push_size _ rfl, rfl, rfl⟩, (hl1.push _)⟩ (fun b o e => Heap.get?_push_of_some _ (Heap.get?_push_of_some _ e)) ⟨[], J.fresh (Heap.get?_push_of_some _ hS), Gained.zero ks⟩ ?hR
        case hR =>
          intro s' L hm hS' g' hkp
          obtain ⟨h', g2, d', tk', os'⟩ := s'
          obtain rfl : g2 = s.gens := hm.gens
          obtain rfl : d' = s.drawn := hm.drawn
          obtain rfl : os' = s.os := hm.os
          show wpAny _ _ _ _ _ _
          refine wpAny_pure ?_
          show wpAny _ _ (ret Value.none) _ _ _
          rw [hisz] at g'
          exact wpAny_pure ⟨rfl, h', tk', L, rfl, hS', g', hkp⟩
      · cases r₂ with
        | error e => exact hr₂
        | ok fl₂ =>
          cases fl₂ with
          | ret r =>
            obtain ⟨rfl, h', tk, L, rfl, hS', g', hk'⟩ := hr₂
            repeat (any_goals (first | assumption | wp_step))
            exact h _ _ _ hS' g' hk'
          | _ => exact hr₂.elim
    | _ => exact hr.elim

/-- set(a tuple) -/
theorem set_of_tuple {l : Addr} {items : Array Value} (ks : List (κ × Value)) {Q : Value → Shared → Prop} (hh : A.handled = none) (hl : s.heap.IsTuple l items) (hit : items.toList = ks.map (·.2))
    (hk : ∀ p ∈ ks, J.is s.heap p.1 p.2) (hfew : ks.length < 64) (hu : A.units + 30 < cLine)
    (h : ∀ (h' : Heap) (tk : Nat) L, J.at_ h' s.heap.objs.size L → Gained ks ks.length L → (∀ b o, s.heap.get? b = some o → h'.get? b = some o) → Q (.ref s.heap.objs.size) { s with heap := h', toks := tk }) :
    wpAny (model P w) A (call (.type "set") [.ref l]) Q E s := by
  have hisz : items.size = ks.length := by
    have q := congrArg List.length hit
    rw [Array.length_toList, List.length_map] at q
    exact q
  obtain ⟨c, tl, hmro⟩ := F.called_set.mro
  have hmade := F.called_set.made
  have hsub := F.called_set.sub
  refine wpAny_call (codeAny_of_tree ?_)
  show wpAny _ _ (callAny (.type "set") _) _ _ _
  refine wpAny_pure ⟨Code.quiet_builtin _ (by decide +kernel), codeAny_builtin F.entry_type_call ?_⟩
  rw [Around.under_plain (weight_type_call_type "set" [.ref l] []) rfl]
  have h1 := F.called_set.notType
  have h2 := F.called_set.canCreate
  have hct := F.typeCall_set_1 (.ref l)
  repeat (any_goals (first | assumption | wp_step))
  refine codeAny_mono (code_set_led1 (.ref l) (E := E) (Q₁ := fun obj s₁ => obj = .ref s.heap.objs.size ∧ s₁ = { s with heap := s.heap.push (fresh0 w) }) ⟨rfl, rfl⟩) fun r s₁ hr => ?_
  cases r with
  | error e => exact hr
  | ok fl =>
    cases fl with
    | ret obj =>
      obtain ⟨rfl, rfl⟩ := hr
      have hS : (s.heap.push (fresh0 w)).get? s.heap.objs.size = some (fresh0 w) := Heap.get?_push_size _ rfl
      have hT : Shared.TypeIs { s with heap := s.heap.push (fresh0 w) } (.ref s.heap.objs.size) "set" := ⟨_, hS, rfl⟩
      have hli := F.called_set.init.lookup
      have hbi := F.called_set.init.bind (.ref s.heap.objs.size)
      repeat (any_goals (first | assumption | wp_step))
      refine codeAny_mono (codeAny_call_builtin (R := wants (fun r s₂ => r = .none ∧ ∃ h' tk L, s₂ = { s with heap := h', toks := tk } ∧ J.at_ h' s.heap.objs.size L ∧ Gained ks ks.length L ∧ (∀ b o, s.heap.get? b = some o → h'.get? b = some o)) E)
        F.called_set.init.plain F.entry_set_init (check_set_init_1 hT ?_)) fun r₂ s₂ hr₂ => ?_
      · obtain ⟨⟨ocls, odict, odata, oslots⟩, hol, hcl, nl, hdl⟩ := hl
        simp only at hcl hdl
        subst hcl; subst hdl
        have hol' : (s.heap.push (fresh0 w)).get? l = some { cls := .type "tuple", dict := odict, data := .seq items nl, slots := oslots } := Heap.get?_push_of_some _ hol
        have hsls := F.sub_tuple_set
        have hslf := F.sub_tuple_frozenset
        have hne : (Value.type "tuple" == Value.type "dict") = false := by decide
        have hl1 : (s.heap.push (fresh0 w)).IsTuple l items := ⟨_, hol', rfl, nl, rfl⟩
        unfold Builtin.«set.__init__» noKeywords Builtin.Frozenset.updateFrom
        generalize hPI : pyIter = PI
        wp_walk
        subst hPI
        refine wpAny_pyIter_tuple hl1 ?_
        refine wpAny_bind (wpAny_runValue ?_)
        have hlS : l < s.heap.objs.size := Heap.lt_size hol
        have hh3 : A.in1.in1.in1.handled = none := by simp [hh]
        have hz1 : (s.heap.push (fresh0 w)).objs.size = s.heap.objs.size + 1 := Heap.size_push ..
        have hneI : l ≠ (s.heap.push (fresh0 w)).objs.size := by rw [hz1]; exact Nat.ne_of_lt (Nat.lt_succ_of_lt hlS)
        have hSf : s.heap.objs.size ∉ [(s.heap.push (fresh0 w)).objs.size, l] := by
          rw [hz1]; simp only [List.mem_cons, List.mem_singleton, List.not_mem_nil, or_false, not_or]
          exact ⟨Nat.ne_of_lt (Nat.lt_succ_self _), Nat.ne_of_gt hlS⟩
        have hval : ∀ (i : Nat) (v : Value), items[i]? = some v → ∃ p, ks[i]? = some p ∧ v = p.2 := fun i v hv => by
          have q : items.toList[i]? = some v := by rw [Array.getElem?_toList]; exact hv
          rw [hit, List.getElem?_map] at q
          cases hq : ks[i]? with
          | none => rw [hq] at q; cases q
          | some p => rw [hq] at q; exact ⟨p, rfl, (Option.some.inj q).symm⟩
        have none_of : ∀ b, s.heap.objs.size ≤ b → s.heap.get? b = none := fun b hb => by
          cases q : s.heap.get? b with
          | none => rfl
          | some o => exact absurd (Nat.lt_of_lt_of_le (Heap.lt_size q) hb) (Nat.lt_irrefl _)
        refine set_walk J ((Walks.tuple hh3 _ l hneI items).toS) s.heap.objs.size hSf ks hisz hfew hval s.heap hk (none_of _ (Nat.le_refl _)) (fun b hb => none_of b (by rw [List.mem_singleton.mp hb, hz1]; exact Nat.le_succ _))
          (by simp only [Around.in1_units]; omega) (items.size - 0) 0 _ (by omega) (Nat.zero_le _)
          ⟨⟨_, Heap.get?_push_size _ rfl, rfl, rfl⟩, (hl1.push _)⟩ (fun b o e => Heap.get?_push_of_some _ (Heap.get?_push_of_some _ e)) ⟨[], J.fresh (Heap.get?_push_of_some _ hS), Gained.zero ks⟩ ?hR
        case hR =>
          intro s' L hm hS' g' hkp
          obtain ⟨h', g2, d', tk', os'⟩ := s'
          obtain rfl : g2 = s.gens := hm.gens
          obtain rfl : d' = s.drawn := hm.drawn
          obtain rfl : os' = s.os := hm.os
          show wpAny _ _ _ _ _ _
          refine wpAny_pure ?_
          show wpAny _ _ (ret Value.none) _ _ _
          rw [hisz] at g'
          exact wpAny_pure ⟨rfl, h', tk', L, rfl, hS', g', hkp⟩
      · cases r₂ with
        | error e => exact hr₂
        | ok fl₂ =>
          cases fl₂ with
          | ret r =>
            obtain ⟨rfl, h', tk, L, rfl, hS', g', hk'⟩ := hr₂
            repeat (any_goals (first | assumption | wp_step))
            exact h _ _ _ hS' g' hk'
          | _ => exact hr₂.elim
    | _ => exact hr.elim
end
end Mk
end

section
set_option maxHeartbeats 4000000
/-! Mk16: sets of texts; sets of tuples of anything that is a key. -/
open PySem PySem.Spec PyProof.Rows L2
namespace Mk
/-! ### texts -/
theorem size64 {n : Nat} (h : n < 64) : n < scanBound := by unfold scanBound; omega
def TxtAt (P : Program) (w : World) (h : Heap) (a : Addr) (L : List (Str × Value)) : Prop := (L.map (·.1)).Nodup ∧ h.SetOf (PySem.strKind P w) a (fun k => decide (k ∈ L.map (·.1))) L.length
def txtK (P : Program) (w : World) : SetK P w Str where
  is := fun _ k v => ∃ t, v = .str k t
  at_ := TxtAt P w
  keep := by
    intro h h' a L x k _
    obtain ⟨nd, o, es, ep, t, ho, r⟩ := x
    exact ⟨nd, o, es, ep, t, k o ho, r⟩
  isKeep := fun x _ => x
  fresh := fun {h a} ho => ⟨List.nodup_nil, fresh0 w, #[], 0, .fresh 0 0 (!w.params.followText "set-order"), ho, ⟨rfl, rfl, rfl⟩, rfl, fun e he => by simp at he, fun k => by simp, by decide, by rfl, rfl⟩
  add := by
    intro A E s a L k v Q hu ⟨nd, hS⟩ ⟨t, hv⟩ hl hQ
    subst hv
    have hkey : (PySem.strKind P w).is k (.str k t) = true := by
      show Value.isStrOf k (.str k t) = true
      simp [Value.isStrOf]
    unfold setAdd
    refine wpAny_holding (wpAny_bind ((PySem.strKind P w).pyHash hkey ?_))
    refine wpAny_setAddHashed_of (s := { s with toks := s.toks + 1 }) hkey rfl hS (size64 hl) fun h' sb hS' => ?_
    by_cases hm : k ∈ L.map (·.1)
    · have e1 : decide (k ∈ L.map (·.1)) = true := decide_eq_true hm
      rw [e1, if_pos rfl] at hS'
      refine hQ _ h' _ L sb (Nat.le_succ _) ⟨nd, ?_⟩ (fun _ => rfl) fun z => absurd hm z
      have e2 : (fun k' => decide (k' ∈ L.map (·.1)) || decide (k' = k)) = fun k' => decide (k' ∈ L.map (·.1)) := by
        funext k'
        by_cases h1 : k' = k
        · subst h1; simp [e1]
        · simp [h1]
      rw [e2] at hS'
      exact hS'
    · have e1 : decide (k ∈ L.map (·.1)) = false := decide_eq_false hm
      rw [e1, if_neg Bool.false_ne_true] at hS'
      refine hQ _ h' _ ((k, .str k t) :: L) sb (Nat.le_succ _) ⟨?_, ?_⟩ (fun z => absurd z hm) fun _ => List.Perm.refl _
      · rw [List.map_cons]; exact List.nodup_cons.mpr ⟨hm, nd⟩
      · have e2 : (fun k' => decide (k' ∈ L.map (·.1)) || decide (k' = k)) = fun k' => decide (k' ∈ ((k, Value.str k t) :: L).map (·.1)) := by
          funext k'
          rw [List.map_cons]
          by_cases h1 : k' = k
          · subst h1; simp
          · simp [h1]
        rw [e2] at hS'
        exact hS'

/-! ### tuples of keys -/
section
variable {P : Program} {w : World} {A : Around} {E : Value → Shared → Prop} {s : Shared}
mutual
theorem statement_key : ∀ (k : NestedKey) (v : Value) (n : Nat) (A : Around) (s : Shared) (Q : Bool → Shared → Prop), NestedIs s.heap k v → k.depth ≤ n → Q false s → wpAny (model P w) A (ofAClassStatement n v) Q E s
  | .none, _, n, A, s, Q, x, _, h => by cases x; cases n <;> exact wpAny_pure h
  | .num i, _, n, A, s, Q, x, _, h => by cases x <;> cases n <;> exact wpAny_pure h
  | .text y, _, n, A, s, Q, x, _, h => by cases x; cases n <;> exact wpAny_pure h
  | .tup ks, _, n, A, s, Q, x, hn, h => by
    cases x with
    | @tup b o vs m _ hg hc hd hk =>
      simp only [NestedKey.depth] at hn
      cases n with
      | zero => omega
      | succ n =>
        have hT : s.TypeIs (.ref b) "tuple" := ⟨o, hg, hc⟩
        unfold ofAClassStatement
        refine wpAny_bind (wpAny_typeOf hT ?_)
        dsimp only
        have e : (("tuple" : String) == "tuple") = true := by decide
        simp only [e, if_true, Bool.not_true, Bool.false_eq_true, if_false]
        try refine wpAny_bind (wpAny_pure ?_)
        try simp only [Bool.not_true, Bool.false_eq_true, if_false]
        show wpAny _ _ (seqItems? (.ref b) >>= _) _ _ s
        refine wpAny_bind (wpAny_seqItems hg hd ?_)
        dsimp only
        refine wpAny_bind ?_
        show wpAny _ _ (forIn vs _ _) _ _ s
        rw [← Array.forIn_toList]
        refine wpAny_forIn_list _ (fun rest r s' => r.1 = none ∧ s' = s ∧ ∀ v ∈ rest, ∀ (A : Around) (Q : Bool → Shared → Prop), Q false s → wpAny (model P w) A (ofAClassStatement n v) Q E s) _ ?_ ?_ _ _
          ⟨rfl, rfl, fun v hv A Q q => statement_keys ks vs.toList n A s Q hk (by omega) v hv q⟩
        · rintro v rest r s' ⟨hr, rfl, hall⟩
          refine wpAny_bind (hall v List.mem_cons_self _ _ ?_)
          simp only [Bool.false_eq_true, if_false]
          exact wpAny_pure ⟨rfl, rfl, fun u hu' => hall u (List.mem_cons_of_mem _ hu')⟩
        · rintro ⟨r1, r2⟩ s' ⟨hr, rfl, _⟩
          simp only at hr
          subst hr
          exact wpAny_pure h
theorem statement_keys : ∀ (ks : List NestedKey) (vs : List Value) (n : Nat) (A : Around) (s : Shared) (Q : Bool → Shared → Prop), NestedAll s.heap ks vs → NestedKey.depthAll ks ≤ n → ∀ v ∈ vs, Q false s → wpAny (model P w) A (ofAClassStatement n v) Q E s
  | [], _, n, A, s, Q, x, _, v, hv, _ => by cases x; cases hv
  | k :: ks, _, n, A, s, Q, x, hn, v, hv, h => by
    cases x with
    | cons x1 x2 =>
      simp only [NestedKey.depthAll] at hn
      rcases List.mem_cons.mp hv with e | hv
      · rw [e]; exact statement_key k _ n A s Q x1 (by omega) h
      · exact statement_keys ks _ n A s Q x2 (by omega) v hv h
end
mutual
theorem told_key : ∀ (k : NestedKey) (v : Value) (n : Nat) (A : Around) (s : Shared) (Q : Bool → Shared → Prop), NestedIs s.heap k v → k.depth ≤ n → (∀ b, Q b s) → wpAny (model P w) A (hashByValue n v) Q E s
  | .none, _, n, A, s, Q, x, _, h => by cases x; cases n <;> exact wpAny_pure (h _)
  | .num i, _, n, A, s, Q, x, _, h => by cases x <;> cases n <;> exact wpAny_pure (h _)
  | .text y, _, n, A, s, Q, x, _, h => by cases x; cases n <;> exact wpAny_pure (h _)
  | .tup ks, _, n, A, s, Q, x, hn, h => by
    cases x with
    | @tup b o vs m _ hg hc hd hk =>
      simp only [NestedKey.depth] at hn
      cases n with
      | zero => omega
      | succ n =>
        have hT : s.TypeIs (.ref b) "tuple" := ⟨o, hg, hc⟩
        unfold hashByValue
        refine wpAny_bind (wpAny_specialOf hT F.slot_tuple_hash.lookup ?_)
        show wpAny _ _ (seqItems? (.ref b) >>= _) _ _ s
        refine wpAny_bind (wpAny_seqItems hg hd ?_)
        refine wpAny_bind ?_
        show wpAny _ _ (forIn vs _ _) _ _ s
        rw [← Array.forIn_toList]
        refine wpAny_forIn_list _ (fun rest r s' => r.1 = none ∧ s' = s ∧ ∀ v ∈ rest, ∀ (A : Around) (Q : Bool → Shared → Prop), (∀ b, Q b s) → wpAny (model P w) A (hashByValue n v) Q E s) _ ?_ ?_ _ _
          ⟨rfl, rfl, fun v hv A Q q => told_keys ks vs.toList n A s Q hk (by omega) v hv q⟩
        · rintro v rest r s' ⟨hr, rfl, hall⟩
          refine wpAny_bind (hall v List.mem_cons_self _ _ fun b => ?_)
          cases b with
          | true =>
            simp only [Bool.not_true, Bool.false_eq_true, if_false]
            exact wpAny_pure ⟨rfl, rfl, fun u hu' => hall u (List.mem_cons_of_mem _ hu')⟩
          | false =>
            simp only [Bool.not_false, if_true]
            exact wpAny_pure (wpAny_pure (h _))
        · rintro ⟨r1, r2⟩ s' ⟨hr, rfl, _⟩
          simp only at hr
          subst hr
          exact wpAny_pure (h _)
theorem told_keys : ∀ (ks : List NestedKey) (vs : List Value) (n : Nat) (A : Around) (s : Shared) (Q : Bool → Shared → Prop), NestedAll s.heap ks vs → NestedKey.depthAll ks ≤ n → ∀ v ∈ vs, (∀ b, Q b s) → wpAny (model P w) A (hashByValue n v) Q E s
  | [], _, n, A, s, Q, x, _, v, hv, _ => by cases x; cases hv
  | k :: ks, _, n, A, s, Q, x, hn, v, hv, h => by
    cases x with
    | cons x1 x2 =>
      simp only [NestedKey.depthAll] at hn
      rcases List.mem_cons.mp hv with e | hv
      · rw [e]; exact told_key k _ n A s Q x1 (by omega) h
      · exact told_keys ks _ n A s Q x2 (by omega) v hv h
end
/-- the value is a tuple that is the key -/
structure TupKey (h : Heap) (k : NestedKey) (v : Value) : Prop where
  ref : ∃ b, v = .ref b
  is : NestedIs h k v
  dp : k.depth ≤ 8
theorem TupKey.keep {h h' : Heap} {k : NestedKey} {v : Value} (x : TupKey h k v) (f : ∀ b o, h.get? b = some o → h'.get? b = some o) : TupKey h' k v :=
  ⟨x.ref, NestedIs.at (fun a o vs n e _ => f a o e) k v x.is, x.dp⟩
theorem TupKey.but {h h' : Heap} {k : NestedKey} {v : Value} {a : Addr} {o : Obj} {es : Array (Int × Value)} {ep : Nat} {t : SetTable} (x : TupKey h k v) (ho : h.get? a = some o) (hd : o.data = .set es ep t) (sb : Heap.SameBut a h h') : TupKey h' k v := by
  refine ⟨x.ref, NestedIs.at (fun b ob vs n e hs => (sb.2 b fun z => ?_).trans e) k v x.is, x.dp⟩
  subst z
  rw [ho] at e
  cases e
  rw [hd] at hs
  cases hs
theorem TupKey.inj {h : Heap} {k k' : NestedKey} {v : Value} (x : TupKey h k v) (y : TupKey h k' v) : k = k' := NestedIs.inj _ _ _ x.is y.is
theorem key_same {k k' : NestedKey} {v v' : Value} {Q : Bool → Shared → Prop} (hu : A.units + 8 < cLine) (x : TupKey s.heap k v) (y : TupKey s.heap k' v') (h : Q (decide (k = k')) s) : wpAny (model P w) A (eqBool v v') Q E s := by
  have := x.dp
  exact eqAt_key k k' A s v v' x.is y.is (by omega) _ _ _ _ (by rw [← NestedKey.decide_eq]; exact h)
theorem key_unseen {k : NestedKey} {v : Value} {ys : List Value} {Q : Bool → Shared → Prop} (x : TupKey s.heap k v) (hy : ∀ y ∈ ys, ∃ k', TupKey s.heap k' y) (h : Q false s) : wpAny (model P w) A (searchCouldBeSeen v ys) Q E s := by
  obtain ⟨b, rfl⟩ := x.ref
  unfold searchCouldBeSeen
  refine wpAny_bind ?_
  refine wpAny_forIn_list _ (fun rest r s' => r.1 = none ∧ s' = s ∧ ∀ y ∈ rest, ∃ k', TupKey s.heap k' y) _ ?_ ?_ _ _ ⟨rfl, rfl, hy⟩
  · rintro v rest r s' ⟨hr, rfl, hall⟩
    obtain ⟨k', y⟩ := hall v List.mem_cons_self
    obtain ⟨c, rfl⟩ := y.ref
    have more : ∀ y ∈ rest, ∃ k', TupKey s'.heap k' y := fun u hu' => hall u (List.mem_cons_of_mem _ hu')
    dsimp only
    by_cases hv : (b == c || (carriedByValue (.ref b) && carriedByValue (.ref c))) = true
    · refine wp_if_pos hv ?_
      exact wpAny_pure ⟨rfl, rfl, more⟩
    · refine wp_if_neg hv ?_
      refine wpAny_bind (quiet_key k _ 8 s' x.is x.dp A E _ ?_)
      simp only [Bool.not_true, Bool.false_eq_true, if_false]
      refine wpAny_bind (quiet_key k' _ 8 s' y.is y.dp A E _ ?_)
      simp only [Bool.not_true, Bool.false_eq_true, if_false]
      refine wpAny_bind (statement_key k _ 8 A s' _ x.is x.dp ?_)
      simp only [Bool.false_eq_true, if_false]
      refine wpAny_bind (statement_key k' _ 8 A s' _ y.is y.dp ?_)
      simp only [Bool.false_eq_true, if_false]
      exact wpAny_pure ⟨rfl, rfl, more⟩
  · rintro ⟨r1, r2⟩ s' ⟨hr, rfl, _⟩
    simp only at hr
    subst hr
    exact wpAny_pure h
end
end Mk
end

section
set_option maxHeartbeats 4000000
/-! Mk17: the table of a set of tuples: the search, the adding. -/
open PySem PySem.Spec PyProof.Rows L2
namespace Mk
abbrev KV := NestedKey × Value
abbrev hashOf (w : World) (p : KV) : Int := p.1.hash w
abbrev hashRows (w : World) (L : List KV) : List (Int × Value) := L.map fun p => (hashOf w p, p.2)
/-- the set at a: its entries in the table's order -/
structure TupTab (P : Program) (w : World) (h : Heap) (a : Addr) (L : List KV) (es : Array (Int × Value)) (ep : Nat) (t : SetTable) : Prop where
  obj : ∃ o, h.get? a = some o ∧ o.ExactSet ∧ o.data = .set es ep t
  rows : es.toList = hashRows w L
  tab : TabOk t (L.map (hashOf w))
  nd : (L.map (·.1)).Nodup
  key : ∀ p ∈ L, TupKey h p.1 p.2
  led : w.params.followText "set-order" = true ∨ t.led = true
  room : L.length * 5 < t.mask * 3
  few : L.length < 64
def TupAll (P : Program) (w : World) (h : Heap) (a : Addr) (L : List KV) : Prop := ∃ L0 es ep t, TupTab P w h a L0 es ep t ∧ L0 = L
section
variable {P : Program} {w : World} {A : Around} {E : Value → Shared → Prop} {s : Shared} {a : Addr} {L : List KV} {es : Array (Int × Value)} {ep : Nat} {t : SetTable}
theorem rows_len (h : es.toList = hashRows w L) : es.size = L.length := by
  have := congrArg List.length h
  rwa [Array.length_toList, List.length_map] at this
theorem rows_at (h : es.toList = hashRows w L) {i : Nat} {p : KV} (e : L[i]? = some p) : es[i]? = some (hashOf w p, p.2) := by
  rw [← Array.getElem?_toList, h, List.getElem?_map, e] <;> rfl
theorem fits_of (hs : t.place.size = es.size) (hd : t.dummies = #[]) (hm : es.size ≤ t.mask) : t.fits es.size = true := by
  unfold SetTable.fits SetTable.fill
  rw [hd, Bool.and_eq_true, beq_iff_eq, decide_eq_true_eq]
  show t.place.size = es.size ∧ t.place.size + 0 ≤ t.mask
  omega
theorem TupTab.size (R : TupTab P w s.heap a L es ep t) : es.size = L.length := rows_len R.rows
theorem TupTab.place (R : TupTab P w s.heap a L es ep t) : t.place.size = L.length := by
  have h := R.tab.sz
  rwa [List.length_map] at h
theorem TupTab.fits (R : TupTab P w s.heap a L es ep t) : t.fits es.size = true := by
  have h1 := R.size; have h2 := R.place; have h3 := R.room
  exact fits_of (by omega) R.tab.dm (by omega)
theorem TupTab.gives (R : TupTab P w s.heap a L es ep t) : ¬ t.gaveWay = true := by
  unfold SetTable.gaveWay
  rw [mask_odd R.tab.mok]
  decide
theorem no_dummy (m : Nat) : ∀ (n : Nat) (p : SetTable.Probe), p.dummy = none → (nth m p n).dummy = none
  | 0, p, h => h
  | n + 1, p, h => by
    refine no_dummy m n (adv m p) ?_
    unfold adv
    split <;> exact h
/-- the first place of the way of h -/
abbrev first (m : Nat) (h : Int) : SetTable.Probe := runAt m (SetTable.bits h % (m + 1)) (SetTable.bits h)
/-- the search from the c-th place of the way -/
theorem tup_search (R : TupTab P w s.heap a L es ep t) {k : NestedKey} {v : Value} (hk : TupKey s.heap k v) (hu : A.units + 8 < cLine) {N : Nat} (hN : N < 10 * SetTable.turns t.mask) (free : way t.mask (k.hash w) N ∉ t.place.toList)
    (taken : ∀ c, c < N → way t.mask (k.hash w) c ∈ t.place.toList) {Q : SetFound → Shared → Prop} (hin : k ∈ L.map (·.1) → Q (.there none) s) (hout : k ∉ L.map (·.1) → Q (.free (way t.mask (k.hash w) N) false) s) :
    ∀ (f c : Nat) (st : Option SetTable.Probe), st.getD (t.probeStart (k.hash w)) = nth t.mask (first t.mask (k.hash w)) c → c ≤ N → N - c < f →
      (∀ (i : Nat) p, L[i]? = some p → p.1 = k → ∃ c', c ≤ c' ∧ c' < N ∧ t.place.toList[i]? = some (way t.mask (k.hash w) c')) → wpAny (model P w) A (setSearchFrom a v (k.hash w) true f st) Q E s := by
  intro f
  induction f with
  | zero => intro c st _ _ hf; exact absurd hf (Nat.not_lt_zero _)
  | succ f ih =>
    intro c st hst hc hf met
    obtain ⟨o, ho, hex, hd⟩ := R.obj
    rw [setSearchFrom_succ]
    refine wpAny_bind (wpAny_setState_of ho hd R.fits ?_)
    dsimp only
    refine wp_if_neg R.gives ?_
    try refine wpAny_bind (wpAny_pure ?_)
    have on : ∀ q, (nth t.mask (nth t.mask (first t.mask (k.hash w)) c) q).j = way t.mask (k.hash w) (c + q) := fun q => congrArg SetTable.Probe.j (nth_add t.mask c _ q).symm
    have goes := go_spec t R.tab.ris R.tab.dm (fun i => (es[i]?.map (·.1)).getD 0) (k.hash w) (10 * SetTable.turns t.mask) (N - c) _ (no_dummy t.mask c (first t.mask (k.hash w)) rfl) (by omega)
      (fun q hq => by rw [on]; exact taken (c + q) (by omega)) (by rw [on, show c + (N - c) = N by omega]; exact free)
    have hashes : ∀ (i : Nat) p, L[i]? = some p → (fun i => (es[i]?.map (·.1)).getD 0) i = hashOf w p := fun i p e => by
      show (es[i]?.map (·.1)).getD 0 = _
      rw [rows_at R.rows e] <;> rfl
    rcases goes with ⟨q, i, hq, hi, hh, hno, hpr⟩ | ⟨hno, hpr⟩
    · rw [on] at hi
      have here : t.probe (fun i => (es[i]?.map (·.1)).getD 0) (k.hash w) (st.getD (t.probeStart (k.hash w))) = some (.candidate (way t.mask (k.hash w) (c + q)) i (nth t.mask (first t.mask (k.hash w)) (c + (q + 1)))) := by
        have e2 := (nth_add t.mask c (first t.mask (k.hash w)) (q + 1)).symm
        rw [hst, ← on, ← e2]
        exact hpr
      rw [here]
      dsimp only
      have hil : i < L.length := by
        have h1 := (List.getElem?_eq_some_iff.mp hi).1
        have h2 := R.place
        rw [Array.length_toList] at h1
        omega
      obtain ⟨p, hp⟩ : ∃ p, L[i]? = some p := ⟨L[i], List.getElem?_eq_getElem hil⟩
      have mem : p ∈ L := List.mem_of_getElem? hp
      have key := R.key p mem
      have more : wpAny (model P w) A (searchRest a v (k.hash w) true f es t (way t.mask (k.hash w) (c + q)) i (nth t.mask (first t.mask (k.hash w)) (c + (q + 1)))) Q E s := by
        unfold searchRest
        rw [rows_at R.rows hp]
        dsimp only
        refine wpAny_bind (wpAny_holding (key_same hu key hk ?_))
        refine wpAny_bind (wpAny_setState_of ho hd R.fits ?_)
        dsimp only
        by_cases e : p.1 = k
        · refine wp_if_pos (by simp [e]) ?_
          exact wpAny_pure (hin (List.mem_map.mpr ⟨p, mem, e⟩))
        · refine wp_if_neg (by simp [e]) ?_
          try refine wpAny_bind (wpAny_pure ?_)
          rw [sameMem]
          dsimp only
          have live : t.slot (way t.mask (k.hash w) (c + q)) = .live i := slot_live R.tab.ris hi
          obtain ⟨b, eb⟩ := key.ref
          have ent : es[i]? = some (hashOf w p, Value.ref b) := by rw [← eb]; exact rows_at R.rows hp
          simp only [if_true, live, ent, eb]
          refine wpAny_bind (wpAny_isSame_ref_self (wpAny_bind (wpAny_pure ?_)))
          simp only [if_true]
          refine wp_if_neg (by simp [e]) ?_
          refine ih (c + (q + 1)) _ rfl (by omega) (by omega) fun i0 p0 h0 hk0 => ?_
          obtain ⟨c', a1, a2, a3⟩ := met i0 p0 h0 hk0
          refine ⟨c', ?_, a2, a3⟩
          rcases Nat.lt_trichotomy c' (c + q) with z | z | z
          · refine absurd ((hashes i0 p0 h0).trans (congrArg (NestedKey.hash w) hk0)) (hno (c' - c) i0 (by omega) ?_)
            rw [on, show c + (c' - c) = c' by omega]
            exact a3
          · rw [z] at a3
            have s0 := slot_live R.tab.ris a3
            rw [live] at s0
            injection s0 with s0
            rw [← s0, hp] at h0
            exact absurd ((congrArg Prod.fst (Option.some.inj h0)).trans hk0) e
          · omega
      by_cases hl : t.led = true
      · refine wp_if_neg (by simp [hl]) ?_
        try refine wpAny_bind (wpAny_pure ?_)
        exact more
      · refine wp_if_pos (by simp [hl]) ?_
        refine wpAny_bind (key_unseen hk (fun y hy => ?_) ?_)
        · obtain ⟨e, he, ee⟩ := List.mem_map.mp hy
          have he1 : e ∈ es ∧ e.1 = k.hash w := by simpa using he
          have he2 : e ∈ es.toList := by simpa using he1.1
          rw [R.rows] at he2
          obtain ⟨p2, hp2, e2⟩ := List.mem_map.mp he2
          refine ⟨p2.1, ?_⟩
          rw [← ee, ← e2]
          exact R.key p2 hp2
        · refine wp_if_neg (by decide) ?_
          try refine wpAny_bind (wpAny_pure ?_)
          exact more
    · have here : t.probe (fun i => (es[i]?.map (·.1)).getD 0) (k.hash w) (st.getD (t.probeStart (k.hash w))) = some (.empty (way t.mask (k.hash w) N) none) := by
        have e2 : way t.mask (k.hash w) N = (nth t.mask (nth t.mask (first t.mask (k.hash w)) c) (N - c)).j := by rw [on, show c + (N - c) = N by omega]
        rw [hst, e2]
        exact hpr
      rw [here]
      dsimp only
      refine wpAny_pure (hout fun hm => ?_)
      obtain ⟨p0, h0, hk0⟩ := List.mem_map.mp hm
      obtain ⟨i0, hi0⟩ := List.mem_iff_getElem?.mp h0
      obtain ⟨c', a1, a2, a3⟩ := met i0 p0 hi0 hk0
      refine hno (c' - c) i0 (by omega) ?_ ((hashes i0 p0 hi0).trans (congrArg (NestedKey.hash w) hk0))
      rw [on, show c + (c' - c) = c' by omega]
      exact a3
theorem tup_find (R : TupTab P w s.heap a L es ep t) {k : NestedKey} {v : Value} (hk : TupKey s.heap k v) (hu : A.units + 8 < cLine) {Q : SetFound → Shared → Prop} (hin : k ∈ L.map (·.1) → Q (.there none) s)
    (hout : ∀ N, k ∉ L.map (·.1) → way t.mask (k.hash w) N ∉ t.place.toList → (∀ c, c < N → way t.mask (k.hash w) c ∈ t.place.toList) → Q (.free (way t.mask (k.hash w) N) false) s) : wpAny (model P w) A (setSearch a v (k.hash w) true) Q E s := by
  have room := R.room
  obtain ⟨N, hN, free, taken⟩ := R.tab.first (by rw [List.length_map]; omega) (k.hash w)
  have big : N < 100000 := by
    have : 10 * SetTable.turns t.mask ≤ 1420 := by
      unfold SetTable.turns
      rcases R.tab.mok with e | e | e <;> omega
    omega
  unfold setSearch
  refine tup_search R hk hu hN free taken hin (fun hn => hout N hn free taken) 100000 0 none rfl (Nat.zero_le _) (by omega) fun i p hp e => ?_
  have hi : (L.map (hashOf w))[i]? = some (k.hash w) := by rw [List.getElem?_map, hp, ← e] <;> rfl
  have hil : i < t.place.toList.length := by
    have h1 := (List.getElem?_eq_some_iff.mp hp).1
    have h2 := R.place
    rw [Array.length_toList]
    omega
  have hj := List.getElem?_eq_getElem hil
  obtain ⟨c, hc, e2⟩ := R.tab.before free hi hj
  exact ⟨c, Nat.zero_le _, hc, by rw [hj, e2]⟩
/-- the entries in another order -/
theorem rows_order (h : es.toList = hashRows w L) (order : Array Nat) (hp : order.toList.Perm (List.range L.length)) :
    ∃ L2, (order.filterMap (es[·]?)).toList = hashRows w L2 ∧ L2.Perm L ∧ L2.map (hashOf w) = order.toList.map fun i => (es.map (·.1)).getD i 0 := by
  have sz := rows_len h
  have pick : ∀ l : List Nat, (∀ i ∈ l, i < L.length) → ∃ L2 : List KV, l.filterMap (fun i => es[i]?) = hashRows w L2 ∧ L2 = l.filterMap (fun i => L[i]?) ∧ L2.map (hashOf w) = l.map fun i => (es.map (·.1)).getD i 0 := by
    intro l
    induction l with
    | nil => intro _; exact ⟨[], rfl, rfl, rfl⟩
    | cons i l ih =>
      intro hl
      have hi := hl i List.mem_cons_self
      obtain ⟨L2, e1, e2, e3⟩ := ih fun j hj => hl j (List.mem_cons_of_mem _ hj)
      have at_ := rows_at h (List.getElem?_eq_getElem hi)
      refine ⟨L[i] :: L2, by rw [List.filterMap_cons_some at_, e1] <;> rfl, by rw [List.filterMap_cons_some (List.getElem?_eq_getElem hi), e2], ?_⟩
      rw [List.map_cons, List.map_cons, e3]
      have e5 : (es.map (·.1))[i]? = some (hashOf w L[i]) := by rw [Array.getElem?_map, at_] <;> rfl
      have e4 : (es.map (·.1)).getD i 0 = hashOf w L[i] := by simp [Array.getD_eq_getD_getElem?, e5]
      rw [e4]
  obtain ⟨L2, e1, e2, e3⟩ := pick order.toList fun i hi => List.mem_range.mp (hp.mem_iff.mp hi)
  refine ⟨L2, by first | (rw [Array.toList_filterMap]; exact e1) | simpa using e1, ?_, e3⟩
  have all : (List.range L.length).filterMap (fun i => L[i]?) = L := by
    have upto : ∀ n, n ≤ L.length → (List.range n).filterMap (fun i => L[i]?) = L.take n := by
      intro n
      induction n with
      | zero => intro _; rfl
      | succ n ih =>
        intro hn
        rw [List.range_succ, List.filterMap_append, ih (Nat.le_of_lt hn), take_one (List.getElem?_eq_getElem hn)]
        rw [List.filterMap_cons_some (List.getElem?_eq_getElem hn)] <;> rfl
    rw [upto L.length (Nat.le_refl _), List.take_length]
  have := hp.filterMap (fun i => L[i]?)
  rw [all] at this
  rw [e2]
  exact this
/-- the table laid anew -/
theorem tup_relay {o : Obj} (ho : s.heap.get? a = some o) (hex : o.ExactSet) (hd : o.data = .set es ep t) (rows : es.toList = hashRows w L) (hsz : t.place.size = es.size) (hdm : t.dummies = #[]) (hfl : es.size ≤ t.mask) (nd : (L.map (·.1)).Nodup)
    (key : ∀ p ∈ L, TupKey s.heap p.1 p.2) (ld : w.params.followText "set-order" = true ∨ t.led = true) (few : L.length < 64) {wanted m : Nat} (hw : SetTable.sizeAbove wanted - 1 = m) (hm : MaskOk m) (hw2 : SetTable.sizeAbove wanted ≤ 128)
    (hn : L.length * 5 < m * 3) {Q : Unit → Shared → Prop} (hQ : ∀ h' L' es' ep' t', Heap.SameBut a s.heap h' → TupTab P w h' a L' es' ep' t' → L'.Perm L → Q () { s with heap := h' }) : wpAny (model P w) A (setRelay a wanted) Q E s := by
  have sz := rows_len rows
  obtain ⟨t', order, e, hp, T, em, el, ep', ed⟩ := relaid_ok t (hs := es.map (·.1)) (wanted := wanted) hw hm (by rw [Array.size_map, sz]; omega)
  rw [Array.size_map, sz] at hp
  obtain ⟨L2, r1, r2, r3⟩ := rows_order rows order hp
  rw [← r3] at T
  have hs2 : (order.filterMap (es[·]?)).size = es.size := by rw [rows_len r1, r2.length_eq, sz]
  rw [setRelay_eq]
  refine wpAny_bind (wpAny_setState_of ho hd (fits_of hsz hdm hfl) ?_)
  dsimp only
  refine wp_if_neg (by rw [sizeLine_eq]; omega) ?_
  try refine wpAny_bind (wpAny_pure ?_)
  rw [e]
  dsimp only
  refine wpAny_bind ?_
  refine wp_if_neg (by rw [hs2]; simp) ?_
  try refine wpAny_bind (wpAny_pure ?_)
  refine wpAny_pure ?_
  dsimp only
  refine wpAny_storeSet_of ho hd ?_ (by rw [hs2, sz, sizeLine_eq]; omega)
  have sb : Heap.SameBut a s.heap (s.heap.update a (Obj.putSet (order.filterMap (es[·]?)) t')) := Heap.SameBut.update ..
  refine hQ _ L2 (order.filterMap (es[·]?)) (ep + 1) t' sb ?_ r2
  exact ⟨⟨_, store_at ho hd, ⟨hex.1, hex.2.1, hex.2.2⟩, rfl⟩, r1, T, (r2.map (·.1)).nodup_iff.mpr nd, fun p hpm => (key p (r2.mem_iff.mp hpm)).but ho hd sb, by rw [el]; exact ld, by rw [r2.length_eq, em]; exact hn, by rw [r2.length_eq]; exact few⟩
/-- one more entry -/
theorem tup_add (R : TupTab P w s.heap a L es ep t) {k : NestedKey} {v : Value} (hk : TupKey s.heap k v) (hu : A.units + 8 < cLine) (few : L.length + 1 < 64) {Q : Bool → Shared → Prop}
    (hQ : ∀ b h' L' es' ep' t', Heap.SameBut a s.heap h' → TupTab P w h' a L' es' ep' t' → (k ∈ L.map (·.1) → L' = L) → (k ∉ L.map (·.1) → L'.Perm ((k, v) :: L)) → Q b { s with heap := h' }) : wpAny (model P w) A (setAddHashed a v (k.hash w)) Q E s := by
  obtain ⟨o, ho, hex, hd⟩ := R.obj
  have sz := R.size
  have room := R.room
  unfold setAddHashed
  refine wpAny_holding ?_
  rw [show (100000 : Nat) = 99999 + 1 from rfl, setAddHashedIn_succ]
  refine wpAny_bind (wpAny_setState_of ho hd R.fits ?_)
  dsimp only
  have noscan : ¬ byScan v es = true := by
    obtain ⟨b, rfl⟩ := hk.ref
    simp [byScan, Value.scannable]
  refine wp_if_neg noscan ?_
  try refine wpAny_bind (wpAny_pure ?_)
  refine wpAny_bind (tup_find R hk hu (fun hm => ?_) fun N hm free taken => ?_)
  · dsimp only
    exact wpAny_pure (hQ false s.heap L es ep t (Heap.SameBut.refl a s.heap) R (fun _ => rfl) fun z => absurd hm z)
  · dsimp only
    refine wpAny_bind (wpAny_setState_of ho hd R.fits ?_)
    dsimp only
    obtain ⟨q1, q2, q3, q4, q5, q6, q7, q8, q9⟩ := R.tab.put free taken
    generalize hpt : t.put (way t.mask (k.hash w) N) = pt at q1 q3 q4 q5 q6 q7 q8 q9 ⊢
    obtain ⟨t1, p⟩ := pt
    dsimp only at q1 q3 q4 q5 q6 q7 q8 q9 ⊢
    subst q1
    -- what follows, whatever the answer of hashByValue
    have go : ∀ (t2 : SetTable), t2.place = t1.place → t2.dummies = t1.dummies → t2.mask = t1.mask → t2.led = t1.led → t2.fill = t1.fill → (∀ x h n, way x h n = way x h n) → t2.tooFull = t1.tooFull → TabOk t2 ((L.map (hashOf w)).take (SetTable.below t.place (way t.mask (k.hash w) N)) ++ k.hash w :: (L.map (hashOf w)).drop (SetTable.below t.place (way t.mask (k.hash w) N))) →
        wpAny (model P w) A (do
          storeSet a (SetTable.insertAt es (SetTable.below t.place (way t.mask (k.hash w) N)) (k.hash w, v)) t2
          if !false && t2.tooFull then setRelay a (SetTable.grown (es.size + 1))
          return true) Q E s := by
      intro t2 e1 e2 e3 e4 e5 _ e6 T2
      have hin : (SetTable.insertAt es (SetTable.below t.place (way t.mask (k.hash w) N)) (k.hash w, v)).toList = hashRows w (L.take (SetTable.below t.place (way t.mask (k.hash w) N)) ++ (k, v) :: L.drop (SetTable.below t.place (way t.mask (k.hash w) N))) := by
        rw [SetTable.toList_insertAt, R.rows]
        unfold hashRows
        rw [List.map_append, List.map_cons, List.map_take, List.map_drop]
      generalize hpp : SetTable.below t.place (way t.mask (k.hash w) N) = p at q2 T2 hin ⊢
      have pm := put_perm L p (k, v)
      have hlen : (L.take p ++ (k, v) :: L.drop p).length = L.length + 1 := pm.length_eq
      have hhs : (L.take p ++ (k, v) :: L.drop p).map (hashOf w) = (L.map (hashOf w)).take p ++ k.hash w :: (L.map (hashOf w)).drop p := by
        rw [List.map_append, List.map_cons, List.map_take, List.map_drop]
      rw [← hhs] at T2
      have nd1 : ((L.take p ++ (k, v) :: L.drop p).map (·.1)).Nodup := by
        refine (pm.map (·.1)).nodup_iff.mpr ?_
        rw [List.map_cons]
        exact List.nodup_cons.mpr ⟨hm, R.nd⟩
      have hes : (SetTable.insertAt es p (k.hash w, v)).size = L.length + 1 := by rw [rows_len hin, hlen]
      generalize SetTable.insertAt es p (k.hash w, v) = es1 at hin hes ⊢
      generalize L.take p ++ (k, v) :: L.drop p = L1 at pm hlen T2 nd1 hin
      refine wpAny_bind (wpAny_storeSet_of ho hd ?_ (by rw [hes, sizeLine_eq]; omega))
      have sb : Heap.SameBut a s.heap (s.heap.update a (Obj.putSet es1 t2)) := Heap.SameBut.update ..
      have ho1 := store_at (es' := es1) (t' := t2) ho hd
      generalize s.heap.update a (Obj.putSet es1 t2) = h1 at sb ho1 ⊢
      have key1 : ∀ p ∈ L1, TupKey h1 p.1 p.2 := fun p hp => by
        rcases List.mem_cons.mp (pm.mem_iff.mp hp) with e | hp
        · rw [e]; exact hk.but ho hd sb
        · exact (R.key p hp).but ho hd sb
      have ld1 : w.params.followText "set-order" = true ∨ t2.led = true := by rw [e4, q5]; exact R.led
      by_cases hf : t2.tooFull = true
      · first
          | (refine wpAny_bind ?_; refine wp_if_pos (by simp [hf]) ?_)
          | (refine wp_if_pos (by simp [hf]) ?_; refine wpAny_bind ?_)
        have full : (L.length + 1) * 5 ≥ t2.mask * 3 := by
          have h := hf
          unfold SetTable.tooFull at h
          rw [decide_eq_true_eq, e5, q9, List.length_map] at h
          exact h
        rw [sz]
        have hsz1 : t2.place.size = es1.size := by
          have h := T2.sz
          rw [List.length_map, hlen] at h
          rw [h, hes]
        have two : (t.mask = 7 ∧ L.length = 4) ∨ (t.mask = 31 ∧ L.length = 18) := by
          rw [e3, q4] at full
          rcases R.tab.mok with e | e | e
          · left; rw [e] at full room; exact ⟨e, by omega⟩
          · right; rw [e] at full room; exact ⟨e, by omega⟩
          · exfalso; rw [e] at full; omega
        have lay : ∀ m, SetTable.sizeAbove (SetTable.grown (L.length + 1)) - 1 = m → MaskOk m → SetTable.sizeAbove (SetTable.grown (L.length + 1)) ≤ 128 → (L.length + 1) * 5 < m * 3 →
            wpAny (model P w) A (setRelay a (SetTable.grown (L.length + 1))) (fun _ s' => wpAny (model P w) A (pure true) Q E s') E { s with heap := h1 } := fun m h1' h2' h3' h4' => by
          refine tup_relay (s := { s with heap := h1 }) ho1 ⟨hex.1, hex.2.1, hex.2.2⟩ rfl hin hsz1 T2.dm (by rw [hes, e3, q4]; rcases two with ⟨e, e2⟩ | ⟨e, e2⟩ <;> omega) nd1 key1 ld1 (by rw [hlen]; exact few) h1' h2' h3' (by rw [hlen]; exact h4') ?_
          intro h2 L2 es2 ep2 t3 sb2 R2 pm2
          exact wpAny_pure (hQ true h2 L2 es2 ep2 t3 (sb.trans sb2) R2 (fun z => absurd z hm) fun _ => pm2.trans pm)
        rcases two with ⟨_, e2⟩ | ⟨_, e2⟩
        · exact lay 31 (by rw [e2, size_20]) (.inr (.inl rfl)) (by rw [e2, size_20]; decide) (by omega)
        · exact lay 127 (by rw [e2, size_76]) (.inr (.inr rfl)) (by rw [e2, size_76]; decide) (by omega)
      · first
          | refine wp_if_neg (by simp [hf]) ?_
          | (refine wpAny_bind ?_; refine wp_if_neg (by simp [hf]) ?_; refine wpAny_pure ?_)
        refine wpAny_pure (hQ true h1 L1 es1 (ep + 1) t2 sb ⟨⟨_, ho1, ⟨hex.1, hex.2.1, hex.2.2⟩, rfl⟩, hin, T2, nd1, key1, ld1, ?_, by rw [hlen]; exact few⟩ (fun z => absurd z hm) fun _ => pm)
        have h := hf
        unfold SetTable.tooFull at h
        rw [decide_eq_true_eq, e5, q9, List.length_map] at h
        rw [hlen]
        omega
    have g1 := go t1 rfl rfl rfl rfl rfl (fun _ _ _ => rfl) rfl q3
    have g2 := go { t1 with plain := false } rfl rfl rfl rfl rfl (fun _ _ _ => rfl) rfl ⟨q3.ris, q3.dm, q3.sz, q3.mok, q3.bd, q3.reach⟩
    by_cases hpl : t1.plain = true
    · refine wp_if_pos hpl (wpAny_bind (told_key k v 8 A s _ hk.is hk.dp fun b => ?_))
      cases b with
      | true => simp only [if_true]; exact g1
      | false => simp only [Bool.false_eq_true, if_false]; exact g2
    · refine wp_if_neg hpl (wpAny_bind (wpAny_pure ?_))
      simp only [if_true]
      exact g1
end
end Mk
end

section
set_option maxHeartbeats 4000000
/-! Mk18: data that are keys; what is met more than once is kept once; the order is one. -/
open PySem PySem.Spec PyProof.Rows L2
namespace Mk
mutual
/-- a key without truth values within -/
def D.keyed : D → Bool
  | .non => true
  | .int _ => true
  | .str _ => true
  | .tup xs => D.keyeds xs
  | _ => false
def D.keyeds : List D → Bool
  | [] => true
  | x :: xs => x.keyed && D.keyeds xs
end
mutual
def D.key : D → NestedKey
  | .int i => .num i
  | .str x => .text ⟨x.toArray⟩
  | .tup xs => .tup (D.keys xs)
  | _ => .none
def D.keys : List D → List NestedKey
  | [] => []
  | x :: xs => x.key :: D.keys xs
end
mutual
theorem keyed_pure : ∀ d : D, d.keyed = true → d.pure = true
  | .non, _ => by unfold D.pure; rfl
  | .bl _, _ => by unfold D.pure; rfl
  | .int _, _ => by unfold D.pure; rfl
  | .str _, _ => by unfold D.pure; rfl
  | .tup xs, h => by
    unfold D.pure
    exact keyeds_pure xs (by simpa [D.keyed] using h)
  | .lst xs, h => by simp [D.keyed] at h
  | .ref i, h => by simp [D.keyed] at h
  | .nms _, h => by simp [D.keyed] at h
theorem keyeds_pure : ∀ ds : List D, D.keyeds ds = true → D.pures ds = true
  | [], _ => by unfold D.pures; rfl
  | d :: ds, h => by
    simp only [D.keyeds, Bool.and_eq_true] at h
    unfold D.pures
    rw [keyed_pure d h.1, keyeds_pure ds h.2]
    rfl
end
mutual
theorem key_inj : ∀ d e : D, d.keyed = true → e.keyed = true → d.key = e.key → d = e
  | .tup xs, .tup ys, h, k, q => by
    simp only [D.keyed] at h k
    simp only [D.key, NestedKey.tup.injEq] at q
    rw [keys_inj xs ys h k q]
  | .int i, .int j, _, _, q => by simp only [D.key, NestedKey.num.injEq] at q; rw [q]
  | .str x, .str y, _, _, q => by
    simp only [D.key, NestedKey.text.injEq, Str.mk.injEq] at q
    have : x = y := by simpa using congrArg Array.toList q
    rw [this]
  | .non, .non, _, _, _ => rfl
  | .bl _, _, h, _, _ => by simp [D.keyed] at h
  | .lst _, _, h, _, _ => by simp [D.keyed] at h
  | .ref _, _, h, _, _ => by simp [D.keyed] at h
  | .nms _, _, h, _, _ => by simp [D.keyed] at h
  | .tup _, .bl _, _, k, _ => by simp [D.keyed] at k
  | .tup _, .lst _, _, k, _ => by simp [D.keyed] at k
  | .tup _, .ref _, _, k, _ => by simp [D.keyed] at k
  | .tup _, .nms _, _, k, _ => by simp [D.keyed] at k
  | .int _, .bl _, _, k, _ => by simp [D.keyed] at k
  | .int _, .lst _, _, k, _ => by simp [D.keyed] at k
  | .int _, .ref _, _, k, _ => by simp [D.keyed] at k
  | .int _, .nms _, _, k, _ => by simp [D.keyed] at k
  | .str _, .bl _, _, k, _ => by simp [D.keyed] at k
  | .str _, .lst _, _, k, _ => by simp [D.keyed] at k
  | .str _, .ref _, _, k, _ => by simp [D.keyed] at k
  | .str _, .nms _, _, k, _ => by simp [D.keyed] at k
  | .non, .bl _, _, k, _ => by simp [D.keyed] at k
  | .non, .lst _, _, k, _ => by simp [D.keyed] at k
  | .non, .ref _, _, k, _ => by simp [D.keyed] at k
  | .non, .nms _, _, k, _ => by simp [D.keyed] at k
  | .tup _, .int _, _, _, q => by simp [D.key] at q
  | .tup _, .str _, _, _, q => by simp [D.key] at q
  | .tup _, .non, _, _, q => by simp [D.key] at q
  | .int _, .tup _, _, _, q => by simp [D.key] at q
  | .int _, .str _, _, _, q => by simp [D.key] at q
  | .int _, .non, _, _, q => by simp [D.key] at q
  | .str _, .tup _, _, _, q => by simp [D.key] at q
  | .str _, .int _, _, _, q => by simp [D.key] at q
  | .str _, .non, _, _, q => by simp [D.key] at q
  | .non, .tup _, _, _, q => by simp [D.key] at q
  | .non, .int _, _, _, q => by simp [D.key] at q
  | .non, .str _, _, _, q => by simp [D.key] at q
theorem keys_inj : ∀ ds es : List D, D.keyeds ds = true → D.keyeds es = true → D.keys ds = D.keys es → ds = es
  | [], [], _, _, _ => rfl
  | [], _ :: _, _, _, q => by simp [D.keys] at q
  | _ :: _, [], _, _, q => by simp [D.keys] at q
  | d :: ds, e :: es, h, k, q => by
    simp only [D.keyeds, Bool.and_eq_true] at h k
    simp only [D.keys, List.cons.injEq] at q
    rw [key_inj d e h.1 k.1 q.1, keys_inj ds es h.2 k.2 q.2]
end
mutual
theorem beq_refl : ∀ d : D, d.keyed = true → d.beq d = true
  | .non, _ => by unfold D.beq; rfl
  | .int i, _ => by unfold D.beq; simp
  | .str x, _ => by unfold D.beq; simp
  | .tup xs, h => by
    unfold D.beq
    exact beqs_refl xs (by simpa [D.keyed] using h)
  | .bl _, h => by simp [D.keyed] at h
  | .lst _, h => by simp [D.keyed] at h
  | .ref _, h => by simp [D.keyed] at h
  | .nms _, h => by simp [D.keyed] at h
theorem beqs_refl : ∀ ds : List D, D.keyeds ds = true → D.beqs ds ds = true
  | [], _ => by unfold D.beqs; rfl
  | d :: ds, h => by
    simp only [D.keyeds, Bool.and_eq_true] at h
    unfold D.beqs
    rw [beq_refl d h.1, beqs_refl ds h.2]
    rfl
end
mutual
theorem beq_eq : ∀ d e : D, d.keyed = true → e.keyed = true → d.beq e = true → d = e
  | .tup xs, .tup ys, h, k, q => by
    simp only [D.keyed] at h k
    simp only [D.beq] at q
    rw [beqs_eq xs ys h k q]
  | .int i, .int j, _, _, q => by simp only [D.beq, beq_iff_eq] at q; rw [q]
  | .str x, .str y, _, _, q => by simp only [D.beq, beq_iff_eq] at q; rw [q]
  | .non, .non, _, _, _ => rfl
  | .bl _, _, h, _, _ => by simp [D.keyed] at h
  | .lst _, _, h, _, _ => by simp [D.keyed] at h
  | .ref _, _, h, _, _ => by simp [D.keyed] at h
  | .nms _, _, h, _, _ => by simp [D.keyed] at h
  | .tup _, .bl _, _, k, _ => by simp [D.keyed] at k
  | .tup _, .lst _, _, k, _ => by simp [D.keyed] at k
  | .tup _, .ref _, _, k, _ => by simp [D.keyed] at k
  | .tup _, .nms _, _, k, _ => by simp [D.keyed] at k
  | .int _, .bl _, _, k, _ => by simp [D.keyed] at k
  | .int _, .lst _, _, k, _ => by simp [D.keyed] at k
  | .int _, .ref _, _, k, _ => by simp [D.keyed] at k
  | .int _, .nms _, _, k, _ => by simp [D.keyed] at k
  | .str _, .bl _, _, k, _ => by simp [D.keyed] at k
  | .str _, .lst _, _, k, _ => by simp [D.keyed] at k
  | .str _, .ref _, _, k, _ => by simp [D.keyed] at k
  | .str _, .nms _, _, k, _ => by simp [D.keyed] at k
  | .non, .bl _, _, k, _ => by simp [D.keyed] at k
  | .non, .lst _, _, k, _ => by simp [D.keyed] at k
  | .non, .ref _, _, k, _ => by simp [D.keyed] at k
  | .non, .nms _, _, k, _ => by simp [D.keyed] at k
  | .tup _, .int _, _, _, q => by simp [D.beq] at q
  | .tup _, .str _, _, _, q => by simp [D.beq] at q
  | .tup _, .non, _, _, q => by simp [D.beq] at q
  | .int _, .tup _, _, _, q => by simp [D.beq] at q
  | .int _, .str _, _, _, q => by simp [D.beq] at q
  | .int _, .non, _, _, q => by simp [D.beq] at q
  | .str _, .tup _, _, _, q => by simp [D.beq] at q
  | .str _, .int _, _, _, q => by simp [D.beq] at q
  | .str _, .non, _, _, q => by simp [D.beq] at q
  | .non, .tup _, _, _, q => by simp [D.beq] at q
  | .non, .int _, _, _, q => by simp [D.beq] at q
  | .non, .str _, _, _, q => by simp [D.beq] at q
theorem beqs_eq : ∀ ds es : List D, D.keyeds ds = true → D.keyeds es = true → D.beqs ds es = true → ds = es
  | [], [], _, _, _ => rfl
  | [], _ :: _, _, _, q => by simp [D.beqs] at q
  | _ :: _, [], _, _, q => by simp [D.beqs] at q
  | d :: ds, e :: es, h, k, q => by
    simp only [D.keyeds, Bool.and_eq_true] at h k
    simp only [D.beqs, Bool.and_eq_true] at q
    rw [beq_eq d e h.1 k.1 q.1, beqs_eq ds es h.2 k.2 q.2]
end
mutual
theorem ltb_tri : ∀ d e : D, d.keyed = true → e.keyed = true → d.alike e = true → d.ltb e = false → e.ltb d = false → d = e
  | .tup xs, .tup ys, h, k, a, p, q => by
    simp only [D.keyed] at h k
    simp only [D.alike] at a
    simp only [D.ltb] at p q
    rw [ltbs_tri xs ys h k a p q]
  | .int i, .int j, _, _, _, p, q => by
    simp only [D.ltb, decide_eq_false_iff_not] at p q
    have : i = j := by omega
    rw [this]
  | .str x, .str y, _, _, _, p, q => by
    simp only [D.ltb, decide_eq_false_iff_not] at p q
    have : x = y := List.le_antisymm (List.not_lt.mp q) (List.not_lt.mp p)
    rw [this]
  | .non, .non, _, _, _, _, _ => rfl
  | .bl _, _, h, _, _, _, _ => by simp [D.keyed] at h
  | .lst _, _, h, _, _, _, _ => by simp [D.keyed] at h
  | .ref _, _, h, _, _, _, _ => by simp [D.keyed] at h
  | .nms _, _, h, _, _, _, _ => by simp [D.keyed] at h
  | .tup _, .bl _, _, _, a, _, _ => by simp [D.alike] at a
  | .tup _, .lst _, _, _, a, _, _ => by simp [D.alike] at a
  | .tup _, .ref _, _, _, a, _, _ => by simp [D.alike] at a
  | .tup _, .nms _, _, _, a, _, _ => by simp [D.alike] at a
  | .tup _, .int _, _, _, a, _, _ => by simp [D.alike] at a
  | .tup _, .str _, _, _, a, _, _ => by simp [D.alike] at a
  | .tup _, .non, _, _, a, _, _ => by simp [D.alike] at a
  | .int _, .bl _, _, _, a, _, _ => by simp [D.alike] at a
  | .int _, .lst _, _, _, a, _, _ => by simp [D.alike] at a
  | .int _, .ref _, _, _, a, _, _ => by simp [D.alike] at a
  | .int _, .nms _, _, _, a, _, _ => by simp [D.alike] at a
  | .int _, .tup _, _, _, a, _, _ => by simp [D.alike] at a
  | .int _, .str _, _, _, a, _, _ => by simp [D.alike] at a
  | .int _, .non, _, _, a, _, _ => by simp [D.alike] at a
  | .str _, .bl _, _, _, a, _, _ => by simp [D.alike] at a
  | .str _, .lst _, _, _, a, _, _ => by simp [D.alike] at a
  | .str _, .ref _, _, _, a, _, _ => by simp [D.alike] at a
  | .str _, .nms _, _, _, a, _, _ => by simp [D.alike] at a
  | .str _, .tup _, _, _, a, _, _ => by simp [D.alike] at a
  | .str _, .int _, _, _, a, _, _ => by simp [D.alike] at a
  | .str _, .non, _, _, a, _, _ => by simp [D.alike] at a
  | .non, .bl _, _, _, a, _, _ => by simp [D.alike] at a
  | .non, .lst _, _, _, a, _, _ => by simp [D.alike] at a
  | .non, .ref _, _, _, a, _, _ => by simp [D.alike] at a
  | .non, .nms _, _, _, a, _, _ => by simp [D.alike] at a
  | .non, .tup _, _, _, a, _, _ => by simp [D.alike] at a
  | .non, .int _, _, _, a, _, _ => by simp [D.alike] at a
  | .non, .str _, _, _, a, _, _ => by simp [D.alike] at a
theorem ltbs_tri : ∀ ds es : List D, D.keyeds ds = true → D.keyeds es = true → D.alikes ds es = true → D.ltbs ds es = false → D.ltbs es ds = false → ds = es
  | [], [], _, _, _, _, _ => rfl
  | [], _ :: _, _, _, _, p, _ => by simp [D.ltbs] at p
  | _ :: _, [], _, _, _, _, q => by simp [D.ltbs] at q
  | d :: ds, e :: es, h, k, a, p, q => by
    simp only [D.keyeds, Bool.and_eq_true] at h k
    simp only [D.alikes, Bool.and_eq_true] at a
    simp only [D.ltbs] at p q
    by_cases hb : d.beq e = true
    · obtain rfl := beq_eq d e h.1 k.1 hb
      rw [if_pos hb] at p q
      rw [ltbs_tri ds es h.2 k.2 a.2 p q]
    · have hb' : ¬ e.beq d = true := fun z => hb (by rw [beq_eq e d k.1 h.1 z]; exact beq_refl d h.1)
      rw [if_neg hb] at p
      rw [if_neg hb'] at q
      obtain rfl := ltb_tri d e h.1 k.1 a.1 p q
      exact absurd (beq_refl d h.1) hb
end
/-- each once -/
def D.once : List D → List D
  | [] => []
  | x :: xs => if (D.once xs).any (·.beq x) then D.once xs else x :: D.once xs
theorem keyeds_mem : ∀ {xs : List D}, D.keyeds xs = true → ∀ x ∈ xs, x.keyed = true
  | [], _, x, hx => by cases hx
  | y :: ys, h, x, hx => by
    simp only [D.keyeds, Bool.and_eq_true] at h
    rcases List.mem_cons.mp hx with e | e
    · rw [e]; exact h.1
    · exact keyeds_mem h.2 x e
theorem mem_keyeds : ∀ {xs : List D}, (∀ x ∈ xs, x.keyed = true) → D.keyeds xs = true
  | [], _ => by unfold D.keyeds; rfl
  | y :: ys, h => by
    unfold D.keyeds
    rw [h y List.mem_cons_self, mem_keyeds fun x hx => h x (List.mem_cons_of_mem _ hx)]
    rfl
theorem any_beq {xs : List D} {x : D} (h : ∀ y ∈ xs, y.keyed = true) (hx : x.keyed = true) : (xs.any (·.beq x)) = true ↔ x ∈ xs := by
  rw [List.any_eq_true]
  constructor
  · rintro ⟨y, hy, e⟩
    rw [← beq_eq y x (h y hy) hx e]
    exact hy
  · intro m
    exact ⟨x, m, beq_refl x hx⟩
theorem once_mem : ∀ {xs : List D}, D.keyeds xs = true → ∀ d, d ∈ D.once xs ↔ d ∈ xs
  | [], _, d => by unfold D.once; exact Iff.rfl
  | x :: xs, h, d => by
    simp only [D.keyeds, Bool.and_eq_true] at h
    have ih := once_mem h.2
    have kd : ∀ y ∈ D.once xs, y.keyed = true := fun y hy => keyeds_mem h.2 y ((ih y).mp hy)
    unfold D.once
    by_cases c : (D.once xs).any (·.beq x) = true
    · rw [if_pos c, ih d, List.mem_cons]
      have hx := (ih x).mp ((any_beq kd h.1).mp c)
      exact ⟨.inr, fun z => z.elim (fun e => by rw [e]; exact hx) id⟩
    · rw [if_neg c, List.mem_cons, List.mem_cons, ih d]
theorem once_nodup : ∀ {xs : List D}, D.keyeds xs = true → (D.once xs).Nodup
  | [], _ => by unfold D.once; exact List.nodup_nil
  | x :: xs, h => by
    simp only [D.keyeds, Bool.and_eq_true] at h
    have kd : ∀ y ∈ D.once xs, y.keyed = true := fun y hy => keyeds_mem h.2 y ((once_mem h.2 y).mp hy)
    unfold D.once
    by_cases c : (D.once xs).any (·.beq x) = true
    · rw [if_pos c]; exact once_nodup h.2
    · rw [if_neg c]
      exact List.nodup_cons.mpr ⟨fun m => c ((any_beq kd h.1).mpr m), once_nodup h.2⟩
/-- the sorted list is one, whatever the order was -/
theorem sort_perm {xs ys : List D} (p : xs.Perm ys) (kd : D.keyeds xs = true) (al : ∀ x ∈ xs, ∀ y ∈ xs, x.alike y = true) : D.sort xs = D.sort ys := by
  have conv : ∀ zs : List D, (∀ z ∈ zs, z ∈ xs) → D.sort zs = zs.mergeSort (PySem.W.dataLe false D.py) := fun zs hz => (sort_congr fun a ha b hb => by
    have := py_lt b a (al b (hz b hb) a (hz a ha)) (keyed_pure b (keyeds_mem kd b (hz b hb))) (keyed_pure a (keyeds_mem kd a (hz a ha)))
    rw [PySem.W.dataLe_eq]
    show D.le a b = !PySem.W.dataLt b.py a.py
    rw [this]
    rfl)
  have T : PySem.W.TotalLe (PySem.W.dataLe false D.py) := PySem.W.sortLe_total _ _ _
  have pw : ∀ zs : List D, (zs.mergeSort (PySem.W.dataLe false D.py)).Pairwise fun a b => PySem.W.dataLe false D.py a b = true := fun zs => List.pairwise_mergeSort T.trans (fun a b => by have := T.total a b; simpa using this) zs
  rw [conv xs fun z h => h, conv ys fun z h => p.mem_iff.mpr h]
  refine List.Perm.eq_of_pairwise (le := fun a b => PySem.W.dataLe false D.py a b = true) (fun a b ha hb h1 h2 => ?_) (pw xs) (pw ys) ((List.mergeSort_perm xs _).trans (p.trans (List.mergeSort_perm ys _).symm))
  have ma : a ∈ xs := (List.mergeSort_perm xs _).mem_iff.mp ha
  have mb : b ∈ xs := p.mem_iff.mpr ((List.mergeSort_perm ys _).mem_iff.mp hb)
  have ka := keyeds_mem kd a ma
  have kb := keyeds_mem kd b mb
  have q1 := py_lt b a (al b mb a ma) (keyed_pure b kb) (keyed_pure a ka)
  have q2 := py_lt a b (al a ma b mb) (keyed_pure a ka) (keyed_pure b kb)
  have h1' : (!PySem.W.dataLt b.py a.py) = true := h1
  have h2' : (!PySem.W.dataLt a.py b.py) = true := h2
  rw [q1, Bool.not_eq_true'] at h1'
  rw [q2, Bool.not_eq_true'] at h2'
  exact ltb_tri a b ka kb (al a ma b mb) h2' h1'
end Mk
end

section
set_option maxHeartbeats 4000000
/-! Mk19: len(set(xs)), sorted(set(xs)). -/
open PySem PySem.Spec PyProof.Rows L2
namespace Mk
/-! ### the kinds of sets -/
def TupAt0 (P : Program) (w : World) (h : Heap) (a : Addr) (L : List KV) : Prop := ∃ es ep t, TupTab P w h a L es ep t
def tupK (P : Program) (w : World) : SetK P w NestedKey where
  is := TupKey
  at_ := TupAt0 P w
  keep := by
    intro h h' a L x f k
    obtain ⟨es, ep, t, R⟩ := x
    obtain ⟨o, ho, r⟩ := R.obj
    exact ⟨es, ep, t, ⟨o, f o ho, r⟩, R.rows, R.tab, R.nd, k, R.led, R.room, R.few⟩
  isKeep := fun x f => x.keep f
  fresh := by
    intro h a ho
    refine ⟨#[], 0, _, ⟨_, ho, ⟨rfl, rfl, rfl⟩, rfl⟩, rfl, ⟨List.Pairwise.nil, rfl, rfl, .inl rfl, fun x hx => (by cases hx), fun i h j hi => (by simp at hi)⟩, List.nodup_nil, fun p hp => (by cases hp), ?_, ?_, ?_⟩
    · show _ ∨ (!w.params.followText "set-order") = true
      cases w.params.followText "set-order"
      · exact .inr rfl
      · exact .inl rfl
    · show 0 * 5 < 7 * 3
      decide
    · show 0 < 64
      decide
  add := by
    intro A E s a L k v Q hu x hk hl hQ
    obtain ⟨es, ep, t, R⟩ := x
    unfold setAdd
    have := hk.dp
    refine wpAny_holding (wpAny_bind (pyHash_key k v A s _ hk.is (by omega) ?_))
    refine tup_add (s := { s with toks := s.toks + k.draws }) (P := P) R hk (by omega) hl fun b h' L' es' ep' t' sb R' c1 c2 => ?_
    exact hQ b h' _ L' sb (Nat.le_add_right _ _) ⟨es', ep', t', R'⟩ c1 c2
def IntAt (w : World) (h : Heap) (a : Addr) (L : List (Int × Value)) : Prop := (L.map (·.1)).Nodup ∧ SetR w h a (fun k => decide (k ∈ L.map (·.1))) L.length
def intK (P : Program) (w : World) : SetK P w Int where
  is := fun _ k v => ∃ t, v = .int k t
  at_ := IntAt w
  keep := by
    intro h h' a L x f _
    exact ⟨x.1, x.2.at f⟩
  isKeep := fun x _ => x
  fresh := by
    intro h a ho
    have := setR_new_at (w := w) (ns := []) ho
    refine ⟨List.nodup_nil, this.congr fun k => ?_⟩
    simp
  add := by
    intro A E s a L k v Q hu ⟨nd, hS⟩ ⟨t, hv⟩ hl hQ
    subst hv
    unfold setAdd
    refine wpAny_holding (wpAny_bind ((PySem.intKind P w).pyHash (k := k) (intKind_is _ _ _ _) ?_))
    refine setR_add_hashed (P := P) (s := { s with toks := s.toks + 1 }) hS (size64 hl) fun h' sb hS' => ?_
    by_cases hm : k ∈ L.map (·.1)
    · have e1 : decide (k ∈ L.map (·.1)) = true := decide_eq_true hm
      rw [e1, if_pos rfl] at hS'
      refine hQ _ h' _ L sb (Nat.le_succ _) ⟨nd, hS'.congr fun j => ?_⟩ (fun _ => rfl) fun z => absurd hm z
      by_cases h1 : j = k
      · subst h1; simp [e1]
      · simp [h1]
    · have e1 : decide (k ∈ L.map (·.1)) = false := decide_eq_false hm
      rw [e1, if_neg Bool.false_ne_true] at hS'
      refine hQ _ h' _ ((k, .int k t) :: L) sb (Nat.le_succ _) ⟨?_, hS'.congr fun j => ?_⟩ (fun z => absurd z hm) fun _ => List.Perm.refl _
      · rw [List.map_cons]; exact List.nodup_cons.mpr ⟨hm, nd⟩
      · rw [List.map_cons]
        by_cases h1 : j = k
        · subst h1; simp
        · simp [h1]

/-! ### data in a set -/
theorem reads_nil {h : Heap} : ∀ (d : D) (v : Value) (as : List Addr), d.keyed = true → Reads h v d.py as → as = [] := by
  intro d
  refine D.rec (motive_1 := fun d => ∀ (v : Value) (as : List Addr), d.keyed = true → Reads h v d.py as → as = []) (motive_2 := fun ds => ∀ (vs : List Value) (as : List Addr), D.keyeds ds = true → ReadsAll h vs (D.pys ds) as → as = [])
    ?_ ?_ ?_ ?_ ?_ ?_ ?_ ?_ ?_ ?_ d
  · intro v as _ r; unfold D.py at r; cases r; rfl
  · intro b v as k; simp [D.keyed] at k
  · intro i v as _ r; unfold D.py at r; cases r; rfl
  · intro x v as _ r; unfold D.py at r; cases r; rfl
  · intro xs ih v as k r
    unfold D.py at r
    cases r with
    | tuple h1 h2 h3 h4 => exact ih _ _ (by simpa [D.keyed] using k) h4
  · intro xs _ v as k; simp [D.keyed] at k
  · intro i v as k; simp [D.keyed] at k
  · intro xs _ v as k; simp [D.keyed] at k
  · intro vs as _ r; unfold D.pys at r; cases r; rfl
  · intro d ds ih1 ih2 vs as k r
    simp only [D.keyeds, Bool.and_eq_true] at k
    unfold D.pys at r
    cases r with
    | cons r1 r2 => rw [ih1 _ _ k.1 r1, ih2 _ _ k.2 r2]; rfl
theorem each_perm {α β : Type} {R : α → β → Prop} {vs us : List α} (p : vs.Perm us) : ∀ {ds : List β}, PySem.W.EachIs R us ds → ∃ ds', PySem.W.EachIs R vs ds' ∧ ds'.Perm ds := by
  induction p with
  | nil => intro ds e; exact ⟨ds, e, List.Perm.refl _⟩
  | cons x p ih =>
    intro ds e
    cases e with
    | cons h t =>
      obtain ⟨ds', e', p'⟩ := ih t
      exact ⟨_ :: ds', .cons h e', p'.cons _⟩
  | swap x y l =>
    intro ds e
    cases e with
    | cons h t =>
      cases t with
      | cons h2 t => exact ⟨_, .cons h2 (.cons h t), List.Perm.swap _ _ _⟩
  | trans p q ih1 ih2 =>
    intro ds e
    obtain ⟨d1, e1, p1⟩ := ih2 e
    obtain ⟨d2, e2, p2⟩ := ih1 e1
    exact ⟨d2, e2, p2.trans p1⟩
mutual
/-- the value of a datum that is a key -/
theorem key_is {X : Cx} {C : Cl} {pins : List (Addr × Obj)} {s : Shared} {σ : L2.St} {H : Hp} {as : Lay} (I : Inv X pins σ H s) : ∀ (d : D) (v : V) (u : Value), d.keyed = true → RelD ⟨X.K, C⟩ H as d v → RelV v u → NestedIs s.heap d.key u
  | .non, v, u, _, r, q => by unfold RelD at r; subst r; cases q; exact .none
  | .int i, v, u, _, r, q => by unfold RelD at r; subst r; obtain ⟨t, rfl⟩ := q; exact .int i t
  | .str x, v, u, _, r, q => by unfold RelD at r; subst r; obtain ⟨t, rfl⟩ := q; exact .text _ t
  | .tup xs, v, u, k, r, q => by
    unfold RelD at r
    obtain ⟨a, vs, rfl, h1, r2⟩ := r
    cases q
    obtain ⟨its, rv, ⟨o, ho, hc, n, hd⟩, _⟩ := I.tuple h1.sq
    unfold D.key
    exact .tup ho hc hd (keys_are I xs vs _ (by simpa [D.keyed] using k) r2 (by simpa using rv))
  | .bl _, _, _, k, _, _ => by simp [D.keyed] at k
  | .lst _, _, _, k, _, _ => by simp [D.keyed] at k
  | .ref _, _, _, k, _, _ => by simp [D.keyed] at k
  | .nms _, _, _, k, _, _ => by simp [D.keyed] at k
theorem keys_are {X : Cx} {C : Cl} {pins : List (Addr × Obj)} {s : Shared} {σ : L2.St} {H : Hp} {as : Lay} (I : Inv X pins σ H s) : ∀ (ds : List D) (vs : List V) (us : List Value), D.keyeds ds = true → RelDs ⟨X.K, C⟩ H as ds vs → Vals vs us → NestedAll s.heap (D.keys ds) us
  | [], vs, us, _, r, q => by
    rw [relDs_nil.mp r] at q
    cases q
    unfold D.keys
    exact .nil
  | d :: ds, vs, us, k, r, q => by
    obtain ⟨v, vs', rfl, r1, r2⟩ := relDs_cons.mp r
    simp only [D.keyeds, Bool.and_eq_true] at k
    cases q with
    | cons q1 q2 =>
      unfold D.keys
      exact .cons (key_is I d v _ k.1 r1 q1) (keys_are I ds vs' _ k.2 r2 q2)
end
mutual
theorem key_depth : ∀ d : D, d.keyed = true → d.key.depth = d.depth
  | .non, _ => by unfold D.key D.depth NestedKey.depth; rfl
  | .int _, _ => by unfold D.key D.depth NestedKey.depth; rfl
  | .str _, _ => by unfold D.key D.depth NestedKey.depth; rfl
  | .tup xs, k => by
    unfold D.key D.depth NestedKey.depth
    rw [keys_depth xs (by simpa [D.keyed] using k)]
  | .bl _, k => by simp [D.keyed] at k
  | .lst _, k => by simp [D.keyed] at k
  | .ref _, k => by simp [D.keyed] at k
  | .nms _, k => by simp [D.keyed] at k
theorem keys_depth : ∀ ds : List D, D.keyeds ds = true → NestedKey.depthAll (D.keys ds) = D.depths ds
  | [], _ => by unfold D.keys D.depths NestedKey.depthAll; rfl
  | d :: ds, k => by
    simp only [D.keyeds, Bool.and_eq_true] at k
    unfold D.keys D.depths NestedKey.depthAll
    rw [key_depth d k.1, keys_depth ds k.2]
end
def isStr : D → Bool
  | .str _ => true
  | _ => false
def isInt : D → Bool
  | .int _ => true
  | _ => false
def isTup0 : D → Bool
  | .tup _ => true
  | _ => false
/-- a set of texts, of whole numbers, of tuples -/
def setOk (xs : List D) : Bool := decide (xs.length < 64) && D.keyeds xs && (xs.all isStr || xs.all isInt || (xs.all isTup0 && decide (D.depths xs ≤ 8)))
def strOf : D → Str
  | .str x => ⟨x.toArray⟩
  | _ => Str.empty
def intOf : D → Int
  | .int i => i
  | _ => 0
theorem zip_data {κ : Type} {g : G} {H : Hp} {as : Lay} {f : D → κ} : ∀ {xs : List D} {us : List Value}, D.keyeds xs = true → PySem.W.EachIs (fun u d => ∃ v, RelV v u ∧ RelD g H as d v) us xs →
    ∀ p ∈ (xs.map f).zip us, ∃ d ∈ xs, p.1 = f d ∧ ∃ v, RelV v p.2 ∧ RelD g H as d v
  | _, _, _, .nil => fun p hp => by simp at hp
  | _, _, kd, .cons h t => fun p hp => by
    simp only [D.keyeds, Bool.and_eq_true] at kd
    rw [List.map_cons, List.zip_cons_cons] at hp
    rcases List.mem_cons.mp hp with z | z
    · rw [z]
      exact ⟨_, List.mem_cons_self, rfl, h⟩
    · obtain ⟨d, hd, r⟩ := zip_data kd.2 t p z
      exact ⟨d, List.mem_cons_of_mem _ hd, r⟩
/-- what stands in a set that was made of xs: the entries' keys and values -/
theorem gained_data {κ : Type} {g : G} {H : Hp} {as : Lay} {xs : List D} {us : List Value} {f : D → κ} (kd : D.keyeds xs = true) (inj : ∀ x ∈ xs, ∀ y ∈ xs, f x = f y → x = y) (e : PySem.W.EachIs (fun u d => ∃ v, RelV v u ∧ RelD g H as d v) us xs) {L : List (κ × Value)} {n : Nat}
    (gd : Gained ((xs.map f).zip us) n L) (hn : xs.length ≤ n) : ∃ ds, PySem.W.EachIs (fun p d => p.1 = f d ∧ ∃ v, RelV v p.2 ∧ RelD g H as d v) L ds ∧ ds.Perm (D.once xs) := by
  have hl : us.length = xs.length := e.length
  have hz : ((xs.map f).zip us).take n = (xs.map f).zip us := List.take_of_length_le (by rw [List.length_zip, List.length_map, hl]; omega)
  have there := zip_data (f := f) kd e
  have pick : ∀ L' : List (κ × Value), (∀ p ∈ L', p ∈ L) → ∃ ds, PySem.W.EachIs (fun p d => p.1 = f d ∧ ∃ v, RelV v p.2 ∧ RelD g H as d v) L' ds ∧ (∀ d ∈ ds, d ∈ xs) ∧ ds.map f = L'.map (·.1) := by
    intro L'
    induction L' with
    | nil => intro _; exact ⟨[], .nil, fun d hd => (by cases hd), rfl⟩
    | cons p L' ih =>
      intro hs
      obtain ⟨ds, e1, e2, e3⟩ := ih fun q hq => hs q (List.mem_cons_of_mem _ hq)
      have m := gd.sub p (hs p List.mem_cons_self)
      rw [hz] at m
      obtain ⟨d, hd, h1, h2⟩ := there p m
      refine ⟨d :: ds, .cons ⟨h1, h2⟩ e1, fun y hy => ?_, by rw [List.map_cons, List.map_cons, e3, h1]⟩
      rcases List.mem_cons.mp hy with z | z
      · rw [z]; exact hd
      · exact e2 y z
  obtain ⟨ds, e1, e2, e3⟩ := pick L fun p hp => hp
  refine ⟨ds, e1, ?_⟩
  have nd : ds.Nodup := nodup_of_map (f := f) (by rw [e3]; exact gd.nd)
  refine (List.perm_ext_iff_of_nodup nd (once_nodup kd)).mpr fun d => ⟨fun hd => (once_mem kd d).mpr (e2 d hd), fun hd => ?_⟩
  have hx := (once_mem kd d).mp hd
  -- its key is there
  obtain ⟨i, hi⟩ := List.mem_iff_getElem?.mp hx
  have hil := at_lt hi
  have hq : ((xs.map f).zip us)[i]? = some (f d, us[i]'(by omega)) := by
    rw [List.getElem?_zip_eq_some]
    exact ⟨by rw [List.getElem?_map, hi]; rfl, List.getElem?_eq_getElem (by omega)⟩
  have mem := gd.all (f d, us[i]'(by omega)) (by rw [hz]; exact List.mem_of_getElem? hq)
  rw [← e3] at mem
  obtain ⟨d', hd', ef⟩ := List.mem_map.mp mem
  rw [← inj d' (e2 d' hd') d hx ef]
  exact hd'
end Mk
end

section
set_option maxHeartbeats 4000000
/-! Mk20: len(set(xs)), sorted(set(xs)): the calls. -/
open PySem PySem.Spec PyProof.Rows L2
namespace Mk
def isTups (xs : List D) : Bool := xs.all isTup0 && decide (D.depths xs ≤ 8)
/-- what is known of a new set: how many it holds; its walk -/
structure SetLen (h : Heap) (a : Addr) (n : Nat) : Prop where
  ex : ∃ o es ep t, h.get? a = some o ∧ o.ExactSet ∧ o.data = .set es ep t ∧ t.fits es.size = true ∧ es.size = n
structure SetWalk (w : World) (g : G) (H : Hp) (as : Lay) (h : Heap) (a : Addr) (xs : List D) : Prop where
  ex : ∃ es ep t, SetAt h a es ep t ∧ t.fits es.size = true ∧ es.size < scanBound ∧ Ris t.place.toList ∧ (w.params.followText "set-order" = true ∨ t.led = true) ∧
    ∃ ds, PySem.W.EachIs (fun u d => ∃ v, RelV v u ∧ RelD g H as d v) (es.toList.map (·.2)) ds ∧ ds.Perm (D.once xs)
theorem tup_len {P : Program} {w : World} {h : Heap} {a : Addr} {L : List KV} {n : Nat} (x : TupAt0 P w h a L) (e : L.length = n) : SetLen h a n := by
  obtain ⟨es, ep, t, R⟩ := x
  obtain ⟨o, ho, hex, hd⟩ := R.obj
  have sz := rows_len R.rows
  have pl : t.place.size = L.length := by
    have := R.tab.sz
    rwa [List.length_map] at this
  have room := R.room
  exact ⟨o, es, ep, t, ho, hex, hd, fits_of (by omega) R.tab.dm (by omega), by omega⟩
theorem each_map2 {α β γ : Type} {R : α → β → Prop} {S : γ → β → Prop} {f : α → γ} (h : ∀ a b, R a b → S (f a) b) : ∀ {as : List α} {bs : List β}, PySem.W.EachIs R as bs → PySem.W.EachIs S (as.map f) bs
  | _, _, .nil => .nil
  | _, _, .cons r t => .cons (h _ _ r) (each_map2 h t)
theorem tup_walk {P : Program} {w : World} {g : G} {H : Hp} {as : Lay} {h : Heap} {a : Addr} {L : List KV} {xs ds : List D} (x : TupAt0 P w h a L) (e : PySem.W.EachIs (fun p d => p.1 = D.key d ∧ ∃ v, RelV v p.2 ∧ RelD g H as d v) L ds) (p : ds.Perm (D.once xs)) : SetWalk w g H as h a xs := by
  obtain ⟨es, ep, t, R⟩ := x
  obtain ⟨o, ho, hex, hd⟩ := R.obj
  have sz := rows_len R.rows
  have pl : t.place.size = L.length := by
    have := R.tab.sz
    rwa [List.length_map] at this
  have room := R.room
  refine ⟨es, ep, t, ⟨o, ho, hex.1, hd⟩, fits_of (by omega) R.tab.dm (by omega), size64 (by have := R.few; omega), R.tab.ris, R.led, ds, ?_, p⟩
  have er : es.toList.map (·.2) = L.map (·.2) := by
    rw [R.rows]
    unfold hashRows
    rw [List.map_map]
    rfl
  rw [er]
  exact each_map2 (fun a b h => h.2) e
theorem int_len {w : World} {h : Heap} {a : Addr} {L : List (Int × Value)} {n : Nat} (x : IntAt w h a L) (e : L.length = n) : SetLen h a n := by
  obtain ⟨nd, o, es, ep, t, ho, hex, hd, g, n1, hm, hb, hf, hn, r⟩ := x
  exact ⟨o, es, ep, t, ho, hex, hd, hf, by omega⟩
theorem txt_len {P : Program} {w : World} {h : Heap} {a : Addr} {L : List (Str × Value)} {n : Nat} (x : TxtAt P w h a L) (e : L.length = n) : SetLen h a n := by
  obtain ⟨nd, o, es, ep, t, ho, hex, hd, _, _, _, hf, hn⟩ := x
  exact ⟨o, es, ep, t, ho, hex, hd, hf, by omega⟩
theorem int_walk {w : World} {g : G} {H : Hp} {as : Lay} {h : Heap} {a : Addr} {L : List (Int × Value)} {xs ds : List D} (x : IntAt w h a L) (all : xs.all isInt = true) (kd : D.keyeds xs = true) (e : PySem.W.EachIs (fun p d => p.1 = intOf d ∧ ∃ v, RelV v p.2 ∧ RelD g H as d v) L ds)
    (p : ds.Perm (D.once xs)) : SetWalk w g H as h a xs := by
  obtain ⟨nd, o, es, ep, t, ho, hex, hd, gd, n1, hm, hb, hf, hn, hr, hl⟩ := x
  refine ⟨es, ep, t, ⟨o, ho, hex.1, hd⟩, hf, hb, hr, hl, (es.toList.map keyOf).map D.int, ?_, ?_⟩
  · have each : ∀ l : List (Int × Value), (∀ e ∈ l, GoodE e) → PySem.W.EachIs (fun u d => ∃ v, RelV v u ∧ RelD g H as d v) (l.map (·.2)) ((l.map keyOf).map D.int) := by
      intro l
      induction l with
      | nil => intro _; exact .nil
      | cons q l ih =>
        intro hg
        obtain ⟨k, tk, h1, h2⟩ := hg q List.mem_cons_self
        refine .cons ?_ (ih fun z hz => hg z (List.mem_cons_of_mem _ hz))
        have ek : keyOf q = k := by unfold keyOf; rw [h1]
        show ∃ v, RelV v q.2 ∧ RelD g H as (.int (keyOf q)) v
        rw [ek, h1]
        exact ⟨.int k, ⟨tk, rfl⟩, by unfold RelD; rfl⟩
    exact each _ gd
  · have dsi : ∀ d ∈ ds, d = .int (intOf d) := fun d hd' => by
      have mx := (once_mem kd d).mp (p.mem_iff.mp hd')
      have := List.all_eq_true.mp all d mx
      cases d with
      | int i => rfl
      | _ => cases this
    have em : ds.map intOf = L.map (·.1) := by
      clear p dsi hm hn
      revert nd
      induction e with
      | nil => intro _; rfl
      | cons h t ih =>
        intro nd
        rw [List.map_cons] at nd
        rw [List.map_cons, List.map_cons, ih (List.nodup_cons.mp nd).2, h.1]
    refine List.Perm.trans ?_ p
    have nds : ds.Nodup := nodup_of_map (f := intOf) (by rw [em]; exact nd)
    have inj : ∀ (l : List Int), l.Nodup → (l.map D.int).Nodup := fun l hl' => by
      induction l with
      | nil => exact List.nodup_nil
      | cons i l ih =>
        obtain ⟨h1, h2⟩ := List.nodup_cons.mp hl'
        rw [List.map_cons]
        refine List.nodup_cons.mpr ⟨fun z => ?_, ih h2⟩
        obtain ⟨j, hj, ej⟩ := List.mem_map.mp z
        cases ej
        exact h1 hj
    refine (List.perm_ext_iff_of_nodup (inj _ n1) nds).mpr fun d => ?_
    constructor
    · intro hd'
      obtain ⟨k, hk, rfl⟩ := List.mem_map.mp hd'
      have := (hm k).mpr hk
      have hk2 : k ∈ L.map (·.1) := of_decide_eq_true this
      rw [← em] at hk2
      obtain ⟨d', hd2, ek⟩ := List.mem_map.mp hk2
      have := dsi d' hd2
      rw [ek] at this
      rw [← this]
      exact hd2
    · intro hd'
      rw [dsi d hd']
      refine List.mem_map.mpr ⟨intOf d, (hm _).mp (decide_eq_true ?_), rfl⟩
      rw [← em]
      exact List.mem_map.mpr ⟨d, hd', rfl⟩
theorem zip_snd {κ : Type} {f : D → κ} {xs : List D} {us : List Value} (h : us.length = xs.length) : us = ((xs.map f).zip us).map (·.2) := by
  rw [List.map_snd_zip (by rw [List.length_map]; omega)]
section
variable {X : Cx} {C : Cl}
/-- set(xs) is made -/
theorem set_made {pins : List (Addr × Obj)} {s : Shared} {σ : L2.St} {H : Hp} {as : Lay} {M : Mem} {d : D} {v : V} {u : Value} {xs : List D} {E : Value → Shared → Prop} (I : Inv X pins σ H s) (hc : X.calm = true) (hu : X.A.units + 150 < cLine) (m : MemR ⟨X.K, C⟩ H as M) (e : seqOf M d = some xs)
    (r : RelD ⟨X.K, C⟩ H as d v) (rv : RelV v u) (ok : setOk xs = true) {Qf : Value → Shared → Prop}
    (fin : ∀ (h' : Heap) (tk : Nat) (a : Addr), (∀ b o, s.heap.get? b = some o → h'.get? b = some o) → SetLen h' a (D.once xs).length → ((isTups xs || xs.all isInt) = true → SetWalk X.w ⟨X.K, C⟩ H as h' a xs) → Qf (.ref a) { s with heap := h', toks := tk }) :
    wpAny (model X.prog X.w) X.A (call (.type "set") [u]) Qf E s := by
  unfold setOk at ok
  simp only [Bool.and_eq_true, decide_eq_true_eq] at ok
  obtain ⟨⟨h64, kd⟩, kinds⟩ := ok
  obtain ⟨k, p, rfl, f0⟩ := seq_kind m e r
  obtain ⟨vs, sq, rs⟩ := f0 H as M (Keeps.refl _ _) m fun _ _ => rfl
  cases rv
  obtain ⟨its, rvs, isq, hz⟩ := sq_at I sq
  have ea := each_of rs rvs
  have hl : its.length = xs.length := ea.length
  have make : ∀ {κ : Type} (J : SetK X.prog X.w κ) (f : D → κ), (∀ q ∈ (xs.map f).zip its, J.is s.heap q.1 q.2) →
      (∀ (h' : Heap) (tk : Nat) (L : List (κ × Value)), J.at_ h' s.heap.objs.size L → Gained ((xs.map f).zip its) ((xs.map f).zip its).length L → (∀ b o, s.heap.get? b = some o → h'.get? b = some o) → Qf (.ref s.heap.objs.size) { s with heap := h', toks := tk }) →
      wpAny (model X.prog X.w) X.A (call (.type "set") [.ref p]) Qf E s := by
    intro κ J f hk hq
    have hlen : ((xs.map f).zip its).length = xs.length := by rw [List.length_zip, List.length_map, hl, Nat.min_self]
    cases k with
    | true => exact set_of_list J ((xs.map f).zip its) (I.ok.hd hc) (show s.heap.IsList p its.toArray from isq) (zip_snd hl) hk (by omega) (by omega) hq
    | false => exact set_of_tuple J ((xs.map f).zip its) (I.ok.hd hc) (show s.heap.IsTuple p its.toArray from isq) (zip_snd hl) hk (by omega) (by omega) hq
  have n1 : ∀ {κ : Type} (f : D → κ), ((xs.map f).zip its).length = xs.length := fun f => by rw [List.length_zip, List.length_map, hl, Nat.min_self]
  by_cases ct : isTups xs = true
  · have ct' := ct
    unfold isTups at ct'
    simp only [Bool.and_eq_true, decide_eq_true_eq] at ct'
    refine make (tupK X.prog X.w) D.key (fun q hq => ?_) fun h' tk L hat gd keep => ?_
    · obtain ⟨d', hd, e1, v', rv', rd'⟩ := zip_data kd ea q hq
      have kd' := keyeds_mem kd d' hd
      refine ⟨?_, by rw [e1]; exact key_is I d' v' q.2 kd' rd' rv', ?_⟩
      · have := List.all_eq_true.mp ct'.1 d' hd
        cases d' with
        | tup ys =>
          unfold RelD at rd'
          obtain ⟨a, ws, rfl, _⟩ := rd'
          exact ⟨a, rv'⟩
        | _ => cases this
      · rw [e1, key_depth d' kd']
        exact depths_mem ct'.2 d' hd
    · obtain ⟨ds, e1, pd⟩ := gained_data kd (fun x hx y hy z => key_inj x y (keyeds_mem kd x hx) (keyeds_mem kd y hy) z) ea gd (by rw [n1]; exact Nat.le_refl _)
      exact fin h' tk _ keep (tup_len hat (by rw [e1.length, pd.length_eq])) fun _ => tup_walk hat e1 pd
  · by_cases ci : xs.all isInt = true
    · have inti : ∀ d ∈ xs, d = .int (intOf d) := fun d hd => by
        have := List.all_eq_true.mp ci d hd
        cases d with
        | int i => rfl
        | _ => cases this
      refine make (intK X.prog X.w) intOf (fun q hq => ?_) fun h' tk L hat gd keep => ?_
      · obtain ⟨d', hd, e1, v', rv', rd'⟩ := zip_data kd ea q hq
        rw [inti d' hd] at rd'
        unfold RelD at rd'
        subst rd'
        obtain ⟨t, et⟩ := rv'
        exact ⟨t, by rw [et, e1]⟩
      · obtain ⟨ds, e1, pd⟩ := gained_data kd (fun x hx y hy z => by rw [inti x hx, inti y hy, z]) ea gd (by rw [n1]; exact Nat.le_refl _)
        exact fin h' tk _ keep (int_len hat (by rw [e1.length, pd.length_eq])) fun _ => int_walk hat ci kd e1 pd
    · have cs : xs.all isStr = true := by
        rcases Bool.or_eq_true_iff.mp kinds with z | z
        · rcases Bool.or_eq_true_iff.mp z with z | z
          · exact z
          · exact absurd z ci
        · exact absurd z ct
      have txt : ∀ d ∈ xs, ∃ l, d = .str l := fun d hd => by
        have := List.all_eq_true.mp cs d hd
        cases d with
        | str l => exact ⟨l, rfl⟩
        | _ => cases this
      refine make (txtK X.prog X.w) strOf (fun q hq => ?_) fun h' tk L hat gd keep => ?_
      · obtain ⟨d', hd, e1, v', rv', rd'⟩ := zip_data kd ea q hq
        obtain ⟨l, rfl⟩ := txt d' hd
        unfold RelD at rd'
        subst rd'
        obtain ⟨t, et⟩ := rv'
        exact ⟨t, by rw [et, e1]; rfl⟩
      · obtain ⟨ds, e1, pd⟩ := gained_data kd (fun x hx y hy z => by
          obtain ⟨l, rfl⟩ := txt x hx
          obtain ⟨l', rfl⟩ := txt y hy
          have : (⟨l.toArray⟩ : Str) = ⟨l'.toArray⟩ := z
          have : l = l' := by simpa using this
          rw [this]) ea gd (by rw [n1]; exact Nat.le_refl _)
        refine fin h' tk _ keep (txt_len hat (by rw [e1.length, pd.length_eq])) fun z => ?_
        rcases Bool.or_eq_true_iff.mp z with z | z
        · exact absurd z ct
        · exact absurd z ci
theorem once_len : ∀ xs : List D, (D.once xs).length ≤ xs.length
  | [] => by unfold D.once; exact Nat.le_refl _
  | x :: xs => by
    unfold D.once
    split
    · exact Nat.le_succ_of_le (once_len xs)
    · exact Nat.succ_le_succ (once_len xs)
def lenSetD : P1 := fun d M => match seqOf M d with
  | some xs => if setOk xs = true then some (.int ((D.once xs).length : Nat)) else none
  | none => none
def srtSetD : P1 := fun d M => match seqOf M d with
  | some xs => if (setOk xs && (isTups xs || xs.all isInt) && srtOk (D.once xs)) = true then some (.lst (D.sort (D.once xs))) else none
  | none => none
variable {W : WX} {a : Expr} {ea : Ev}
theorem v_lenSet {p p2 q pos : Pos} (hc : X.calm = true) (hu : X.A.units + 150 < cLine) (hm : X.mg "len" = none) (hm2 : X.mg "set" = none) (ha : VE X C W a ea) (hg : Gl X "len" := by rfl) (hg2 : Gl X "set" := by rfl)
    (na : starEach [a] X.env = (false, eval a X.env) :: starEach [] X.env := by rfl) : VE X C W (.Call (.Name "len" p) [.Call (.Name "set" p2) [a] [] q] [] pos) (eU lenSetD ea) := by
  refine ⟨fun pins s σ H Q I h => ?_⟩
  refine Call_ (ld_blt I hg hm boot_len ?_)
  refine PyProof.Rows.callWith_builtin1 (PyProof.Rows.args_cons ?_ rfl) rfl rfl
  refine Call_ (ld_blt I hg2 hm2 boot_set ?_)
  refine PyProof.Rows.callWith_type1 (PyProof.Rows.args_cons (thn (ha.run pins s σ H _ I (unE h)) fun v s1 ⟨x, H1, I1, r1, q1⟩ => PyProof.Rows.args_nil ?_) na) na rfl
  obtain ⟨as, M, dx, d, m, rx, hf, th⟩ := q1
  unfold lenSetD at hf
  split at hf
  · rename_i xs ex
    split at hf
    · rename_i ok
      cases hf
      refine set_made I1 hc hu m ex rx r1 ok fun h' tk b keep sl _ => ?_
      refine PyProof.Rows.args_nil ?_
      obtain ⟨o, es, ep, t, ho, hex, hd, hft, hn⟩ := sl.ex
      have I2 : Inv X pins σ H1 { s1 with heap := h', toks := tk } := I1.kept keep
      have small : (es.size : Int) < 2 ^ 63 := by
        have := once_len xs
        unfold setOk at ok
        simp only [Bool.and_eq_true, decide_eq_true_eq] at ok
        omega
      refine call_len_set ho hex hd hft small ⟨.int es.size, H1, I2.tok _, ⟨_, rfl⟩, ?_⟩
      rw [hn]
      exact th.int m
    · cases hf
  · cases hf
/-- sorted(a set) -/
theorem sort_set {pins : List (Addr × Obj)} {s : Shared} {σ : L2.St} {H : Hp} {as : Lay} {M : Mem} {xs : List D} {b : Addr} {Q : VK} {E : Value → Shared → Prop} (I : Inv X pins σ H s) (hc : X.calm = true) (hu : X.A.units + 150 < cLine) (m : MemR ⟨X.K, C⟩ H as M)
    (kd : D.keyeds xs = true) (wk : SetWalk X.w ⟨X.K, C⟩ H as s.heap b xs) (ok : srtOk (D.once xs) = true) (q : Then ⟨X.K, C⟩ H as M (.lst (D.sort (D.once xs))) Q) : wpAny (model X.prog X.w) X.A (call (.builtin "sorted") [.ref b]) (EP X pins σ Q) E s := by
  obtain ⟨es, ep, t, hat, hf, hb, hr, hl, ds0, e0, p0⟩ := wk.ex
  refine Calls.call_function_entry kind_sorted plain_sorted entry_sorted (args_sorted1 _) ?_
  unfold Builtin.«sorted»
  refine wpAny_bind (m := checkCount "sorted" 1 1 _) (wpAny_pure ?_)
  refine wpAny_bind (collect_set (A := X.A.in1) (I.ok.hd hc) hat hf hb hr hl fun s1 vs k1 hz g1 o1 pm => ?_)
  obtain ⟨ds, e1, p1⟩ := each_perm pm e0
  have pd : ds.Perm (D.once xs) := p1.trans p0
  have kds : D.keyeds ds = true := mem_keyeds fun d hd => keyeds_mem kd d ((once_mem kd d).mp (pd.mem_iff.mp hd))
  unfold srtOk at ok
  simp only [Bool.and_eq_true, decide_eq_true_eq] at ok
  obtain ⟨⟨⟨⟨z1, z2⟩, z3⟩, z4⟩, z5⟩ := ok
  have al : ∀ x ∈ ds, ∀ y ∈ ds, x.alike y = true := fun x hx y hy => List.all_eq_true.mp (List.all_eq_true.mp z3 x (pd.mem_iff.mp hx)) y (pd.mem_iff.mp hy)
  have hvl : vs.length = ds.length := e1.length
  have hdl : ds.length ≤ sizeLine := by rw [pd.length_eq, lim_eq]; exact z1
  refine wpAny_bind (wpAny_newList ?_ (by rw [hvl]; exact hdl))
  have hoL : (s1.heap.push (seqObj "list" vs.toArray 0)).get? s1.heap.objs.size = some (seqObj "list" vs.toArray 0) := Heap.get?_push_size _ rfl
  have k2 : ∀ c o, s.heap.get? c = some o → (s1.heap.push (seqObj "list" vs.toArray 0)).get? c = some o := fun c o e => Heap.get?_push_of_some _ (k1 c o e)
  have pu : ∀ d ∈ ds, d.pure = true := fun d hd => keyed_pure d (keyeds_mem kds d hd)
  have er : PySem.W.EachIs (fun u d => ∃ as, Reads (s1.heap.push (seqObj "list" vs.toArray 0)) u (D.py d) as ∧ s1.heap.objs.size ∉ as) vs ds := each_imp e1 fun u d hd ⟨v, rv, rd⟩ => by
    obtain ⟨as', hr'⟩ := Dp.reads I _ v u (RelD.dp d v (pu d hd) rd) rv
    have en := reads_nil d u as' (keyeds_mem kds d hd) hr'
    subst en
    exact ⟨[], PyProof.Rows.Reads.keeps k2 hr', by simp⟩
  have aa : PySem.W.AllAlike (ds.map D.py) := by
    intro d hd d' hd'
    obtain ⟨x, hx, rfl⟩ := List.mem_map.mp hd
    obtain ⟨y, hy, rfl⟩ := List.mem_map.mp hd'
    exact py_alike x y (al x hx y hy)
  have so : PySem.W.Sortable (ds.map D.py) := by
    rcases Bool.or_eq_true_iff.mp z4 with z | z
    · exact .inl fun d hd => by
        obtain ⟨x, hx, rfl⟩ := List.mem_map.mp hd
        exact tup_py (List.all_eq_true.mp z x (pd.mem_iff.mp hx))
    · exact .inr fun d hd => by
        obtain ⟨x, hx, rfl⟩ := List.mem_map.mp hd
        exact flat_py (List.all_eq_true.mp z x (pd.mem_iff.mp hx)) (pu x hx)
  refine wpAny_bind (wpAny_holding (PySem.W.list_sort_data (s := { s1 with heap := s1.heap.push (seqObj "list" vs.toArray 0) }) hoL e1 er aa so hdl (fun d hd => ?_) fun out ol eo => ?_))
  · rw [py_depth]
    have := depths_mem z5 d (pd.mem_iff.mp hd)
    simp only [Around.in1_units]
    omega
  · have em : ds.mergeSort (PySem.W.dataLe false D.py) = D.sort (D.once xs) := by
      rw [← sort_perm pd kds al]
      refine sort_congr fun a ha b hb => ?_
      rw [PySem.W.dataLe_eq]
      show (!PySem.W.dataLt b.py a.py) = !(b.ltb a)
      rw [py_lt b a (al b hb a ha) (pu b hb) (pu a ha)]
    rw [em] at eo
    obtain ⟨ws, qw, rw'⟩ := of_each eo
    obtain ⟨c, hcc⟩ := sortedHeap_at (vs := vs) (out := out.toArray) hoL
    have hn : H s1.heap.objs.size = none := I.hok.fresh hz
    have keep : ∀ c o, s.heap.get? c = some o → (sortedHeap (s1.heap.push (seqObj "list" vs.toArray 0)) s1.heap.objs.size vs out.toArray).get? c = some o := fun c o e => by
      have q := k1 c o e
      have hlt := Heap.lt_size q
      rw [sortedHeap_old (Nat.ne_of_lt hlt) (by rw [size_push']; exact Nat.lt_succ_of_lt hlt)]
      exact Heap.get?_push_of_some _ q
    refine wpAny_pure ⟨_, rfl, ?_⟩
    have J : Inv X pins σ (upd H s1.heap.objs.size (.lst ws)) { s with heap := sortedHeap (s1.heap.push (seqObj "list" vs.toArray 0)) s1.heap.objs.size vs out.toArray, gens := s1.gens, drawn := s1.drawn, toks := s1.toks } :=
      I.call (ch := []) (Un.laid keep hz hn) (I.hok.laid keep hz ⟨by rw [qw.length, ol]; exact hdl, out, c, qw, hcc⟩) (by rw [g1]; exact I.bare) (fun _ z => nomatch z)
    have e : ({ s1 with heap := sortedHeap (s1.heap.push (seqObj "list" vs.toArray 0)) s1.heap.objs.size vs out.toArray } : Shared) = { s with heap := sortedHeap (s1.heap.push (seqObj "list" vs.toArray 0)) s1.heap.objs.size vs out.toArray, gens := s1.gens, drawn := s1.drawn, toks := s1.toks } := by
      cases s1
      cases s
      cases o1
      rfl
    rw [e]
    exact ⟨.ref s1.heap.objs.size, _, J, rfl, q.lst m hn rw'⟩
theorem v_srtSet {p p2 q pos : Pos} (hc : X.calm = true) (hu : X.A.units + 150 < cLine) (hm : X.mg "sorted" = none) (hm2 : X.mg "set" = none) (ha : VE X C W a ea) (hg : Gl X "sorted" := by rfl) (hg2 : Gl X "set" := by rfl)
    (na : starEach [a] X.env = (false, eval a X.env) :: starEach [] X.env := by rfl) : VE X C W (.Call (.Name "sorted" p) [.Call (.Name "set" p2) [a] [] q] [] pos) (eU srtSetD ea) := by
  refine ⟨fun pins s σ H Q I h => ?_⟩
  refine Call_ (ld_blt I hg hm boot_sorted ?_)
  refine PyProof.Rows.callWith_builtin1 (PyProof.Rows.args_cons ?_ rfl) rfl rfl
  refine Call_ (ld_blt I hg2 hm2 boot_set ?_)
  refine PyProof.Rows.callWith_type1 (PyProof.Rows.args_cons (thn (ha.run pins s σ H _ I (unE h)) fun v s1 ⟨x, H1, I1, r1, q1⟩ => PyProof.Rows.args_nil ?_) na) na rfl
  obtain ⟨as, M, dx, d, m, rx, hf, th⟩ := q1
  unfold srtSetD at hf
  split at hf
  · rename_i xs ex
    split at hf
    · rename_i ok
      cases hf
      simp only [Bool.and_eq_true] at ok
      obtain ⟨⟨ok1, ok2⟩, ok3⟩ := ok
      have kd : D.keyeds xs = true := by
        have := ok1
        unfold setOk at this
        simp only [Bool.and_eq_true] at this
        exact this.1.2
      refine set_made I1 hc hu m ex rx r1 ok1 fun h' tk b keep sl wk => ?_
      refine PyProof.Rows.args_nil ?_
      have I2 : Inv X pins σ H1 { s1 with heap := h', toks := tk } := I1.kept keep
      exact sort_set I2 hc hu m kd (wk ok2) ok3 th
    · cases hf
  · cases hf
end
end Mk
end

section
set_option maxHeartbeats 4000000
/-! Mk21: the head's facts, the end. -/
open PySem PySem.Spec PyProof.Rows L2
namespace Mk
/-- no list is told of: the script is none of what stands written -/
def NoLst (K : PySem.W.Frag) : Prop := ∀ a o, K.lookup a = some o → o.cls ≠ .type "list"
def notLst (q : Addr × Obj) : Bool := match q.2.cls with
  | .type c => !(decide (c = "list"))
  | _ => true
def frL (g : Addr → Option Obj) (as : List Addr) : PySem.W.Frag := (He.frG g as).filter notLst
theorem frL_in {as : List Addr} {h : Heap} : (frL h.get? as).In h := fun _ _ e => He.frG_mem (List.mem_filter.mp (He.lookup_mem e)).1
theorem frL_no {g : Addr → Option Obj} {as : List Addr} : NoLst (frL g as) := fun a o e z => by
  have h := (List.mem_filter.mp (He.lookup_mem e)).2
  unfold notLst at h
  rw [show ((a, o) : Addr × Obj).2.cls = .type "list" from z] at h
  simp at h
abbrev AlM : Type := He.AlD × Bool
def obsM (n : Nat) (fa : List He.Fa) (fn : List He.DefD) (gl : List (Str × D)) (g : Addr → Option Obj) : AlM := (He.obsD fa fn (frL g (He.asD g n)), gl.all (glB (frL g (He.asD g n))))
def hookM (n : Nat) (fa : List He.Fa) (fn : List He.DefD) (gl : List (Str × D)) : PySem.W.Hook where
  α := AlM
  obs := fun s => obsM n fa fn gl s.heap.get?
  val := fun _ => (He.valD fn, true)
  says := fun _ h => ∃ K : PySem.W.Frag, K.In h ∧ NoLst K ∧ He.SaysD fa fn K ∧ gl.all (glB K) = true
  of := fun _ _ e => ⟨_, frL_in, frL_no, congrArg (fun z : AlM => z.1) e, congrArg (fun z : AlM => z.2) e⟩
  keeps := fun _ _ _ ⟨K, hK, r⟩ k => ⟨K, PySem.W.Frag.In.keeps hK k, r⟩
theorem obsM_eq {n : Nat} {fa : List He.Fa} {fn : List He.DefD} {gl : List (Str × D)} {g : Addr → Option Obj} {s : Shared} (h : ∀ a, g a = s.heap.get? a) : obsM n fa fn gl g = (hookM n fa fn gl).obs s := by
  have e : g = s.heap.get? := funext h
  rw [e] <;> rfl
/-- the i-th def of the facts -/
theorem def_at {fa : List He.Fa} {fn : List He.DefD} {K : PySem.W.Frag} {h : Heap} {mg : Str → Option Value} (X : K.In h) (G : h.Ns mainGlobals mg) (c : He.SaysD fa fn K) (i j : Nat) {d : He.DefD} {x : Str} (hd : fn[i]? = some d) (hf : fa[j]? = some (.glo x)) (ha : d.at_ = (x, none)) :
    ∃ f fd, mg x = some (.ref f) ∧ FunD K d.name d.qual d.params d.body d.scope (d.dvs K) (d.kws K) f fd := by
  obtain ⟨fd, F⟩ := c.def_ i hd
  have e := He.glo_ok X G (c.fact j hf)
  have e2 : He.fAd K d.at_ = He.ga K x := by rw [ha]; rfl
  rw [e2] at F
  exact ⟨_, fd, e, F⟩
def spEnd (K : PySem.W.Frag) (most : Nat) : Sp := fun vs H Q _ => ∃ (a : Addr) (ns : List Int), vs = [.ref a] ∧ SqL K H a (ns.map V.int) ∧ ns.length ≤ most ∧ ∀ H', Q (.bl true) H'
theorem ints_rel {g : G} {H : Hp} {as : Lay} : ∀ ns : List Int, RelDs g H as (ns.map D.int) (ns.map V.int)
  | [] => relDs_nil.mpr rfl
  | n :: ns => relDs_cons.mpr ⟨.int n, ns.map V.int, rfl, by unfold RelD; rfl, ints_rel ns⟩
theorem end_fn {P : Program} {w : World} {K : PySem.W.Frag} {mg : Str → Option Value} {base : Heap} {C : Cl} {k most : Nat} {f : Addr} {fd : FuncData} {ps : List Str} {ev : Fv} (nl : NoLst K) (F : FnOk P w K mg base (L2.CX P w) k f fd ps (spF ⟨K, C⟩ 1 ev)) (hps : ps.length = 1)
    (law : ∀ ns : List Int, ns.length ≤ most → ∃ M', ev [.lst (ns.map D.int)] [] = .ok (.bl true) M') : FnOk P w K mg base CX0 k f fd ps (spEnd K most) := by
  refine ⟨fun vs H Q E ⟨a, ns, e, _⟩ => by rw [e, hps]; rfl, fun A outer s H args us vs Q E hr e0 hb r h => ?_⟩
  obtain ⟨a, ns, rfl, hS, hn, hQ⟩ := h
  have hR : Rd H a (.lst (ns.map V.int)) := by
    rcases hS with h | ⟨o, its, n, h1, h2, _⟩
    · exact h
    · exact absurd h2 (nl a o h1)
  obtain ⟨M', eM⟩ := law ns hn
  have sp0 : spF ⟨K, C⟩ 1 ev [.ref a] H Q (fun _ _ _ => False) := by
    refine ⟨rfl, [.lst (ns.map D.int)], [], ⟨[], []⟩, relDs_cons.mpr ⟨.ref a, [], rfl, ?_, relDs_nil.mpr rfl⟩, ⟨rfl, List.nodup_nil, fun i b o e _ => by simp at e, fun b hb => by cases hb⟩, ?_⟩
    · unfold RelD
      exact ⟨a, _, rfl, ⟨hR, ⟨by simp, by simp⟩⟩, ints_rel ns⟩
    · rw [eM]
      intro v H' as' m x rv
      unfold RelD at rv
      rw [rv]
      exact hQ H'
  refine codeAny_mono (F.run A outer s H args us [.ref a] Q (fun _ _ _ => False) hr e0 hb r sp0) fun res s' hres => ?_
  cases res with
  | ok fl =>
    cases fl with
    | ret u => exact hres
    | next => exact hres
    | brk => exact hres
    | cont => exact hres
  | error e =>
    obtain ⟨_, _, _, _, _, _, _, _, _, _, _, _, z⟩ := hres
    exact z.elim
end Mk
end

section
set_option maxHeartbeats 4000000
/-! Mk22: exceptions of own classes, raised. -/
open PySem PySem.Spec PyProof.Rows L2
namespace Mk
def sRaise (c : Nat) : EvS := fun ρ M => .exc ⟨c, []⟩ ρ M
/-- what is known of an own exception class without an __init__ of its own; bm: what stands behind the own classes in its order -/
structure OwnC (K : PySem.W.Frag) (mg : Str → Option Value) (a : Addr) (x : Str) (bm : List Value) : Prop where
  g : mg x = some (.ref a)
  q : PySem.W.excIn K a bm "ValueError.__new__" = true
  k : PySem.W.keepIn K (.ref a) = true
  b : PySem.W.subIn K (.ref a) (.type "BaseException") = some true
  t : PySem.W.typeIn K (.ref a) = some (.type "type")
section
variable {X : Cx} {C : Cl} {W : WX}
theorem vs_raise {x m : Str} {c j : Nat} {p p2 pos pos' : Pos} (O : OwnC X.K X.mg (C.adr c) x [.type "ValueError", .type "Exception", .type "BaseException", .type "object"]) (tk : Takes X W) (hc : X.calm = true := by rfl) (hg : Gl X x := by rfl) (hdb : (x == ("__debug__" : Str)) = false := by decide) :
    VS X C W (.Raise (some (.Call (.Name x p) [.Constant (.str m) j p2] [] pos)) none pos') (sRaise c) :=
  PS.imp (ps_raise hc tk (pmk_own PySem.F.excBase_ValueError O.q O.g O.k (raises_own O.b O.t) hg hdb)) fun D σ H ⟨ρ, M, as, e, m, q⟩ => q (.ref (C.adr c)) none σ H as e m (Ext.refl _ _) ⟨rfl, .inl ⟨rfl, rfl⟩⟩
end

/-! ### the tables of the lambdas' code objects -/
def isTab (j : Nat) : Option O → Bool
  | some (.tab k) => k == j
  | _ => false
/-- the tables stand first in the memory -/
def tabsOk (n : Nat) (M : Mem) : Bool := (List.range n).all fun j => isTab j M[j]?
theorem isTab_eq {j : Nat} {o : Option O} (h : isTab j o = true) : o = some (.tab j) := by
  cases o with
  | none => cases h
  | some u =>
    cases u with
    | tab k => rw [show k = j from eq_of_beq h]
    | _ => cases h
theorem tabsOk_at {n j : Nat} {M : Mem} (h : tabsOk n M = true) (hj : j < n) : M[j]? = some (.tab j) := isTab_eq (List.all_eq_true.mp h j (List.mem_range.mpr hj))
/-- a lambda was made: a table is written, code objects are new; all else stands -/
theorem ext_N {g : G} {H H1 : Hp} {as : Lay} {M : Mem} (m : MemR g H as M) (x : LamX.ExtN H H1) (t : LamX.Tabs g.C.tb H1) : MemR g H1 as M ∧ Ext H as H1 as := by
  have e : Ext H as H1 as := ⟨⟨[], by simp⟩, rfl, fun a o h nt n => ⟨x a o h nt, n⟩⟩
  refine ⟨⟨m.len, m.nd, fun i a o hi hM => ?_, fun a ha => ?_⟩, e⟩
  · have r := m.obj i a o hi hM
    cases o with
    | lst xs =>
      obtain ⟨vs, w, rr⟩ := r
      exact ⟨vs, x a _ w (by intro _ z; cases z), rr.ext e⟩
    | ins c fs =>
      obtain ⟨dx, ws, w, rr⟩ := r
      exact ⟨dx, ws, x a _ w (by intro _ z; cases z), rr.mono e.keeps⟩
    | tab j =>
      obtain ⟨q, ps0, hb, w, w2, w3⟩ := r
      obtain ⟨ps, h1, h2, h3⟩ := t (a, q) (List.mem_of_getElem? hb)
      refine ⟨q, ps, hb, h1, h2, fun pos cv hc => ?_⟩
      obtain ⟨c, ec, hcc⟩ := h3 pos cv hc
      refine ⟨c, ec, hcc, fun z => ?_, fun z => ?_⟩
      · obtain ⟨k, hk⟩ := List.getElem?_of_mem z
        have hl := m.len
        have hk' := (List.getElem?_eq_some_iff.mp hk).1
        have hMk : M[k]? = some (M[k]'(by omega)) := List.getElem?_eq_getElem _
        have rk := m.obj k c _ hk hMk
        cases qk : M[k]'(by omega) with
        | lst xs =>
          rw [qk] at rk
          obtain ⟨vs, w, _⟩ := rk
          have := (x c _ w (by intro _ z; cases z)).symm.trans hcc
          cases this
        | ins c' fs =>
          rw [qk] at rk
          obtain ⟨dx, ws, w, _⟩ := rk
          have := (x c _ w (by intro _ z; cases z)).symm.trans hcc
          cases this
        | tab j2 =>
          rw [qk] at rk
          obtain ⟨q2, _, hb2, _, _⟩ := rk
          obtain ⟨ps2, w2', _⟩ := t (c, q2) (List.mem_of_getElem? hb2)
          rw [w2'] at hcc
          exact LamX.codeO_ne _ (Option.some.inj hcc).symm
      · obtain ⟨_, vs, w⟩ := m.hide c z
        have := (x c _ w (by intro _ z; cases z)).symm.trans hcc
        cases this
  · obtain ⟨n, vs, w⟩ := m.hide a ha
    exact ⟨n, vs, x a _ w (by intro _ z; cases z)⟩
theorem tabs_of {g : G} {H : Hp} {as : Lay} {M : Mem} {n : Nat} (m : MemR g H as M) (hn : g.C.tb.length = n) (h : tabsOk n M = true) : LamX.Tabs g.C.tb H := fun p hp => by
  obtain ⟨j, hj⟩ := List.getElem?_of_mem hp
  have hj' := (List.getElem?_eq_some_iff.mp hj).1
  have hM := tabsOk_at h (by rw [← hn]; exact hj')
  have hi : j < as.mu.length := by rw [m.len]; exact at_lt hM
  obtain ⟨q', ps, hb, w, w2, w3⟩ := m.obj j _ _ (List.getElem?_eq_getElem hi) hM
  rw [hj] at hb
  have e := Option.some.inj hb
  rw [e]
  exact ⟨ps, w, w2, fun pos cv hc => by
    obtain ⟨c, a, b, _⟩ := w3 pos cv hc
    exact ⟨c, a, b⟩⟩
end Mk
end

section
set_option maxHeartbeats 4000000
/-! Mk23: f(lambda: e), f a def that calls what it got and tells of what is raised. -/
open PySem PySem.Spec PyProof.Rows L2
namespace Mk
/-- the evaluator: the tables of lambdas stand first in the memory -/
def eGive (n : Nat) (fe : Res D → Res D) (ev : Ev) : Ev := fun ρ M => if tabsOk n M = true then fe (ev ρ M) else .err
/-- '' where nothing is raised, else what is told of the exception's class -/
def errR (names : Ex → Mem → Res D) (r : Res D) : Res D := match r with
  | .ok _ M => .ok (.str []) M
  | .exc x M => names x M
  | .err => .err
/-- what is asked of an exception of the class cls that lies so -/
def Told (K : PySem.W.Frag) (C : Cl) (names : Ex → Mem → Res D) (cls : Value) (d : Option Addr) (Q : VK) (H : Hp) : Prop :=
  ∃ (x : Ex) (M : Mem) (as : Lay), RelX ⟨K, C⟩ H as x cls d ∧ MemR ⟨K, C⟩ H as M ∧ Fin ⟨K, C⟩ (RelD ⟨K, C⟩) (fun _ _ _ => False) H as Q (names x M)
def TTerr (K : PySem.W.Frag) (C : Cl) (names : Ex → Mem → Res D) : (XK → Hp → VK → Prop) → Hp → VK → Prop := fun tl H Q =>
  tl (fun cls d H' => Told K C names cls d Q H') H (fun _ H' => Q (.str ⟨#[]⟩) H')
section
variable {X : Cx} {C : Cl} {W : WX}
theorem Fin.noX {α β : Type} {g : G} {R : Hp → Lay → α → β → Prop} {W : WK} {H : Hp} {as : Lay} {Q : β → Hp → Prop} {r : Res α} (n : ∀ x M, r ≠ .exc x M) (h : Fin g R W H as Q r) : Fin g R (fun _ _ _ => False) H as Q r := by
  cases r with
  | ok d M => exact h
  | exc x M => exact absurd rfl (n x M)
  | err => exact h
theorem v_err {n : Nat} {names : Ex → Mem → Res D} {x a : Str} {g c P : Addr} {k : Nat} {pg : Arguments} {bg : List Stmt} {sg : Scope} {dV kV doc pm cdv ct oc : Value} {an od : Option Addr} {osl : Array (Option Value)} {Ng : List Str}
    {params : Arguments} {body : Expr} {scope : Scope} {ev : Ev} {p lpos pos : Pos} (hg : Gl X x) (hm : X.mg x = some (.ref g)) (hk : PySem.W.keepIn X.K (.ref g) = true)
    (lk : X.K.lookup g = some ⟨oc, od, .func (PySem.W.fnOf x x pg bg sg dV kV doc pm an cdv ct), osl⟩) (hcg : PySem.W.codeIn X.K cdv x = true) (hb : L2.Binds X.K (PySem.W.fnOf x x pg bg sg dV kV doc pm an cdv ct) [a] []) (Sg : FnScope Ng [a] sg) (hNg : Ng[0]? = some a) (hva : Vis sg a)
    (hG : LamX.GivesTo X Ng x sg g cdv bg a (X.env.qual ++ "<lambda>") (TTerr X.K C names)) (hne : ∀ x M y M', names x M ≠ .exc y M')
    (TB : LamX.TabB X.base X.mg c P) (hcode : X.env.code = .ref c) (ht : (P, X.env.qual ++ "<lambda>") ∈ C.tb) (hu : ∀ p ∈ C.tb, p.1 = P → p.2 = X.env.qual ++ "<lambda>") (hn : C.tb.length = n) (hr : Room (k + 2) X.A) (L : LamX.LamS X.env.scope scope) (hdef : defaultsOf params X.env = ([], []))
    (hbind : ∀ (q : Str) (cl : List (Str × Addr)) (pm cv ctv : Value), bindArgs (PySem.W.kla_fn "<lambda>" q params body scope cl pm cv ctv) ⟨[], []⟩ = pure [])
    (hbody : ∀ (A : Around) (outer : List Env) (s : Shared) (H : Hp) (E : XK) (f c' : Addr), Room k (A.deeper (LamX.lamEnv X scope s.heap.objs.size f c')) → VE (LamX.lamCx X A outer s H E scope f c') C (fun cls d _ H' => E cls d H') body ev)
    (hdb : (x == ("__debug__" : Str)) = false := by decide) (hd : (a == ("__debug__" : Str)) = false := by decide) (hcd : (a == ("__classdict__" : Str)) = false := by decide) :
    VE X C W (.Call (.Name x p) [.Lambda params body scope lpos] [] pos) (eGive n (errR names) ev) := by
  refine PE.imp (LamX.pe_lamcall (T := C.tb) (TT := TTerr X.K C names) (t := fun E => tE ⟨X.K, C⟩ (fun cls d _ H' => E cls d H') ev) hg hm hk lk hcg hb Sg hNg hva hG TB hcode ht hu hr L hdef hbind hbody hdb hd hcd) fun σ H Q ⟨ρ, M, as, e, m, q⟩ => ?_
  unfold eGive at q
  by_cases hok : tabsOk n M = true
  case neg => rw [if_neg hok] at q; exact q.elim
  rw [if_pos hok] at q
  refine ⟨tabs_of m hn hok, fun H1 eN T1 => ?_⟩
  obtain ⟨m1, xx⟩ := ext_N m eN T1
  refine ⟨ρ, M, as, e.ext xx, m1, ?_⟩
  have q1 := q.at_ xx
  cases hr : ev ρ M with
  | ok d M1 =>
    rw [hr] at q1
    exact fun v H' as' m' x' _ => q1 (.str ⟨#[]⟩) H' as' m' x' (by unfold RelD; rfl)
  | exc y M1 =>
    rw [hr] at q1
    change Fin _ _ _ _ _ _ (names y M1) at q1
    intro cls o H' as' m' x' rx
    have nx := q1.noX (hne _ _)
    exact ⟨y, M1, as', rx, m', nx.at_ x'⟩
  | err => rw [hr] at q1; exact q1.elim
end
end Mk
end

section
set_option maxHeartbeats 4000000
/-! Mk24: isinstance of a pinned exception. -/
open PySem PySem.Spec PyProof.Rows L2
namespace Mk
theorem inst_pinned {X : Cx} {pins : List (Addr × Obj)} {s : Shared} {σ : L2.St} {H : Hp} {a : Addr} {c : Value} {d : Option Addr} {oe : Obj} (I : Inv X pins σ H s) (hp : (a, oe) ∈ X.pn) (hz : Zc c d oe) (hf : ∃ vs, oe.data = .fields vs) :
    s.heap.get? a = some oe ∧ H a = none := by
  have q := I.pin (a, oe) (List.mem_append_left _ hp)
  exact ⟨q.1, q.2.1⟩
theorem call_isP {X : Cx} {a D : Addr} {oe : Obj} (T : ExcC X.K D) (hp : (a, oe) ∈ X.pn) (hz : Zc (.ref D) none oe) (hf : ∃ vs, oe.data = .fields vs) :
    CallR X (.builtin "isinstance") (rIsE X.K D a) := fun pins s σ H xs us Q I r h => by
  obtain ⟨c, cv, b, rfl, hcv, e, q⟩ := h
  rcases r with _ | ⟨ra, r2⟩
  rcases r2 with _ | ⟨rt, r3⟩
  cases r3
  cases ra
  obtain rfl := hcv _ rt
  have g := (inst_pinned I hp hz hf).1
  have J : PySem.W.InstAt s.heap a oe D none := by
    obtain ⟨vs, hv⟩ := hf
    rcases oe with ⟨oc, od, oda, osl⟩
    have z1 := hz.1
    have z2 := hz.2
    simp only at z1 z2 hv
    subst z1 z2 hv
    exact ⟨g, rfl, rfl, trivial⟩
  have k := PySem.W.handS_kitx_exc (x := a) (ox := oe) T.hg T.hk T.hs T.hd T.ha T.hn T.ht T.hm
  exact PySem.W.kia_one k I.kIn J e (fun z => nomatch z) fun tk => ⟨.bl b, H, I.kept (t' := tk) (fun _ _ z => z), rfl, q⟩
section
variable {X : Cx} {C : Cl} {W : WX}
/-- isinstance(e, c), e a handled exception -/
theorem v_isX (i : Nat) {a D : Addr} {oe : Obj} {n : Str} {cv : Value} {cV : V} {b : Bool} {ec : Expr} {p p1 pos : Pos} (hx : (i, a) ∈ C.xs) (T : ExcC X.K D) (hp : (a, oe) ∈ X.pn) (hz : Zc (.ref D) none oe) (hf : ∃ vs, oe.data = .fields vs)
    (pc : PE X ec (tC cV)) (hcv : ∀ u, RelV cV u → u = cv) (kit : PySem.W.kitOne X.K (.ref D) cv = some b) (mi : X.mg "isinstance" = none) (hN : X.N[i]? = some n := by rfl) (hv : Vis X.env.scope n := by first | exact Or.inl rfl | exact Or.inr (Or.inl rfl) | exact Or.inr (Or.inr rfl))
    (hd : (n == ("__debug__" : Str)) = false := by decide) (hcd : (n == ("__classdict__" : Str)) = false := by decide) (hvi : bootBuiltins "isinstance" = some (.builtin "isinstance") := by decide +kernel) (gi : Gl X "isinstance" := by rfl)
    (s2 : starEach [ec] X.env = (false, eval ec X.env) :: starEach [] X.env := by rfl) (s1 : starEach [.Name n p1, ec] X.env = (false, eval (.Name n p1) X.env) :: starEach [ec] X.env := by rfl)
    (hpl : (backTo pos (starEach [ec] X.env)).any (·.1) = false := by rfl) : VE X C W (.Call (.Name "isinstance" p) [.Name n p1, ec] [] pos) (eC (.bl b)) :=
  PE.imp (pe_callB (call_isP T hp hz hf) gi mi hvi (pa_cons (pe_var hN hv hd hcd) (pa_cons pc pa_nil s2) s1) (by decide) (by decide) s1 hpl) fun σ H Q ⟨ρ, M, as, e, m, q⟩ =>
    ⟨.ref a, e.raw _ hx, cV, cv, b, rfl, hcv, kit, tG_now (W := W) q m (by unfold RelD; rfl)⟩
end
end Mk
end

section
set_option maxHeartbeats 4000000
/-! Mk25: a def called in an except suite that is told of the exception which is handled. -/
open PySem PySem.Spec PyProof.Rows L2 L2H
namespace Mk
/-- what such a def does may hang on the handled exception p -/
structure FnP (P : Program) (w : World) (K : PySem.W.Frag) (mg : Str → Option Value) (base : Heap) (CX : CXT) (k : Nat) (f : Addr) (fd : FuncData) (ps : List Str)
    (sp : Addr × Obj → Sp) : Prop where
  len : ∀ p vs H Q E, sp p vs H Q E → vs.length = ps.length
  run : ∀ (A : Around) (outer : List Env) (s : Shared) (H : Hp) (args : Args) (us : List Value) (vs : List V) (Q : VK) (E : XK) (p : Addr × Obj),
    RoomH k A → PinOk outer H s p → Env0 P w K mg base A outer s H → BindsTo s fd args (ps.zip us) → Vals vs us → sp p vs H Q E →
      codeAny (model P w) A (.call (.ref f) args) (CR CX outer P w H s Q E) s
theorem fnP_of {CX : CXT} {P : Program} {w : World} {K : PySem.W.Frag} {mg : Str → Option Value} {base : Heap} {k : Nat} {f : Addr} {name qual : Str} {params : Arguments} {body : List Stmt} {scope : Scope}
    {dV kV doc pm cdv ct oc : Value} {an od : Option Addr} {osl : Array (Option Value)} {N ps : List Str} {sp : Addr × Obj → Sp}
    (lk : K.lookup f = some ⟨oc, od, .func (PySem.W.fnOf name qual params body scope dV kV doc pm an cdv ct), osl⟩)
    (hcd : PySem.W.codeIn K cdv qual = true) (S : FnScope N ps scope) (len : ∀ p vs H Q E, sp p vs H Q E → vs.length = ps.length)
    (hbody : ∀ (A : Around) (outer : List Env) (s : Shared) (H : Hp) (vs : List V) (Q : VK) (E : XK) (p : Addr × Obj), RoomH k (A.deeper (envOfC qual scope s.heap.objs.size f cdv)) → sp p vs H Q E →
      ∃ t, PSs (cxH CX P w K mg base N qual scope f cdv A outer s H E p) body t ∧ t { nx := fun _ H' => Q .non H', rt := Q } (L2.start N vs) H) :
    FnP P w K mg base CX (k + 1) f (PySem.W.fnOf name qual params body scope dV kV doc pm an cdv ct) ps sp := by
  refine ⟨len, fun A outer s H args us vs Q E p hr hpin e0 hb r hsp => ?_⟩
  have old := e0.bs
  have KX : K.In s.heap := e0.mod.kin.keeps fun b o e => (old b o e).1
  have lim : s.heap.NoLimit := e0.mod.nolimit.keeps fun b o e => (old b o e).1
  have hk : ∀ y ∈ ps.zip us, scope.names.lookup y.1 = some .local ∨ (scope.names.lookup y.1 = some .cell ∧ ((cellsFrom (s.heap.objs.size + 1) scope.names []).lookup y.1).isSome = true) := by
    rintro ⟨n, v⟩ hy
    cases S.par n (List.of_mem_zip hy).1 with
    | inl q => exact .inl q
    | inr q => exact .inr ⟨q, PySem.W.cellsFrom_some _ _ _ (.inl q)⟩
  have b1 := hb
  refine codeAny_call_function hr.depth (KX _ _ lk) rfl S.co S.gen rfl (PySem.W.codeRec_of KX hcd) (b1 _ _ _ _ (wpAny_newFunctionEnv_cells S.kind hk fun env he s1 x => ?_))
  subst he
  refine ⟨lim.keeps x.toInCall.keep, codeAny_func ?_⟩
  obtain ⟨t, ht, hq⟩ := hbody A outer s H vs Q E p (hr.deeper _) hsp
  have I := inv_startH (CX := CX) (E := E) S hpin e0 (len _ _ _ _ _ hsp) r x
  refine wpAny_mono (ht.run [] s1 (L2.start N vs) H _ I hq) (fun fl s' hs => ?_) fun e s' hs => hs
  cases fl with
  | ret u =>
    obtain ⟨v, σ', H', J, rv, q⟩ := hs
    exact (⟨v, H', J.os, J.bare, J.base, J.hok, rv, q⟩ : CE outer P w H s Q u s')
  | next =>
    obtain ⟨σ', H', J, q⟩ := hs
    exact (⟨V.non, H', J.os, J.bare, J.base, J.hok, rfl, q⟩ : CE outer P w H s Q Value.none s')
  | brk => exact hs.elim fun _ z => z.elim fun _ z => z.2.elim
  | cont => exact hs.elim fun _ z => z.elim fun _ z => z.2.elim
/-! ### the same readings under other slots -/
def Cl.at_ (C : Cl) (xs : List (Nat × Addr)) (xf : List (Addr × List (Str × D))) : Cl := { C with xs := xs, xf := xf }
mutual
theorem relD_re {K : PySem.W.Frag} {C C' : Cl} {H : Hp} {as : Lay} : ∀ (d : D) (v : V), RelD ⟨K, C⟩ H as d v → RelD ⟨K, C'⟩ H as d v
  | .non, _, h => by unfold RelD at *; exact h
  | .bl _, _, h => by unfold RelD at *; exact h
  | .int _, _, h => by unfold RelD at *; exact h
  | .str _, _, h => by unfold RelD at *; exact h
  | .tup xs, _, h => by
    unfold RelD at *
    obtain ⟨a, vs, e, t, r⟩ := h
    exact ⟨a, vs, e, t, relDs_re xs vs r⟩
  | .lst xs, _, h => by
    unfold RelD at *
    obtain ⟨a, vs, e, t, r⟩ := h
    exact ⟨a, vs, e, t, relDs_re xs vs r⟩
  | .ref i, _, h => by unfold RelD at *; exact h
  | .nms xs, _, h => by
    unfold RelD at *
    obtain ⟨a, vs, e, t, r⟩ := h
    exact ⟨a, vs, e, t, relDs_re xs vs r⟩
theorem relDs_re {K : PySem.W.Frag} {C C' : Cl} {H : Hp} {as : Lay} : ∀ (ds : List D) (vs : List V), RelDs ⟨K, C⟩ H as ds vs → RelDs ⟨K, C'⟩ H as ds vs
  | [], _, h => by unfold RelDs at *; exact h
  | d :: ds, _, h => by
    unfold RelDs at *
    obtain ⟨v, r, e, h1, h2⟩ := h
    exact ⟨v, r, e, relD_re d v h1, relDs_re ds r h2⟩
end
theorem relF_re {K : PySem.W.Frag} {C C' : Cl} {H : Hp} {as : Lay} {fs : List (Str × D)} {ws : List (Str × V)} (h : RelF ⟨K, C⟩ H as fs ws) : RelF ⟨K, C'⟩ H as fs ws := L2.Paired.mapP h fun _ _ q => ⟨q.1, relD_re _ _ q.2⟩
theorem objR_re {K : PySem.W.Frag} {C C' : Cl} (e1 : C'.adr = C.adr) (e2 : C'.tb = C.tb) {H : Hp} {as : Lay} {a : Addr} {o : O} (h : ObjR ⟨K, C⟩ H as a o) : ObjR ⟨K, C'⟩ H as a o := by
  cases o with
  | lst xs => obtain ⟨vs, x, r⟩ := h; exact ⟨vs, x, relDs_re _ _ r⟩
  | ins c fs =>
    obtain ⟨dx, ws, x, r⟩ := h
    exact ⟨dx, ws, by show H a = some (.ins (C'.adr c) dx ws); rw [e1]; exact x, relF_re r⟩
  | tab j =>
    obtain ⟨q, ps, x, r⟩ := h
    exact ⟨q, ps, by show C'.tb[j]? = some (a, q); rw [e2]; exact x, r⟩
theorem memR_re {K : PySem.W.Frag} {C C' : Cl} (e1 : C'.adr = C.adr) (e2 : C'.tb = C.tb) {H : Hp} {as : Lay} {M : Mem} (m : MemR ⟨K, C⟩ H as M) : MemR ⟨K, C'⟩ H as M := ⟨m.len, m.nd, fun i a o x y => objR_re e1 e2 (m.obj i a o x y), m.hide⟩
/-! ### a def that is told of a handled exception -/
def fnX (n N : Nat) (body : Ex → EvS) : Ex → Mem → Res D := fun x M => if x.cls < n then (match x.fs with
  | [] => match body x (List.replicate N none) M with
    | .nx _ M' => .ok .non M'
    | .rt d M' => .ok d M'
    | _ => .err
  | _ => .err) else .err
theorem fnX_ne (n N : Nat) (body : Ex → EvS) (x : Ex) (M : Mem) (y : Ex) (M' : Mem) : fnX n N body x M ≠ .exc y M' := by
  unfold fnX
  split
  · split
    · split <;> intro z <;> cases z
    · intro z; cases z
  · intro z; cases z
theorem fnX_lt {n N : Nat} {body : Ex → EvS} {x : Ex} {M : Mem} (h : fnX n N body x M ≠ .err) : x.cls < n := by
  by_cases hx : x.cls < n
  · exact hx
  · exact absurd (by unfold fnX; rw [if_neg hx]) h
def spP (K : PySem.W.Frag) (C : Cl) (ev : Ex → Mem → Res D) (p : Addr × Obj) : Sp := fun vs H Q _ => vs = [.ref p.1] ∧ (∃ ws, p.2.data = .fields ws) ∧ ∃ (x : Ex) (d : Option Addr) (M : Mem) (as : Lay), Zc (.ref (C.adr x.cls)) d p.2 ∧
  RelX ⟨K, C⟩ H as x (.ref (C.adr x.cls)) d ∧ MemR ⟨K, C⟩ H as M ∧ Fin ⟨K, C⟩ (RelD ⟨K, C⟩) (fun _ _ _ => False) H as Q (ev x M)
theorem fnP_ok {CX : CXT} {P : Program} {w : World} {K : PySem.W.Frag} {mg : Str → Option Value} {base : Heap} {C : Cl} {k n : Nat} {f : Addr} {name qual q : Str} {params : Arguments} {body : List Stmt} {scope : Scope}
    {dV kV doc pm cdv ct oc : Value} {an od : Option Addr} {osl : Array (Option Value)} {N : List Str} {ev : Ex → EvS}
    (lk : K.lookup f = some ⟨oc, od, .func (PySem.W.fnOf name qual params body scope dV kV doc pm an cdv ct), osl⟩)
    (hcd : PySem.W.codeIn K cdv qual = true) (S : FnScope N [q] scope)
    (hb : ∀ (A : Around) (outer : List Env) (s : Shared) (H : Hp) (E : XK) (p : Addr × Obj) (x : Ex), x.cls < n → Zc (.ref (C.adr x.cls)) none p.2 → (∃ ws, p.2.data = .fields ws) →
      VSs (cxH CX P w K mg base N qual scope f cdv A outer s H E p) (C.at_ [(0, p.1)] []) W0 body (ev x)) :
    FnP P w K mg base CX (k + 1) f (PySem.W.fnOf name qual params body scope dV kV doc pm an cdv ct) [q] (spP K C (fnX n N.length ev)) := by
  have hN : 0 < N.length := by
    have := congrArg List.length S.pre
    rw [List.length_take] at this
    simp at this
    omega
  refine fnP_of lk hcd S (fun p vs H Q E h => by rw [h.1]; rfl) fun A outer s H vs Q E p hr hsp => ?_
  obtain ⟨rfl, hf, x, d, M, as, hz, rx, m, fin⟩ := hsp
  unfold fnX at fin
  by_cases hx : x.cls < n
  case neg => rw [if_neg hx] at fin; exact fin.elim
  rw [if_pos hx] at fin
  cases hfs : x.fs with
  | cons z zs => rw [hfs] at fin; exact fin.elim
  | nil =>
    rw [hfs] at fin
    have hd : d = none := by
      rcases rx.2 with z | z
      · exact z.2
      · exact absurd hfs z.1
    subst hd
    refine ⟨_, hb A outer s H E p x hx hz hf, List.replicate N.length none, M, as, ⟨?_, ?_, ?_, ?_⟩, memR_re (C := C) (C' := C.at_ [(0, p.1)] []) rfl rfl m, ?_⟩
    · rw [List.length_replicate]
      unfold L2.start
      simp
      omega
    · intro i d h
      rw [List.getElem?_replicate] at h
      split at h <;> cases h
    · intro z hz
      rw [List.mem_singleton.mp (show z ∈ [(0, p.1)] from hz)]
      unfold L2.start
      rfl
    · intro z hz
      cases hz
    · cases e : ev x (List.replicate N.length none) M with
      | nx ρ M' => rw [e] at fin; exact fun σ' H' as' e' m' x' => fin .non H' as' (memR_re (C := C.at_ [(0, p.1)] []) (C' := C) rfl rfl m') x' (by unfold RelD; rfl)
      | rt d M' => rw [e] at fin; exact fun v H' as' m' x' r => fin v H' as' (memR_re (C := C.at_ [(0, p.1)] []) (C' := C) rfl rfl m') x' (relD_re _ _ r)
      | exc z ρ M' => rw [e] at fin; exact fin.elim
      | bk ρ M' => rw [e] at fin; exact fin.elim
      | ct ρ M' => rw [e] at fin; exact fin.elim
      | err => rw [e] at fin; exact fin.elim
end Mk
end

section
set_option maxHeartbeats 4000000
/-! Mk26: the call of such a def. -/
open PySem PySem.Spec PyProof.Rows L2 L2H
namespace Mk
section
variable {X : Cx} {CX : CXT} {k : Nat} {f : Addr} {fd : FuncData} {ps : List Str} {sp : Addr × Obj → Sp} {E : L2.St → XK} {x : Str} {q pos : Pos} {e : Expr} {es : List Expr} {t : TA} {p : Addr × Obj}
theorem pe_callP (F : FnP X.prog X.w X.K X.mg X.base CX k f fd ps sp) (hr : RoomH k X.A) (hp : p ∈ X.pn) (hg : Gl X x)
    (hm : X.mg x = some (.ref f)) (hk : PySem.W.keepIn X.K (.ref f) = true) (hb : Binds X.K fd ps []) (hx : ∀ σ, PassesAt CX X σ (E σ)) (ha : PA X (e :: es) t)
    (hdb : (x == ("__debug__" : Str)) = false := by decide)
    (he : starEach (e :: es) X.env = (false, eval e X.env) :: starEach es X.env := by rfl)
    (hpl : (backTo pos (starEach es X.env)).any (·.1) = false := by rfl) : PE X (.Call (.Name x q) (e :: es) [] pos) (tCallS (sp p) E t) := by
  constructor
  intro pins s σ H Q I h
  refine wpAny_Call_Name_kw (ld_glob I hg hm (PySem.W.callWith_K (h₀ := X.base) I.ok.mod.kin hk (thn (ha.run pos pins s σ H _ I h) ?_) he hpl) hdb)
  rintro us s1 ⟨vs, H1, I1, r, z⟩
  refine ⟨I1.kIn, ?_⟩
  have z : sp p vs H1 Q (E σ) := z
  have hl : us.length = ps.length := r.length.symm.trans (F.len _ _ _ _ _ z)
  have b := hb s1 us I1.kIn ((congrArg List.length (List.append_nil us)).trans hl)
  have P1 := I1.pin p (List.mem_append_left _ hp)
  have hpin : PinOk X.stack H1 s1 p := ⟨P1.1, P1.2.1, fun m => by
    rcases List.mem_cons.mp (I1.stkSub p.1 m) with m | m
    · exact P1.2.2.1 m
    · exact P1.2.2.2.1 m, P1.2.2.2.2⟩
  rw [List.append_nil] at b
  refine wpAny_call (codeAny_mono (F.run X.A X.stack s1 H1 ⟨us, []⟩ us vs Q (E σ) p hr hpin I1.env0 b r z) fun o s' ho => ?_)
  cases o with
  | error e => exact hx σ pins H1 s1 e s' I1 ho
  | ok fl =>
    cases fl with
    | ret u => exact I1.after ho
    | _ => exact False.elim ho
end
end Mk
end

section
set_option maxHeartbeats 4000000
/-! Mk27: the law's own `_law_error`. -/
open PySem PySem.Spec PyProof.Rows L2 L2H
namespace Mk
theorem takes_len {X : Cx} {W : WX} (tk : Takes X W) : Takes X (fun c d σ H => W c d σ H ∨ σ.length ≠ X.N.length) := fun u s' ⟨a, B, sI, pins, σ, H, cls, d, e, I, nb, up, sky, na, os, ag, w⟩ =>
  tk u s' ⟨a, B, sI, pins, σ, H, cls, d, e, I, nb, up, sky, na, os, ag, w.elim (fun z => z) fun z => absurd I.len z⟩
/-- found = ''; try: call() except B as e: found = names(e); return found -/
theorem err_gives {X : Cx} {C : Cl} {names : Ex → Mem → Res D} {x q : Str} {sg : Scope} {g CS fN : Addr} {fdN : FuncData} {cdg : Value} {pe : Str} {k j1 : Nat} {p1 p2 p3 p4 p5 p6 p7 p8 p9 p10 p11 p12 p13 p14 p15 p16 : Pos}
    (F : FnP X.prog X.w X.K X.mg X.base (L2.CX X.prog X.w) k fN fdN [pe] (spP X.K C names)) (gN : X.mg "_law_names" = some (.ref fN)) (kN : PySem.W.keepIn X.K (.ref fN) = true) (bN : Binds X.K fdN [pe] [])
    (hme : X.mg "MapError" = some (.ref CS)) (hexm : ∀ x M, names x M ≠ .err → PySem.W.exmOne X.K (.ref (C.adr x.cls)) (.ref CS) = some true)
    (hr : RoomH (k + 1) X.A) (l1 : sg.names.lookup ("call" : Str) = some .local) (l2 : sg.names.lookup ("found" : Str) = some .local) (l3 : sg.names.lookup ("e" : Str) = some .local) (l4 : sg.names.lookup ("MapError" : Str) = some .globalImplicit) (l5 : sg.names.lookup ("_law_names" : Str) = some .globalImplicit) (hkd : sg.kind = .function) :
    LamX.GivesTo X ["call", "found", "e"] x sg g cdg
      [.Assign [.Name "found" p1] (.Constant (.str "") j1 p2) p3, .Try [.Expr (.Call (.Name "call" p4) [] [] p5) p6] [.ExceptHandler (some (.Name "MapError" p7)) (some "e") [.Assign [.Name "found" p8] (.Call (.Name "_law_names" p9) [.Name "e" p10] [] p11) p12] p13] [] [] p14, .Return (some (.Name "found" p15)) p16]
      "call" q (TTerr X.K C names) := by
  intro f c' s H Q tl act hc h
  have nd : (["call", "found", "e"] : List Str).Nodup := by decide +kernel
  have hrz : ∀ a : Addr, RoomH k (((cxOf C8.CX0 X.prog X.w X.K X.mg X.base ["call", "found", "e"] x sg g cdg X.A X.stack s H C8.E0).nox.A).mark (some (.ref a))) := fun a => ⟨(hr.deeper (envOfC x sg s.heap.objs.size g cdg)).dp, (hr.deeper (envOfC x sg s.heap.objs.size g cdg)).un⟩
  refine ⟨_, pss_cons (ps_set (i := 1) nd rfl (.inl l2) pe_str) (pss_cons (ps_try_as (X := (cxOf C8.CX0 X.prog X.w X.K X.mg X.base ["call", "found", "e"] x sg g cdg X.A X.stack s H C8.E0).nox) (c := .ref CS) (i := 2)
      (tb := fun W D σ H => ∃ Ech : XK, (∀ cls d σ' H', σ'.length = 3 → Ech cls d H' → W cls d σ' H') ∧ σ[0]? = some (some (.ref f)) ∧ H c' = some (LamX.CodeO c' q) ∧ tl Ech H (fun _ H' => D.nx σ H'))
      (ts := fun a cls d => tAsg (fun σ H Q => σ[2]? = some (some (.ref a)) ∧ Told X.K C names cls d Q H) (gName 1))
      rfl rfl nd rfl l3 ⟨l4, by decide, .inl hme⟩ (LamX.takes0) (fun W pn xe tk _ => ?_) (fun a oe cls d pn hz hf => pss_one (ps_set (i := 1) nd rfl (.inl l2) ?_ (by rfl) (.inr l2)))) (pss_one (ps_ret (pe_var (i := 1) rfl (.inl l2) (by decide) (by decide))))), ?_⟩
  · refine ⟨fun pins s' σ H' D I h' => ?_⟩
    obtain ⟨Ech, hW, h1, h2, h3⟩ := h'
    have hp := act _ pn xe Ech p4 p5 (takes_len tk) (fun cls d σ' H' e => by
      by_cases hl : σ'.length = 3
      · exact .inl (hW cls d σ' H' hl e)
      · exact .inr hl)
    have hq := pss_one (ps_expr (pos := p6) hp)
    exact hq.run pins s' σ H' D I ⟨h1, h2, h3⟩
  · refine PE.imp (pe_callP (E := fun σ => WE W0 σ) F (hrz a) (p := (a, oe)) List.mem_cons_self l5 gN kN bN (fun σ => passAt LamX.takes0 σ) (pa_cons (pe_var (i := 2) rfl (.inl l3) (by decide) (by decide)) pa_nil)) fun σ H Q ⟨e2, xx, M, as, rx, m, fin⟩ => ?_
    refine ⟨.ref a, e2, rfl, hf, xx, d, M, as, ?_, ?_, m, fin⟩
    · rw [← rx.1]; exact hz
    · rw [← rx.1]; exact rx
  · refine ⟨fun cls d H' => Told X.K C names cls d Q H', fun cls d σ' H' hl tt => ?_, rfl, hc, ?_⟩
    · obtain ⟨xx, M, as, rx, m, fin⟩ := tt
      refine ⟨true, ?_, fun _ a ha => ?_, fun z => nomatch z⟩
      · rw [rx.1]
        exact hexm xx M (fun z => by rw [z] at fin; exact fin)
      · refine ⟨?_, xx, M, as, rx, m, fin.mono fun v H2 hq => ?_⟩
        · rw [List.getElem?_set_self (by omega)]
        · refine ⟨v, ?_, hq⟩
          rw [List.getElem?_set_ne (by omega), List.getElem?_set_self (by rw [List.length_set]; omega)]
    · have e : (fun (_ : V) (H' : Hp) => Q (.str ⟨#[]⟩) H') = fun (_ : V) (H' : Hp) => ∃ v, ((L2.start ["call", "found", "e"] [V.ref f]).set 1 (some (.str ("" : Str))))[1]? = some (some v) ∧ Q v H' := by
        funext _ H'
        apply propext
        exact ⟨fun z => ⟨_, rfl, z⟩, fun ⟨v, z1, z2⟩ => by cases z1; exact z2⟩
      have h' : tl (fun cls d H' => Told X.K C names cls d Q H') H (fun (_ : V) (H' : Hp) => Q (.str ⟨#[]⟩) H') := h
      rw [e] at h'
      exact h'
end Mk
end

section
set_option maxHeartbeats 4000000
/-! Mk28: heads with exceptions and lambdas. -/
open PySem PySem.Spec PyProof.Rows L2 L2H
namespace Mk
/-! ### the hook -/
def frN (g : Addr → Option Obj) (as : List Addr) : PySem.W.Frag := (He.frG g as).filter fun q => notLst q && !He.emptyTab q.2
theorem frN_mem {g : Addr → Option Obj} {as : List Addr} {a : Addr} {o : Obj} (h : (frN g as).lookup a = some o) : g a = some o ∧ notLst (a, o) = true ∧ He.emptyTab o = false := by
  obtain ⟨h1, h2⟩ := List.mem_filter.mp (He.lookup_mem h)
  simp only [Bool.and_eq_true, Bool.not_eq_true'] at h2
  exact ⟨He.frG_mem h1, h2⟩
theorem frN_in {as : List Addr} {h : Heap} : (frN h.get? as).In h := fun _ _ e => (frN_mem e).1
theorem frN_no {g : Addr → Option Obj} {as : List Addr} : NoLst (frN g as) := fun a o e z => by
  have h := (frN_mem e).2.1
  unfold notLst at h
  rw [show ((a, o) : Addr × Obj).2.cls = .type "list" from z] at h
  simp at h
theorem frN_none {g : Addr → Option Obj} {as : List Addr} {a : Addr} {o : Obj} (h : g a = some o) (ht : He.emptyTab o = true) : (frN g as).lookup a = none := by
  cases e : (frN g as).lookup a with
  | none => rfl
  | some u =>
    obtain ⟨h1, _, h2⟩ := frN_mem e
    rw [h] at h1
    rw [← Option.some.inj h1, ht] at h2
    cases h2
structure SaysN (fa : List He.Fa) (fn : List He.DefD) (gl : List (Str × D)) (tf : List He.Defn) (ex : PySem.W.Frag → Bool) (h : Heap) (K : PySem.W.Frag) : Prop where
  nl : NoLst K
  d : He.SaysD fa fn K
  gl : gl.all (glB K) = true
  ex : ex K = true
  hd : ∀ p ∈ tf, PySem.W.codeHdIn K (He.cT K p).1 (He.cT K p).2 = true
  out : ∀ p ∈ tf, K.lookup (He.cT K p).2 = none
  empty : ∀ p ∈ tf, h.get? (He.cT K p).2 = some { cls := .none, data := .fields #[] }
def obsN (n : Nat) (fa : List He.Fa) (fn : List He.DefD) (gl : List (Str × D)) (tf : List He.Defn) (ex : PySem.W.Frag → Bool) (g : Addr → Option Obj) : AlM :=
  (He.obsD fa fn (frN g (He.asD g n)), gl.all (glB (frN g (He.asD g n))) && (ex (frN g (He.asD g n)) && He.tabsB g tf (frN g (He.asD g n))))
theorem saysN_of {n : Nat} {fa : List He.Fa} {fn : List He.DefD} {gl : List (Str × D)} {tf : List He.Defn} {ex : PySem.W.Frag → Bool} {h : Heap} (e : obsN n fa fn gl tf ex h.get? = (He.valD fn, true)) : SaysN fa fn gl tf ex h (frN h.get? (He.asD h.get? n)) := by
  have e1 := congrArg (fun z : AlM => z.1) e
  have e2 : (gl.all (glB (frN h.get? (He.asD h.get? n))) && (ex (frN h.get? (He.asD h.get? n)) && He.tabsB h.get? tf (frN h.get? (He.asD h.get? n)))) = true := congrArg (fun z : AlM => z.2) e
  obtain ⟨g1, g2⟩ := He.ba e2
  obtain ⟨g3, g4⟩ := He.ba g2
  have key : ∀ p ∈ tf, PySem.W.codeHdIn (frN h.get? (He.asD h.get? n)) (He.cT (frN h.get? (He.asD h.get? n)) p).1 (He.cT (frN h.get? (He.asD h.get? n)) p).2 = true ∧ ∃ o, h.get? (He.cT (frN h.get? (He.asD h.get? n)) p).2 = some o ∧ He.emptyTab o = true := fun p hp => by
    obtain ⟨z1, z2⟩ := He.ba (List.all_eq_true.mp g4 p hp)
    refine ⟨z1, ?_⟩
    split at z2
    · rename_i o eo
      exact ⟨o, eo, z2⟩
    · cases z2
  refine ⟨frN_no, e1, g1, g3, fun p hp => (key p hp).1, fun p hp => ?_, fun p hp => ?_⟩
  · obtain ⟨_, o, z1, z2⟩ := key p hp
    exact frN_none z1 z2
  · obtain ⟨_, o, z1, z2⟩ := key p hp
    rw [z1, He.emptyTab_eq z2]
def hookN (n : Nat) (fa : List He.Fa) (fn : List He.DefD) (gl : List (Str × D)) (tf : List He.Defn) (ex : PySem.W.Frag → Bool) : PySem.W.Hook where
  α := AlM
  obs := fun s => obsN n fa fn gl tf ex s.heap.get?
  val := fun _ => (He.valD fn, true)
  says := fun _ h => ∃ K : PySem.W.Frag, K.In h ∧ SaysN fa fn gl tf ex h K
  of := fun _ _ e => ⟨_, frN_in, saysN_of e⟩
  keeps := fun _ _ _ ⟨K, hK, r⟩ k => ⟨K, PySem.W.Frag.In.keeps hK k, ⟨r.nl, r.d, r.gl, r.ex, r.hd, r.out, fun p hp => k _ _ (r.empty p hp)⟩⟩
theorem obsN_eq {n : Nat} {fa : List He.Fa} {fn : List He.DefD} {gl : List (Str × D)} {tf : List He.Defn} {ex : PySem.W.Frag → Bool} {g : Addr → Option Obj} {s : Shared} (h : ∀ a, g a = s.heap.get? a) : obsN n fa fn gl tf ex g = (hookN n fa fn gl tf ex).obs s := by
  have e : g = s.heap.get? := funext h
  rw [e] <;> rfl
/-! ### the classes of exceptions -/
def excCB (K : PySem.W.Frag) (D : Addr) : Bool :=
  decide (PySem.W.findIn K (.ref D) "__getattribute__" = some (some (.builtin "BaseException.__getattribute__"))) && (decide (PySem.W.findIn K (.ref D) "__getattr__" = some none) && (decide (PySem.W.subIn K (.ref D) (.type "BaseException") = some true) && (PySem.W.hasDictIn K D &&
    (decide (PySem.W.findIn K (.ref D) "__class__" = some (some (.builtin "object.__class__"))) && (decide (PySem.W.specialIn K (.builtin "object.__class__") "__get__" = some (some (.builtin "getset_descriptor.__get__"))) &&
      (decide (PySem.W.takesIn K (.builtin "object.__class__") = some true) && decide (PySem.W.mroIn K D (.type "object") = some true)))))))
theorem excCB_ok {K : PySem.W.Frag} {D : Addr} (h : excCB K D = true) : ExcC K D := by
  unfold excCB at h
  simp only [Bool.and_eq_true, decide_eq_true_eq] at h
  obtain ⟨h1, h2, h3, h4, h5, h6, h7, h8⟩ := h
  exact ⟨h1, h2, h3, h4, h5, h6, h7, h8⟩
def clsA (K : PySem.W.Frag) (cl : List Str) (c : Nat) : Addr := He.ga K (cl.getD c "")
/-- the classes cl: below MapError, apart -/
def clB (cl : List Str) (K : PySem.W.Frag) : Bool :=
  (List.range cl.length).all fun i => excCB K (clsA K cl i) && (decide (PySem.W.exmOne K (.ref (clsA K cl i)) (.ref (He.ga K "MapError")) = some true) && (decide (PySem.W.kitOne K (.ref (clsA K cl i)) (.type "ValueError") = some true) &&
    (List.range cl.length).all fun j => decide (PySem.W.kitOne K (.ref (clsA K cl i)) (.ref (clsA K cl j)) = some (decide (i = j)))))
structure ClsF (K : PySem.W.Frag) (cl : List Str) : Prop where
  c : ∀ i, i < cl.length → ExcC K (clsA K cl i)
  m : ∀ i, i < cl.length → PySem.W.exmOne K (.ref (clsA K cl i)) (.ref (He.ga K "MapError")) = some true
  v : ∀ i, i < cl.length → PySem.W.kitOne K (.ref (clsA K cl i)) (.type "ValueError") = some true
  k : ∀ i j, i < cl.length → j < cl.length → PySem.W.kitOne K (.ref (clsA K cl i)) (.ref (clsA K cl j)) = some (decide (i = j))
theorem clB_ok {cl : List Str} {K : PySem.W.Frag} (h : clB cl K = true) : ClsF K cl := by
  have key := fun i (hi : i < cl.length) => List.all_eq_true.mp h i (List.mem_range.mpr hi)
  refine ⟨fun i hi => ?_, fun i hi => ?_, fun i hi => ?_, fun i j hi hj => ?_⟩
  · exact excCB_ok (He.ba (key i hi)).1
  · exact of_decide_eq_true (He.ba (He.ba (key i hi)).2).1
  · exact of_decide_eq_true (He.ba (He.ba (He.ba (key i hi)).2).2).1
  · exact of_decide_eq_true (List.all_eq_true.mp (He.ba (He.ba (He.ba (key i hi)).2).2).2 j (List.mem_range.mpr hj))
/-! ### defs that make lambdas -/
theorem lam_takes {X : Cx} {A : Around} {outer : List Env} {s : Shared} {H : Hp} {E : XK} {scope : Scope} {f c' : Addr} : Takes (LamX.lamCx X A outer s H E scope f c') (fun c d _ H' => E c d H') := takes_of rfl rfl rfl rfl
/-- what is known of the def that makes lambdas, in its context -/
structure Maker (X : Cx) (C : Cl) (n : Nat) : Prop where
  ex : ∃ c P, LamX.TabB X.base X.mg c P ∧ X.env.code = .ref c ∧ (P, X.env.qual ++ "<lambda>") ∈ C.tb ∧ (∀ p ∈ C.tb, p.1 = P → p.2 = X.env.qual ++ "<lambda>")
  len : C.tb.length = n
/-- what is known of `_law_error` -/
structure ErrF (P : Program) (w : World) (K : PySem.W.Frag) (mg : Str → Option Value) (base : Heap) (C : Cl) (names : Ex → Mem → Res D) : Prop where
  ex : ∃ (g fN CS : Addr) (pg : Arguments) (sg : Scope) (dV kV doc pm cdv ct oc : Value) (an od : Option Addr) (osl : Array (Option Value)) (fdN : FuncData) (j1 : Nat) (pe : Str) (p1 p2 p3 p4 p5 p6 p7 p8 p9 p10 p11 p12 p13 p14 p15 p16 : Pos),
    mg "_law_error" = some (.ref g) ∧ PySem.W.keepIn K (.ref g) = true ∧
    K.lookup g = some ⟨oc, od, .func (PySem.W.fnOf "_law_error" "_law_error" pg [.Assign [.Name "found" p1] (.Constant (.str "") j1 p2) p3, .Try [.Expr (.Call (.Name "call" p4) [] [] p5) p6] [.ExceptHandler (some (.Name "MapError" p7)) (some "e") [.Assign [.Name "found" p8] (.Call (.Name "_law_names" p9) [.Name "e" p10] [] p11) p12] p13] [] [] p14, .Return (some (.Name "found" p15)) p16] sg dV kV doc pm an cdv ct), osl⟩ ∧
    PySem.W.codeIn K cdv "_law_error" = true ∧
    L2.Binds K (PySem.W.fnOf "_law_error" "_law_error" pg [.Assign [.Name "found" p1] (.Constant (.str "") j1 p2) p3, .Try [.Expr (.Call (.Name "call" p4) [] [] p5) p6] [.ExceptHandler (some (.Name "MapError" p7)) (some "e") [.Assign [.Name "found" p8] (.Call (.Name "_law_names" p9) [.Name "e" p10] [] p11) p12] p13] [] [] p14, .Return (some (.Name "found" p15)) p16] sg dV kV doc pm an cdv ct) ["call"] [] ∧
    FnScope ["call", "found", "e"] ["call"] sg ∧ (sg.names.lookup ("call" : Str) = some .local ∧ sg.names.lookup ("found" : Str) = some .local ∧ sg.names.lookup ("e" : Str) = some .local ∧ sg.names.lookup ("MapError" : Str) = some .globalImplicit ∧ sg.names.lookup ("_law_names" : Str) = some .globalImplicit) ∧
    FnP P w K mg base (L2.CX P w) 1 fN fdN [pe] (spP K C names) ∧ mg "_law_names" = some (.ref fN) ∧ PySem.W.keepIn K (.ref fN) = true ∧ L2.Binds K fdN [pe] [] ∧
    mg "MapError" = some (.ref CS) ∧ (∀ x M, names x M ≠ .err → PySem.W.exmOne K (.ref (C.adr x.cls)) (.ref CS) = some true) ∧ (∀ x M y M', names x M ≠ .exc y M')
section
variable {X : Cx} {C : Cl} {W : WX}
/-- _law_error(lambda: e) -/
theorem v_lawerr {n k : Nat} {names : Ex → Mem → Res D} {params : Arguments} {body : Expr} {scope : Scope} {ev : Ev} {p lpos pos : Pos} (EF : ErrF X.prog X.w X.K X.mg X.base C names) (mk : Maker X C n) (hr : Room (k + 2) X.A)
    (hg : Gl X "_law_error") (L : LamX.LamS X.env.scope scope) (hdef : defaultsOf params X.env = ([], []))
    (hbind : ∀ (q : Str) (cl : List (Str × Addr)) (pm cv ctv : Value), bindArgs (PySem.W.kla_fn "<lambda>" q params body scope cl pm cv ctv) ⟨[], []⟩ = pure [])
    (hbody : ∀ (A : Around) (outer : List Env) (s : Shared) (H : Hp) (E : XK) (f c' : Addr), Room k (A.deeper (LamX.lamEnv X scope s.heap.objs.size f c')) → VE (LamX.lamCx X A outer s H E scope f c') C (fun cls d _ H' => E cls d H') body ev) :
    VE X C W (.Call (.Name "_law_error" p) [.Lambda params body scope lpos] [] pos) (eGive n (errR names) ev) := by
  obtain ⟨g, fN, CS, pg, sg, dV, kV, doc, pm, cdv, ct, oc, an, od, osl, fdN, j1, pe, p1, p2, p3, p4, p5, p6, p7, p8, p9, p10, p11, p12, p13, p14, p15, p16, h1, h2, h3, h4, h5, h6, ⟨l1, l2, l3, l4, l5⟩, h7, h8, h9, h10, h11, h12, h13⟩ := EF.ex
  obtain ⟨⟨c, P, t1, t2, t3, t4⟩, t5⟩ := mk
  exact v_err hg h1 h2 h3 h4 h5 h6 rfl (.inl l1) (err_gives h7 h8 h9 h10 h11 h12 (roomH_of hr |>.mono (by omega)) l1 l2 l3 l4 l5 h6.kind) h13 t1 t2 t3 t4 t5 hr L hdef hbind hbody
end
section
variable {P : Program} {w : World} {K : PySem.W.Frag} {mg : Str → Option Value} {base : Heap} {C : Cl} {x qual : Str} {params : Arguments} {body : List Stmt} {scope : Scope} {dvs : List V} {kws : List (Str × V)} {f : Addr} {fd : FuncData}
/-- as fn_ok, the code object told -/
theorem fn_okC [NoX C] {N ps : List Str} {k n : Nat} {ev : EvS} (p : He.Defn) (F : FunD K x qual params body scope dvs kws f fd) (hf : f = He.fAd K p) (S : FnScope N ps scope) (hn : ps.length = n)
    (hb : ∀ (A : Around) (outer : List Env) (s : Shared) (H : Hp) (E : XK), Room k (A.deeper (envOfC qual scope s.heap.objs.size f (.ref (He.codeOf K p)))) →
      Takes (cxOf (L2.CX P w) P w K mg base N qual scope f (.ref (He.codeOf K p)) A outer s H E) (fun c o _ H' => E c o H') →
      PassesOwn (model P w) (cxOf (L2.CX P w) P w K mg base N qual scope f (.ref (He.codeOf K p)) A outer s H E).A (cxOf (L2.CX P w) P w K mg base N qual scope f (.ref (He.codeOf K p)) A outer s H E).env (cxOf (L2.CX P w) P w K mg base N qual scope f (.ref (He.codeOf K p)) A outer s H E).xe →
      VSs (cxOf (L2.CX P w) P w K mg base N qual scope f (.ref (He.codeOf K p)) A outer s H E) C (fun c o _ H' => E c o H') body ev) :
    FnOk P w K mg base (L2.CX P w) (k + 1) f fd ps (spF ⟨K, C⟩ n (fnE N.length ev)) := by
  obtain ⟨oc, od, dV, kV, doc, pm, an, cdv, ct, osl, rfl, lk, hcd, _, _⟩ := F.ex
  obtain ⟨c, hc⟩ := He.codeIn_ref hcd
  subst hc
  have ec : He.codeOf K p = c := He.codeOf_eq (by rw [← hf]; exact lk) rfl
  rw [← ec] at hcd
  refine fn_of lk (by rw [← ec]; exact hcd) S (fun vs H Q E h => h.1.trans hn.symm) fun A outer s H vs Q E hr h => ?_
  obtain ⟨hl, ds, M, as, r, m, q⟩ := h
  rw [← ec] at hr ⊢
  refine ⟨_, hb A outer s H E hr (takes_of rfl rfl rfl rfl) (passes_of rfl), ?_⟩
  refine ⟨_, M, as, EnvR.start N r (NoX.no (C := C)) (NoX.nf (C := C)), m, ?_⟩
  unfold fnE at q
  cases e : ev (ds.map some ++ List.replicate (N.length - ds.length) none) M with
  | nx ρ M' => rw [e] at q; exact fun σ' H' as' e' m' x => q .non H' as' m' x (by unfold RelD; rfl)
  | rt d M' => rw [e] at q; exact fun v H' as' m' x r => q v H' as' m' x r
  | exc z ρ M' => rw [e] at q; exact fun c o σ' H' as' e' m' x r => q c o H' as' m' x r
  | bk ρ M' => rw [e] at q; exact q.elim
  | ct ρ M' => rw [e] at q; exact q.elim
  | err => rw [e] at q; exact q.elim
end
/-! ### the end -/
def tabs0 (n : Nat) : Mem := (List.range n).map O.tab
def spEndT (K : PySem.W.Frag) (cs : List (Addr × Addr)) (most : Nat) : Sp := fun vs H Q _ => ∃ (a : Addr) (ns : List Int), vs = [.ref a] ∧ SqL K H a (ns.map V.int) ∧ ns.length ≤ most ∧ (∀ p ∈ cs, H p.2 = some (.tbl #[])) ∧ ∀ H', Q (.bl true) H'
theorem end_fnT {P : Program} {w : World} {K : PySem.W.Frag} {mg : Str → Option Value} {base : Heap} {C : Cl} {k most : Nat} {f : Addr} {fd : FuncData} {ps : List Str} {ev : Fv} {cs : List (Addr × Addr)} (nl : NoLst K) (F : FnOk P w K mg base (L2.CX P w) k f fd ps (spF ⟨K, C⟩ 1 ev)) (hps : ps.length = 1)
    (hcs : C.tb.map (·.1) = cs.map (·.2)) (nd : (cs.map (·.2)).Nodup)
    (law : ∀ ns : List Int, ns.length ≤ most → ∃ M', ev [.lst (ns.map D.int)] (tabs0 cs.length) = .ok (.bl true) M') : FnOk P w K mg base CX0 k f fd ps (spEndT K cs most) := by
  refine ⟨fun vs H Q E ⟨a, ns, e, _⟩ => by rw [e, hps]; rfl, fun A outer s H args us vs Q E hr e0 hb r h => ?_⟩
  obtain ⟨a, ns, rfl, hS, hn, hT, hQ⟩ := h
  have hR : Rd H a (.lst (ns.map V.int)) := by
    rcases hS with h | ⟨o, its, n, h1, h2, _⟩
    · exact h
    · exact absurd h2 (nl a o h1)
  have tb_at : ∀ {q : Addr}, q ∈ cs.map (·.2) → H q = some (.tbl #[]) := fun {q} hq => by
    obtain ⟨p, hp, e⟩ := List.mem_map.mp hq
    rw [← e]
    exact hT p hp
  have aN : a ∉ cs.map (·.2) := fun z => by
    have := tb_at z
    rcases hR with h | ⟨o, h⟩ <;> rw [this] at h <;> cases h
  obtain ⟨M', eM⟩ := law ns hn
  have sp0 : spF ⟨K, C⟩ 1 ev [.ref a] H Q (fun _ _ _ => False) := by
    refine ⟨rfl, [.lst (ns.map D.int)], tabs0 cs.length, ⟨cs.map (·.2), []⟩, relDs_cons.mpr ⟨.ref a, [], rfl, ?_, relDs_nil.mpr rfl⟩, ⟨by unfold tabs0; simp, nd, fun i b o e q => ?_, fun b hb => by cases hb⟩, ?_⟩
    · unfold RelD
      exact ⟨a, _, rfl, ⟨hR, ⟨aN, by simp⟩⟩, ints_rel ns⟩
    · have e : (cs.map (·.2))[i]? = some b := e
      unfold tabs0 at q
      rw [List.getElem?_map] at q
      have hi : i < cs.length := by
        have := (List.getElem?_eq_some_iff.mp e).1
        rwa [List.length_map] at this
      rw [List.getElem?_range hi] at q
      cases q
      have e2 : (C.tb.map (·.1))[i]? = some b := by rw [hcs]; exact e
      rw [List.getElem?_map] at e2
      cases h2 : C.tb[i]? with
      | none => rw [h2] at e2; cases e2
      | some t =>
        rw [h2] at e2
        cases e2
        exact ⟨t.2, #[], h2, tb_at (List.mem_of_getElem? e), True.intro, fun pos cv hc => by
          have z : codeAmong pos [] = some cv := hc
          simp [codeAmong] at z⟩
    · rw [eM]
      intro v H' as' m x rv
      unfold RelD at rv
      rw [rv]
      exact hQ H'
  refine codeAny_mono (F.run A outer s H args us [.ref a] Q (fun _ _ _ => False) hr e0 hb r sp0) fun res s' hres => ?_
  cases res with
  | ok fl =>
    cases fl with
    | ret u => exact hres
    | next => exact hres
    | brk => exact hres
    | cont => exact hres
  | error e =>
    obtain ⟨_, _, _, _, _, _, _, _, _, _, _, _, z⟩ := hres
    exact z.elim
end Mk
end

section
set_option maxHeartbeats 4000000
/-! Mk29: a def whose own mutable objects do not outlive it. -/
open PySem PySem.Spec PyProof.Rows L2
namespace Mk
mutual
/-- every place that is named lies below n -/
def D.low (n : Nat) : D → Bool
  | .tup xs => D.lows n xs
  | .lst xs => D.lows n xs
  | .ref i => decide (i < n)
  | .nms xs => D.lows n xs
  | _ => true
def D.lows (n : Nat) : List D → Bool
  | [] => true
  | x :: xs => x.low n && D.lows n xs
end
def O.low (n : Nat) : O → Bool
  | .lst xs => D.lows n xs
  | .ins _ fs => D.lows n (fs.map (·.2))
  | .tab _ => true
open Classical in
/-- what was made since the memory M is forgotten; a list that is given back is from then on only read -/
noncomputable def trimR (M : Mem) : Res D → Res D
  | .ok d M' => if M.length ≤ M'.length ∧ ∀ j o, j < M.length → M'[j]? = some o → (M[j]? = some o ∨ o.low M.length = true) then (match d with
      | .ref i => if i < M.length then .ok (.ref i) (M'.take M.length) else (match M'[i]? with
        | some (.lst xs) => if D.lows M.length xs = true then .ok (.lst xs) (M'.take M.length) else .err
        | _ => .err)
      | d => if d.low M.length = true then .ok d (M'.take M.length) else .err) else .err
  | .exc x M' => if M.length ≤ M'.length ∧ (∀ j o, j < M.length → M'[j]? = some o → (M[j]? = some o ∨ o.low M.length = true)) ∧ D.lows M.length (x.fs.map (·.2)) = true then .exc x (M'.take M.length) else .err
  | .err => .err
noncomputable def fnT (N : Nat) (body : EvS) : Fv := fun ds M => trimR M (fnE N body ds M)
section
variable {g : G} {H : Hp}
def Lay.low (L : Lay) (n : Nat) : Lay := ⟨L.mu.take n, L.hid⟩
theorem Lay.out.lowc {L : Lay} {a : Addr} (h : L.out a) (n : Nat) : (L.low n).out a := ⟨fun z => h.1 (List.mem_of_mem_take z), h.2⟩
mutual
theorem RelD.lowc {as : Lay} {n : Nat} : ∀ (d : D) (v : V), d.low n = true → RelD g H as d v → RelD g H (as.low n) d v
  | .non, _, _, h => by unfold RelD at *; exact h
  | .bl _, _, _, h => by unfold RelD at *; exact h
  | .int _, _, _, h => by unfold RelD at *; exact h
  | .str _, _, _, h => by unfold RelD at *; exact h
  | .tup xs, _, b, h => by
    unfold RelD at *
    obtain ⟨a, vs, e, t, r⟩ := h
    refine ⟨a, vs, e, ?_, RelDs.lowc xs vs (by simpa [D.low] using b) r⟩
    rcases t with ⟨t, o⟩ | t
    · exact .inl ⟨t, o.lowc n⟩
    · exact .inr t
  | .lst xs, _, b, h => by
    unfold RelD at *
    obtain ⟨a, vs, e, t, r⟩ := h
    exact ⟨a, vs, e, ⟨t.1, t.2.lowc n⟩, RelDs.lowc xs vs (by simpa [D.low] using b) r⟩
  | .ref i, _, b, h => by
    unfold RelD at *
    obtain ⟨a, e, t⟩ := h
    have hi : i < n := by simpa [D.low] using b
    exact ⟨a, e, by show (as.mu.take n)[i]? = some a; rw [List.getElem?_take_of_lt hi]; exact t⟩
  | .nms xs, _, b, h => by
    unfold RelD at *
    obtain ⟨a, vs, e, t, r⟩ := h
    exact ⟨a, vs, e, ⟨t.1, t.2.lowc n⟩, RelDs.lowc xs vs (by simpa [D.low] using b) r⟩
theorem RelDs.lowc {as : Lay} {n : Nat} : ∀ (ds : List D) (vs : List V), D.lows n ds = true → RelDs g H as ds vs → RelDs g H (as.low n) ds vs
  | [], _, _, h => by unfold RelDs at *; exact h
  | d :: ds, _, b, h => by
    unfold RelDs at *
    obtain ⟨v, r, e, h1, h2⟩ := h
    simp only [D.lows, Bool.and_eq_true] at b
    exact ⟨v, r, e, RelD.lowc d v b.1 h1, RelDs.lowc ds r b.2 h2⟩
end
mutual
theorem RelD.lies {as : Lay} : ∀ (d : D) (v : V), RelD g H as d v → d.low as.mu.length = true
  | .non, _, _ => by simp [D.low]
  | .bl _, _, _ => by simp [D.low]
  | .int _, _, _ => by simp [D.low]
  | .str _, _, _ => by simp [D.low]
  | .tup xs, _, h => by
    unfold RelD at h
    obtain ⟨a, vs, e, t, r⟩ := h
    simpa [D.low] using RelDs.lies xs vs r
  | .lst xs, _, h => by
    unfold RelD at h
    obtain ⟨a, vs, e, t, r⟩ := h
    simpa [D.low] using RelDs.lies xs vs r
  | .ref i, _, h => by
    unfold RelD at h
    obtain ⟨a, e, t⟩ := h
    simpa [D.low] using (List.getElem?_eq_some_iff.mp t).1
  | .nms xs, _, h => by
    unfold RelD at h
    obtain ⟨a, vs, e, t, r⟩ := h
    simpa [D.low] using RelDs.lies xs vs r
theorem RelDs.lies {as : Lay} : ∀ (ds : List D) (vs : List V), RelDs g H as ds vs → D.lows as.mu.length ds = true
  | [], _, _ => by simp [D.lows]
  | d :: ds, _, h => by
    unfold RelDs at h
    obtain ⟨v, r, e, h1, h2⟩ := h
    simp only [D.lows, Bool.and_eq_true]
    exact ⟨RelD.lies d v h1, RelDs.lies ds r h2⟩
end
theorem RelF.relDs {as : Lay} {fs : List (Str × D)} {ws : List (Str × V)} (h : RelF g H as fs ws) : RelDs g H as (fs.map (·.2)) (ws.map (·.2)) := by
  unfold RelF at h
  induction h with
  | nil => exact relDs_nil.mpr rfl
  | cons a b ih => exact relDs_cons.mpr ⟨_, _, rfl, a.2, ih⟩
theorem RelF.lowc {as : Lay} {n : Nat} {fs : List (Str × D)} {ws : List (Str × V)} (b : D.lows n (fs.map (·.2)) = true) (h : RelF g H as fs ws) : RelF g H (as.low n) fs ws := by
  unfold RelF at h ⊢
  induction h with
  | nil => exact .nil
  | cons a _ ih =>
    simp only [List.map_cons, D.lows, Bool.and_eq_true] at b
    exact .cons ⟨a.1, RelD.lowc _ _ b.1 a.2⟩ (ih b.2)
theorem ObjR.lies {as : Lay} {a : Addr} {o : O} (h : ObjR g H as a o) : o.low as.mu.length = true := by
  cases o with
  | lst xs => obtain ⟨vs, _, r⟩ := h; exact RelDs.lies xs vs r
  | ins c fs => obtain ⟨dx, ws, _, r⟩ := h; exact RelDs.lies _ _ r.relDs
  | tab j => rfl
theorem ObjR.lowc {as : Lay} {n : Nat} {a : Addr} {o : O} (b : o.low n = true) (h : ObjR g H as a o) : ObjR g H (as.low n) a o := by
  cases o with
  | lst xs => obtain ⟨vs, e, r⟩ := h; exact ⟨vs, e, RelDs.lowc xs vs b r⟩
  | ins c fs => obtain ⟨dx, ws, e, r⟩ := h; exact ⟨dx, ws, e, RelF.lowc b r⟩
  | tab j =>
    obtain ⟨q, ps, e1, e2, e3, e4⟩ := h
    exact ⟨q, ps, e1, e2, e3, fun pos cv hc => by
      obtain ⟨c, x, y, z⟩ := e4 pos cv hc
      exact ⟨c, x, y, z.lowc n⟩⟩
theorem MemR.lowc {as : Lay} {M : Mem} {n : Nat} (m : MemR g H as M) (hb : ∀ j o, j < n → M[j]? = some o → o.low n = true) : MemR g H (as.low n) (M.take n) := by
  refine ⟨?_, ?_, fun j a o e q => ?_, fun a ha => ?_⟩
  · show (as.mu.take n).length = _
    rw [List.length_take, List.length_take, m.len]
  · exact m.nd.sublist (List.take_sublist _ _)
  · have e : (as.mu.take n)[j]? = some a := e
    have hj : j < n := by
      have := (List.getElem?_eq_some_iff.mp e).1
      rw [List.length_take] at this
      omega
    rw [List.getElem?_take_of_lt hj] at e q
    exact ObjR.lowc (hb j o hj q) (m.obj j a o e q)
  · obtain ⟨x, y⟩ := m.hide a ha
    exact ⟨fun z => x (List.mem_of_mem_take z), y⟩
end
open Classical in
theorem trimR_exc (M : Mem) (x : Ex) (M' : Mem) : trimR M (.exc x M') = if M.length ≤ M'.length ∧ (∀ j o, j < M.length → M'[j]? = some o → (M[j]? = some o ∨ o.low M.length = true)) ∧ D.lows M.length (x.fs.map (·.2)) = true then .exc x (M'.take M.length) else .err := rfl
open Classical in
theorem trimR_ok (M : Mem) (d : D) (M' : Mem) : trimR M (.ok d M') = if M.length ≤ M'.length ∧ ∀ j o, j < M.length → M'[j]? = some o → (M[j]? = some o ∨ o.low M.length = true) then (match d with
      | .ref i => if i < M.length then .ok (.ref i) (M'.take M.length) else (match M'[i]? with
        | some (.lst xs) => if D.lows M.length xs = true then .ok (.lst xs) (M'.take M.length) else .err
        | _ => .err)
      | d => if d.low M.length = true then .ok d (M'.take M.length) else .err) else .err := rfl
theorem fin_trim {g : G} {H : Hp} {as : Lay} {M : Mem} {Q : VK} {Wk : WK} {r : Res D} (m : MemR g H as M) (h : Fin g (RelD g) Wk H as Q (trimR M r)) : Fin g (RelD g) Wk H as Q r := by
  have cutX : ∀ {H' : Hp} {as' : Lay} {M' : Mem}, MemR g H' as' M' → Ext H as H' as' → (∀ j o, j < M.length → M'[j]? = some o → (M[j]? = some o ∨ o.low M.length = true)) → MemR g H' (as'.low M.length) (M'.take M.length) ∧ Ext H as H' (as'.low M.length) := by
    intro H' as' M' m' x hb
    refine ⟨m'.lowc fun j o hj e => ?_, ?_⟩
    · rcases hb j o hj e with z | z
      · have hj2 : j < as.mu.length := by rw [m.len]; exact hj
        have := (m.obj j _ o (List.getElem?_eq_getElem hj2) z).lies
        rw [m.len] at this
        exact this
      · exact z
    · obtain ⟨⟨more, e⟩, h2, k⟩ := x
      refine ⟨⟨[], ?_⟩, h2, fun a o e1 t n => ⟨(k a o e1 t n).1, fun z => (k a o e1 t n).2 (List.mem_of_mem_take z)⟩⟩
      show as'.mu.take M.length = as.mu ++ []
      rw [e, ← m.len, List.take_left, List.append_nil]
  cases r with
  | err => exact h
  | exc x M' =>
    rw [trimR_exc] at h
    split at h
    · rename_i hc
      intro c o H' as' m' x' rx
      obtain ⟨mc, xc⟩ := cutX m' x' hc.2.1
      refine h c o H' _ mc xc ⟨rx.1, ?_⟩
      rcases rx.2 with z | ⟨z, d, ws, z1, z2, z3, z4⟩
      · exact .inl z
      · exact .inr ⟨z, d, ws, z1, z2, z3.lowc _, RelF.lowc hc.2.2 z4⟩
    · exact h.elim
  | ok d M' =>
    intro v H' as' m' x' rv
    rw [trimR_ok] at h
    split at h
    · rename_i hc
      obtain ⟨mc, xc⟩ := cutX m' x' hc.2
      cases d with
      | ref i =>
        simp only at h
        split at h
        · rename_i hi
          exact h v H' _ mc xc (RelD.lowc _ _ (by simpa [D.low] using hi) rv)
        · rename_i hi
          split at h
          · rename_i xs ex
            split at h
            · rename_i hb
              refine h v H' _ mc xc ?_
              unfold RelD at rv
              obtain ⟨a, rfl, ea⟩ := rv
              obtain ⟨vs, e1, e2⟩ := m'.obj i a _ ea ex
              refine relD_lst e1 ⟨fun z => ?_, fun z => ?_⟩ (RelDs.lowc _ _ hb e2)
              · obtain ⟨k, hk⟩ := List.getElem?_of_mem z
                have hk : (as'.mu.take M.length)[k]? = some a := hk
                have hkl : k < M.length := by
                  have := (List.getElem?_eq_some_iff.mp hk).1
                  rw [List.length_take] at this
                  omega
                rw [List.getElem?_take_of_lt hkl] at hk
                obtain ⟨l1, e1⟩ := List.getElem?_eq_some_iff.mp hk
                obtain ⟨l2, e2⟩ := List.getElem?_eq_some_iff.mp ea
                have := (List.getElem_inj m'.nd).mp (e1.trans e2.symm)
                omega
              · exact (m'.hide a z).1 (List.mem_of_getElem? ea)
            · exact h.elim
          · exact h.elim
      | _ =>
        simp only at h
        split at h
        · rename_i hb
          exact h v H' _ mc xc (RelD.lowc _ _ hb rv)
        · exact h.elim
    · exact h.elim
section
variable {P : Program} {w : World} {K : PySem.W.Frag} {mg : Str → Option Value} {base : Heap} {C : Cl} {x : Str}
/-- a promise gives the trimmed one -/
theorem Def.trim {k n : Nat} {N : Nat} {ev : EvS} (d : Def P w K mg base C x k n (fnE N ev)) : Def P w K mg base C x k n (fnT N ev) := by
  obtain ⟨f, fd, ps, a, b, c, F⟩ := d.ex
  refine ⟨f, fd, ps, a, b, c, ⟨fun vs H Q E h => F.len vs H Q E ?_, fun A outer s H args us vs Q E hr e0 hb r h => F.run A outer s H args us vs Q E hr e0 hb r ?_⟩⟩
  · obtain ⟨hl, ds, M, as, r, m, q⟩ := h
    exact ⟨hl, ds, M, as, r, m, fin_trim m q⟩
  · obtain ⟨hl, ds, M, as, r, m, q⟩ := h
    exact ⟨hl, ds, M, as, r, m, fin_trim m q⟩
end
end Mk
end

section
set_option maxHeartbeats 4000000
/-! Mk30: methods of built-in types; strong tuples. -/
open PySem PySem.Spec PyProof.Rows L2
namespace Mk
def outM : Option (D × Mem) → Res D
  | some q => .ok q.1 q.2
  | none => .err
abbrev PM := D → D → Mem → Option (D × Mem)
/-- o.m(e): kd tells the kinds of o that are served -/
def eM1 (kd : D → Mem → Bool) (f : PM) (a b : Ev) : Ev := fun ρ M => (a ρ M).bind fun x M1 => if kd x M1 = true then (b ρ M1).bind fun y M2 => outM (f x y M2) else .err
/-- what the method id does with data -/
def MtD (X : Cx) (C : Cl) (id : String) (kd : D → Mem → Bool) (f : PM) : Prop :=
  ∀ (pins : List (Addr × Obj)) (s : Shared) (σ : L2.St) (H : Hp) (x y : V) (v u : Value) (Q : VK) (as : Lay) (M : Mem) (dx dy d : D) (M' : Mem), Inv X pins σ H s → RelV x v → RelV y u → MemR ⟨X.K, C⟩ H as M → RelD ⟨X.K, C⟩ H as dx x → RelD ⟨X.K, C⟩ H as dy y →
    f dx dy M = some (d, M') → (∀ w H' as', MemR ⟨X.K, C⟩ H' as' M' → Ext H as H' as' → RelD ⟨X.K, C⟩ H' as' d w → Q w H') → wpAny (model X.prog X.w) X.A (call (.builtin id) [v, u]) (EP X pins σ Q) X.xe s
/-- data of that kind are of the type T, without a dict -/
def KdD (X : Cx) (C : Cl) (kd : D → Mem → Bool) (T : String) : Prop :=
  ∀ (pins : List (Addr × Obj)) (s : Shared) (σ : L2.St) (H : Hp) (x : V) (v : Value) (as : Lay) (M : Mem) (dx : D), Inv X pins σ H s → RelV x v → MemR ⟨X.K, C⟩ H as M → RelD ⟨X.K, C⟩ H as dx x → kd dx M = true →
    s.TypeIs v T ∧ ∀ a, v = .ref a → ∃ ob, s.heap.get? a = some ob ∧ ob.dict = none
section
variable {X : Cx} {C : Cl} {W : WX}
theorem v_meth1 {kd : D → Mem → Bool} {f : PM} {T id : String} {name : Str} {o e : Expr} {eo ee : Ev} {apos pos : Pos} (hk : KdD X C kd T) (hm : MtD X C id kd f) (pa : PlainAttrs T) (slot : Slot T name id) (hty : typeOf (.builtin id) = pure (.type "method_descriptor")) (ho : VE X C W o eo) (he : VE X C W e ee)
    (hs : starEach [e] X.env = [(false, eval e X.env)] := by rfl) (hbase : attributeBase o name X.env (eval o X.env) = eval o X.env := by rfl) (hline : (apos.endLine == pos.line) = true := by rfl) : VE X C W (.Call (.Attribute o name apos) [e] [] pos) (eM1 kd f eo ee) := by
  constructor
  intro pins s σ H Q I h
  have h1 := tG_bind (R := RelD ⟨X.K, C⟩) (f := fun ρ x M1 => if kd x M1 = true then (ee ρ M1).bind fun y M2 => outM (f x y M2) else .err) h
  refine PySem.Call_method1 hbase hs hline (thn (ho.run pins s σ H _ I h1) fun ov s1 ⟨x, H1, I1, rx, ρ, as1, M1, d, e1, m1, r1, q1⟩ => ?_)
  by_cases kk : kd d M1 = true
  case neg => rw [if_neg kk] at q1; exact q1.elim
  rw [if_pos kk] at q1
  obtain ⟨ty, dn⟩ := hk pins s1 σ H1 x ov as1 M1 d I1 rx m1 r1 kk
  refine ⟨T, id, pa, slot, hty, ty, dn, Calls.callWith_builtin rfl (Calls.evalArgs_plain (Calls.spliced_cons ?_))⟩
  have q2 := Fin.bind (R := RelD ⟨X.K, C⟩) q1
  refine thn (he.run pins s1 σ H1 _ I1 ⟨ρ, M1, as1, e1, m1, q2⟩) fun uv s2 ⟨y, H2, I2, ry, as2, M2, d2, m2, x2, r2, q3⟩ => ?_
  refine Calls.spliced_nil ?_
  cases hf : f d d2 M2 with
  | none => rw [hf] at q3; exact q3.elim
  | some q =>
    rw [hf] at q3
    exact hm pins s2 σ H2 x y ov uv Q as2 M2 d d2 q.1 q.2 I2 rx ry m2 (r1.ext x2) r2 hf q3
/-! ### lists -/
def kdLst (d : D) (M : Mem) : Bool := (lstOf M d).isSome
theorem kd_lst : KdD X C kdLst "list" := by
  intro pins s σ H x v as M dx I rv m r hk
  unfold kdLst lstOf at hk
  cases e : deref M dx with
  | lst xs =>
    obtain ⟨a, vs, rfl, h1, _⟩ := lst_at m e r
    exact tyV_is I rv (.inl ⟨rfl, vs, .inl h1⟩)
  | _ => rw [e] at hk; cases hk
def appD : PM := fun x y M => match x with
  | .ref i => match M[i]? with
    | some (.lst xs) => if xs.length < lim then some (.non, M.set i (.lst (xs ++ [y]))) else none
    | _ => none
  | _ => none
theorem mt_app : MtD X C "list.append" kdLst appD := by
  intro pins s σ H x y v u Q as M dx dy d M' I rx ry m r1 r2 e q
  unfold appD at e
  split at e
  · rename_i i
    split at e
    · rename_i xs hM
      split at e
      · rename_i hl
        cases e
        unfold RelD at r1
        obtain ⟨a, rfl, ha⟩ := r1
        obtain ⟨vs, hv, rs⟩ := m.obj i a _ ha hM
        refine mt_append pins s σ H _ [y] v [u] Q I rx (.cons ry .nil) ⟨a, vs, y, rfl, rfl, hv, by rw [rs.length, lim_eq]; exact hl, ?_⟩
        have xw : Ext H as (upd H a (.lst (vs ++ [y]))) as := Ext.write (List.mem_of_getElem? ha)
        exact q _ _ as (m.write ha ⟨_, upd_same, (rs.append (RelDs.one r2)).ext xw⟩) xw (by unfold RelD; rfl)
      · cases e
    · cases e
  · cases e
/-- the texts of a list -/
def strsOf : List D → Option (List (List Nat))
  | [] => some []
  | .str x :: r => (strsOf r).map fun ys => x :: ys
  | _ => none
theorem strsOf_rel {g : G} {H : Hp} {as : Lay} : ∀ {xs : List D} {ys : List (List Nat)} {vs : List V}, strsOf xs = some ys → RelDs g H as xs vs → vs = (ys.map fun y => (⟨y.toArray⟩ : Str)).map V.str
  | [], ys, vs, e, r => by
    unfold strsOf at e
    cases e
    rw [relDs_nil.mp r]; rfl
  | .str x :: xs, ys, vs, e, r => by
    unfold strsOf at e
    obtain ⟨zs, ez, rfl⟩ := Option.map_eq_some_iff.mp e
    obtain ⟨v, w, rfl, r1, r2⟩ := relDs_cons.mp r
    unfold RelD at r1
    subst r1
    rw [strsOf_rel ez r2]
    rfl
  | .non :: _, _, _, e, _ => by simp [strsOf] at e
  | .bl _ :: _, _, _, e, _ => by simp [strsOf] at e
  | .int _ :: _, _, _, e, _ => by simp [strsOf] at e
  | .tup _ :: _, _, _, e, _ => by simp [strsOf] at e
  | .lst _ :: _, _, _, e, _ => by simp [strsOf] at e
  | .ref _ :: _, _, _, e, _ => by simp [strsOf] at e
  | .nms _ :: _, _, _, e, _ => by simp [strsOf] at e
/-- the first place of y -/
def placeOf (y : List Nat) (ys : List (List Nat)) : Option D := if ys.idxOf y < ys.length then some (.int (ys.idxOf y : Nat)) else none
theorem str_inj {x y : List Nat} : ((⟨x.toArray⟩ : Str) = ⟨y.toArray⟩) ↔ x = y := by
  constructor
  · intro h; simpa using h
  · intro h; rw [h]
theorem idx_strs {y : List Nat} {ys : List (List Nat)} (h : ys.idxOf y < ys.length) : (ys.map fun z => (⟨z.toArray⟩ : Str))[ys.idxOf y]? = some ⟨y.toArray⟩ ∧ ∀ m, m < ys.idxOf y → (ys.map fun z => (⟨z.toArray⟩ : Str))[m]? ≠ some ⟨y.toArray⟩ := by
  constructor
  · rw [List.getElem?_map, List.getElem?_eq_getElem h, List.getElem_idxOf h]; rfl
  · intro m hm e
    have hml : m < ys.length := by omega
    rw [List.getElem?_map, List.getElem?_eq_getElem hml] at e
    have e : (⟨(ys[m]).toArray⟩ : Str) = ⟨y.toArray⟩ := Option.some.inj e
    have := List.not_of_lt_findIdx (p := (· == y)) (xs := ys) (i := m) hm
    simp only [str_inj] at e
    rw [e] at this
    simp at this
def lixD : PM := fun x y M => match lstOf M x, y with
  | some xs, .str z => match strsOf xs with
    | some ys => (placeOf z ys).map fun d => (d, M)
    | none => none
  | _, _ => none
theorem mt_lix : MtD X C "list.index" kdLst lixD := by
  intro pins s σ H x y v u Q as M dx dy d M' I rx ry m r1 r2 e q
  unfold lixD at e
  split at e
  · rename_i xs z ex
    split at e
    · rename_i ys ey
      obtain ⟨d', ed, e2⟩ := Option.map_eq_some_iff.mp e
      cases e2
      unfold placeOf at ed
      split at ed
      · rename_i hl
        cases ed
        unfold lstOf at ex
        split at ex
        · rename_i xs' ed
          cases ex
          obtain ⟨a, vs, rfl, h1, rs⟩ := lst_at m ed r1
          unfold RelD at r2
          subst r2
          obtain rfl := strsOf_rel ey rs
          obtain ⟨i1, i2⟩ := idx_strs hl
          refine mt_index pins s σ H _ [_] v [u] Q I rx (.cons ry .nil) ⟨a, _, _, ys.idxOf z, .str ⟨z.toArray⟩, rfl, rfl, .inl h1, rfl, L2.flat_strs _, ?_, ?_, ?_, ?_⟩
          · rw [List.getElem?_map, i1]; rfl
          · show ((⟨z.toArray⟩ : Str) == ⟨z.toArray⟩) = true
            exact beq_self_eq_true _
          · intro k z' hk hz
            rw [List.getElem?_map] at hz
            obtain ⟨w, hw, rfl⟩ := Option.map_eq_some_iff.mp hz
            show (w == (⟨z.toArray⟩ : Str)) = false
            exact beq_eq_false_iff_ne.mpr fun c => i2 k hk (by rw [hw, c])
          · exact q _ _ as m (Ext.refl _ _) (by unfold RelD; rfl)
        · cases ex
      · cases ed
    · cases e
  · cases e
/-! ### strong tuples -/
def kdNms : D → Mem → Bool
  | .nms _, _ => true
  | _, _ => false
theorem kd_nms : KdD X C kdNms "tuple" := by
  intro pins s σ H x v as M dx I rv m r hk
  cases dx with
  | nms xs =>
    unfold RelD at r
    obtain ⟨a, vs, rfl, ⟨⟨o, h, hc, hd⟩, _⟩, _⟩ := r
    cases rv
    have ho := (I.hok a _ h).1
    refine ⟨⟨o, ho, hc⟩, fun b hb => ?_⟩
    cases hb
    exact ⟨o, ho, hd⟩
  | _ => cases hk
def tixD : PM := fun x y M => match x, y with
  | .nms xs, .str z => match strsOf xs with
    | some ys => (placeOf z ys).map fun d => (d, M)
    | none => none
  | _, _ => none
theorem mt_tix : MtD X C "tuple.index" kdNms tixD := by
  intro pins s σ H x y v u Q as M dx dy d M' I rx ry m r1 r2 e q
  unfold tixD at e
  split at e
  · rename_i xs z
    split at e
    · rename_i ys ey
      obtain ⟨d', ed, e2⟩ := Option.map_eq_some_iff.mp e
      cases e2
      unfold placeOf at ed
      split at ed
      · rename_i hl
        cases ed
        unfold RelD at r1 r2
        subst r2
        obtain ⟨a, vs, rfl, ⟨⟨o, h, hc, hd⟩, _⟩, rs⟩ := r1
        obtain rfl := strsOf_rel ey rs
        obtain ⟨i1, i2⟩ := idx_strs hl
        exact mt_tup_index pins s σ H _ [_] v [u] Q I rx (.cons ry .nil) ⟨a, _, _, ys.idxOf z, rfl, rfl, .inl (.inr ⟨o, h⟩), i1, i2, q _ _ as m (Ext.refl _ _) (by unfold RelD; rfl)⟩
      · cases ed
    · cases e
  · cases e
/-- tuple(a list) -/
def nmsD : PN := fun xs M => match xs with
  | [x] => (lstOf M x).map .nms
  | _ => none
theorem cr_nmsD : CallR X (.type "tuple") (rPN ⟨X.K, C⟩ nmsD) := by
  intro pins s σ H xs us Q I r ⟨as, M, ds, d, m, rd, e, q⟩
  unfold nmsD at e
  split at e
  · obtain ⟨v, rfl, r1⟩ := one_of rd
    obtain ⟨ys, ey, rfl⟩ := Option.map_eq_some_iff.mp e
    unfold lstOf at ey
    split at ey
    · rename_i xs' ed
      cases ey
      obtain ⟨a, vs, rfl, h1, rs⟩ := lst_at m ed r1
      cases r with
      | cons r3 r4 =>
        cases r3
        cases r4
        obtain ⟨its, rv, pl, hz⟩ := I.list (.inl h1)
        have hl := rv.length
        refine call_tuple_list pl.isList (fun h' kp => ?_) (by simp only [List.size_toArray] <;> omega)
        have J : Inv X pins σ H { s with heap := h' } := I.kept (t' := s.toks) kp
        have hp : H h'.objs.size = none := J.hok.fresh (Nat.le_refl _)
        have ob : ObjOk X.prog X.w (upd H h'.objs.size (.frz { cls := .type "tuple", data := .seq its.toArray } (.tup vs))) (h'.push { cls := .type "tuple", data := .seq its.toArray }) h'.objs.size (.frz { cls := .type "tuple", data := .seq its.toArray } (.tup vs)) :=
          ⟨Heap.get?_push_size _ rfl, hz, its, rv, IsTup.new _ _⟩
        refine ⟨.ref h'.objs.size, _, J.laid (t' := s.toks) (fun b o e => Heap.get?_push_of_some _ e) (Nat.le_refl _) ob, rfl, ?_⟩
        refine q _ _ (m.laid hp) (Ext.laid hp) ?_
        unfold RelD
        exact ⟨_, vs, rfl, ⟨⟨_, upd_same, rfl, rfl⟩, m.fresh hp⟩, rs.ext (Ext.laid hp)⟩
    · cases ey
  · cases e
/-! ### texts -/
def kdStr : D → Mem → Bool
  | .str _, _ => true
  | _, _ => false
theorem kd_str : KdD X C kdStr "str" := by
  intro pins s σ H x v as M dx I rv m r hk
  cases dx with
  | str z =>
    unfold RelD at r
    subst r
    exact tyV_is I rv rfl
  | _ => cases hk
def joinD : PM := fun x y M => match x, seqOf M y with
  | .str a, some xs => match strsOf xs with
    | some ys => if (ys.map List.length).sum + ys.length * a.length ≤ 16777216 then some (.str (TL.joinL a ys), M) else none
    | none => none
  | _, _ => none
theorem mt_joinD : MtD X C "str.join" kdStr joinD := by
  intro pins s σ H x y v u Q as M dx dy d M' I rx ry m r1 r2 e q
  unfold joinD at e
  split at e
  · rename_i a xs ex
    split at e
    · rename_i ys ey
      split at e
      · rename_i hl
        cases e
        unfold RelD at r1
        subst r1
        obtain ⟨p, vs, rfl, h1, rs⟩ := seq_at m ex r2
        obtain rfl := strsOf_rel ey rs
        refine mt_join pins s σ H _ [_] v [u] Q I rx (.cons ry .nil) ⟨_, p, _, rfl, rfl, h1, ?_, ?_⟩
        · rw [List.map_map, List.length_map]
          exact hl
        · have e1 : Txt.join (⟨a.toArray⟩ : Str) (ys.map fun y => (⟨y.toArray⟩ : Str)) = ⟨(TL.joinL a ys).toArray⟩ := SX.join_S a ys
          rw [e1]
          exact q _ _ as m (Ext.refl _ _) (by unfold RelD; rfl)
      · cases e
    · cases e
  · cases e
/-- a strong tuple as any other -/
def eWk (a : Ev) : Ev := fun ρ M => (a ρ M).bind fun x M1 => .ok (match x with
  | .nms xs => .tup xs
  | d => d) M1
theorem v_weak {e : Expr} {ev : Ev} (h : VE X C W e ev) : VE X C W e (eWk ev) := by
  refine PE.imp h fun σ H Q ⟨ρ, M, as, e1, m, q⟩ => ⟨ρ, M, as, e1, m, ?_⟩
  change Fin _ _ _ _ _ _ ((ev ρ M).bind _) at q
  cases hr : ev ρ M with
  | ok d M1 =>
    rw [hr] at q
    intro v H' as' m' x' r
    refine q v H' as' m' x' ?_
    cases d with
    | nms xs => exact r.weak
    | _ => exact r
  | exc x M1 => rw [hr] at q; exact q
  | err => rw [hr] at q; exact q
end
end Mk
end

section
set_option maxHeartbeats 4000000
/-! Mk31: the classes of exceptions in a law; comprehensions that make a mutable list. -/
open PySem PySem.Spec PyProof.Rows L2
namespace Mk
/-- what is known of the first n classes -/
structure ClsC (K : PySem.W.Frag) (C : Cl) (n : Nat) : Prop where
  c : ∀ i, i < n → ExcC K (C.adr i)
  m : ∀ i, i < n → PySem.W.exmOne K (.ref (C.adr i)) (.ref (He.ga K "MapError")) = some true
  v : ∀ i, i < n → PySem.W.kitOne K (.ref (C.adr i)) (.type "ValueError") = some true
  k : ∀ i j, i < n → j < n → PySem.W.kitOne K (.ref (C.adr i)) (.ref (C.adr j)) = some (decide (i = j))
theorem clsC_of {K : PySem.W.Frag} {C : Cl} {cl : List Str} (h : ClsF K cl) (e : C.adr = clsA K cl) : ClsC K C cl.length := by
  refine ⟨fun i hi => ?_, fun i hi => ?_, fun i hi => ?_, fun i j hi hj => ?_⟩
  · rw [e]; exact h.c i hi
  · rw [e]; exact h.m i hi
  · rw [e]; exact h.v i hi
  · rw [e]; exact h.k i j hi hj
theorem ownC_of {K : PySem.W.Frag} {h : Heap} {mg : Str → Option Value} {x : Str} {a : Addr} (X : K.In h) (G : h.Ns mainGlobals mg) (c1 : (He.Fa.glo x).ok K = true) (c2 : (He.Fa.exc x).ok K = true) (e : a = He.ga K x) : OwnC K mg a x [.type "ValueError", .type "Exception", .type "BaseException", .type "object"] := by
  subst e
  have z : (PySem.W.excIn K (He.ga K x) He.veBase "ValueError.__new__" && (PySem.W.keepIn K (.ref (He.ga K x)) && (decide (PySem.W.subIn K (.ref (He.ga K x)) (.type "BaseException") = some true) && decide (PySem.W.typeIn K (.ref (He.ga K x)) = some (.type "type"))))) = true := c2
  simp only [Bool.and_eq_true, decide_eq_true_eq] at z
  exact ⟨He.glo_ok X G c1, z.1, z.2.1, z.2.2.1, z.2.2.2⟩
section
variable {X : Cx} {C : Cl} {W : WX} [NoX C]
theorem v_lcN {elt tg iter : Expr} {ifs : List Expr} {scope : Scope} {pos : Pos} {it : EvI} {t : Tg} {test : EvT} {ev : Ev} (own : List (Str × Nat)) (hc : X.calm = true) (hN : X.N.Nodup) (ok : BlkOk X.N X.env.scope scope own) (hsl : ∀ i ∈ t.slots, i ∈ own.map (·.2)) (hi : VI X C W tg iter it)
    (hg : ∀ (s : Shared) (H : Hp) (Ca : Addr) (cl : List (Str × Addr)) (fp : List Addr), VG (X.blk s H scope (compEnvC scope cl Ca X.env) fp) C tg t) (ht : ∀ (s : Shared) (H : Hp) (Ca : Addr) (cl : List (Str × Addr)) (fp : List Addr), VTs (X.blk s H scope (compEnvC scope cl Ca X.env) fp) C W0 ifs test)
    (he : ∀ (s : Shared) (H : Hp) (Ca : Addr) (cl : List (Str × Addr)) (fp : List Addr), VE (X.blk s H scope (compEnvC scope cl Ca X.env) fp) C W0 elt ev) (hs : ∀ x, foldedSetIterable iter X.env x = pure x := by intro _; rfl) :
    VE X C W (.ListComp elt [⟨tg, iter, ifs, 0⟩] scope pos) (eLcN it t (own.map (·.2)) test ev) :=
  PE.imp (pe_lc hc hN hi ok hg ht he hs) fun σ H Q h => lc_impN hsl h
end
end Mk
end

section
set_option maxHeartbeats 4000000
/-! the evaluators, printed by gen.py -/
open PySem PySem.Spec PyProof.Rows L2
namespace Mk
def g_LETTERS : D := .str [97, 98, 99, 100, 101, 102, 103, 104, 105, 106, 107, 108, 109, 110, 111, 112, 113, 114, 115, 116, 117, 118, 119, 120, 121, 122]
def g_RULES : D := .tup [.str [104, 111, 108, 100], .str [102, 111, 108, 108, 111, 119], .str [99, 108, 101, 97, 114]]
noncomputable def b_is_tuple : EvS :=
  (sRet (eAnd (eU (isiD "tuple") (eV 0)) (eCh leD leD (eV 1) (eN lenD [eV 0]) (eV 2))))
noncomputable def ev_is_tuple : Fv := fnE 3 b_is_tuple
noncomputable def b_is_rising : EvS :=
  (sRet (eN allD [eLc (eZip (eV 0) (eSl (eV 0) (pSo (eC (.int 1))) pNo)) (.tup [.name 1, .name 2]) [1, 2] tYes (eB ltD (eV 1) (eV 2))]))
noncomputable def ev_is_rising : Fv := fnE 3 b_is_rising
noncomputable def b_is_word : EvS :=
  (sCons (sIf (tOr (tNot (eT (eU (isiD "str") (eV 0)))) (tNot (eT (eCh leD leD (eV 1) (eN lenD [eV 0]) (eC (.int 8)))))) (sRet (eC (.bl false))) sNil)
    (sRet (eN allD [eLc (eIt (eV 0)) (.name 2) [2] tYes (eB inD (eV 2) (eC g_LETTERS))])))
noncomputable def ev_is_word : Fv := fnE 3 b_is_word
noncomputable def b_is_field : EvS :=
  (sCons (sIf (tOr (tNot (eT (eCall ev_is_tuple [eV 0, eC (.int 3), eC (.int 3)]))) (tNot (eT (eCall ev_is_word [eB ixD (eV 0) (eC (.int 0)), eC (.int 1)])))) (sRet (eC (.bl false))) sNil)
    (sRet (eAnd (eU (isiD "str") (eB ixD (eV 0) (eC (.int 1)))) (eAnd (eB inD (eB ixD (eV 0) (eC (.int 1))) (eTup [eC (.str [105, 110, 116]), eC (.str [116, 101, 120, 116])])) (eU (isiD "bool") (eB ixD (eV 0) (eC (.int 2))))))))
noncomputable def ev_is_field : Fv := fnE 1 b_is_field
noncomputable def b_is_link : EvS :=
  (sCons (sIf (tOr (tNot (eT (eCall ev_is_tuple [eV 0, eC (.int 4), eC (.int 4)]))) (tOr (tNot (eT (eCall ev_is_word [eB ixD (eV 0) (eC (.int 0)), eC (.int 1)]))) (tNot (eT (eCall ev_is_word [eB ixD (eV 0) (eC (.int 1)), eC (.int 1)]))))) (sRet (eC (.bl false))) sNil)
    (sCons (sIf (tOr (tNot (eT (eU (isiD "bool") (eB ixD (eV 0) (eC (.int 2)))))) (tOr (tNot (eT (eU (isiD "str") (eB ixD (eV 0) (eC (.int 3)))))) (eT (eB notInD (eB ixD (eV 0) (eC (.int 3))) (eC g_RULES))))) (sRet (eC (.bl false))) sNil)
    (sRet (eOr (eB ixD (eV 0) (eC (.int 2))) (eB neD (eB ixD (eV 0) (eC (.int 3))) (eC (.str [99, 108, 101, 97, 114])))))))
noncomputable def ev_is_link : Fv := fnE 1 b_is_link
noncomputable def b_is_key : EvS :=
  (sCons (sIf (tOr (tNot (eT (eCall ev_is_tuple [eV 1, eC (.int 1), eC (.int 3)]))) (tNot (eT (eN allD [eLc (eIt (eV 1)) (.name 2) [2] tYes (eAnd (eU (isiD "str") (eV 2)) (eB inD (eV 2) (eV 0)))])))) (sRet (eC (.bl false))) sNil)
    (sRet (eCall ev_is_rising [eV 1])))
noncomputable def ev_is_key : Fv := fnE 3 b_is_key
noncomputable def b_names_of : EvS :=
  (sRet (eN nmsD [eLc (eIt (eB addD (eB ixD (eV 0) (eC (.int 1))) (eB ixD (eV 0) (eC (.int 2))))) (.name 1) [1] tYes (eB ixD (eV 1) (eC (.int 0)))]))
noncomputable def ev_names_of : Fv := fnE 2 b_names_of
noncomputable def b_is_table : EvS :=
  (sCons (sIf (tOr (tNot (eT (eCall ev_is_tuple [eV 0, eC (.int 4), eC (.int 4)]))) (tNot (eT (eCall ev_is_word [eB ixD (eV 0) (eC (.int 0)), eC (.int 1)])))) (sRet (eC (.bl false))) sNil)
    (sCons (sIf (tOr (tNot (eT (eCall ev_is_tuple [eB ixD (eV 0) (eC (.int 1)), eC (.int 0), eC (.int 4)]))) (tNot (eT (eN allD [eLc (eIt (eB ixD (eV 0) (eC (.int 1)))) (.name 2) [2] tYes (eCall ev_is_field [eV 2])])))) (sRet (eC (.bl false))) sNil)
    (sCons (sIf (tOr (tNot (eT (eCall ev_is_tuple [eB ixD (eV 0) (eC (.int 2)), eC (.int 0), eC (.int 3)]))) (tNot (eT (eN allD [eLc (eIt (eB ixD (eV 0) (eC (.int 2)))) (.name 3) [3] tYes (eCall ev_is_link [eV 3])])))) (sRet (eC (.bl false))) sNil)
    (sCons (sLet 1 (eCall ev_names_of [eV 0]))
    (sCons (sIf (tOr (eT (eB eqD (eV 1) (eTup []))) (eT (eB neD (eU lenSetD (eV 1)) (eN lenD [eV 1])))) (sRet (eC (.bl false))) sNil)
    (sCons (sIf (tOr (tNot (eT (eCall ev_is_tuple [eB ixD (eV 0) (eC (.int 3)), eC (.int 0), eC (.int 2)]))) (tNot (eT (eN allD [eLc (eIt (eB ixD (eV 0) (eC (.int 3)))) (.name 4) [4] tYes (eCall ev_is_key [eV 1, eV 4])])))) (sRet (eC (.bl false))) sNil)
    (sRet (eCall ev_is_rising [eB ixD (eV 0) (eC (.int 3))]))))))))
noncomputable def ev_is_table : Fv := fnE 5 b_is_table
noncomputable def b_can_be_schema : EvS :=
  (sCons (sIf (tOr (tNot (eT (eCall ev_is_tuple [eV 0, eC (.int 1), eC (.int 4)]))) (tNot (eT (eN allD [eLc (eIt (eV 0)) (.name 2) [2] tYes (eCall ev_is_table [eV 2])])))) (sRet (eC (.bl false))) sNil)
    (sCons (sLet 1 (eLc (eIt (eV 0)) (.name 2) [2] tYes (eB ixD (eV 2) (eC (.int 0)))))
    (sRet (eAnd (eCall ev_is_rising [eV 1]) (eN allD [eLc2 (eIt (eV 0)) (.name 2) [2, 3] [3] tYes (eIt (eB ixD (eV 2) (eC (.int 2)))) (.name 3) tYes (eB inD (eB ixD (eV 3) (eC (.int 1))) (eV 1))])))))
noncomputable def ev_can_be_schema : Fv := fnE 4 b_can_be_schema
noncomputable def b_is_schema : EvS :=
  (sRet (eCall ev_can_be_schema [eV 0]))
noncomputable def ev_is_schema : Fv := fnE 1 b_is_schema
noncomputable def b__law_source : EvS :=
  (sCons (sIf (eT (eB geD (eV 0) (eB powD (eC (.int 10)) (eC (.int 18))))) (sRet (eNew [eB subD (eV 0) (eB powD (eC (.int 10)) (eC (.int 18))), eB modD (eV 0) (eC (.int 2147483579)), eV 1])) sNil)
    (sRet (eNew [eC (.int 0), eB modD (eV 0) (eC (.int 2147483579)), eV 1])))
noncomputable def ev__law_source : Fv := fnE 2 b__law_source
noncomputable def b__law_kind : EvS :=
  (sCons (sIf (eT (eU (isiD "bool") (eV 0))) (sRet (eC (.int 1))) sNil)
    (sCons (sIf (eT (eU (isiD "int") (eV 0))) (sRet (eC (.int 2))) sNil)
    (sCons (sIf (eT (eU (isiD "str") (eV 0))) (sRet (eC (.int 3))) sNil)
    (sCons (sIf (eT (eU (isiD "list") (eV 0))) (sRet (eC (.int 4))) sNil)
    (sRet (eIf (eT (eU (isiD "tuple") (eV 0))) (eC (.int 5)) (eC (.int 6))))))))
noncomputable def ev__law_kind : Fv := fnE 1 b__law_kind
noncomputable def b__law_equal (e__law_equal : Fv) : EvS :=
  (sCons (sIf (eT (eB neD (eCall ev__law_kind [eV 0]) (eCall ev__law_kind [eV 1]))) (sRet (eC (.bl false))) sNil)
    (sCons (sIf (tAnd (eT (eB gtD (eCall ev__law_kind [eV 0]) (eC (.int 3)))) (eT (eB ltD (eCall ev__law_kind [eV 0]) (eC (.int 6))))) (sCons (sIf (eT (eB neD (eN lenD [eV 0]) (eN lenD [eV 1]))) (sRet (eC (.bl false))) sNil)
    (sRet (eB eqD (eLc (eEnum (eV 0)) (.tup [.name 2, .name 3]) [2, 3] (tNot (eT (eCall e__law_equal [eV 3, eB ixD (eV 1) (eV 2)]))) (eV 2)) (eLst [])))) sNil)
    (sRet (eB eqD (eV 0) (eV 1)))))
noncomputable def ev__law_equal : Nat → Fv
  | 0 => never
  | k + 1 => fnE 4 (b__law_equal (ev__law_equal k))
noncomputable def b__law_draw : EvS :=
  (sCons (sIf (eT (eB gtD (eB ixD (eV 0) (eC (.int 0))) (eC (.int 1)))) (sCons (sLet 2 (eB modD (eB ixD (eV 0) (eC (.int 0))) (eV 1)))
    (sCons (sSt (eV 0) (eC (.int 0)) (eB divD (eB ixD (eV 0) (eC (.int 0))) (eV 1)))
    (sRet (eV 2)))) sNil)
    (sCons (sSt (eV 0) (eC (.int 2)) (eB addD (eB ixD (eV 0) (eC (.int 2))) (eC (.int 1))))
    (sCons (sLet 3 (eB modD (eB powD (eB addD (eB ixD (eV 0) (eC (.int 1))) (eB mulD (eC (.int 15485867)) (eB ixD (eV 0) (eC (.int 2))))) (eC (.int 5))) (eC (.int 2147483647))))
    (sCons (sLet 2 (eB divD (eB modD (eB powD (eB addD (eV 3) (eB mulD (eC (.int 7919)) (eB ixD (eV 0) (eC (.int 2))))) (eC (.int 3))) (eC (.int 2147483629))) (eC (.int 32))))
    (sRet (eB modD (eV 2) (eV 1)))))))
noncomputable def ev__law_draw : Fv := fnE 4 b__law_draw
noncomputable def b__law_choice : EvS :=
  (sRet (eB ixD (eV 1) (eCall ev__law_draw [eV 0, eN lenD [eV 1]])))
noncomputable def ev__law_choice : Fv := fnE 2 b__law_choice
noncomputable def b__law_odd : EvS :=
  (sCons (sLet 1 (eLst [eC .non, eC (.bl true), eC (.bl false), eC (.int 0), eC (.int 1), eU negD (eC (.int 1)), eC (.int 13), eB powD (eC (.int 10)) (eC (.int 6)), eB addD (eB powD (eC (.int 10)) (eC (.int 6))) (eC (.int 1)), eB powD (eC (.int 10)) (eC (.int 39)), eC (.str []), eC (.str [97]), eC (.str [98, 98]), eC (.str [105, 110, 116]), eC (.str [99, 108, 101, 97, 114]), eC (.str [65]), eC (.str [97, 32, 98])]))
    (sCons (sLet 1 (eB addD (eV 1) (eLst [eC (.str [97, 98, 99, 100, 101, 102, 103, 104, 105]), eTup [], eLst [], eTup [eC (.str [97])], eLst [eC (.int 1)], eTup [eC (.int 1), eC (.str [97])], eTup [eTup []], eC (.str [104, 111, 108, 100]), eC (.str [116, 101, 120, 116]), eTup [eTup [eC (.str [102])]], eC (.int 999), eC (.int 1000)])))
    (sRet (eCall ev__law_choice [eV 0, eV 1]))))
noncomputable def ev__law_odd : Fv := fnE 2 b__law_odd
noncomputable def b__law_spoilt (e__law_spoilt : Fv) : EvS :=
  (sCons (sIf (tAnd (eT (eU (isiD "tuple") (eV 1))) (tAnd (eT (eB neD (eV 1) (eTup []))) (eT (eB gtD (eCall ev__law_draw [eV 0, eC (.int 5)]) (eC (.int 0)))))) (sCons (sLet 2 (eCall ev__law_draw [eV 0, eN lenD [eV 1]]))
    (sCons (sLet 3 (eCall ev__law_draw [eV 0, eC (.int 12)]))
    (sCons (sIf (eT (eB eqD (eV 3) (eC (.int 0)))) (sRet (eB addD (eSl (eV 1) pNo (pSo (eV 2))) (eSl (eV 1) (pSo (eB addD (eV 2) (eC (.int 1)))) pNo))) sNil)
    (sCons (sIf (eT (eB eqD (eV 3) (eC (.int 1)))) (sRet (eB addD (eB addD (eSl (eV 1) pNo (pSo (eV 2))) (eTup [eB ixD (eV 1) (eV 2)])) (eSl (eV 1) (pSo (eV 2)) pNo))) sNil)
    (sCons (sIf (eT (eB eqD (eV 3) (eC (.int 2)))) (sRet (eB addD (eU revD (eSl (eV 1) pNo (pSo (eV 2)))) (eSl (eV 1) (pSo (eV 2)) pNo))) sNil)
    (sCons (sIf (eT (eB eqD (eV 3) (eC (.int 3)))) (sRet (eN lstD [eV 1])) sNil)
    (sRet (eB addD (eB addD (eSl (eV 1) pNo (pSo (eV 2))) (eTup [eCall e__law_spoilt [eV 0, eB ixD (eV 1) (eV 2)]])) (eSl (eV 1) (pSo (eB addD (eV 2) (eC (.int 1)))) pNo))))))))) sNil)
    (sCons (sIf (tAnd (eT (eB eqD (eCall ev__law_draw [eV 0, eC (.int 3)]) (eC (.int 0)))) (eT (eU (isiD "int") (eV 1)))) (sRet (eCall ev__law_choice [eV 0, eLst [eB addD (eV 1) (eC (.int 1)), eB subD (eC (.int 0)) (eV 1), eB eqD (eV 1) (eC (.int 1)), eN strD [eV 1]]])) sNil)
    (sRet (eCall ev__law_odd [eV 0]))))
noncomputable def ev__law_spoilt : Nat → Fv
  | 0 => never
  | k + 1 => fnE 4 (b__law_spoilt (ev__law_spoilt k))
noncomputable def b__law_keys : EvS :=
  (sCons (sLet 2 (eLc (eIt (eV 1)) (.name 5) [5] tYes (eTup [eV 5])))
    (sCons (sFor (eIt (eV 1)) (.name 3) (sLet 2 (eB addD (eV 2) (eLc (eIt (eV 1)) (.name 7) [7] (eT (eB ltD (eV 3) (eV 7))) (eTup [eV 3, eV 7])))))
    (sCons (sLet 4 (eLc (eRng [eCall ev__law_choice [eV 0, eLst [eC (.int 0), eC (.int 1), eC (.int 1), eC (.int 2)]]]) (.name 6) [6] tYes (eCall ev__law_choice [eV 0, eV 2])))
    (sRet (eN tupD [eU srtSetD (eV 4)])))))
noncomputable def ev__law_keys : Fv := fnE 8 b__law_keys
noncomputable def b__law_schema : EvS :=
  (sCons (sLet 1 (eSl (eLst [eC (.str [97]), eC (.str [98, 98]), eC (.str [99, 97, 116]), eC (.str [100, 117, 110, 101])]) pNo (pSo (eB addD (eC (.int 1)) (eCall ev__law_draw [eV 0, eCall ev__law_choice [eV 0, eLst [eC (.int 2), eC (.int 3), eC (.int 4)]]])))))
    (sCons (sLet 2 (eTup []))
    (sCons (sFor (eIt (eV 1)) (.name 3) (sCons (sSet (.tup [.name 4, .name 5]) (eTup [eTup [], eTup []]))
    (sCons (sFor (eIt (eSl (eLst [eC (.str [102]), eC (.str [103, 103])]) pNo (pSo (eCall ev__law_draw [eV 0, eC (.int 3)])))) (.name 6) (sCons (sLet 7 (eCall ev__law_choice [eV 0, eLst [eC (.str [105, 110, 116]), eC (.str [116, 101, 120, 116])]]))
    (sLet 4 (eB addD (eV 4) (eTup [eTup [eV 6, eV 7, eB eqD (eCall ev__law_draw [eV 0, eC (.int 2)]) (eC (.int 0))]])))))
    (sCons (sFor (eIt (eSl (eLst [eC (.str [109]), eC (.str [110, 110])]) pNo (pSo (eCall ev__law_choice [eV 0, eLst [eC (.int 0), eC (.int 1), eC (.int 1), eC (.int 2), eC (.int 2)]])))) (.name 8) (sCons (sLet 9 (eB gtD (eCall ev__law_draw [eV 0, eC (.int 3)]) (eC (.int 0))))
    (sCons (sLet 10 (eIf (eT (eV 9)) (eLst [eC (.str [104, 111, 108, 100]), eC (.str [102, 111, 108, 108, 111, 119]), eC (.str [99, 108, 101, 97, 114])]) (eLst [eC (.str [104, 111, 108, 100]), eC (.str [102, 111, 108, 108, 111, 119])])))
    (sCons (sPar 11 12 (eCall ev__law_choice [eV 0, eV 1]) (eCall ev__law_choice [eV 0, eV 10]))
    (sLet 5 (eB addD (eV 5) (eTup [eTup [eV 8, eV 11, eV 9, eV 12]])))))))
    (sCons (sIf (eT (eB eqD (eB addD (eV 4) (eV 5)) (eTup []))) (sLet 4 (eTup [eTup [eC (.str [102]), eC (.str [105, 110, 116]), eC (.bl true)]])) sNil)
    (sCons (sLet 13 (eN srtD [eLc (eIt (eB addD (eV 4) (eV 5))) (.name 14) [14] tYes (eB ixD (eV 14) (eC (.int 0)))]))
    (sLet 2 (eB addD (eV 2) (eTup [eTup [eV 3, eV 4, eV 5, eCall ev__law_keys [eV 0, eV 13]]])))))))))
    (sRet (eV 2)))))
noncomputable def ev__law_schema : Fv := fnE 15 b__law_schema
noncomputable def b__law_is_tuple : EvS :=
  (sRet (eAnd (eU (isiD "tuple") (eV 0)) (eCh leD leD (eV 1) (eN lenD [eV 0]) (eV 2))))
noncomputable def ev__law_is_tuple : Fv := fnE 3 b__law_is_tuple
noncomputable def b__law_rises : EvS :=
  (sRet (eB eqD (eLc (eZip (eV 0) (eSl (eV 0) (pSo (eC (.int 1))) pNo)) (.tup [.name 1, .name 2]) [1, 2] (tNot (eT (eB ltD (eV 1) (eV 2)))) (eC (.int 1))) (eLst [])))
noncomputable def ev__law_rises : Fv := fnE 3 b__law_rises
noncomputable def b__law_is_word : EvS :=
  (sCons (sIf (tOr (tNot (eT (eU (isiD "str") (eV 0)))) (tNot (eT (eCh leD leD (eV 1) (eN lenD [eV 0]) (eC (.int 8)))))) (sRet (eC (.bl false))) sNil)
    (sRet (eB eqD (eLc (eIt (eV 0)) (.name 2) [2] (eT (eB notInD (eV 2) (eC (.str [97, 98, 99, 100, 101, 102, 103, 104, 105, 106, 107, 108, 109, 110, 111, 112, 113, 114, 115, 116, 117, 118, 119, 120, 121, 122])))) (eV 2)) (eLst []))))
noncomputable def ev__law_is_word : Fv := fnE 3 b__law_is_word
noncomputable def b__law_is_column : EvS :=
  (sCons (sLet 2 (eB addD (eC (.int 3)) (eN intD [eV 1])))
    (sCons (sIf (tOr (tNot (eT (eCall ev__law_is_tuple [eV 0, eV 2, eV 2]))) (tOr (tNot (eT (eCall ev__law_is_word [eB ixD (eV 0) (eC (.int 0)), eC (.int 1)]))) (tNot (eT (eU (isiD "bool") (eB ixD (eV 0) (eC (.int 2)))))))) (sRet (eC (.bl false))) sNil)
    (sCons (sIf (tNot (eT (eV 1))) (sRet (eAnd (eU (isiD "str") (eB ixD (eV 0) (eC (.int 1)))) (eB inD (eB ixD (eV 0) (eC (.int 1))) (eLst [eC (.str [105, 110, 116]), eC (.str [116, 101, 120, 116])])))) sNil)
    (sCons (sIf (tOr (tNot (eT (eCall ev__law_is_word [eB ixD (eV 0) (eC (.int 1)), eC (.int 1)]))) (tNot (eT (eU (isiD "str") (eB ixD (eV 0) (eC (.int 3))))))) (sRet (eC (.bl false))) sNil)
    (sRet (eB inD (eB ixD (eV 0) (eC (.int 3))) (eIf (eT (eB ixD (eV 0) (eC (.int 2)))) (eLst [eC (.str [104, 111, 108, 100]), eC (.str [102, 111, 108, 108, 111, 119]), eC (.str [99, 108, 101, 97, 114])]) (eLst [eC (.str [104, 111, 108, 100]), eC (.str [102, 111, 108, 108, 111, 119])]))))))))
noncomputable def ev__law_is_column : Fv := fnE 3 b__law_is_column
noncomputable def b__law_is_table : EvS :=
  (sCons (sIf (tOr (tNot (eT (eCall ev__law_is_tuple [eV 0, eC (.int 4), eC (.int 4)]))) (tNot (eT (eCall ev__law_is_word [eB ixD (eV 0) (eC (.int 0)), eC (.int 1)])))) (sRet (eC (.bl false))) sNil)
    (sCons (sFor (eZip (eSl (eV 0) (pSo (eC (.int 1))) pNo) (eLst [eC (.int 4), eC (.int 3), eC (.int 2)])) (.tup [.name 1, .name 2]) (sIf (tNot (eT (eCall ev__law_is_tuple [eV 1, eC (.int 0), eV 2]))) (sRet (eC (.bl false))) sNil))
    (sCons (sLet 3 (eLc (eIt (eB ixD (eV 0) (eC (.int 1)))) (.name 1) [1] tYes (eCall ev__law_is_column [eV 1, eC (.bl false)])))
    (sCons (sLet 3 (eB addD (eV 3) (eLc (eIt (eB ixD (eV 0) (eC (.int 2)))) (.name 1) [1] tYes (eCall ev__law_is_column [eV 1, eC (.bl true)]))))
    (sCons (sIf (tOr (eT (eB eqD (eV 3) (eLst []))) (eT (eB inD (eC (.bl false)) (eV 3)))) (sRet (eC (.bl false))) sNil)
    (sCons (sLet 4 (eLc (eIt (eB addD (eB ixD (eV 0) (eC (.int 1))) (eB ixD (eV 0) (eC (.int 2))))) (.name 1) [1] tYes (eB ixD (eV 1) (eC (.int 0)))))
    (sCons (sIf (eT (eB neD (eU lenSetD (eV 4)) (eN lenD [eV 4]))) (sRet (eC (.bl false))) sNil)
    (sCons (sFor (eIt (eB ixD (eV 0) (eC (.int 3)))) (.name 5) (sCons (sIf (tOr (tNot (eT (eCall ev__law_is_tuple [eV 5, eC (.int 1), eC (.int 3)]))) (eT (eB neD (eLc (eIt (eV 5)) (.name 6) [6] (tNot (eT (eU (isiD "str") (eV 6)))) (eC (.int 1))) (eLst [])))) (sRet (eC (.bl false))) sNil)
    (sIf (tOr (eT (eB neD (eLc (eIt (eV 5)) (.name 6) [6] (eT (eB notInD (eV 6) (eV 4))) (eV 6)) (eLst []))) (tNot (eT (eCall ev__law_rises [eV 5])))) (sRet (eC (.bl false))) sNil)))
    (sRet (eCall ev__law_rises [eB ixD (eV 0) (eC (.int 3))]))))))))))
noncomputable def ev__law_is_table : Fv := fnE 7 b__law_is_table
noncomputable def b__law_is_schema : EvS :=
  (sCons (sIf (tOr (tNot (eT (eCall ev__law_is_tuple [eV 0, eC (.int 1), eC (.int 4)]))) (eT (eB neD (eLc (eIt (eV 0)) (.name 1) [1] (tNot (eT (eCall ev__law_is_table [eV 1]))) (eV 1)) (eLst [])))) (sRet (eC (.bl false))) sNil)
    (sCons (sLet 2 (eLc (eIt (eV 0)) (.name 1) [1] tYes (eB ixD (eV 1) (eC (.int 0)))))
    (sCons (sFor (eIt (eV 0)) (.name 1) (sIf (eT (eB neD (eLc (eIt (eB ixD (eV 1) (eC (.int 2)))) (.name 3) [3] (eT (eB notInD (eB ixD (eV 3) (eC (.int 1))) (eV 2))) (eV 3)) (eLst []))) (sRet (eC (.bl false))) sNil))
    (sRet (eCall ev__law_rises [eV 2])))))
noncomputable def ev__law_is_schema : Fv := fnE 4 b__law_is_schema
noncomputable def b_check_schema : EvS :=
  (sIf (tNot (eT (eCall ev_can_be_schema [eV 0]))) (sRaise 0) sNil)
noncomputable def ev_check_schema : Fv := fnE 1 b_check_schema
noncomputable def b_place_of : EvS :=
  (sCons (sLet 2 (eLc (eIt (eV 0)) (.name 3) [3] tYes (eB ixD (eV 3) (eC (.int 0)))))
    (sRet (eIf (tAnd (eT (eU (isiD "str") (eV 1))) (eT (eB inD (eV 1) (eV 2)))) (eM1 kdLst lixD (eV 2) (eV 1)) (eC .non))))
noncomputable def ev_place_of : Fv := fnE 4 b_place_of
noncomputable def b_check_table : EvS :=
  (sIf (eT (eB isD (eCall ev_place_of [eV 0, eV 1]) (eC .non))) (sRaise 1) sNil)
noncomputable def ev_check_table : Fv := fnE 2 b_check_table
noncomputable def b_table_of : EvS :=
  (sRet (eB ixD (eV 0) (eCall ev_place_of [eV 0, eV 1])))
noncomputable def ev_table_of : Fv := fnE 2 b_table_of
noncomputable def b_columns : EvS :=
  (sCons (sDo (eCall ev_check_schema [eV 0]))
    (sCons (sDo (eCall ev_check_table [eV 0, eV 1]))
    (sRet (eWk (eCall ev_names_of [eCall ev_table_of [eV 0, eV 1]])))))
noncomputable def ev_columns : Fv := fnE 2 b_columns
noncomputable def b_links_to : EvS :=
  (sCons (sLet 2 (eLc2 (eIt (eV 0)) (.name 3) [3, 4] [4] tYes (eIt (eB ixD (eV 3) (eC (.int 2)))) (.name 4) (eT (eB eqD (eB ixD (eV 4) (eC (.int 1))) (eV 1))) (eTup [eB ixD (eV 3) (eC (.int 0)), eB ixD (eV 4) (eC (.int 0)), eB ixD (eV 4) (eC (.int 3))])))
    (sRet (eN srtD [eV 2])))
noncomputable def ev_links_to : Fv := fnE 5 b_links_to
noncomputable def b_holders : EvS :=
  (sCons (sDo (eCall ev_check_schema [eV 0]))
    (sCons (sDo (eCall ev_check_table [eV 0, eV 1]))
    (sRet (eLcN (eIt (eCall ev_links_to [eV 0, eV 1])) (.tup [.name 2, .name 3, .name 4]) [2, 3, 4] tYes (eTup [eV 2, eV 3])))))
noncomputable def ev_holders : Fv := fnE 5 b_holders
noncomputable def b__law_columns : EvS :=
  (sCons (sLet 1 (eLc (eIt (eB ixD (eV 0) (eC (.int 1)))) (.name 2) [2] tYes (eTup [eB ixD (eV 2) (eC (.int 0)), eB ixD (eV 2) (eC (.int 1)), eB ixD (eV 2) (eC (.int 2)), eC (.bl false)])))
    (sRet (eB addD (eV 1) (eLc (eIt (eB ixD (eV 0) (eC (.int 2)))) (.name 3) [3] tYes (eTup [eB ixD (eV 3) (eC (.int 0)), eB ixD (eV 3) (eC (.int 1)), eB ixD (eV 3) (eC (.int 2)), eC (.bl true)])))))
noncomputable def ev__law_columns : Fv := fnE 4 b__law_columns
noncomputable def b__law_names (x : Ex) : EvS :=
  (sCons (sLet 1 (eLst []))
    (sCons (sLet 1 (eB addD (eB addD (eV 1) (eB mulD (eLst [eC (.str [115, 99, 104, 101, 109, 97])]) (eN intD [eC (.bl (decide (x.cls = 0)))]))) (eB mulD (eLst [eC (.str [116, 97, 98, 108, 101])]) (eN intD [eC (.bl (decide (x.cls = 1)))]))))
    (sCons (sLet 1 (eB addD (eB addD (eV 1) (eB mulD (eLst [eC (.str [99, 111, 108, 117, 109, 110])]) (eN intD [eC (.bl (decide (x.cls = 2)))]))) (eB mulD (eLst [eC (.str [110, 117, 109, 98, 101, 114])]) (eN intD [eC (.bl (decide (x.cls = 3)))]))))
    (sCons (sLet 1 (eB addD (eB addD (eV 1) (eB mulD (eLst [eC (.str [118, 97, 108, 117, 101])]) (eN intD [eC (.bl (decide (x.cls = 4)))]))) (eB mulD (eLst [eC (.str [100, 97, 116, 97])]) (eN intD [eC (.bl (decide (x.cls = 5)))]))))
    (sCons (sLet 1 (eB addD (eV 1) (eB mulD (eLst [eC (.str [115, 116, 97, 116, 101, 109, 101, 110, 116])]) (eN intD [eC (.bl (decide (x.cls = 6)))]))))
    (sCons (sLet 1 (eB addD (eB addD (eV 1) (eB mulD (eLst [eC (.str [119, 114, 105, 116, 101, 115])]) (eN intD [eC (.bl (decide (x.cls = 7)))]))) (eB mulD (eLst [eC (.str [103, 111, 110, 101])]) (eN intD [eC (.bl (decide (x.cls = 8)))]))))
    (sCons (sLet 1 (eB addD (eB addD (eV 1) (eB mulD (eLst [eC (.str [110, 111, 116, 104, 105, 110, 103])]) (eN intD [eC (.bl (decide (x.cls = 9)))]))) (eB mulD (eLst [eC (.str [114, 101, 102, 117, 115, 101, 100])]) (eN intD [eC (.bl (decide (x.cls = 10)))]))))
    (sCons (sLet 1 (eB addD (eB addD (eV 1) (eB mulD (eLst [eC (.str [107, 110, 111, 116])]) (eN intD [eC (.bl (decide (x.cls = 11)))]))) (eB mulD (eLst [eC (.str [104, 101, 108, 100])]) (eN intD [eC (.bl (decide (x.cls = 12)))]))))
    (sCons (sLet 1 (eB addD (eB addD (eV 1) (eB mulD (eLst [eC (.str [115, 116, 97, 108, 101])]) (eN intD [eC (.bl (decide (x.cls = 13)))]))) (eB mulD (eLst [eC (.str [117, 110, 115, 111, 117, 110, 100])]) (eN intD [eC (.bl (decide (x.cls = 14)))]))))
    (sCons (sLet 1 (eB addD (eB addD (eV 1) (eB mulD (eLst [eC (.str [108, 111, 115, 116])]) (eN intD [eC (.bl (decide (x.cls = 15)))]))) (eB mulD (eLst [eC (.str [116, 101, 120, 116])]) (eN intD [eC (.bl (decide (x.cls = 16)))]))))
    (sCons (sLet 1 (eB addD (eB addD (eV 1) (eB mulD (eLst [eC (.str [109, 97, 110, 121])]) (eN intD [eC (.bl (decide (x.cls = 17)))]))) (eB mulD (eLst [eC (.str [112, 108, 97, 105, 110])]) (eN intD [eNot (eC (.bl true))]))))
    (sRet (eM1 kdStr joinD (eC (.str [32])) (eV 1))))))))))))))
noncomputable def ev__law_names : Ex → Mem → Res D := fnX 18 2 b__law_names
noncomputable def b_law_2 : EvS :=
  (sCons (sFor (eIt (eSl (eB addD (eLst [eC (.int 0)]) (eV 0)) pNo (pSo (eC (.int 10))))) (.name 1) (sCons (sLet 2 (eCall ev__law_source [eV 1, eC (.int 2)]))
    (sCons (sLet 10 (eCall ev__law_schema [eV 2]))
    (sCons (sFor (eIt (eV 10)) (.name 3) (sCons (sLet 4 (eN tupD [eLc (eIt (eCall ev__law_columns [eV 3])) (.name 11) [11] tYes (eB ixD (eV 11) (eC (.int 0)))]))
    (sCons (sIf (tNot (eT (eCall (ev__law_equal 12) [eCall ev_columns [eV 10, eB ixD (eV 3) (eC (.int 0))], eV 4]))) (sRet (eC (.bl false))) sNil)
    (sCons (sLet 5 (eLst []))
    (sCons (sFor (eIt (eV 10)) (.name 6) (sCons (sLet 7 (eLc (eIt (eCall ev__law_columns [eV 6])) (.name 11) [11] (eT (eB ixD (eV 11) (eC (.int 3)))) (eV 11)))
    (sLet 5 (eB addD (eV 5) (eLc (eIt (eV 7)) (.name 11) [11] (eT (eB eqD (eB ixD (eV 11) (eC (.int 1))) (eB ixD (eV 3) (eC (.int 0))))) (eTup [eB ixD (eV 6) (eC (.int 0)), eB ixD (eV 11) (eC (.int 0))]))))))
    (sCons (sLet 8 (eCall ev_holders [eV 10, eB ixD (eV 3) (eC (.int 0))]))
    (sCons (sIf (tNot (eT (eCall (ev__law_equal 12) [eV 8, eN srtD [eV 5]]))) (sRet (eC (.bl false))) sNil)
    (sCons (sDo (eM1 kdLst appD (eV 8) (eC .non)))
    (sIf (eT (eB neD (eCall ev_holders [eV 10, eB ixD (eV 3) (eC (.int 0))]) (eN srtD [eV 5]))) (sRet (eC (.bl false))) sNil)))))))))
    (sCons (sFor (eIt (eLst [eC (.str [122, 122]), eC (.str []), eC .non, eC (.int 5), eTup [eC (.str [97])], eC (.str [102]), eLst [eC (.str [97])]])) (.name 9) (sCons (sIf (eT (eB neD (eGive 1 (errR ev__law_names) (eCall ev_columns [eV 10, eV 9])) (eC (.str [116, 97, 98, 108, 101])))) (sRet (eC (.bl false))) sNil)
    (sIf (eT (eB neD (eGive 1 (errR ev__law_names) (eCall ev_holders [eV 10, eV 9])) (eC (.str [116, 97, 98, 108, 101])))) (sRet (eC (.bl false))) sNil)))
    (sFor (eIt (eLst [eC .non, eTup [], eN lstD [eV 10], eB addD (eV 10) (eV 10), eCall (ev__law_spoilt 12) [eV 2, eC (.int 5)]])) (.name 9) (sCons (sIf (eT (eB neD (eGive 1 (errR ev__law_names) (eCall ev_columns [eV 9, eC (.str [122, 122])])) (eC (.str [115, 99, 104, 101, 109, 97])))) (sRet (eC (.bl false))) sNil)
    (sIf (eT (eB neD (eGive 1 (errR ev__law_names) (eCall ev_holders [eV 9, eC (.str [97])])) (eC (.str [115, 99, 104, 101, 109, 97])))) (sRet (eC (.bl false))) sNil))))))))
    (sCons (sLet 3 (eTup [eC (.str [97]), eTup [eTup [eC (.str [102]), eC (.str [105, 110, 116]), eC (.bl true)]], eTup [eTup [eC (.str [109]), eC (.str [97]), eC (.bl true), eC (.str [104, 111, 108, 100])], eTup [eC (.str [98]), eC (.str [97]), eC (.bl true), eC (.str [99, 108, 101, 97, 114])]], eTup []]))
    (sRet (eAnd (eB eqD (eCall ev_columns [eTup [eV 3], eC (.str [97])]) (eTup [eC (.str [102]), eC (.str [109]), eC (.str [98])])) (eB eqD (eCall ev_holders [eTup [eV 3], eC (.str [97])]) (eLst [eTup [eC (.str [97]), eC (.str [98])], eTup [eC (.str [97]), eC (.str [109])]]))))))
noncomputable def ev_law_2 : Fv := fnE 12 b_law_2
end Mk
end

section
set_option maxHeartbeats 4000000
/-! printed by gen.py -/
open PySem PySem.Spec PyProof.Rows L2
namespace Mk
def top (i : Nat) : Stmt := PySem.Challenge.pw_mapkeep_k02_columns_and_links.main.body.getD i (.Pass ⟨0, 0, 0, 0⟩)
def FD (K : PySem.W.Frag) (mg : Str → Option Value) (x : Str) (st : Stmt) : Prop := ∃ f fd, mg x = some (.ref f) ∧ FunD K x x (defArgs st) (defBody st) (defScope st) [] [] f fd
theorem hu150 {k : Nat} {A : Around} (hr : Room k A) : A.units + 150 < cLine := by have := hr.un; omega
section
variable {P : Program} {w : World} {K : PySem.W.Frag} {mg : Str → Option Value} {base : Heap} {C : Cl} [NoX C]
/-! names_of -/
abbrev st_names_of : Stmt := top 30
theorem sc_names_of : FnScope ["table", "column"] ["table"] (defScope st_names_of) := ⟨rfl, rfl, rfl, by decide +kernel, rfl, by decide +kernel, by decide +kernel⟩
def sco_names_of_0 : Scope := { kind := PySem.ScopeKind.function, names := [(PySem.Str.ofString ".0", PySem.NameKind.local), (PySem.Str.ofString "column", PySem.NameKind.local)], isGenerator := false, isCoroutine := false, more := [] : PySem.Scope }
theorem blk_names_of_0 : BlkOk ["table", "column"] (defScope st_names_of) sco_names_of_0 [("column", 1)] := blkOk_by (by decide +kernel)
theorem ok_names_of (F : FD K mg "names_of" st_names_of) (m_tuple : mg "tuple" = none) : Def P w K mg base C "names_of" 1 1 ev_names_of := by
  obtain ⟨f, fd, g, F⟩ := F
  refine def_ok (k := 0) F g sc_names_of rfl (fun _ _ _ _ _ _ us hl => match us, hl with | [_], _ => rfl) fun cdv A outer s H E hr tk po => ?_
  have hu := hu150 hr
  exact (vss_one (vs_ret (v_callT cr_nmsD m_tuple boot_tuple (va_cons (v_lc [("column", 1)] rfl (sc_names_of).nd blk_names_of_0 (by simp [Tg.slots, Tg.slotss]) (v_iter (v_bin op_addD (v_ix (v_var 0) v_int) (v_ix (v_var 0) v_int))) (fun _ _ _ _ _ => vg_name 1 (sc_names_of).nd) (fun _ _ _ _ _ => vts_nil) (fun _ _ _ _ _ => v_ix (v_var 1) v_int)) va_nil))))
/-! is_tuple -/
abbrev st_is_tuple : Stmt := top 24
theorem sc_is_tuple : FnScope ["value", "low", "high"] ["value", "low", "high"] (defScope st_is_tuple) := ⟨rfl, rfl, rfl, by decide +kernel, rfl, by decide +kernel, by decide +kernel⟩
theorem ok_is_tuple (F : FD K mg "is_tuple" st_is_tuple) (m_isinstance : mg "isinstance" = none) (m_len : mg "len" = none) (m_tuple : mg "tuple" = none) : Def P w K mg base C "is_tuple" 1 3 ev_is_tuple := by
  obtain ⟨f, fd, g, F⟩ := F
  refine def_ok (k := 0) F g sc_is_tuple rfl (fun _ _ _ _ _ _ us hl => match us, hl with | [_, _, _], _ => rfl) fun cdv A outer s H E hr tk po => ?_
  have hu := hu150 hr
  exact (vss_one (vs_ret (v_and (v_isi (T := "tuple") (v_var 0) m_isinstance m_tuple) (v_one (v_ch (op_leD hu) (op_leD hu) (v_var 1) (v_callB cr_lenD m_len boot_len (va_cons (v_var 0) va_nil)) (v_var 2))))))
/-! is_rising -/
abbrev st_is_rising : Stmt := top 25
theorem sc_is_rising : FnScope ["items", "first", "second"] ["items"] (defScope st_is_rising) := ⟨rfl, rfl, rfl, by decide +kernel, rfl, by decide +kernel, by decide +kernel⟩
def sco_is_rising_0 : Scope := { kind := PySem.ScopeKind.function, names := [ (PySem.Str.ofString ".0", PySem.NameKind.local), (PySem.Str.ofString "first", PySem.NameKind.local), (PySem.Str.ofString "second", PySem.NameKind.local)], isGenerator := false, isCoroutine := false, more := [] : PySem.Scope }
theorem blk_is_rising_0 : BlkOk ["items", "first", "second"] (defScope st_is_rising) sco_is_rising_0 [("first", 1), ("second", 2)] := blkOk_by (by decide +kernel)
theorem ok_is_rising (F : FD K mg "is_rising" st_is_rising) (m_all : mg "all" = none) (m_zip : mg "zip" = none) : Def P w K mg base C "is_rising" 1 1 ev_is_rising := by
  obtain ⟨f, fd, g, F⟩ := F
  refine def_ok (k := 0) F g sc_is_rising rfl (fun _ _ _ _ _ _ us hl => match us, hl with | [_], _ => rfl) fun cdv A outer s H E hr tk po => ?_
  have hu := hu150 hr
  exact (vss_one (vs_ret (v_callB (cr_allD rfl) m_all boot_all (va_cons (v_lc [("first", 1), ("second", 2)] rfl (sc_is_rising).nd blk_is_rising_0 (by simp [Tg.slots, Tg.slotss]) (v_zip (v_var 0) (v_sl (v_var 0) (vp_so v_int) vp_no) m_zip) (fun _ _ _ _ _ => vg_tup rfl (vgs_cons (vg_name 1 (sc_is_rising).nd) (vgs_cons (vg_name 2 (sc_is_rising).nd) vgs_nil))) (fun _ _ _ _ _ => vts_nil) (fun _ _ _ _ _ => v_cmp (op_ltD hu) (v_var 1) (v_var 2))) va_nil))))
/-! is_word -/
abbrev st_is_word : Stmt := top 23
theorem sc_is_word : FnScope ["value", "least", "sign"] ["value", "least"] (defScope st_is_word) := ⟨rfl, rfl, rfl, by decide +kernel, rfl, by decide +kernel, by decide +kernel⟩
def sco_is_word_0 : Scope := { kind := PySem.ScopeKind.function, names := [ (PySem.Str.ofString ".0", PySem.NameKind.local), (PySem.Str.ofString "sign", PySem.NameKind.local), (PySem.Str.ofString "LETTERS", PySem.NameKind.globalImplicit)], isGenerator := false, isCoroutine := false, more := [] : PySem.Scope }
theorem blk_is_word_0 : BlkOk ["value", "least", "sign"] (defScope st_is_word) sco_is_word_0 [("sign", 2)] := blkOk_by (by decide +kernel)
theorem ok_is_word (F : FD K mg "is_word" st_is_word) (m_all : mg "all" = none) (m_isinstance : mg "isinstance" = none) (m_len : mg "len" = none) (m_str : mg "str" = none) (h_LETTERS : Dat K C mg "LETTERS" g_LETTERS) : Def P w K mg base C "is_word" 1 2 ev_is_word := by
  obtain ⟨f, fd, g, F⟩ := F
  refine def_ok (k := 0) F g sc_is_word rfl (fun _ _ _ _ _ _ us hl => match us, hl with | [_, _], _ => rfl) fun cdv A outer s H E hr tk po => ?_
  have hu := hu150 hr
  exact (vss_cons (vs_if (vt_w (vw_or (vt_not (vt_val (v_isi (T := "str") (v_var 0) m_isinstance m_str))) (vw_or1 (vt_not (vt_ch (op_leD hu) (op_leD hu) (v_var 1) (v_callB cr_lenD m_len boot_len (va_cons (v_var 0) va_nil)) v_int))))) (vss_one (vs_ret (v_bl))) vss_nil)
    (vss_one (vs_ret (v_callB (cr_allD rfl) m_all boot_all (va_cons (v_lc [("sign", 2)] rfl (sc_is_word).nd blk_is_word_0 (by simp [Tg.slots, Tg.slotss]) (v_iter (v_var 0)) (fun _ _ _ _ _ => vg_name 2 (sc_is_word).nd) (fun _ _ _ _ _ => vts_nil) (fun _ _ _ _ _ => v_cmp (op_inD' hu) (v_var 2) (v_dat h_LETTERS))) va_nil)))))
/-! is_field -/
abbrev st_is_field : Stmt := top 26
theorem sc_is_field : FnScope ["value"] ["value"] (defScope st_is_field) := ⟨rfl, rfl, rfl, by decide +kernel, rfl, by decide +kernel, by decide +kernel⟩
theorem ok_is_field (F : FD K mg "is_field" st_is_field) (m_bool : mg "bool" = none) (m_isinstance : mg "isinstance" = none) (m_str : mg "str" = none) (d_is_word : Def P w K mg base C "is_word" 1 2 ev_is_word) (d_is_tuple : Def P w K mg base C "is_tuple" 1 3 ev_is_tuple) : Def P w K mg base C "is_field" 2 1 ev_is_field := by
  obtain ⟨f, fd, g, F⟩ := F
  refine def_ok (k := 1) F g sc_is_field rfl (fun _ _ _ _ _ _ us hl => match us, hl with | [_], _ => rfl) fun cdv A outer s H E hr tk po => ?_
  have hu := hu150 hr
  exact (vss_cons (vs_if (vt_w (vw_or (vt_not (vt_val (v_call d_is_tuple (by decide) hr tk (va_cons (v_var 0) (va_cons v_int (va_cons v_int va_nil)))))) (vw_or1 (vt_not (vt_val (v_call d_is_word (by decide) hr tk (va_cons (v_ix (v_var 0) v_int) (va_cons v_int va_nil)))))))) (vss_one (vs_ret (v_bl))) vss_nil)
    (vss_one (vs_ret (v_and (v_isi (T := "str") (v_ix (v_var 0) v_int) m_isinstance m_str) (v_and (v_cmp (op_inD' hu) (v_ix (v_var 0) v_int) (v_tup (va_cons v_str (va_cons v_str va_nil)))) (v_one (v_isi (T := "bool") (v_ix (v_var 0) v_int) m_isinstance m_bool)))))))
/-! is_link -/
abbrev st_is_link : Stmt := top 27
theorem sc_is_link : FnScope ["value"] ["value"] (defScope st_is_link) := ⟨rfl, rfl, rfl, by decide +kernel, rfl, by decide +kernel, by decide +kernel⟩
theorem ok_is_link (F : FD K mg "is_link" st_is_link) (m_bool : mg "bool" = none) (m_isinstance : mg "isinstance" = none) (m_str : mg "str" = none) (h_RULES : Dat K C mg "RULES" g_RULES) (d_is_word : Def P w K mg base C "is_word" 1 2 ev_is_word) (d_is_tuple : Def P w K mg base C "is_tuple" 1 3 ev_is_tuple) : Def P w K mg base C "is_link" 2 1 ev_is_link := by
  obtain ⟨f, fd, g, F⟩ := F
  refine def_ok (k := 1) F g sc_is_link rfl (fun _ _ _ _ _ _ us hl => match us, hl with | [_], _ => rfl) fun cdv A outer s H E hr tk po => ?_
  have hu := hu150 hr
  exact (vss_cons (vs_if (vt_w (vw_or (vt_not (vt_val (v_call d_is_tuple (by decide) hr tk (va_cons (v_var 0) (va_cons v_int (va_cons v_int va_nil)))))) (vw_or (vt_not (vt_val (v_call d_is_word (by decide) hr tk (va_cons (v_ix (v_var 0) v_int) (va_cons v_int va_nil))))) (vw_or1 (vt_not (vt_val (v_call d_is_word (by decide) hr tk (va_cons (v_ix (v_var 0) v_int) (va_cons v_int va_nil))))))))) (vss_one (vs_ret (v_bl))) vss_nil)
    (vss_cons (vs_if (vt_w (vw_or (vt_not (vt_val (v_isi (T := "bool") (v_ix (v_var 0) v_int) m_isinstance m_bool))) (vw_or (vt_not (vt_val (v_isi (T := "str") (v_ix (v_var 0) v_int) m_isinstance m_str))) (vw_or1 (vt_cmp (op_notInD' hu) (v_ix (v_var 0) v_int) (v_dat h_RULES)))))) (vss_one (vs_ret (v_bl))) vss_nil)
    (vss_one (vs_ret (v_or (v_ix (v_var 0) v_int) (v_one (v_cmp (op_neD' hu) (v_ix (v_var 0) v_int) v_str)))))))
/-! is_key -/
abbrev st_is_key : Stmt := top 28
theorem sc_is_key : FnScope ["names", "value", "name"] ["names", "value"] (defScope st_is_key) := ⟨rfl, rfl, rfl, by decide +kernel, rfl, by decide +kernel, by decide +kernel⟩
def sco_is_key_0 : Scope := { kind := PySem.ScopeKind.function, names := [ (PySem.Str.ofString ".0", PySem.NameKind.local), (PySem.Str.ofString "name", PySem.NameKind.local), (PySem.Str.ofString "isinstance", PySem.NameKind.globalImplicit), (PySem.Str.ofString "str", PySem.NameKind.globalImplicit), (PySem.Str.ofString "names", PySem.NameKind.free)], isGenerator := false, isCoroutine := false, more := [] : PySem.Scope }
theorem blk_is_key_0 : BlkOk ["names", "value", "name"] (defScope st_is_key) sco_is_key_0 [("name", 2)] := blkOk_by (by decide +kernel)
theorem ok_is_key (F : FD K mg "is_key" st_is_key) (m_all : mg "all" = none) (m_isinstance : mg "isinstance" = none) (m_str : mg "str" = none) (d_is_tuple : Def P w K mg base C "is_tuple" 1 3 ev_is_tuple) (d_is_rising : Def P w K mg base C "is_rising" 1 1 ev_is_rising) : Def P w K mg base C "is_key" 2 2 ev_is_key := by
  obtain ⟨f, fd, g, F⟩ := F
  refine def_ok (k := 1) F g sc_is_key rfl (fun _ _ _ _ _ _ us hl => match us, hl with | [_, _], _ => rfl) fun cdv A outer s H E hr tk po => ?_
  have hu := hu150 hr
  exact (vss_cons (vs_if (vt_w (vw_or (vt_not (vt_val (v_call d_is_tuple (by decide) hr tk (va_cons (v_var 1) (va_cons v_int (va_cons v_int va_nil)))))) (vw_or1 (vt_not (vt_val (v_callB (cr_allD rfl) m_all boot_all (va_cons (v_lc [("name", 2)] rfl (sc_is_key).nd blk_is_key_0 (by simp [Tg.slots, Tg.slotss]) (v_iter (v_var 1)) (fun _ _ _ _ _ => vg_name 2 (sc_is_key).nd) (fun _ _ _ _ _ => vts_nil) (fun _ _ _ _ _ => v_and (v_isi (T := "str") (v_var 2) m_isinstance m_str) (v_one (v_cmp (op_inD' hu) (v_var 2) (v_var 0))))) va_nil))))))) (vss_one (vs_ret (v_bl))) vss_nil)
    (vss_one (vs_ret (v_call d_is_rising (by decide) hr tk (va_cons (v_var 1) va_nil)))))
/-! is_table -/
abbrev st_is_table : Stmt := top 29
theorem sc_is_table : FnScope ["value", "names", "field", "link", "key"] ["value"] (defScope st_is_table) := ⟨rfl, rfl, rfl, by decide +kernel, rfl, by decide +kernel, by decide +kernel⟩
def sco_is_table_0 : Scope := { kind := PySem.ScopeKind.function, names := [ (PySem.Str.ofString ".0", PySem.NameKind.local), (PySem.Str.ofString "field", PySem.NameKind.local), (PySem.Str.ofString "is_field", PySem.NameKind.globalImplicit)], isGenerator := false, isCoroutine := false, more := [] : PySem.Scope }
def sco_is_table_1 : Scope := { kind := PySem.ScopeKind.function, names := [ (PySem.Str.ofString ".0", PySem.NameKind.local), (PySem.Str.ofString "link", PySem.NameKind.local), (PySem.Str.ofString "is_link", PySem.NameKind.globalImplicit)], isGenerator := false, isCoroutine := false, more := [] : PySem.Scope }
def sco_is_table_2 : Scope := { kind := PySem.ScopeKind.function, names := [ (PySem.Str.ofString ".0", PySem.NameKind.local), (PySem.Str.ofString "key", PySem.NameKind.local), (PySem.Str.ofString "is_key", PySem.NameKind.globalImplicit), (PySem.Str.ofString "names", PySem.NameKind.free)], isGenerator := false, isCoroutine := false, more := [] : PySem.Scope }
theorem blk_is_table_0 : BlkOk ["value", "names", "field", "link", "key"] (defScope st_is_table) sco_is_table_0 [("field", 2)] := blkOk_by (by decide +kernel)
theorem blk_is_table_1 : BlkOk ["value", "names", "field", "link", "key"] (defScope st_is_table) sco_is_table_1 [("link", 3)] := blkOk_by (by decide +kernel)
theorem blk_is_table_2 : BlkOk ["value", "names", "field", "link", "key"] (defScope st_is_table) sco_is_table_2 [("key", 4)] := blkOk_by (by decide +kernel)
theorem ok_is_table (F : FD K mg "is_table" st_is_table) (m_all : mg "all" = none) (m_len : mg "len" = none) (m_set : mg "set" = none) (d_is_word : Def P w K mg base C "is_word" 1 2 ev_is_word) (d_is_tuple : Def P w K mg base C "is_tuple" 1 3 ev_is_tuple) (d_is_rising : Def P w K mg base C "is_rising" 1 1 ev_is_rising) (d_is_field : Def P w K mg base C "is_field" 2 1 ev_is_field) (d_is_link : Def P w K mg base C "is_link" 2 1 ev_is_link) (d_is_key : Def P w K mg base C "is_key" 2 2 ev_is_key) (d_names_of : Def P w K mg base C "names_of" 1 1 ev_names_of) : Def P w K mg base C "is_table" 3 1 ev_is_table := by
  obtain ⟨f, fd, g, F⟩ := F
  refine def_ok (k := 2) F g sc_is_table rfl (fun _ _ _ _ _ _ us hl => match us, hl with | [_], _ => rfl) fun cdv A outer s H E hr tk po => ?_
  have hu := hu150 hr
  exact (vss_cons (vs_if (vt_w (vw_or (vt_not (vt_val (v_call d_is_tuple (by decide) hr tk (va_cons (v_var 0) (va_cons v_int (va_cons v_int va_nil)))))) (vw_or1 (vt_not (vt_val (v_call d_is_word (by decide) hr tk (va_cons (v_ix (v_var 0) v_int) (va_cons v_int va_nil)))))))) (vss_one (vs_ret (v_bl))) vss_nil)
    (vss_cons (vs_if (vt_w (vw_or (vt_not (vt_val (v_call d_is_tuple (by decide) hr tk (va_cons (v_ix (v_var 0) v_int) (va_cons v_int (va_cons v_int va_nil)))))) (vw_or1 (vt_not (vt_val (v_callB (cr_allD rfl) m_all boot_all (va_cons (v_lc [("field", 2)] rfl (sc_is_table).nd blk_is_table_0 (by simp [Tg.slots, Tg.slotss]) (v_iter (v_ix (v_var 0) v_int)) (fun _ _ _ _ _ => vg_name 2 (sc_is_table).nd) (fun _ _ _ _ _ => vts_nil) (fun _ _ _ _ _ => v_call d_is_field (by decide) hr L2.takes0 (va_cons (v_var 2) va_nil))) va_nil))))))) (vss_one (vs_ret (v_bl))) vss_nil)
    (vss_cons (vs_if (vt_w (vw_or (vt_not (vt_val (v_call d_is_tuple (by decide) hr tk (va_cons (v_ix (v_var 0) v_int) (va_cons v_int (va_cons v_int va_nil)))))) (vw_or1 (vt_not (vt_val (v_callB (cr_allD rfl) m_all boot_all (va_cons (v_lc [("link", 3)] rfl (sc_is_table).nd blk_is_table_1 (by simp [Tg.slots, Tg.slotss]) (v_iter (v_ix (v_var 0) v_int)) (fun _ _ _ _ _ => vg_name 3 (sc_is_table).nd) (fun _ _ _ _ _ => vts_nil) (fun _ _ _ _ _ => v_call d_is_link (by decide) hr L2.takes0 (va_cons (v_var 3) va_nil))) va_nil))))))) (vss_one (vs_ret (v_bl))) vss_nil)
    (vss_cons (vs_let 1 (sc_is_table).nd (v_call d_names_of (by decide) hr tk (va_cons (v_var 0) va_nil)))
    (vss_cons (vs_if (vt_w (vw_or (vt_cmp (op_eqD' hu) (v_var 1) (v_tup va_nil)) (vw_or1 (vt_cmp (op_neD' hu) (v_lenSet rfl hu m_len m_set (v_var 1)) (v_callB cr_lenD m_len boot_len (va_cons (v_var 1) va_nil)))))) (vss_one (vs_ret (v_bl))) vss_nil)
    (vss_cons (vs_if (vt_w (vw_or (vt_not (vt_val (v_call d_is_tuple (by decide) hr tk (va_cons (v_ix (v_var 0) v_int) (va_cons v_int (va_cons v_int va_nil)))))) (vw_or1 (vt_not (vt_val (v_callB (cr_allD rfl) m_all boot_all (va_cons (v_lc [("key", 4)] rfl (sc_is_table).nd blk_is_table_2 (by simp [Tg.slots, Tg.slotss]) (v_iter (v_ix (v_var 0) v_int)) (fun _ _ _ _ _ => vg_name 4 (sc_is_table).nd) (fun _ _ _ _ _ => vts_nil) (fun _ _ _ _ _ => v_call d_is_key (by decide) hr L2.takes0 (va_cons (v_var 1) (va_cons (v_var 4) va_nil)))) va_nil))))))) (vss_one (vs_ret (v_bl))) vss_nil)
    (vss_one (vs_ret (v_call d_is_rising (by decide) hr tk (va_cons (v_ix (v_var 0) v_int) va_nil))))))))))
/-! can_be_schema -/
abbrev st_can_be_schema : Stmt := top 31
theorem sc_can_be_schema : FnScope ["value", "names", "table", "link"] ["value"] (defScope st_can_be_schema) := ⟨rfl, rfl, rfl, by decide +kernel, rfl, by decide +kernel, by decide +kernel⟩
def sco_can_be_schema_0 : Scope := { kind := PySem.ScopeKind.function, names := [ (PySem.Str.ofString ".0", PySem.NameKind.local), (PySem.Str.ofString "table", PySem.NameKind.local), (PySem.Str.ofString "is_table", PySem.NameKind.globalImplicit)], isGenerator := false, isCoroutine := false, more := [] : PySem.Scope }
def sco_can_be_schema_1 : Scope := { kind := PySem.ScopeKind.function, names := [(PySem.Str.ofString ".0", PySem.NameKind.local), (PySem.Str.ofString "table", PySem.NameKind.local)], isGenerator := false, isCoroutine := false, more := [] : PySem.Scope }
def sco_can_be_schema_2 : Scope := { kind := PySem.ScopeKind.function, names := [ (PySem.Str.ofString ".0", PySem.NameKind.local), (PySem.Str.ofString "table", PySem.NameKind.local), (PySem.Str.ofString "link", PySem.NameKind.local), (PySem.Str.ofString "names", PySem.NameKind.free)], isGenerator := false, isCoroutine := false, more := [] : PySem.Scope }
theorem blk_can_be_schema_0 : BlkOk ["value", "names", "table", "link"] (defScope st_can_be_schema) sco_can_be_schema_0 [("table", 2)] := blkOk_by (by decide +kernel)
theorem blk_can_be_schema_1 : BlkOk ["value", "names", "table", "link"] (defScope st_can_be_schema) sco_can_be_schema_1 [("table", 2)] := blkOk_by (by decide +kernel)
theorem blk_can_be_schema_2 : BlkOk ["value", "names", "table", "link"] (defScope st_can_be_schema) sco_can_be_schema_2 [("table", 2), ("link", 3)] := blkOk_by (by decide +kernel)
theorem ok_can_be_schema (F : FD K mg "can_be_schema" st_can_be_schema) (m_all : mg "all" = none) (d_is_tuple : Def P w K mg base C "is_tuple" 1 3 ev_is_tuple) (d_is_rising : Def P w K mg base C "is_rising" 1 1 ev_is_rising) (d_is_table : Def P w K mg base C "is_table" 3 1 ev_is_table) : Def P w K mg base C "can_be_schema" 4 1 ev_can_be_schema := by
  obtain ⟨f, fd, g, F⟩ := F
  refine def_ok (k := 3) F g sc_can_be_schema rfl (fun _ _ _ _ _ _ us hl => match us, hl with | [_], _ => rfl) fun cdv A outer s H E hr tk po => ?_
  have hu := hu150 hr
  exact (vss_cons (vs_if (vt_w (vw_or (vt_not (vt_val (v_call d_is_tuple (by decide) hr tk (va_cons (v_var 0) (va_cons v_int (va_cons v_int va_nil)))))) (vw_or1 (vt_not (vt_val (v_callB (cr_allD rfl) m_all boot_all (va_cons (v_lc [("table", 2)] rfl (sc_can_be_schema).nd blk_can_be_schema_0 (by simp [Tg.slots, Tg.slotss]) (v_iter (v_var 0)) (fun _ _ _ _ _ => vg_name 2 (sc_can_be_schema).nd) (fun _ _ _ _ _ => vts_nil) (fun _ _ _ _ _ => v_call d_is_table (by decide) hr L2.takes0 (va_cons (v_var 2) va_nil))) va_nil))))))) (vss_one (vs_ret (v_bl))) vss_nil)
    (vss_cons (vs_let 1 (sc_can_be_schema).nd (v_lc [("table", 2)] rfl (sc_can_be_schema).nd blk_can_be_schema_1 (by simp [Tg.slots, Tg.slotss]) (v_iter (v_var 0)) (fun _ _ _ _ _ => vg_name 2 (sc_can_be_schema).nd) (fun _ _ _ _ _ => vts_nil) (fun _ _ _ _ _ => v_ix (v_var 2) v_int)))
    (vss_one (vs_ret (v_and (v_call d_is_rising (by decide) hr tk (va_cons (v_var 1) va_nil)) (v_one (v_callB (cr_allD rfl) m_all boot_all (va_cons (v_lc2 [("table", 2), ("link", 3)] [3] rfl (sc_can_be_schema).nd blk_can_be_schema_2 (by simp [Tg.slots, Tg.slotss]) (by decide) (by simp [Tg.slots, Tg.slotss]) (v_iter (v_var 0)) (fun _ _ _ _ _ => vg_name 2 (sc_can_be_schema).nd) (fun _ _ _ _ _ => vts_nil) (fun _ _ _ _ _ => v_iter (v_ix (v_var 2) v_int)) (fun _ _ _ _ _ => vg_name 3 (sc_can_be_schema).nd) (fun _ _ _ _ _ => vts_nil) (fun _ _ _ _ _ => v_cmp (op_inD' hu) (v_ix (v_var 3) v_int) (v_var 1))) va_nil))))))))
/-! check_schema -/
abbrev st_check_schema : Stmt := top 32
theorem sc_check_schema : FnScope ["schema"] ["schema"] (defScope st_check_schema) := ⟨rfl, rfl, rfl, by decide +kernel, rfl, by decide +kernel, by decide +kernel⟩
theorem ok_check_schema (F : FD K mg "check_schema" st_check_schema) (o_InvalidSchema : OwnC K mg (C.adr 0) "InvalidSchema" [.type "ValueError", .type "Exception", .type "BaseException", .type "object"]) (d_can_be_schema : Def P w K mg base C "can_be_schema" 4 1 ev_can_be_schema) : Def P w K mg base C "check_schema" 5 1 ev_check_schema := by
  obtain ⟨f, fd, g, F⟩ := F
  refine def_ok (k := 4) F g sc_check_schema rfl (fun _ _ _ _ _ _ us hl => match us, hl with | [_], _ => rfl) fun cdv A outer s H E hr tk po => ?_
  have hu := hu150 hr
  exact (vss_one (vs_if (vt_not (vt_val (v_call d_can_be_schema (by decide) hr tk (va_cons (v_var 0) va_nil)))) (vss_one (vs_raise (c := 0) o_InvalidSchema tk)) vss_nil))
/-! place_of -/
abbrev st_place_of : Stmt := top 33
theorem sc_place_of : FnScope ["schema", "name", "names", "table"] ["schema", "name"] (defScope st_place_of) := ⟨rfl, rfl, rfl, by decide +kernel, rfl, by decide +kernel, by decide +kernel⟩
def sco_place_of_0 : Scope := { kind := PySem.ScopeKind.function, names := [(PySem.Str.ofString ".0", PySem.NameKind.local), (PySem.Str.ofString "table", PySem.NameKind.local)], isGenerator := false, isCoroutine := false, more := [] : PySem.Scope }
theorem blk_place_of_0 : BlkOk ["schema", "name", "names", "table"] (defScope st_place_of) sco_place_of_0 [("table", 3)] := blkOk_by (by decide +kernel)
theorem ok_place_of (F : FD K mg "place_of" st_place_of) (m_isinstance : mg "isinstance" = none) (m_str : mg "str" = none) : Def P w K mg base C "place_of" 1 2 ev_place_of := by
  obtain ⟨f, fd, g, F⟩ := F
  refine def_ok (k := 0) F g sc_place_of rfl (fun _ _ _ _ _ _ us hl => match us, hl with | [_, _], _ => rfl) fun cdv A outer s H E hr tk po => ?_
  have hu := hu150 hr
  exact (vss_cons (vs_letLc 2 [("table", 3)] rfl (sc_place_of).nd blk_place_of_0 (by simp [Tg.slots, Tg.slotss]) (v_iter (v_var 0)) (fun _ _ _ _ _ => vg_name 3 (sc_place_of).nd) (fun _ _ _ _ _ => vts_nil) (fun _ _ _ _ _ => v_ix (v_var 3) v_int) (sw_true rfl rfl (by decide) (by decide)))
    (vss_one (vs_ret (v_if (vt_w (vw_and (vt_val (v_isi (T := "str") (v_var 1) m_isinstance m_str)) (vw_and1 (vt_cmp (op_inD' hu) (v_var 1) (v_var 2))))) (v_meth1 kd_lst mt_lix PySem.F.plainAttrs_list PySem.F.slot_list_index PySem.F.type_list_index (v_var 2) (v_var 1)) v_non))))
/-! check_table -/
abbrev st_check_table : Stmt := top 34
theorem sc_check_table : FnScope ["schema", "table"] ["schema", "table"] (defScope st_check_table) := ⟨rfl, rfl, rfl, by decide +kernel, rfl, by decide +kernel, by decide +kernel⟩
theorem ok_check_table (F : FD K mg "check_table" st_check_table) (o_InvalidTable : OwnC K mg (C.adr 1) "InvalidTable" [.type "ValueError", .type "Exception", .type "BaseException", .type "object"]) (d_place_of : Def P w K mg base C "place_of" 1 2 ev_place_of) : Def P w K mg base C "check_table" 2 2 ev_check_table := by
  obtain ⟨f, fd, g, F⟩ := F
  refine def_ok (k := 1) F g sc_check_table rfl (fun _ _ _ _ _ _ us hl => match us, hl with | [_, _], _ => rfl) fun cdv A outer s H E hr tk po => ?_
  have hu := hu150 hr
  exact (vss_one (vs_if (vt_cmp op_isD (v_call d_place_of (by decide) hr tk (va_cons (v_var 0) (va_cons (v_var 1) va_nil))) v_non) (vss_one (vs_raise (c := 1) o_InvalidTable tk)) vss_nil))
/-! table_of -/
abbrev st_table_of : Stmt := top 35
theorem sc_table_of : FnScope ["schema", "name"] ["schema", "name"] (defScope st_table_of) := ⟨rfl, rfl, rfl, by decide +kernel, rfl, by decide +kernel, by decide +kernel⟩
theorem ok_table_of (F : FD K mg "table_of" st_table_of) (d_place_of : Def P w K mg base C "place_of" 1 2 ev_place_of) : Def P w K mg base C "table_of" 2 2 ev_table_of := by
  obtain ⟨f, fd, g, F⟩ := F
  refine def_ok (k := 1) F g sc_table_of rfl (fun _ _ _ _ _ _ us hl => match us, hl with | [_, _], _ => rfl) fun cdv A outer s H E hr tk po => ?_
  have hu := hu150 hr
  exact (vss_one (vs_ret (v_ix (v_var 0) (v_call d_place_of (by decide) hr tk (va_cons (v_var 0) (va_cons (v_var 1) va_nil))))))
/-! columns -/
abbrev st_columns : Stmt := top 37
theorem sc_columns : FnScope ["schema", "table"] ["schema", "table"] (defScope st_columns) := ⟨rfl, rfl, rfl, by decide +kernel, rfl, by decide +kernel, by decide +kernel⟩
theorem ok_columns (F : FD K mg "columns" st_columns) (d_names_of : Def P w K mg base C "names_of" 1 1 ev_names_of) (d_check_schema : Def P w K mg base C "check_schema" 5 1 ev_check_schema) (d_check_table : Def P w K mg base C "check_table" 2 2 ev_check_table) (d_table_of : Def P w K mg base C "table_of" 2 2 ev_table_of) : Def P w K mg base C "columns" 6 2 ev_columns := by
  obtain ⟨f, fd, g, F⟩ := F
  refine def_ok (k := 5) F g sc_columns rfl (fun _ _ _ _ _ _ us hl => match us, hl with | [_, _], _ => rfl) fun cdv A outer s H E hr tk po => ?_
  have hu := hu150 hr
  exact (vss_cons (vs_do (v_call d_check_schema (by decide) hr tk (va_cons (v_var 0) va_nil)))
    (vss_cons (vs_do (v_call d_check_table (by decide) hr tk (va_cons (v_var 0) (va_cons (v_var 1) va_nil))))
    (vss_one (vs_ret (v_weak (v_call d_names_of (by decide) hr tk (va_cons (v_call d_table_of (by decide) hr tk (va_cons (v_var 0) (va_cons (v_var 1) va_nil))) va_nil)))))))
/-! links_to -/
abbrev st_links_to : Stmt := top 36
theorem sc_links_to : FnScope ["schema", "target", "found", "table", "link"] ["schema", "target"] (defScope st_links_to) := ⟨rfl, rfl, rfl, by decide +kernel, rfl, by decide +kernel, by decide +kernel⟩
def sco_links_to_0 : Scope := { kind := PySem.ScopeKind.function, names := [ (PySem.Str.ofString ".0", PySem.NameKind.local), (PySem.Str.ofString "table", PySem.NameKind.local), (PySem.Str.ofString "link", PySem.NameKind.local), (PySem.Str.ofString "target", PySem.NameKind.free)], isGenerator := false, isCoroutine := false, more := [] : PySem.Scope }
theorem blk_links_to_0 : BlkOk ["schema", "target", "found", "table", "link"] (defScope st_links_to) sco_links_to_0 [("table", 3), ("link", 4)] := blkOk_by (by decide +kernel)
theorem ok_links_to (F : FD K mg "links_to" st_links_to) (m_sorted : mg "sorted" = none) : Def P w K mg base C "links_to" 1 2 ev_links_to := by
  obtain ⟨f, fd, g, F⟩ := F
  refine def_ok (k := 0) F g sc_links_to rfl (fun _ _ _ _ _ _ us hl => match us, hl with | [_, _], _ => rfl) fun cdv A outer s H E hr tk po => ?_
  have hu := hu150 hr
  exact (vss_cons (vs_letLc2 2 [("table", 3), ("link", 4)] [4] rfl (sc_links_to).nd blk_links_to_0 (by simp [Tg.slots, Tg.slotss]) (by decide) (by simp [Tg.slots, Tg.slotss]) (v_iter (v_var 0)) (fun _ _ _ _ _ => vg_name 3 (sc_links_to).nd) (fun _ _ _ _ _ => vts_nil) (fun _ _ _ _ _ => v_iter (v_ix (v_var 3) v_int)) (fun _ _ _ _ _ => vg_name 4 (sc_links_to).nd) (fun _ _ _ _ _ => vts_one (vt_cmp (op_eqD' hu) (v_ix (v_var 4) v_int) (v_var 1))) (fun _ _ _ _ _ => v_tup (va_cons (v_ix (v_var 3) v_int) (va_cons (v_ix (v_var 4) v_int) (va_cons (v_ix (v_var 4) v_int) va_nil)))) (sw_true rfl rfl (by decide) (by decide)))
    (vss_one (vs_ret (v_callB (cr_srtD hu) m_sorted boot_sorted (va_cons (v_var 2) va_nil)))))
/-! holders -/
abbrev st_holders : Stmt := top 38
theorem sc_holders : FnScope ["schema", "table", "name", "column", "rule"] ["schema", "table"] (defScope st_holders) := ⟨rfl, rfl, rfl, by decide +kernel, rfl, by decide +kernel, by decide +kernel⟩
def sco_holders_0 : Scope := { kind := PySem.ScopeKind.function, names := [ (PySem.Str.ofString ".0", PySem.NameKind.local), (PySem.Str.ofString "name", PySem.NameKind.local), (PySem.Str.ofString "column", PySem.NameKind.local), (PySem.Str.ofString "rule", PySem.NameKind.local)], isGenerator := false, isCoroutine := false, more := [] : PySem.Scope }
theorem blk_holders_0 : BlkOk ["schema", "table", "name", "column", "rule"] (defScope st_holders) sco_holders_0 [("name", 2), ("column", 3), ("rule", 4)] := blkOk_by (by decide +kernel)
theorem ok_holders (F : FD K mg "holders" st_holders) (d_check_schema : Def P w K mg base C "check_schema" 5 1 ev_check_schema) (d_check_table : Def P w K mg base C "check_table" 2 2 ev_check_table) (d_links_to : Def P w K mg base C "links_to" 1 2 ev_links_to) : Def P w K mg base C "holders" 6 2 ev_holders := by
  obtain ⟨f, fd, g, F⟩ := F
  refine def_ok (k := 5) F g sc_holders rfl (fun _ _ _ _ _ _ us hl => match us, hl with | [_, _], _ => rfl) fun cdv A outer s H E hr tk po => ?_
  have hu := hu150 hr
  exact (vss_cons (vs_do (v_call d_check_schema (by decide) hr tk (va_cons (v_var 0) va_nil)))
    (vss_cons (vs_do (v_call d_check_table (by decide) hr tk (va_cons (v_var 0) (va_cons (v_var 1) va_nil))))
    (vss_one (vs_ret (v_lcN [("name", 2), ("column", 3), ("rule", 4)] rfl (sc_holders).nd blk_holders_0 (by simp [Tg.slots, Tg.slotss]) (v_iter (v_call d_links_to (by decide) hr tk (va_cons (v_var 0) (va_cons (v_var 1) va_nil)))) (fun _ _ _ _ _ => vg_tup rfl (vgs_cons (vg_name 2 (sc_holders).nd) (vgs_cons (vg_name 3 (sc_holders).nd) (vgs_cons (vg_name 4 (sc_holders).nd) vgs_nil)))) (fun _ _ _ _ _ => vts_nil) (fun _ _ _ _ _ => v_tup (va_cons (v_var 2) (va_cons (v_var 3) va_nil))))))))
/-! _law_source -/
abbrev st__law_source : Stmt := top 40
theorem sc__law_source : FnScope ["cell", "turn"] ["cell", "turn"] (defScope st__law_source) := ⟨rfl, rfl, rfl, by decide +kernel, rfl, by decide +kernel, by decide +kernel⟩
theorem ok__law_source (F : FD K mg "_law_source" st__law_source)  : Def P w K mg base C "_law_source" 1 2 ev__law_source := by
  obtain ⟨f, fd, g, F⟩ := F
  refine def_ok (k := 0) F g sc__law_source rfl (fun _ _ _ _ _ _ us hl => match us, hl with | [_, _], _ => rfl) fun cdv A outer s H E hr tk po => ?_
  have hu := hu150 hr
  exact (vss_cons (vs_if (vt_cmp (op_geD hu) (v_var 0) (v_bin op_powD v_int v_int)) (vss_one (vs_ret (v_new (va_cons (v_bin op_subD (v_var 0) (v_bin op_powD v_int v_int)) (va_cons (v_bin op_modD (v_var 0) v_int) (va_cons (v_var 1) va_nil)))))) vss_nil)
    (vss_one (vs_ret (v_new (va_cons v_int (va_cons (v_bin op_modD (v_var 0) v_int) (va_cons (v_var 1) va_nil)))))))
/-! _law_kind -/
abbrev st__law_kind : Stmt := top 43
theorem sc__law_kind : FnScope ["value"] ["value"] (defScope st__law_kind) := ⟨rfl, rfl, rfl, by decide +kernel, rfl, by decide +kernel, by decide +kernel⟩
theorem ok__law_kind (F : FD K mg "_law_kind" st__law_kind) (m_bool : mg "bool" = none) (m_int : mg "int" = none) (m_isinstance : mg "isinstance" = none) (m_list : mg "list" = none) (m_str : mg "str" = none) (m_tuple : mg "tuple" = none) : Def P w K mg base C "_law_kind" 1 1 ev__law_kind := by
  obtain ⟨f, fd, g, F⟩ := F
  refine def_ok (k := 0) F g sc__law_kind rfl (fun _ _ _ _ _ _ us hl => match us, hl with | [_], _ => rfl) fun cdv A outer s H E hr tk po => ?_
  have hu := hu150 hr
  exact (vss_cons (vs_if (vt_val (v_isi (T := "bool") (v_var 0) m_isinstance m_bool)) (vss_one (vs_ret (v_int))) vss_nil)
    (vss_cons (vs_if (vt_val (v_isi (T := "int") (v_var 0) m_isinstance m_int)) (vss_one (vs_ret (v_int))) vss_nil)
    (vss_cons (vs_if (vt_val (v_isi (T := "str") (v_var 0) m_isinstance m_str)) (vss_one (vs_ret (v_int))) vss_nil)
    (vss_cons (vs_if (vt_val (v_isi (T := "list") (v_var 0) m_isinstance m_list)) (vss_one (vs_ret (v_int))) vss_nil)
    (vss_one (vs_ret (v_if (vt_val (v_isi (T := "tuple") (v_var 0) m_isinstance m_tuple)) v_int v_int)))))))
/-! _law_equal -/
abbrev st__law_equal : Stmt := top 44
theorem sc__law_equal : FnScope ["value", "expected", "k", "piece"] ["value", "expected"] (defScope st__law_equal) := ⟨rfl, rfl, rfl, by decide +kernel, rfl, by decide +kernel, by decide +kernel⟩
def sco__law_equal_0 : Scope := { kind := PySem.ScopeKind.function, names := [ (PySem.Str.ofString ".0", PySem.NameKind.local), (PySem.Str.ofString "k", PySem.NameKind.local), (PySem.Str.ofString "piece", PySem.NameKind.local), (PySem.Str.ofString "_law_equal", PySem.NameKind.globalImplicit), (PySem.Str.ofString "expected", PySem.NameKind.free)], isGenerator := false, isCoroutine := false, more := [] : PySem.Scope }
theorem blk__law_equal_0 : BlkOk ["value", "expected", "k", "piece"] (defScope st__law_equal) sco__law_equal_0 [("k", 2), ("piece", 3)] := blkOk_by (by decide +kernel)
theorem oks__law_equal (F__law_equal : FD K mg "_law_equal" st__law_equal) (m_enumerate : mg "enumerate" = none) (m_len : mg "len" = none) (d__law_kind : Def P w K mg base C "_law_kind" 1 1 ev__law_kind) : ∀ k, Def P w K mg base C "_law_equal" (1 + k) 2 (ev__law_equal k) := by
  intro k
  induction k with
  | zero =>
    have z0 : Def P w K mg base C "_law_equal" (1 + 0) 2 (ev__law_equal 0) := by
      obtain ⟨f, fd, g, F⟩ := F__law_equal
      unfold ev__law_equal
      exact (def_never (ps := ["value", "expected"]) F g rfl (fun _ _ _ _ _ _ us hl => match us, hl with | [_, _], _ => rfl)).mono (Nat.zero_le _)
    exact z0
  | succ k ih =>
    have d__law_equal := ih
    have z0 : Def P w K mg base C "_law_equal" (1 + (k + 1)) 2 (ev__law_equal (k + 1)) := by
      obtain ⟨f, fd, g, F⟩ := F__law_equal
      unfold ev__law_equal
      refine def_ok (k := 1 + k) F g sc__law_equal rfl (fun _ _ _ _ _ _ us hl => match us, hl with | [_, _], _ => rfl) fun cdv A outer s H E hr tk po => ?_
      have hu := hu150 hr
      exact (vss_cons (vs_if (vt_cmp (op_neD' hu) (v_call d__law_kind (by omega) hr tk (va_cons (v_var 0) va_nil)) (v_call d__law_kind (by omega) hr tk (va_cons (v_var 1) va_nil))) (vss_one (vs_ret (v_bl))) vss_nil)
    (vss_cons (vs_if (vt_w (vw_and (vt_cmp (op_gtD hu) (v_call d__law_kind (by omega) hr tk (va_cons (v_var 0) va_nil)) v_int) (vw_and1 (vt_cmp (op_ltD hu) (v_call d__law_kind (by omega) hr tk (va_cons (v_var 0) va_nil)) v_int)))) (vss_cons (vs_if (vt_cmp (op_neD' hu) (v_callB cr_lenD m_len boot_len (va_cons (v_var 0) va_nil)) (v_callB cr_lenD m_len boot_len (va_cons (v_var 1) va_nil))) (vss_one (vs_ret (v_bl))) vss_nil)
    (vss_one (vs_ret (v_cmp (op_eqD' hu) (v_lc [("k", 2), ("piece", 3)] rfl (sc__law_equal).nd blk__law_equal_0 (by simp [Tg.slots, Tg.slotss]) (v_enum (v_var 0) m_enumerate) (fun _ _ _ _ _ => vg_tup rfl (vgs_cons (vg_name 2 (sc__law_equal).nd) (vgs_cons (vg_name 3 (sc__law_equal).nd) vgs_nil))) (fun _ _ _ _ _ => vts_one (vt_not (vt_val (v_call d__law_equal (by omega) hr L2.takes0 (va_cons (v_var 3) (va_cons (v_ix (v_var 1) (v_var 2)) va_nil)))))) (fun _ _ _ _ _ => v_var 2)) (v_lst va_nil))))) vss_nil)
    (vss_one (vs_ret (v_cmp (op_eqD' hu) (v_var 0) (v_var 1))))))
    exact z0
theorem ok__law_equal (F__law_equal : FD K mg "_law_equal" st__law_equal) (m_enumerate : mg "enumerate" = none) (m_len : mg "len" = none) (d__law_kind : Def P w K mg base C "_law_kind" 1 1 ev__law_kind) : Def P w K mg base C "_law_equal" 13 2 (ev__law_equal 12) := (oks__law_equal F__law_equal m_enumerate m_len d__law_kind 12)
/-! _law_draw -/
abbrev st__law_draw : Stmt := top 41
theorem sc__law_draw : FnScope ["source", "size", "drawn", "number"] ["source", "size"] (defScope st__law_draw) := ⟨rfl, rfl, rfl, by decide +kernel, rfl, by decide +kernel, by decide +kernel⟩
theorem ok__law_draw (F : FD K mg "_law_draw" st__law_draw)  : Def P w K mg base C "_law_draw" 1 2 ev__law_draw := by
  obtain ⟨f, fd, g, F⟩ := F
  refine def_ok (k := 0) F g sc__law_draw rfl (fun _ _ _ _ _ _ us hl => match us, hl with | [_, _], _ => rfl) fun cdv A outer s H E hr tk po => ?_
  have hu := hu150 hr
  exact (vss_cons (vs_if (vt_cmp (op_gtD hu) (v_ix (v_var 0) v_int) v_int) (vss_cons (vs_let 2 (sc__law_draw).nd (v_bin op_modD (v_ix (v_var 0) v_int) (v_var 1)))
    (vss_cons (vs_st (v_bin op_divD (v_ix (v_var 0) v_int) (v_var 1)) (v_var 0) v_int)
    (vss_one (vs_ret (v_var 2))))) vss_nil)
    (vss_cons (vs_st (v_bin op_addD (v_ix (v_var 0) v_int) v_int) (v_var 0) v_int)
    (vss_cons (vs_let 3 (sc__law_draw).nd (v_bin op_modD (v_bin op_powD (v_bin op_addD (v_ix (v_var 0) v_int) (v_bin op_mulD v_int (v_ix (v_var 0) v_int))) v_int) v_int))
    (vss_cons (vs_let 2 (sc__law_draw).nd (v_bin op_divD (v_bin op_modD (v_bin op_powD (v_bin op_addD (v_var 3) (v_bin op_mulD v_int (v_ix (v_var 0) v_int))) v_int) v_int) v_int))
    (vss_one (vs_ret (v_bin op_modD (v_var 2) (v_var 1))))))))
/-! _law_choice -/
abbrev st__law_choice : Stmt := top 42
theorem sc__law_choice : FnScope ["source", "items"] ["source", "items"] (defScope st__law_choice) := ⟨rfl, rfl, rfl, by decide +kernel, rfl, by decide +kernel, by decide +kernel⟩
theorem ok__law_choice (F : FD K mg "_law_choice" st__law_choice) (m_len : mg "len" = none) (d__law_draw : Def P w K mg base C "_law_draw" 1 2 ev__law_draw) : Def P w K mg base C "_law_choice" 2 2 ev__law_choice := by
  obtain ⟨f, fd, g, F⟩ := F
  refine def_ok (k := 1) F g sc__law_choice rfl (fun _ _ _ _ _ _ us hl => match us, hl with | [_, _], _ => rfl) fun cdv A outer s H E hr tk po => ?_
  have hu := hu150 hr
  exact (vss_one (vs_ret (v_ix (v_var 1) (v_call d__law_draw (by decide) hr tk (va_cons (v_var 0) (va_cons (v_callB cr_lenD m_len boot_len (va_cons (v_var 1) va_nil)) va_nil))))))
/-! _law_odd -/
abbrev st__law_odd : Stmt := top 45
theorem sc__law_odd : FnScope ["source", "some"] ["source"] (defScope st__law_odd) := ⟨rfl, rfl, rfl, by decide +kernel, rfl, by decide +kernel, by decide +kernel⟩
theorem ok__law_odd (F : FD K mg "_law_odd" st__law_odd) (d__law_choice : Def P w K mg base C "_law_choice" 2 2 ev__law_choice) : Def P w K mg base C "_law_odd" 3 1 ev__law_odd := by
  obtain ⟨f, fd, g, F⟩ := F
  refine def_ok (k := 2) F g sc__law_odd rfl (fun _ _ _ _ _ _ us hl => match us, hl with | [_], _ => rfl) fun cdv A outer s H E hr tk po => ?_
  have hu := hu150 hr
  exact (vss_cons (vs_let 1 (sc__law_odd).nd (v_lst (va_cons v_non (va_cons v_bl (va_cons v_bl (va_cons v_int (va_cons v_int (va_cons (v_neg v_int) (va_cons v_int (va_cons (v_bin op_powD v_int v_int) (va_cons (v_bin op_addD (v_bin op_powD v_int v_int) v_int) (va_cons (v_bin op_powD v_int v_int) (va_cons v_str (va_cons v_str (va_cons v_str (va_cons v_str (va_cons v_str (va_cons v_str (va_cons v_str va_nil)))))))))))))))))))
    (vss_cons (vs_let 1 (sc__law_odd).nd (v_bin op_addD (v_var 1) (v_lst (va_cons v_str (va_cons (v_tup va_nil) (va_cons (v_lst va_nil) (va_cons (v_tup (va_cons v_str va_nil)) (va_cons (v_lst (va_cons v_int va_nil)) (va_cons (v_tup (va_cons v_int (va_cons v_str va_nil))) (va_cons (v_tup (va_cons (v_tup va_nil) va_nil)) (va_cons v_str (va_cons v_str (va_cons (v_tup (va_cons (v_tup (va_cons v_str va_nil)) va_nil)) (va_cons v_int (va_cons v_int va_nil)))))))))))))))
    (vss_one (vs_ret (v_call d__law_choice (by decide) hr tk (va_cons (v_var 0) (va_cons (v_var 1) va_nil)))))))
/-! _law_spoilt -/
abbrev st__law_spoilt : Stmt := top 46
theorem sc__law_spoilt : FnScope ["source", "value", "at", "way"] ["source", "value"] (defScope st__law_spoilt) := ⟨rfl, rfl, rfl, by decide +kernel, rfl, by decide +kernel, by decide +kernel⟩
theorem oks__law_spoilt (F__law_spoilt : FD K mg "_law_spoilt" st__law_spoilt) (m_int : mg "int" = none) (m_isinstance : mg "isinstance" = none) (m_len : mg "len" = none) (m_list : mg "list" = none) (m_str : mg "str" = none) (m_tuple : mg "tuple" = none) (d__law_draw : Def P w K mg base C "_law_draw" 1 2 ev__law_draw) (d__law_choice : Def P w K mg base C "_law_choice" 2 2 ev__law_choice) (d__law_odd : Def P w K mg base C "_law_odd" 3 1 ev__law_odd) : ∀ k, Def P w K mg base C "_law_spoilt" (3 + k) 2 (ev__law_spoilt k) := by
  intro k
  induction k with
  | zero =>
    have z0 : Def P w K mg base C "_law_spoilt" (3 + 0) 2 (ev__law_spoilt 0) := by
      obtain ⟨f, fd, g, F⟩ := F__law_spoilt
      unfold ev__law_spoilt
      exact (def_never (ps := ["source", "value"]) F g rfl (fun _ _ _ _ _ _ us hl => match us, hl with | [_, _], _ => rfl)).mono (Nat.zero_le _)
    exact z0
  | succ k ih =>
    have d__law_spoilt := ih
    have z0 : Def P w K mg base C "_law_spoilt" (3 + (k + 1)) 2 (ev__law_spoilt (k + 1)) := by
      obtain ⟨f, fd, g, F⟩ := F__law_spoilt
      unfold ev__law_spoilt
      refine def_ok (k := 3 + k) F g sc__law_spoilt rfl (fun _ _ _ _ _ _ us hl => match us, hl with | [_, _], _ => rfl) fun cdv A outer s H E hr tk po => ?_
      have hu := hu150 hr
      exact (vss_cons (vs_if (vt_w (vw_and (vt_val (v_isi (T := "tuple") (v_var 1) m_isinstance m_tuple)) (vw_and (vt_cmp (op_neD' hu) (v_var 1) (v_tup va_nil)) (vw_and1 (vt_cmp (op_gtD hu) (v_call d__law_draw (by omega) hr tk (va_cons (v_var 0) (va_cons v_int va_nil))) v_int))))) (vss_cons (vs_let 2 (sc__law_spoilt).nd (v_call d__law_draw (by omega) hr tk (va_cons (v_var 0) (va_cons (v_callB cr_lenD m_len boot_len (va_cons (v_var 1) va_nil)) va_nil))))
    (vss_cons (vs_let 3 (sc__law_spoilt).nd (v_call d__law_draw (by omega) hr tk (va_cons (v_var 0) (va_cons v_int va_nil))))
    (vss_cons (vs_if (vt_cmp (op_eqD' hu) (v_var 3) v_int) (vss_one (vs_ret (v_bin op_addD (v_sl (v_var 1) vp_no (vp_so (v_var 2))) (v_sl (v_var 1) (vp_so (v_bin op_addD (v_var 2) v_int)) vp_no)))) vss_nil)
    (vss_cons (vs_if (vt_cmp (op_eqD' hu) (v_var 3) v_int) (vss_one (vs_ret (v_bin op_addD (v_bin op_addD (v_sl (v_var 1) vp_no (vp_so (v_var 2))) (v_tup (va_cons (v_ix (v_var 1) (v_var 2)) va_nil))) (v_sl (v_var 1) (vp_so (v_var 2)) vp_no)))) vss_nil)
    (vss_cons (vs_if (vt_cmp (op_eqD' hu) (v_var 3) v_int) (vss_one (vs_ret (v_bin op_addD (v_rev (v_sl (v_var 1) vp_no (vp_so (v_var 2)))) (v_sl (v_var 1) (vp_so (v_var 2)) vp_no)))) vss_nil)
    (vss_cons (vs_if (vt_cmp (op_eqD' hu) (v_var 3) v_int) (vss_one (vs_ret (v_callT cr_lstD m_list boot_list (va_cons (v_var 1) va_nil)))) vss_nil)
    (vss_one (vs_ret (v_bin op_addD (v_bin op_addD (v_sl (v_var 1) vp_no (vp_so (v_var 2))) (v_tup (va_cons (v_call d__law_spoilt (by omega) hr tk (va_cons (v_var 0) (va_cons (v_ix (v_var 1) (v_var 2)) va_nil))) va_nil))) (v_sl (v_var 1) (vp_so (v_bin op_addD (v_var 2) v_int)) vp_no)))))))))) vss_nil)
    (vss_cons (vs_if (vt_w (vw_and (vt_cmp (op_eqD' hu) (v_call d__law_draw (by omega) hr tk (va_cons (v_var 0) (va_cons v_int va_nil))) v_int) (vw_and1 (vt_val (v_isi (T := "int") (v_var 1) m_isinstance m_int))))) (vss_one (vs_ret (v_call d__law_choice (by omega) hr tk (va_cons (v_var 0) (va_cons (v_lst (va_cons (v_bin op_addD (v_var 1) v_int) (va_cons (v_bin op_subD v_int (v_var 1)) (va_cons (v_cmp (op_eqD' hu) (v_var 1) v_int) (va_cons (v_callT cr_strD m_str boot_str (va_cons (v_var 1) va_nil)) va_nil))))) va_nil))))) vss_nil)
    (vss_one (vs_ret (v_call d__law_odd (by omega) hr tk (va_cons (v_var 0) va_nil))))))
    exact z0
theorem ok__law_spoilt (F__law_spoilt : FD K mg "_law_spoilt" st__law_spoilt) (m_int : mg "int" = none) (m_isinstance : mg "isinstance" = none) (m_len : mg "len" = none) (m_list : mg "list" = none) (m_str : mg "str" = none) (m_tuple : mg "tuple" = none) (d__law_draw : Def P w K mg base C "_law_draw" 1 2 ev__law_draw) (d__law_choice : Def P w K mg base C "_law_choice" 2 2 ev__law_choice) (d__law_odd : Def P w K mg base C "_law_odd" 3 1 ev__law_odd) : Def P w K mg base C "_law_spoilt" 15 2 (ev__law_spoilt 12) := (oks__law_spoilt F__law_spoilt m_int m_isinstance m_len m_list m_str m_tuple d__law_draw d__law_choice d__law_odd 12)
/-! _law_keys -/
abbrev st__law_keys : Stmt := top 47
theorem sc__law_keys : FnScope ["source", "names", "lots", "one", "found", "name", "turn", "other"] ["source", "names"] (defScope st__law_keys) := ⟨rfl, rfl, rfl, by decide +kernel, rfl, by decide +kernel, by decide +kernel⟩
def sco__law_keys_0 : Scope := { kind := PySem.ScopeKind.function, names := [(PySem.Str.ofString ".0", PySem.NameKind.local), (PySem.Str.ofString "name", PySem.NameKind.local)], isGenerator := false, isCoroutine := false, more := [] : PySem.Scope }
def sco__law_keys_1 : Scope := { kind := PySem.ScopeKind.function, names := [ (PySem.Str.ofString ".0", PySem.NameKind.local), (PySem.Str.ofString "other", PySem.NameKind.local), (PySem.Str.ofString "one", PySem.NameKind.free)], isGenerator := false, isCoroutine := false, more := [] : PySem.Scope }
def sco__law_keys_2 : Scope := { kind := PySem.ScopeKind.function, names := [ (PySem.Str.ofString ".0", PySem.NameKind.local), (PySem.Str.ofString "turn", PySem.NameKind.local), (PySem.Str.ofString "_law_choice", PySem.NameKind.globalImplicit), (PySem.Str.ofString "lots", PySem.NameKind.free), (PySem.Str.ofString "source", PySem.NameKind.free)], isGenerator := false, isCoroutine := false, more := [] : PySem.Scope }
theorem blk__law_keys_0 : BlkOk ["source", "names", "lots", "one", "found", "name", "turn", "other"] (defScope st__law_keys) sco__law_keys_0 [("name", 5)] := blkOk_by (by decide +kernel)
theorem blk__law_keys_1 : BlkOk ["source", "names", "lots", "one", "found", "name", "turn", "other"] (defScope st__law_keys) sco__law_keys_1 [("other", 7)] := blkOk_by (by decide +kernel)
theorem blk__law_keys_2 : BlkOk ["source", "names", "lots", "one", "found", "name", "turn", "other"] (defScope st__law_keys) sco__law_keys_2 [("turn", 6)] := blkOk_by (by decide +kernel)
theorem ok__law_keys (F : FD K mg "_law_keys" st__law_keys) (m_range : mg "range" = none) (m_set : mg "set" = none) (m_sorted : mg "sorted" = none) (m_tuple : mg "tuple" = none) (d__law_choice : Def P w K mg base C "_law_choice" 2 2 ev__law_choice) : Def P w K mg base C "_law_keys" 3 2 ev__law_keys := by
  obtain ⟨f, fd, g, F⟩ := F
  refine def_ok (k := 2) F g sc__law_keys rfl (fun _ _ _ _ _ _ us hl => match us, hl with | [_, _], _ => rfl) fun cdv A outer s H E hr tk po => ?_
  have hu := hu150 hr
  exact (vss_cons (vs_let 2 (sc__law_keys).nd (v_lc [("name", 5)] rfl (sc__law_keys).nd blk__law_keys_0 (by simp [Tg.slots, Tg.slotss]) (v_iter (v_var 1)) (fun _ _ _ _ _ => vg_name 5 (sc__law_keys).nd) (fun _ _ _ _ _ => vts_nil) (fun _ _ _ _ _ => v_tup (va_cons (v_var 5) va_nil))))
    (vss_cons (vs_for po rfl (v_iter (v_var 1)) (vg_name 3 (sc__law_keys).nd) (vss_one (vs_let 2 (sc__law_keys).nd (v_bin op_addD (v_var 2) (v_lc [("other", 7)] rfl (sc__law_keys).nd blk__law_keys_1 (by simp [Tg.slots, Tg.slotss]) (v_iter (v_var 1)) (fun _ _ _ _ _ => vg_name 7 (sc__law_keys).nd) (fun _ _ _ _ _ => vts_one (vt_cmp (op_ltD hu) (v_var 3) (v_var 7))) (fun _ _ _ _ _ => v_tup (va_cons (v_var 3) (va_cons (v_var 7) va_nil))))))))
    (vss_cons (vs_letLc 4 [("turn", 6)] rfl (sc__law_keys).nd blk__law_keys_2 (by simp [Tg.slots, Tg.slotss]) (v_rng1 (va_cons (v_call d__law_choice (by decide) hr tk (va_cons (v_var 0) (va_cons (v_lst (va_cons v_int (va_cons v_int (va_cons v_int (va_cons v_int va_nil))))) va_nil))) va_nil) m_range) (fun _ _ _ _ _ => vg_name 6 (sc__law_keys).nd) (fun _ _ _ _ _ => vts_nil) (fun _ _ _ _ _ => v_call d__law_choice (by decide) hr L2.takes0 (va_cons (v_var 0) (va_cons (v_var 2) va_nil))) (sw_true rfl rfl (by decide) (by decide)))
    (vss_one (vs_ret (v_callT cr_tupD m_tuple boot_tuple (va_cons (v_srtSet rfl hu m_sorted m_set (v_var 4)) va_nil)))))))
/-! _law_schema -/
abbrev st__law_schema : Stmt := top 48
theorem sc__law_schema : FnScope ["source", "names", "found", "name", "fields", "links", "field", "sort", "link", "optional", "rules", "target", "rule", "names_so", "one"] ["source"] (defScope st__law_schema) := ⟨rfl, rfl, rfl, by decide +kernel, rfl, by decide +kernel, by decide +kernel⟩
def sco__law_schema_0 : Scope := { kind := PySem.ScopeKind.function, names := [(PySem.Str.ofString ".0", PySem.NameKind.local), (PySem.Str.ofString "one", PySem.NameKind.local)], isGenerator := false, isCoroutine := false, more := [] : PySem.Scope }
theorem blk__law_schema_0 : BlkOk ["source", "names", "found", "name", "fields", "links", "field", "sort", "link", "optional", "rules", "target", "rule", "names_so", "one"] (defScope st__law_schema) sco__law_schema_0 [("one", 14)] := blkOk_by (by decide +kernel)
theorem ok__law_schema (F : FD K mg "_law_schema" st__law_schema) (m_sorted : mg "sorted" = none) (d__law_draw : Def P w K mg base C "_law_draw" 1 2 ev__law_draw) (d__law_choice : Def P w K mg base C "_law_choice" 2 2 ev__law_choice) (d__law_keys : Def P w K mg base C "_law_keys" 3 2 ev__law_keys) : Def P w K mg base C "_law_schema" 4 1 ev__law_schema := by
  obtain ⟨f, fd, g, F⟩ := F
  refine def_ok (k := 3) F g sc__law_schema rfl (fun _ _ _ _ _ _ us hl => match us, hl with | [_], _ => rfl) fun cdv A outer s H E hr tk po => ?_
  have hu := hu150 hr
  exact (vss_cons (vs_let 1 (sc__law_schema).nd (v_sl (v_lst (va_cons v_str (va_cons v_str (va_cons v_str (va_cons v_str va_nil))))) vp_no (vp_so (v_bin op_addD v_int (v_call d__law_draw (by decide) hr tk (va_cons (v_var 0) (va_cons (v_call d__law_choice (by decide) hr tk (va_cons (v_var 0) (va_cons (v_lst (va_cons v_int (va_cons v_int (va_cons v_int va_nil)))) va_nil))) va_nil)))))))
    (vss_cons (vs_let 2 (sc__law_schema).nd (v_tup va_nil))
    (vss_cons (vs_for po rfl (v_iter (v_var 1)) (vg_name 3 (sc__law_schema).nd) (vss_cons (vs_set (v_tup (va_cons (v_tup va_nil) (va_cons (v_tup va_nil) va_nil))) (vg_tup rfl (vgs_cons (vg_name 4 (sc__law_schema).nd) (vgs_cons (vg_name 5 (sc__law_schema).nd) vgs_nil))))
    (vss_cons (vs_for po rfl (v_iter (v_sl (v_lst (va_cons v_str (va_cons v_str va_nil))) vp_no (vp_so (v_call d__law_draw (by decide) hr tk (va_cons (v_var 0) (va_cons v_int va_nil)))))) (vg_name 6 (sc__law_schema).nd) (vss_cons (vs_let 7 (sc__law_schema).nd (v_call d__law_choice (by decide) hr tk (va_cons (v_var 0) (va_cons (v_lst (va_cons v_str (va_cons v_str va_nil))) va_nil))))
    (vss_one (vs_let 4 (sc__law_schema).nd (v_bin op_addD (v_var 4) (v_tup (va_cons (v_tup (va_cons (v_var 6) (va_cons (v_var 7) (va_cons (v_cmp (op_eqD' hu) (v_call d__law_draw (by decide) hr tk (va_cons (v_var 0) (va_cons v_int va_nil))) v_int) va_nil)))) va_nil)))))))
    (vss_cons (vs_for po rfl (v_iter (v_sl (v_lst (va_cons v_str (va_cons v_str va_nil))) vp_no (vp_so (v_call d__law_choice (by decide) hr tk (va_cons (v_var 0) (va_cons (v_lst (va_cons v_int (va_cons v_int (va_cons v_int (va_cons v_int (va_cons v_int va_nil)))))) va_nil)))))) (vg_name 8 (sc__law_schema).nd) (vss_cons (vs_let 9 (sc__law_schema).nd (v_cmp (op_gtD hu) (v_call d__law_draw (by decide) hr tk (va_cons (v_var 0) (va_cons v_int va_nil))) v_int))
    (vss_cons (vs_let 10 (sc__law_schema).nd (v_if (vt_val (v_var 9)) (v_lst (va_cons v_str (va_cons v_str (va_cons v_str va_nil)))) (v_lst (va_cons v_str (va_cons v_str va_nil)))))
    (vss_cons (vs_par 11 12 rfl (sc__law_schema).nd (v_call d__law_choice (by decide) hr tk (va_cons (v_var 0) (va_cons (v_var 1) va_nil))) (v_call d__law_choice (by decide) hr tk (va_cons (v_var 0) (va_cons (v_var 10) va_nil))))
    (vss_one (vs_let 5 (sc__law_schema).nd (v_bin op_addD (v_var 5) (v_tup (va_cons (v_tup (va_cons (v_var 8) (va_cons (v_var 11) (va_cons (v_var 9) (va_cons (v_var 12) va_nil))))) va_nil)))))))))
    (vss_cons (vs_if (vt_cmp (op_eqD' hu) (v_bin op_addD (v_var 4) (v_var 5)) (v_tup va_nil)) (vss_one (vs_let 4 (sc__law_schema).nd (v_tup (va_cons (v_tup (va_cons v_str (va_cons v_str (va_cons v_bl va_nil)))) va_nil)))) vss_nil)
    (vss_cons (vs_let 13 (sc__law_schema).nd (v_callB (cr_srtD hu) m_sorted boot_sorted (va_cons (v_lc [("one", 14)] rfl (sc__law_schema).nd blk__law_schema_0 (by simp [Tg.slots, Tg.slotss]) (v_iter (v_bin op_addD (v_var 4) (v_var 5))) (fun _ _ _ _ _ => vg_name 14 (sc__law_schema).nd) (fun _ _ _ _ _ => vts_nil) (fun _ _ _ _ _ => v_ix (v_var 14) v_int)) va_nil)))
    (vss_one (vs_let 2 (sc__law_schema).nd (v_bin op_addD (v_var 2) (v_tup (va_cons (v_tup (va_cons (v_var 3) (va_cons (v_var 4) (va_cons (v_var 5) (va_cons (v_call d__law_keys (by decide) hr tk (va_cons (v_var 0) (va_cons (v_var 13) va_nil))) va_nil))))) va_nil)))))))))))
    (vss_one (vs_ret (v_var 2))))))
/-! _law_columns -/
abbrev st__law_columns : Stmt := top 49
theorem sc__law_columns : FnScope ["table", "found", "field", "link"] ["table"] (defScope st__law_columns) := ⟨rfl, rfl, rfl, by decide +kernel, rfl, by decide +kernel, by decide +kernel⟩
def sco__law_columns_0 : Scope := { kind := PySem.ScopeKind.function, names := [(PySem.Str.ofString ".0", PySem.NameKind.local), (PySem.Str.ofString "field", PySem.NameKind.local)], isGenerator := false, isCoroutine := false, more := [] : PySem.Scope }
def sco__law_columns_1 : Scope := { kind := PySem.ScopeKind.function, names := [(PySem.Str.ofString ".0", PySem.NameKind.local), (PySem.Str.ofString "link", PySem.NameKind.local)], isGenerator := false, isCoroutine := false, more := [] : PySem.Scope }
theorem blk__law_columns_0 : BlkOk ["table", "found", "field", "link"] (defScope st__law_columns) sco__law_columns_0 [("field", 2)] := blkOk_by (by decide +kernel)
theorem blk__law_columns_1 : BlkOk ["table", "found", "field", "link"] (defScope st__law_columns) sco__law_columns_1 [("link", 3)] := blkOk_by (by decide +kernel)
theorem ok__law_columns (F : FD K mg "_law_columns" st__law_columns)  : Def P w K mg base C "_law_columns" 1 1 ev__law_columns := by
  obtain ⟨f, fd, g, F⟩ := F
  refine def_ok (k := 0) F g sc__law_columns rfl (fun _ _ _ _ _ _ us hl => match us, hl with | [_], _ => rfl) fun cdv A outer s H E hr tk po => ?_
  have hu := hu150 hr
  exact (vss_cons (vs_letLc 1 [("field", 2)] rfl (sc__law_columns).nd blk__law_columns_0 (by simp [Tg.slots, Tg.slotss]) (v_iter (v_ix (v_var 0) v_int)) (fun _ _ _ _ _ => vg_name 2 (sc__law_columns).nd) (fun _ _ _ _ _ => vts_nil) (fun _ _ _ _ _ => v_tup (va_cons (v_ix (v_var 2) v_int) (va_cons (v_ix (v_var 2) v_int) (va_cons (v_ix (v_var 2) v_int) (va_cons v_bl va_nil))))) (sw_true rfl rfl (by decide) (by decide)))
    (vss_one (vs_ret (v_bin op_addD (v_var 1) (v_lc [("link", 3)] rfl (sc__law_columns).nd blk__law_columns_1 (by simp [Tg.slots, Tg.slotss]) (v_iter (v_ix (v_var 0) v_int)) (fun _ _ _ _ _ => vg_name 3 (sc__law_columns).nd) (fun _ _ _ _ _ => vts_nil) (fun _ _ _ _ _ => v_tup (va_cons (v_ix (v_var 3) v_int) (va_cons (v_ix (v_var 3) v_int) (va_cons (v_ix (v_var 3) v_int) (va_cons v_bl va_nil))))))))))
/-! _law_names -/
abbrev st__law_names : Stmt := top 50
theorem sc__law_names : FnScope ["e", "found"] ["e"] (defScope st__law_names) := ⟨rfl, rfl, rfl, by decide +kernel, rfl, by decide +kernel, by decide +kernel⟩
theorem okx__law_names (F : FD K mg "_law_names" st__law_names) (m_ValueError : mg "ValueError" = none) (m_int : mg "int" = none) (m_isinstance : mg "isinstance" = none) (g_Gone : mg "Gone" = some (.ref (C.adr 8))) (g_Held : mg "Held" = some (.ref (C.adr 12))) (g_InvalidColumn : mg "InvalidColumn" = some (.ref (C.adr 2))) (g_InvalidData : mg "InvalidData" = some (.ref (C.adr 5))) (g_InvalidNumber : mg "InvalidNumber" = some (.ref (C.adr 3))) (g_InvalidSchema : mg "InvalidSchema" = some (.ref (C.adr 0))) (g_InvalidStatement : mg "InvalidStatement" = some (.ref (C.adr 6))) (g_InvalidTable : mg "InvalidTable" = some (.ref (C.adr 1))) (g_InvalidText : mg "InvalidText" = some (.ref (C.adr 16))) (g_InvalidValue : mg "InvalidValue" = some (.ref (C.adr 4))) (g_InvalidWrites : mg "InvalidWrites" = some (.ref (C.adr 7))) (g_Knot : mg "Knot" = some (.ref (C.adr 11))) (g_Lost : mg "Lost" = some (.ref (C.adr 15))) (g_NothingToUndo : mg "NothingToUndo" = some (.ref (C.adr 9))) (g_Refused : mg "Refused" = some (.ref (C.adr 10))) (g_Stale : mg "Stale" = some (.ref (C.adr 13))) (g_TooMany : mg "TooMany" = some (.ref (C.adr 17))) (g_Unsound : mg "Unsound" = some (.ref (C.adr 14))) (hcl : ClsC K C 18) : ∃ (fN : Addr) (fdN : FuncData), mg "_law_names" = some (.ref fN) ∧ PySem.W.keepIn K (.ref fN) = true ∧ L2.Binds K fdN ["e"] [] ∧ FnP P w K mg base (L2.CX P w) 1 fN fdN ["e"] (spP K C ev__law_names) := by
  obtain ⟨f, fd, g, F⟩ := F
  have kp := F.kp
  have bb := F.bindsN (ps := ["e"]) (fun _ _ _ _ _ _ us hl => match us, hl with | [_], _ => rfl)
  obtain ⟨oc, od, dV, kV, doc, pm, an, cdv, ct, osl, rfl, lk, hcd, _, _⟩ := F.ex
  refine ⟨f, _, g, kp, bb, fnP_ok lk hcd sc__law_names fun A outer s H E p x hx hz hf => ?_⟩
  have hxs : ((0 : Nat), p.1) ∈ (C.at_ [(0, p.1)] []).xs := List.mem_cons_self
  haveI : OffX (C.at_ [(0, p.1)] []) 1 := ⟨fun q hq => by rw [List.mem_singleton.mp (show q ∈ [(0, p.1)] from hq)]; exact (by decide : (0 : Nat) ≠ 1)⟩
  exact (vss_cons (vs_let 1 (sc__law_names).nd (v_lst va_nil))
    (vss_cons (vs_let 1 (sc__law_names).nd (v_bin op_addD (v_bin op_addD (v_var 1) (v_bin op_mulD (v_lst (va_cons v_str va_nil)) (v_callT cr_intD m_int boot_int (va_cons (v_isX (cv := .ref (C.adr 0)) (cV := .ref (C.adr 0)) 0 hxs (hcl.c _ hx) List.mem_cons_self hz hf (pe_glob rfl g_InvalidSchema rfl) (fun _ r => r) (hcl.k _ 0 hx (by decide)) m_isinstance) va_nil)))) (v_bin op_mulD (v_lst (va_cons v_str va_nil)) (v_callT cr_intD m_int boot_int (va_cons (v_isX (cv := .ref (C.adr 1)) (cV := .ref (C.adr 1)) 0 hxs (hcl.c _ hx) List.mem_cons_self hz hf (pe_glob rfl g_InvalidTable rfl) (fun _ r => r) (hcl.k _ 1 hx (by decide)) m_isinstance) va_nil)))))
    (vss_cons (vs_let 1 (sc__law_names).nd (v_bin op_addD (v_bin op_addD (v_var 1) (v_bin op_mulD (v_lst (va_cons v_str va_nil)) (v_callT cr_intD m_int boot_int (va_cons (v_isX (cv := .ref (C.adr 2)) (cV := .ref (C.adr 2)) 0 hxs (hcl.c _ hx) List.mem_cons_self hz hf (pe_glob rfl g_InvalidColumn rfl) (fun _ r => r) (hcl.k _ 2 hx (by decide)) m_isinstance) va_nil)))) (v_bin op_mulD (v_lst (va_cons v_str va_nil)) (v_callT cr_intD m_int boot_int (va_cons (v_isX (cv := .ref (C.adr 3)) (cV := .ref (C.adr 3)) 0 hxs (hcl.c _ hx) List.mem_cons_self hz hf (pe_glob rfl g_InvalidNumber rfl) (fun _ r => r) (hcl.k _ 3 hx (by decide)) m_isinstance) va_nil)))))
    (vss_cons (vs_let 1 (sc__law_names).nd (v_bin op_addD (v_bin op_addD (v_var 1) (v_bin op_mulD (v_lst (va_cons v_str va_nil)) (v_callT cr_intD m_int boot_int (va_cons (v_isX (cv := .ref (C.adr 4)) (cV := .ref (C.adr 4)) 0 hxs (hcl.c _ hx) List.mem_cons_self hz hf (pe_glob rfl g_InvalidValue rfl) (fun _ r => r) (hcl.k _ 4 hx (by decide)) m_isinstance) va_nil)))) (v_bin op_mulD (v_lst (va_cons v_str va_nil)) (v_callT cr_intD m_int boot_int (va_cons (v_isX (cv := .ref (C.adr 5)) (cV := .ref (C.adr 5)) 0 hxs (hcl.c _ hx) List.mem_cons_self hz hf (pe_glob rfl g_InvalidData rfl) (fun _ r => r) (hcl.k _ 5 hx (by decide)) m_isinstance) va_nil)))))
    (vss_cons (vs_let 1 (sc__law_names).nd (v_bin op_addD (v_var 1) (v_bin op_mulD (v_lst (va_cons v_str va_nil)) (v_callT cr_intD m_int boot_int (va_cons (v_isX (cv := .ref (C.adr 6)) (cV := .ref (C.adr 6)) 0 hxs (hcl.c _ hx) List.mem_cons_self hz hf (pe_glob rfl g_InvalidStatement rfl) (fun _ r => r) (hcl.k _ 6 hx (by decide)) m_isinstance) va_nil)))))
    (vss_cons (vs_let 1 (sc__law_names).nd (v_bin op_addD (v_bin op_addD (v_var 1) (v_bin op_mulD (v_lst (va_cons v_str va_nil)) (v_callT cr_intD m_int boot_int (va_cons (v_isX (cv := .ref (C.adr 7)) (cV := .ref (C.adr 7)) 0 hxs (hcl.c _ hx) List.mem_cons_self hz hf (pe_glob rfl g_InvalidWrites rfl) (fun _ r => r) (hcl.k _ 7 hx (by decide)) m_isinstance) va_nil)))) (v_bin op_mulD (v_lst (va_cons v_str va_nil)) (v_callT cr_intD m_int boot_int (va_cons (v_isX (cv := .ref (C.adr 8)) (cV := .ref (C.adr 8)) 0 hxs (hcl.c _ hx) List.mem_cons_self hz hf (pe_glob rfl g_Gone rfl) (fun _ r => r) (hcl.k _ 8 hx (by decide)) m_isinstance) va_nil)))))
    (vss_cons (vs_let 1 (sc__law_names).nd (v_bin op_addD (v_bin op_addD (v_var 1) (v_bin op_mulD (v_lst (va_cons v_str va_nil)) (v_callT cr_intD m_int boot_int (va_cons (v_isX (cv := .ref (C.adr 9)) (cV := .ref (C.adr 9)) 0 hxs (hcl.c _ hx) List.mem_cons_self hz hf (pe_glob rfl g_NothingToUndo rfl) (fun _ r => r) (hcl.k _ 9 hx (by decide)) m_isinstance) va_nil)))) (v_bin op_mulD (v_lst (va_cons v_str va_nil)) (v_callT cr_intD m_int boot_int (va_cons (v_isX (cv := .ref (C.adr 10)) (cV := .ref (C.adr 10)) 0 hxs (hcl.c _ hx) List.mem_cons_self hz hf (pe_glob rfl g_Refused rfl) (fun _ r => r) (hcl.k _ 10 hx (by decide)) m_isinstance) va_nil)))))
    (vss_cons (vs_let 1 (sc__law_names).nd (v_bin op_addD (v_bin op_addD (v_var 1) (v_bin op_mulD (v_lst (va_cons v_str va_nil)) (v_callT cr_intD m_int boot_int (va_cons (v_isX (cv := .ref (C.adr 11)) (cV := .ref (C.adr 11)) 0 hxs (hcl.c _ hx) List.mem_cons_self hz hf (pe_glob rfl g_Knot rfl) (fun _ r => r) (hcl.k _ 11 hx (by decide)) m_isinstance) va_nil)))) (v_bin op_mulD (v_lst (va_cons v_str va_nil)) (v_callT cr_intD m_int boot_int (va_cons (v_isX (cv := .ref (C.adr 12)) (cV := .ref (C.adr 12)) 0 hxs (hcl.c _ hx) List.mem_cons_self hz hf (pe_glob rfl g_Held rfl) (fun _ r => r) (hcl.k _ 12 hx (by decide)) m_isinstance) va_nil)))))
    (vss_cons (vs_let 1 (sc__law_names).nd (v_bin op_addD (v_bin op_addD (v_var 1) (v_bin op_mulD (v_lst (va_cons v_str va_nil)) (v_callT cr_intD m_int boot_int (va_cons (v_isX (cv := .ref (C.adr 13)) (cV := .ref (C.adr 13)) 0 hxs (hcl.c _ hx) List.mem_cons_self hz hf (pe_glob rfl g_Stale rfl) (fun _ r => r) (hcl.k _ 13 hx (by decide)) m_isinstance) va_nil)))) (v_bin op_mulD (v_lst (va_cons v_str va_nil)) (v_callT cr_intD m_int boot_int (va_cons (v_isX (cv := .ref (C.adr 14)) (cV := .ref (C.adr 14)) 0 hxs (hcl.c _ hx) List.mem_cons_self hz hf (pe_glob rfl g_Unsound rfl) (fun _ r => r) (hcl.k _ 14 hx (by decide)) m_isinstance) va_nil)))))
    (vss_cons (vs_let 1 (sc__law_names).nd (v_bin op_addD (v_bin op_addD (v_var 1) (v_bin op_mulD (v_lst (va_cons v_str va_nil)) (v_callT cr_intD m_int boot_int (va_cons (v_isX (cv := .ref (C.adr 15)) (cV := .ref (C.adr 15)) 0 hxs (hcl.c _ hx) List.mem_cons_self hz hf (pe_glob rfl g_Lost rfl) (fun _ r => r) (hcl.k _ 15 hx (by decide)) m_isinstance) va_nil)))) (v_bin op_mulD (v_lst (va_cons v_str va_nil)) (v_callT cr_intD m_int boot_int (va_cons (v_isX (cv := .ref (C.adr 16)) (cV := .ref (C.adr 16)) 0 hxs (hcl.c _ hx) List.mem_cons_self hz hf (pe_glob rfl g_InvalidText rfl) (fun _ r => r) (hcl.k _ 16 hx (by decide)) m_isinstance) va_nil)))))
    (vss_cons (vs_let 1 (sc__law_names).nd (v_bin op_addD (v_bin op_addD (v_var 1) (v_bin op_mulD (v_lst (va_cons v_str va_nil)) (v_callT cr_intD m_int boot_int (va_cons (v_isX (cv := .ref (C.adr 17)) (cV := .ref (C.adr 17)) 0 hxs (hcl.c _ hx) List.mem_cons_self hz hf (pe_glob rfl g_TooMany rfl) (fun _ r => r) (hcl.k _ 17 hx (by decide)) m_isinstance) va_nil)))) (v_bin op_mulD (v_lst (va_cons v_str va_nil)) (v_callT cr_intD m_int boot_int (va_cons (v_not (v_isX (cv := .type "ValueError") (cV := .ty "ValueError") 0 hxs (hcl.c _ hx) List.mem_cons_self hz hf (pe_bltn rfl m_ValueError (by decide +kernel) rfl) (fun _ r => r) (hcl.v _ hx) m_isinstance)) va_nil)))))
    (vss_one (vs_ret (v_meth1 kd_str mt_joinD PySem.F.plainAttrs_str PySem.F.slot_str_join PySem.F.type_str_join v_str (v_var 1)))))))))))))))
/-! _law_error -/
abbrev st__law_error : Stmt := top 51
theorem sc__law_error : FnScope ["call", "found", "e"] ["call"] (defScope st__law_error) := ⟨rfl, rfl, rfl, by decide +kernel, rfl, by decide +kernel, by decide +kernel⟩
theorem err__law_error (F : FD K mg "_law_error" st__law_error) (hN : ∃ (fN : Addr) (fdN : FuncData), mg "_law_names" = some (.ref fN) ∧ PySem.W.keepIn K (.ref fN) = true ∧ L2.Binds K fdN ["e"] [] ∧ FnP P w K mg base (L2.CX P w) 1 fN fdN ["e"] (spP K C ev__law_names)) (gM : mg "MapError" = some (.ref (He.ga K "MapError"))) (hcl : ClsC K C 18) : ErrF P w K mg base C ev__law_names := by
  obtain ⟨g, fd, gg, F⟩ := F
  obtain ⟨fN, fdN, n1, n2, n3, n4⟩ := hN
  have kp := F.kp
  have bb := F.bindsN (ps := ["call"]) (fun _ _ _ _ _ _ us hl => match us, hl with | [_], _ => rfl)
  obtain ⟨oc, od, dV, kV, doc, pm, an, cdv, ct, osl, rfl, lk, hcd, _, _⟩ := F.ex
  exact ⟨g, fN, _, defArgs st__law_error, defScope st__law_error, dV, kV, doc, pm, cdv, ct, oc, an, od, osl, fdN, 0, "e", _, _, _, _, _, _, _, _, _, _, _, _, _, _, _, _, gg, kp, lk, hcd, bb, sc__law_error, ⟨rfl, rfl, rfl, rfl, rfl⟩, n4, n1, n2, n3, gM, fun x M h => hcl.m _ (fnX_lt h), fun x M y M' => fnX_ne _ _ _ _ _ _ _⟩
/-! law -/
abbrev st_law : Stmt := top 52
theorem sc_law : FnScope ["script", "cell", "source", "table", "names", "due", "one", "rows", "told", "odd", "schema", "column"] ["script"] (defScope st_law) := ⟨rfl, rfl, rfl, by decide +kernel, rfl, by decide +kernel, by decide +kernel⟩
def sco_law_0 : Scope := { kind := PySem.ScopeKind.function, names := [(PySem.Str.ofString ".0", PySem.NameKind.local), (PySem.Str.ofString "column", PySem.NameKind.local)], isGenerator := false, isCoroutine := false, more := [] : PySem.Scope }
def sco_law_1 : Scope := { kind := PySem.ScopeKind.function, names := [(PySem.Str.ofString ".0", PySem.NameKind.local), (PySem.Str.ofString "column", PySem.NameKind.local)], isGenerator := false, isCoroutine := false, more := [] : PySem.Scope }
def sco_law_2 : Scope := { kind := PySem.ScopeKind.function, names := [ (PySem.Str.ofString ".0", PySem.NameKind.local), (PySem.Str.ofString "column", PySem.NameKind.local), (PySem.Str.ofString "one", PySem.NameKind.free), (PySem.Str.ofString "table", PySem.NameKind.free)], isGenerator := false, isCoroutine := false, more := [] : PySem.Scope }
theorem blk_law_0 : BlkOk ["script", "cell", "source", "table", "names", "due", "one", "rows", "told", "odd", "schema", "column"] (defScope st_law) sco_law_0 [("column", 11)] := blkOk_by (by decide +kernel)
theorem blk_law_1 : BlkOk ["script", "cell", "source", "table", "names", "due", "one", "rows", "told", "odd", "schema", "column"] (defScope st_law) sco_law_1 [("column", 11)] := blkOk_by (by decide +kernel)
theorem blk_law_2 : BlkOk ["script", "cell", "source", "table", "names", "due", "one", "rows", "told", "odd", "schema", "column"] (defScope st_law) sco_law_2 [("column", 11)] := blkOk_by (by decide +kernel)
def qual_law : Str := (envOfC "law" (defScope st_law) 0 0 .none).qual ++ "<lambda>"
theorem fok_law {f : Addr} {fd : FuncData} (F : FunD K "law" "law" (defArgs st_law) (defBody st_law) (defScope st_law) [] [] f fd) (hff : f = He.fAd K ("law", none)) (TB : LamX.TabB base mg (He.codeOf K ("law", none)) (He.cT K ("law", none)).2) (htb : C.tb = [((He.cT K ("law", none)).2, qual_law)]) (m_list : mg "list" = none) (m_sorted : mg "sorted" = none) (m_tuple : mg "tuple" = none) (hE : ErrF P w K mg base C ev__law_names) (d_columns : Def P w K mg base C "columns" 6 2 ev_columns) (d_holders : Def P w K mg base C "holders" 6 2 ev_holders) (d__law_source : Def P w K mg base C "_law_source" 1 2 ev__law_source) (d__law_equal : Def P w K mg base C "_law_equal" 13 2 (ev__law_equal 12)) (d__law_spoilt : Def P w K mg base C "_law_spoilt" 15 2 (ev__law_spoilt 12)) (d__law_schema : Def P w K mg base C "_law_schema" 4 1 ev__law_schema) (d__law_columns : Def P w K mg base C "_law_columns" 1 1 ev__law_columns) : FnOk P w K mg base (L2.CX P w) 18 f fd ["script"] (spF ⟨K, C⟩ 1 ev_law_2) := by
  refine fn_okC (k := 17) ("law", none) F hff sc_law rfl fun A outer s H E hr tk po => ?_
  have hu := hu150 hr
  have mk : Maker (cxOf (L2.CX P w) P w K mg base ["script", "cell", "source", "table", "names", "due", "one", "rows", "told", "odd", "schema", "column"] "law" (defScope st_law) f (.ref (He.codeOf K ("law", none))) A outer s H E) C 1 := ⟨⟨_, _, TB, rfl, by rw [htb]; exact List.mem_cons_self, fun p hp _ => by rw [htb] at hp; rw [List.mem_singleton.mp hp]; rfl⟩, by rw [htb]; rfl⟩
  exact (vss_cons (vs_for po rfl (v_iter (v_sl (v_bin op_addD (v_lst (va_cons v_int va_nil)) (v_var 0)) vp_no (vp_so v_int))) (vg_name 1 (sc_law).nd) (vss_cons (vs_let 2 (sc_law).nd (v_call d__law_source (by decide) hr tk (va_cons (v_var 1) (va_cons v_int va_nil))))
    (vss_cons (vs_let 10 (sc_law).nd (v_call d__law_schema (by decide) hr tk (va_cons (v_var 2) va_nil)))
    (vss_cons (vs_for po rfl (v_iter (v_var 10)) (vg_name 3 (sc_law).nd) (vss_cons (vs_let 4 (sc_law).nd (v_callT cr_tupD m_tuple boot_tuple (va_cons (v_lc [("column", 11)] rfl (sc_law).nd blk_law_0 (by simp [Tg.slots, Tg.slotss]) (v_iter (v_call d__law_columns (by decide) hr tk (va_cons (v_var 3) va_nil))) (fun _ _ _ _ _ => vg_name 11 (sc_law).nd) (fun _ _ _ _ _ => vts_nil) (fun _ _ _ _ _ => v_ix (v_var 11) v_int)) va_nil)))
    (vss_cons (vs_if (vt_not (vt_val (v_call d__law_equal (by decide) hr tk (va_cons (v_call d_columns (by decide) hr tk (va_cons (v_var 10) (va_cons (v_ix (v_var 3) v_int) va_nil))) (va_cons (v_var 4) va_nil))))) (vss_one (vs_ret (v_bl))) vss_nil)
    (vss_cons (vs_let 5 (sc_law).nd (v_lst va_nil))
    (vss_cons (vs_for po rfl (v_iter (v_var 10)) (vg_name 6 (sc_law).nd) (vss_cons (vs_letLc 7 [("column", 11)] rfl (sc_law).nd blk_law_1 (by simp [Tg.slots, Tg.slotss]) (v_iter (v_call d__law_columns (by decide) hr tk (va_cons (v_var 6) va_nil))) (fun _ _ _ _ _ => vg_name 11 (sc_law).nd) (fun _ _ _ _ _ => vts_one (vt_val (v_ix (v_var 11) v_int))) (fun _ _ _ _ _ => v_var 11) (sw_true rfl rfl (by decide) (by decide)))
    (vss_one (vs_let 5 (sc_law).nd (v_bin op_addD (v_var 5) (v_lc [("column", 11)] rfl (sc_law).nd blk_law_2 (by simp [Tg.slots, Tg.slotss]) (v_iter (v_var 7)) (fun _ _ _ _ _ => vg_name 11 (sc_law).nd) (fun _ _ _ _ _ => vts_one (vt_cmp (op_eqD' hu) (v_ix (v_var 11) v_int) (v_ix (v_var 3) v_int))) (fun _ _ _ _ _ => v_tup (va_cons (v_ix (v_var 6) v_int) (va_cons (v_ix (v_var 11) v_int) va_nil)))))))))
    (vss_cons (vs_let 8 (sc_law).nd (v_call d_holders (by decide) hr tk (va_cons (v_var 10) (va_cons (v_ix (v_var 3) v_int) va_nil))))
    (vss_cons (vs_if (vt_not (vt_val (v_call d__law_equal (by decide) hr tk (va_cons (v_var 8) (va_cons (v_callB (cr_srtD hu) m_sorted boot_sorted (va_cons (v_var 5) va_nil)) va_nil))))) (vss_one (vs_ret (v_bl))) vss_nil)
    (vss_cons (vs_do (v_meth1 kd_lst mt_app PySem.F.plainAttrs_list PySem.F.slot_list_append PySem.F.type_list_append (v_var 8) v_non))
    (vss_one (vs_if (vt_cmp (op_neD' hu) (v_call d_holders (by decide) hr tk (va_cons (v_var 10) (va_cons (v_ix (v_var 3) v_int) va_nil))) (v_callB (cr_srtD hu) m_sorted boot_sorted (va_cons (v_var 5) va_nil))) (vss_one (vs_ret (v_bl))) vss_nil))))))))))
    (vss_cons (vs_for po rfl (v_iter (v_lst (va_cons v_str (va_cons v_str (va_cons v_non (va_cons v_int (va_cons (v_tup (va_cons v_str va_nil)) (va_cons v_str (va_cons (v_lst (va_cons v_str va_nil)) va_nil))))))))) (vg_name 9 (sc_law).nd) (vss_cons (vs_if (vt_cmp (op_neD' hu) (v_lawerr hE mk hr rfl (LamX.lamS_by (sc := defScope st_law) (by decide +kernel)) rfl (fun _ _ _ _ _ => rfl) (fun A outer s H E f c' hr => v_call d_columns (by decide) hr lam_takes (va_cons (v_var 10) (va_cons (v_var 9) va_nil)))) v_str) (vss_one (vs_ret (v_bl))) vss_nil)
    (vss_one (vs_if (vt_cmp (op_neD' hu) (v_lawerr hE mk hr rfl (LamX.lamS_by (sc := defScope st_law) (by decide +kernel)) rfl (fun _ _ _ _ _ => rfl) (fun A outer s H E f c' hr => v_call d_holders (by decide) hr lam_takes (va_cons (v_var 10) (va_cons (v_var 9) va_nil)))) v_str) (vss_one (vs_ret (v_bl))) vss_nil))))
    (vss_one (vs_for po rfl (v_iter (v_lst (va_cons v_non (va_cons (v_tup va_nil) (va_cons (v_callT cr_lstD m_list boot_list (va_cons (v_var 10) va_nil)) (va_cons (v_bin op_addD (v_var 10) (v_var 10)) (va_cons (v_call d__law_spoilt (by decide) hr tk (va_cons (v_var 2) (va_cons v_int va_nil))) va_nil))))))) (vg_name 9 (sc_law).nd) (vss_cons (vs_if (vt_cmp (op_neD' hu) (v_lawerr hE mk hr rfl (LamX.lamS_by (sc := defScope st_law) (by decide +kernel)) rfl (fun _ _ _ _ _ => rfl) (fun A outer s H E f c' hr => v_call d_columns (by decide) hr lam_takes (va_cons (v_var 9) (va_cons v_str va_nil)))) v_str) (vss_one (vs_ret (v_bl))) vss_nil)
    (vss_one (vs_if (vt_cmp (op_neD' hu) (v_lawerr hE mk hr rfl (LamX.lamS_by (sc := defScope st_law) (by decide +kernel)) rfl (fun _ _ _ _ _ => rfl) (fun A outer s H E f c' hr => v_call d_holders (by decide) hr lam_takes (va_cons (v_var 9) (va_cons v_str va_nil)))) v_str) (vss_one (vs_ret (v_bl))) vss_nil))))))))))
    (vss_cons (vs_let 3 (sc_law).nd (v_tup (va_cons v_str (va_cons (v_tup (va_cons (v_tup (va_cons v_str (va_cons v_str (va_cons v_bl va_nil)))) va_nil)) (va_cons (v_tup (va_cons (v_tup (va_cons v_str (va_cons v_str (va_cons v_bl (va_cons v_str va_nil))))) (va_cons (v_tup (va_cons v_str (va_cons v_str (va_cons v_bl (va_cons v_str va_nil))))) va_nil))) (va_cons (v_tup va_nil) va_nil))))))
    (vss_one (vs_ret (v_and (v_cmp (op_eqD' hu) (v_call d_columns (by decide) hr tk (va_cons (v_tup (va_cons (v_var 3) va_nil)) (va_cons v_str va_nil))) (v_tup (va_cons v_str (va_cons v_str (va_cons v_str va_nil))))) (v_one (v_cmp (op_eqD' hu) (v_call d_holders (by decide) hr tk (va_cons (v_tup (va_cons (v_var 3) va_nil)) (va_cons v_str va_nil))) (v_lst (va_cons (v_tup (va_cons v_str (va_cons v_str va_nil))) (va_cons (v_tup (va_cons v_str (va_cons v_str va_nil))) va_nil))))))))))
end
end Mk
end

section
set_option maxHeartbeats 4000000
open PySem PySem.Spec PyProof.Rows L2
namespace Mk
def q_names_of : He.DefD := ⟨("names_of", none), "names_of", "names_of", defArgs st_names_of, defBody st_names_of, defScope st_names_of, [], []⟩
def q_is_tuple : He.DefD := ⟨("is_tuple", none), "is_tuple", "is_tuple", defArgs st_is_tuple, defBody st_is_tuple, defScope st_is_tuple, [], []⟩
def q_is_rising : He.DefD := ⟨("is_rising", none), "is_rising", "is_rising", defArgs st_is_rising, defBody st_is_rising, defScope st_is_rising, [], []⟩
def q_is_word : He.DefD := ⟨("is_word", none), "is_word", "is_word", defArgs st_is_word, defBody st_is_word, defScope st_is_word, [], []⟩
def q_is_field : He.DefD := ⟨("is_field", none), "is_field", "is_field", defArgs st_is_field, defBody st_is_field, defScope st_is_field, [], []⟩
def q_is_link : He.DefD := ⟨("is_link", none), "is_link", "is_link", defArgs st_is_link, defBody st_is_link, defScope st_is_link, [], []⟩
def q_is_key : He.DefD := ⟨("is_key", none), "is_key", "is_key", defArgs st_is_key, defBody st_is_key, defScope st_is_key, [], []⟩
def q_is_table : He.DefD := ⟨("is_table", none), "is_table", "is_table", defArgs st_is_table, defBody st_is_table, defScope st_is_table, [], []⟩
def q_can_be_schema : He.DefD := ⟨("can_be_schema", none), "can_be_schema", "can_be_schema", defArgs st_can_be_schema, defBody st_can_be_schema, defScope st_can_be_schema, [], []⟩
def q_check_schema : He.DefD := ⟨("check_schema", none), "check_schema", "check_schema", defArgs st_check_schema, defBody st_check_schema, defScope st_check_schema, [], []⟩
def q_place_of : He.DefD := ⟨("place_of", none), "place_of", "place_of", defArgs st_place_of, defBody st_place_of, defScope st_place_of, [], []⟩
def q_check_table : He.DefD := ⟨("check_table", none), "check_table", "check_table", defArgs st_check_table, defBody st_check_table, defScope st_check_table, [], []⟩
def q_table_of : He.DefD := ⟨("table_of", none), "table_of", "table_of", defArgs st_table_of, defBody st_table_of, defScope st_table_of, [], []⟩
def q_columns : He.DefD := ⟨("columns", none), "columns", "columns", defArgs st_columns, defBody st_columns, defScope st_columns, [], []⟩
def q_links_to : He.DefD := ⟨("links_to", none), "links_to", "links_to", defArgs st_links_to, defBody st_links_to, defScope st_links_to, [], []⟩
def q_holders : He.DefD := ⟨("holders", none), "holders", "holders", defArgs st_holders, defBody st_holders, defScope st_holders, [], []⟩
def q__law_source : He.DefD := ⟨("_law_source", none), "_law_source", "_law_source", defArgs st__law_source, defBody st__law_source, defScope st__law_source, [], []⟩
def q__law_kind : He.DefD := ⟨("_law_kind", none), "_law_kind", "_law_kind", defArgs st__law_kind, defBody st__law_kind, defScope st__law_kind, [], []⟩
def q__law_equal : He.DefD := ⟨("_law_equal", none), "_law_equal", "_law_equal", defArgs st__law_equal, defBody st__law_equal, defScope st__law_equal, [], []⟩
def q__law_draw : He.DefD := ⟨("_law_draw", none), "_law_draw", "_law_draw", defArgs st__law_draw, defBody st__law_draw, defScope st__law_draw, [], []⟩
def q__law_choice : He.DefD := ⟨("_law_choice", none), "_law_choice", "_law_choice", defArgs st__law_choice, defBody st__law_choice, defScope st__law_choice, [], []⟩
def q__law_odd : He.DefD := ⟨("_law_odd", none), "_law_odd", "_law_odd", defArgs st__law_odd, defBody st__law_odd, defScope st__law_odd, [], []⟩
def q__law_spoilt : He.DefD := ⟨("_law_spoilt", none), "_law_spoilt", "_law_spoilt", defArgs st__law_spoilt, defBody st__law_spoilt, defScope st__law_spoilt, [], []⟩
def q__law_keys : He.DefD := ⟨("_law_keys", none), "_law_keys", "_law_keys", defArgs st__law_keys, defBody st__law_keys, defScope st__law_keys, [], []⟩
def q__law_schema : He.DefD := ⟨("_law_schema", none), "_law_schema", "_law_schema", defArgs st__law_schema, defBody st__law_schema, defScope st__law_schema, [], []⟩
def q__law_columns : He.DefD := ⟨("_law_columns", none), "_law_columns", "_law_columns", defArgs st__law_columns, defBody st__law_columns, defScope st__law_columns, [], []⟩
def q__law_names : He.DefD := ⟨("_law_names", none), "_law_names", "_law_names", defArgs st__law_names, defBody st__law_names, defScope st__law_names, [], []⟩
def q__law_error : He.DefD := ⟨("_law_error", none), "_law_error", "_law_error", defArgs st__law_error, defBody st__law_error, defScope st__law_error, [], []⟩
def q_law : He.DefD := ⟨("law", none), "law", "law", defArgs st_law, defBody st_law, defScope st_law, [], []⟩
def hfn : List He.DefD := [q_names_of, q_is_tuple, q_is_rising, q_is_word, q_is_field, q_is_link, q_is_key, q_is_table, q_can_be_schema, q_check_schema, q_place_of, q_check_table, q_table_of, q_columns, q_links_to, q_holders, q__law_source, q__law_kind, q__law_equal, q__law_draw, q__law_choice, q__law_odd, q__law_spoilt, q__law_keys, q__law_schema, q__law_columns, q__law_names, q__law_error, q_law]
def hfa : List He.Fa := [.glo "names_of", .glo "is_tuple", .glo "is_rising", .glo "is_word", .glo "is_field", .glo "is_link", .glo "is_key", .glo "is_table", .glo "can_be_schema", .glo "check_schema", .glo "place_of", .glo "check_table", .glo "table_of", .glo "columns", .glo "links_to", .glo "holders", .glo "_law_source", .glo "_law_kind", .glo "_law_equal", .glo "_law_draw", .glo "_law_choice", .glo "_law_odd", .glo "_law_spoilt", .glo "_law_keys", .glo "_law_schema", .glo "_law_columns", .glo "_law_names", .glo "_law_error", .glo "law", .free "ValueError", .free "all", .free "bool", .free "enumerate", .free "int", .free "isinstance", .free "len", .free "list", .free "range", .free "set", .free "sorted", .free "str", .free "tuple", .free "zip", .glo "InvalidSchema", .glo "InvalidTable", .glo "InvalidColumn", .glo "InvalidNumber", .glo "InvalidValue", .glo "InvalidData", .glo "InvalidStatement", .glo "InvalidWrites", .glo "Gone", .glo "NothingToUndo", .glo "Refused", .glo "Knot", .glo "Held", .glo "Stale", .glo "Unsound", .glo "Lost", .glo "InvalidText", .glo "TooMany", .exc "InvalidSchema", .exc "InvalidTable", .glo "MapError"]
def hgl : List (Str × D) := [("LETTERS", g_LETTERS), ("RULES", g_RULES)]
def hcl : List Str := [("InvalidSchema" : Str), ("InvalidTable" : Str), ("InvalidColumn" : Str), ("InvalidNumber" : Str), ("InvalidValue" : Str), ("InvalidData" : Str), ("InvalidStatement" : Str), ("InvalidWrites" : Str), ("Gone" : Str), ("NothingToUndo" : Str), ("Refused" : Str), ("Knot" : Str), ("Held" : Str), ("Stale" : Str), ("Unsound" : Str), ("Lost" : Str), ("InvalidText" : Str), ("TooMany" : Str)]
def htf : List He.Defn := [("law", none)]
def hex (K : PySem.W.Frag) : Bool := clB hcl K
def loose0 : List Str := ["MapError", "InvalidSchema", "InvalidTable", "InvalidColumn", "InvalidNumber", "InvalidValue", "InvalidData", "InvalidStatement", "InvalidWrites", "Gone", "NothingToUndo", "Refused"]
def loose1 : List Str := ["Knot", "Held", "Stale", "Unsound", "Lost", "InvalidText", "TooMany", "LETTERS", "RULES", "is_word", "is_tuple", "is_rising"]
def loose2 : List Str := ["is_field", "is_link", "is_key", "is_table", "names_of", "can_be_schema", "check_schema", "place_of", "check_table", "table_of", "links_to", "columns"]
def loose3 : List Str := ["holders", "_law_source", "_law_draw", "_law_choice", "_law_kind", "_law_equal", "_law_odd", "_law_spoilt", "_law_keys", "_law_schema", "_law_columns", "_law_names"]
def loose4 : List Str := ["_law_error"]
def loose : List Str := loose0 ++ loose1 ++ loose2 ++ loose3 ++ loose4
abbrev hR : PySem.W.OpenRow := PySem.W.OpenLaw.row PySem.Challenge.rw_mapkeep_k02_columns_and_links
abbrev hk : PySem.W.Hook := hookN 4 hfa hfn hgl htf hex
def hob (s : PySem.W.SharedT) : AlM := obsN 4 hfa hfn hgl htf hex (HandSHeadRun.getT s)
theorem hob_eq (s : PySem.W.SharedT) : hob s = hk.obs s.abs := obsN_eq (HandSHeadRun.getT_eq s)
theorem hrun (w : World) : HandSHeadRun.RunEq hR (PySem.W.view hR.prog [52]) hk hob 60000 loose w := by
  intro os
  kernel_rfl
theorem law_def {P : Program} {w : World} {K : PySem.W.Frag} {h base : Heap} {mg : Str → Option Value} {C : Cl} [NoX C] (X : K.In h) (G : h.Ns mainGlobals mg) (c : He.SaysD hfa hfn K) (gl : hgl.all (glB K) = true) (ex : hex K = true) (hadr : C.adr = clsA K hcl) {f : Addr} {fd : FuncData} (F_law : FunD K "law" "law" (defArgs st_law) (defBody st_law) (defScope st_law) [] [] f fd) (hff : f = He.fAd K ("law", none)) (TB : LamX.TabB base mg (He.codeOf K ("law", none)) (He.cT K ("law", none)).2) (htb : C.tb = [((He.cT K ("law", none)).2, qual_law)]) : FnOk P w K mg base (L2.CX P w) 18 f fd ["script"] (spF ⟨K, C⟩ 1 ev_law_2) := by
  have F_names_of : FD K mg "names_of" st_names_of := def_at X G c 0 0 (d := q_names_of) rfl rfl rfl
  have F_is_tuple : FD K mg "is_tuple" st_is_tuple := def_at X G c 1 1 (d := q_is_tuple) rfl rfl rfl
  have F_is_rising : FD K mg "is_rising" st_is_rising := def_at X G c 2 2 (d := q_is_rising) rfl rfl rfl
  have F_is_word : FD K mg "is_word" st_is_word := def_at X G c 3 3 (d := q_is_word) rfl rfl rfl
  have F_is_field : FD K mg "is_field" st_is_field := def_at X G c 4 4 (d := q_is_field) rfl rfl rfl
  have F_is_link : FD K mg "is_link" st_is_link := def_at X G c 5 5 (d := q_is_link) rfl rfl rfl
  have F_is_key : FD K mg "is_key" st_is_key := def_at X G c 6 6 (d := q_is_key) rfl rfl rfl
  have F_is_table : FD K mg "is_table" st_is_table := def_at X G c 7 7 (d := q_is_table) rfl rfl rfl
  have F_can_be_schema : FD K mg "can_be_schema" st_can_be_schema := def_at X G c 8 8 (d := q_can_be_schema) rfl rfl rfl
  have F_check_schema : FD K mg "check_schema" st_check_schema := def_at X G c 9 9 (d := q_check_schema) rfl rfl rfl
  have F_place_of : FD K mg "place_of" st_place_of := def_at X G c 10 10 (d := q_place_of) rfl rfl rfl
  have F_check_table : FD K mg "check_table" st_check_table := def_at X G c 11 11 (d := q_check_table) rfl rfl rfl
  have F_table_of : FD K mg "table_of" st_table_of := def_at X G c 12 12 (d := q_table_of) rfl rfl rfl
  have F_columns : FD K mg "columns" st_columns := def_at X G c 13 13 (d := q_columns) rfl rfl rfl
  have F_links_to : FD K mg "links_to" st_links_to := def_at X G c 14 14 (d := q_links_to) rfl rfl rfl
  have F_holders : FD K mg "holders" st_holders := def_at X G c 15 15 (d := q_holders) rfl rfl rfl
  have F__law_source : FD K mg "_law_source" st__law_source := def_at X G c 16 16 (d := q__law_source) rfl rfl rfl
  have F__law_kind : FD K mg "_law_kind" st__law_kind := def_at X G c 17 17 (d := q__law_kind) rfl rfl rfl
  have F__law_equal : FD K mg "_law_equal" st__law_equal := def_at X G c 18 18 (d := q__law_equal) rfl rfl rfl
  have F__law_draw : FD K mg "_law_draw" st__law_draw := def_at X G c 19 19 (d := q__law_draw) rfl rfl rfl
  have F__law_choice : FD K mg "_law_choice" st__law_choice := def_at X G c 20 20 (d := q__law_choice) rfl rfl rfl
  have F__law_odd : FD K mg "_law_odd" st__law_odd := def_at X G c 21 21 (d := q__law_odd) rfl rfl rfl
  have F__law_spoilt : FD K mg "_law_spoilt" st__law_spoilt := def_at X G c 22 22 (d := q__law_spoilt) rfl rfl rfl
  have F__law_keys : FD K mg "_law_keys" st__law_keys := def_at X G c 23 23 (d := q__law_keys) rfl rfl rfl
  have F__law_schema : FD K mg "_law_schema" st__law_schema := def_at X G c 24 24 (d := q__law_schema) rfl rfl rfl
  have F__law_columns : FD K mg "_law_columns" st__law_columns := def_at X G c 25 25 (d := q__law_columns) rfl rfl rfl
  have F__law_names : FD K mg "_law_names" st__law_names := def_at X G c 26 26 (d := q__law_names) rfl rfl rfl
  have F__law_error : FD K mg "_law_error" st__law_error := def_at X G c 27 27 (d := q__law_error) rfl rfl rfl
  have m_ValueError : mg "ValueError" = none := He.free_ok X G (c.fact 29 (f := .free "ValueError") rfl)
  have m_all : mg "all" = none := He.free_ok X G (c.fact 30 (f := .free "all") rfl)
  have m_bool : mg "bool" = none := He.free_ok X G (c.fact 31 (f := .free "bool") rfl)
  have m_enumerate : mg "enumerate" = none := He.free_ok X G (c.fact 32 (f := .free "enumerate") rfl)
  have m_int : mg "int" = none := He.free_ok X G (c.fact 33 (f := .free "int") rfl)
  have m_isinstance : mg "isinstance" = none := He.free_ok X G (c.fact 34 (f := .free "isinstance") rfl)
  have m_len : mg "len" = none := He.free_ok X G (c.fact 35 (f := .free "len") rfl)
  have m_list : mg "list" = none := He.free_ok X G (c.fact 36 (f := .free "list") rfl)
  have m_range : mg "range" = none := He.free_ok X G (c.fact 37 (f := .free "range") rfl)
  have m_set : mg "set" = none := He.free_ok X G (c.fact 38 (f := .free "set") rfl)
  have m_sorted : mg "sorted" = none := He.free_ok X G (c.fact 39 (f := .free "sorted") rfl)
  have m_str : mg "str" = none := He.free_ok X G (c.fact 40 (f := .free "str") rfl)
  have m_tuple : mg "tuple" = none := He.free_ok X G (c.fact 41 (f := .free "tuple") rfl)
  have m_zip : mg "zip" = none := He.free_ok X G (c.fact 42 (f := .free "zip") rfl)
  have h_LETTERS : Dat K C mg "LETTERS" g_LETTERS := glB_ok C X G (q := ("LETTERS", g_LETTERS)) (List.all_eq_true.mp gl _ (by simp [hgl]))
  have h_RULES : Dat K C mg "RULES" g_RULES := glB_ok C X G (q := ("RULES", g_RULES)) (List.all_eq_true.mp gl _ (by simp [hgl]))
  have gg_InvalidSchema := c.fact 43 (f := .glo "InvalidSchema") rfl
  have gg_InvalidTable := c.fact 44 (f := .glo "InvalidTable") rfl
  have gg_InvalidColumn := c.fact 45 (f := .glo "InvalidColumn") rfl
  have gg_InvalidNumber := c.fact 46 (f := .glo "InvalidNumber") rfl
  have gg_InvalidValue := c.fact 47 (f := .glo "InvalidValue") rfl
  have gg_InvalidData := c.fact 48 (f := .glo "InvalidData") rfl
  have gg_InvalidStatement := c.fact 49 (f := .glo "InvalidStatement") rfl
  have gg_InvalidWrites := c.fact 50 (f := .glo "InvalidWrites") rfl
  have gg_Gone := c.fact 51 (f := .glo "Gone") rfl
  have gg_NothingToUndo := c.fact 52 (f := .glo "NothingToUndo") rfl
  have gg_Refused := c.fact 53 (f := .glo "Refused") rfl
  have gg_Knot := c.fact 54 (f := .glo "Knot") rfl
  have gg_Held := c.fact 55 (f := .glo "Held") rfl
  have gg_Stale := c.fact 56 (f := .glo "Stale") rfl
  have gg_Unsound := c.fact 57 (f := .glo "Unsound") rfl
  have gg_Lost := c.fact 58 (f := .glo "Lost") rfl
  have gg_InvalidText := c.fact 59 (f := .glo "InvalidText") rfl
  have gg_TooMany := c.fact 60 (f := .glo "TooMany") rfl
  have g_InvalidSchema : mg "InvalidSchema" = some (.ref (C.adr 0)) := by rw [hadr]; exact He.glo_ok X G gg_InvalidSchema
  have g_InvalidTable : mg "InvalidTable" = some (.ref (C.adr 1)) := by rw [hadr]; exact He.glo_ok X G gg_InvalidTable
  have g_InvalidColumn : mg "InvalidColumn" = some (.ref (C.adr 2)) := by rw [hadr]; exact He.glo_ok X G gg_InvalidColumn
  have g_InvalidNumber : mg "InvalidNumber" = some (.ref (C.adr 3)) := by rw [hadr]; exact He.glo_ok X G gg_InvalidNumber
  have g_InvalidValue : mg "InvalidValue" = some (.ref (C.adr 4)) := by rw [hadr]; exact He.glo_ok X G gg_InvalidValue
  have g_InvalidData : mg "InvalidData" = some (.ref (C.adr 5)) := by rw [hadr]; exact He.glo_ok X G gg_InvalidData
  have g_InvalidStatement : mg "InvalidStatement" = some (.ref (C.adr 6)) := by rw [hadr]; exact He.glo_ok X G gg_InvalidStatement
  have g_InvalidWrites : mg "InvalidWrites" = some (.ref (C.adr 7)) := by rw [hadr]; exact He.glo_ok X G gg_InvalidWrites
  have g_Gone : mg "Gone" = some (.ref (C.adr 8)) := by rw [hadr]; exact He.glo_ok X G gg_Gone
  have g_NothingToUndo : mg "NothingToUndo" = some (.ref (C.adr 9)) := by rw [hadr]; exact He.glo_ok X G gg_NothingToUndo
  have g_Refused : mg "Refused" = some (.ref (C.adr 10)) := by rw [hadr]; exact He.glo_ok X G gg_Refused
  have g_Knot : mg "Knot" = some (.ref (C.adr 11)) := by rw [hadr]; exact He.glo_ok X G gg_Knot
  have g_Held : mg "Held" = some (.ref (C.adr 12)) := by rw [hadr]; exact He.glo_ok X G gg_Held
  have g_Stale : mg "Stale" = some (.ref (C.adr 13)) := by rw [hadr]; exact He.glo_ok X G gg_Stale
  have g_Unsound : mg "Unsound" = some (.ref (C.adr 14)) := by rw [hadr]; exact He.glo_ok X G gg_Unsound
  have g_Lost : mg "Lost" = some (.ref (C.adr 15)) := by rw [hadr]; exact He.glo_ok X G gg_Lost
  have g_InvalidText : mg "InvalidText" = some (.ref (C.adr 16)) := by rw [hadr]; exact He.glo_ok X G gg_InvalidText
  have g_TooMany : mg "TooMany" = some (.ref (C.adr 17)) := by rw [hadr]; exact He.glo_ok X G gg_TooMany
  have o_InvalidSchema : OwnC K mg (C.adr 0) "InvalidSchema" [.type "ValueError", .type "Exception", .type "BaseException", .type "object"] := ownC_of X G gg_InvalidSchema (c.fact 61 (f := .exc "InvalidSchema") rfl) (by rw [hadr]; rfl)
  have o_InvalidTable : OwnC K mg (C.adr 1) "InvalidTable" [.type "ValueError", .type "Exception", .type "BaseException", .type "object"] := ownC_of X G gg_InvalidTable (c.fact 62 (f := .exc "InvalidTable") rfl) (by rw [hadr]; rfl)
  have gM : mg "MapError" = some (.ref (He.ga K "MapError")) := He.glo_ok X G (c.fact 63 (f := .glo "MapError") rfl)
  have hcl0 : ClsC K C 18 := clsC_of (cl := hcl) (clB_ok ex) hadr
  have d_names_of : Def P w K mg base C "names_of" 1 1 ev_names_of := ok_names_of F_names_of m_tuple
  have d_is_tuple : Def P w K mg base C "is_tuple" 1 3 ev_is_tuple := ok_is_tuple F_is_tuple m_isinstance m_len m_tuple
  have d_is_rising : Def P w K mg base C "is_rising" 1 1 ev_is_rising := ok_is_rising F_is_rising m_all m_zip
  have d_is_word : Def P w K mg base C "is_word" 1 2 ev_is_word := ok_is_word F_is_word m_all m_isinstance m_len m_str h_LETTERS
  have d_is_field : Def P w K mg base C "is_field" 2 1 ev_is_field := ok_is_field F_is_field m_bool m_isinstance m_str d_is_word d_is_tuple
  have d_is_link : Def P w K mg base C "is_link" 2 1 ev_is_link := ok_is_link F_is_link m_bool m_isinstance m_str h_RULES d_is_word d_is_tuple
  have d_is_key : Def P w K mg base C "is_key" 2 2 ev_is_key := ok_is_key F_is_key m_all m_isinstance m_str d_is_tuple d_is_rising
  have d_is_table : Def P w K mg base C "is_table" 3 1 ev_is_table := ok_is_table F_is_table m_all m_len m_set d_is_word d_is_tuple d_is_rising d_is_field d_is_link d_is_key d_names_of
  have d_can_be_schema : Def P w K mg base C "can_be_schema" 4 1 ev_can_be_schema := ok_can_be_schema F_can_be_schema m_all d_is_tuple d_is_rising d_is_table
  have d_check_schema : Def P w K mg base C "check_schema" 5 1 ev_check_schema := ok_check_schema F_check_schema o_InvalidSchema d_can_be_schema
  have d_place_of : Def P w K mg base C "place_of" 1 2 ev_place_of := ok_place_of F_place_of m_isinstance m_str
  have d_check_table : Def P w K mg base C "check_table" 2 2 ev_check_table := ok_check_table F_check_table o_InvalidTable d_place_of
  have d_table_of : Def P w K mg base C "table_of" 2 2 ev_table_of := ok_table_of F_table_of d_place_of
  have d_columns : Def P w K mg base C "columns" 6 2 ev_columns := ok_columns F_columns d_names_of d_check_schema d_check_table d_table_of
  have d_links_to : Def P w K mg base C "links_to" 1 2 ev_links_to := ok_links_to F_links_to m_sorted
  have d_holders : Def P w K mg base C "holders" 6 2 ev_holders := ok_holders F_holders d_check_schema d_check_table d_links_to
  have d__law_source : Def P w K mg base C "_law_source" 1 2 ev__law_source := ok__law_source F__law_source
  have d__law_kind : Def P w K mg base C "_law_kind" 1 1 ev__law_kind := ok__law_kind F__law_kind m_bool m_int m_isinstance m_list m_str m_tuple
  have d__law_equal : Def P w K mg base C "_law_equal" 13 2 (ev__law_equal 12) := ok__law_equal F__law_equal m_enumerate m_len d__law_kind
  have d__law_draw : Def P w K mg base C "_law_draw" 1 2 ev__law_draw := ok__law_draw F__law_draw
  have d__law_choice : Def P w K mg base C "_law_choice" 2 2 ev__law_choice := ok__law_choice F__law_choice m_len d__law_draw
  have d__law_odd : Def P w K mg base C "_law_odd" 3 1 ev__law_odd := ok__law_odd F__law_odd d__law_choice
  have d__law_spoilt : Def P w K mg base C "_law_spoilt" 15 2 (ev__law_spoilt 12) := ok__law_spoilt F__law_spoilt m_int m_isinstance m_len m_list m_str m_tuple d__law_draw d__law_choice d__law_odd
  have d__law_keys : Def P w K mg base C "_law_keys" 3 2 ev__law_keys := ok__law_keys F__law_keys m_range m_set m_sorted m_tuple d__law_choice
  have d__law_schema : Def P w K mg base C "_law_schema" 4 1 ev__law_schema := ok__law_schema F__law_schema m_sorted d__law_draw d__law_choice d__law_keys
  have d__law_columns : Def P w K mg base C "_law_columns" 1 1 ev__law_columns := ok__law_columns F__law_columns
  have hN := okx__law_names (P := P) (w := w) (base := base) F__law_names m_ValueError m_int m_isinstance g_Gone g_Held g_InvalidColumn g_InvalidData g_InvalidNumber g_InvalidSchema g_InvalidStatement g_InvalidTable g_InvalidText g_InvalidValue g_InvalidWrites g_Knot g_Lost g_NothingToUndo g_Refused g_Stale g_TooMany g_Unsound hcl0
  have hE : ErrF P w K mg base C ev__law_names := err__law_error F__law_error hN gM hcl0
  exact fok_law F_law hff TB htb m_list m_sorted m_tuple hE d_columns d_holders d__law_source d__law_equal d__law_spoilt d__law_schema d__law_columns
end Mk
open PySem PySem.W PySem.Calls PyProof.Rows in
theorem holds_of (law : ∀ ns : List Int, ns.length ≤ 63 → ∃ M', Mk.ev_law_2 [.lst (ns.map Mk.D.int)] (Mk.tabs0 1) = .ok (.bl true) M') : PySem.Challenge.rw_mapkeep_k02_columns_and_links.Holds := by
  w_on; o_law
  refine HandSHeadRun.head_any (r := OpenLaw.row PySem.Challenge.rw_mapkeep_k02_columns_and_links) (q := view (OpenLaw.row PySem.Challenge.rw_mapkeep_k02_columns_and_links).prog [52]) (H := Mk.hk) (ob := Mk.hob) (M := 60000) (loose := Mk.loose) (d := HandSHeadRun.topDef (OpenLaw.row PySem.Challenge.rw_mapkeep_k02_columns_and_links).prog 52) (kwd := []) Mk.hob_eq
    (by kernel_rfl) (fun s => by kernel_rfl) Mk.hrun (by kernel_rfl) (by kernel_rfl) (by kernel_rfl) (by rfl) (by first | assumption | decide +kernel) (by decide +kernel) ⟨rfl, rfl, rfl, rfl, rfl, by decide +kernel⟩ ?hw ?hc
  case hw => w_witness2
  case hc =>
    refine LamX.walk_ofTsE (l := PySem.Challenge.rw_mapkeep_k02_columns_and_links) (n := 63) (k := 18) (x := "script") (CX := fun _ => L2.CX0) rfl (by decide) (by kernel_rfl) ⟨rfl, by decide, by decide⟩ ?F (fun _ _ _ _ _ z => z)
    intro w mg fa h Y G hmg0
    obtain ⟨K, KX, sn⟩ := Y
    have hmg : mg ("law" : PySem.Str) = some (.ref fa) := by
      have e : (HandSHeadRun.topDef (OpenLaw.row PySem.Challenge.rw_mapkeep_k02_columns_and_links).prog 52).name = ("law" : PySem.Str) := by kernel_rfl
      rw [← e]
      exact hmg0
    obtain ⟨f, fd, gm, F⟩ : Mk.FD K mg "law" Mk.st_law := Mk.def_at KX G sn.d 28 28 (d := Mk.q_law) rfl rfl rfl
    have ef := hmg.symm.trans gm
    cases ef
    have gl : mg ("law" : PySem.Str) = some (.ref (He.ga K "law")) := He.glo_ok KX G (sn.d.fact 28 (f := .glo "law") rfl)
    have hff : fa = He.fAd K ("law", none) := by
      have := hmg.symm.trans gl
      cases this
      rfl
    have bb := L2.FunD.bindsA (ps := ["script"]) F fun _ _ _ _ _ _ us hl => match us, hl with | [_], _ => rfl
    haveI : Mk.NoX ⟨Mk.clsA K Mk.hcl, [((He.cT K ("law", none)).2, Mk.qual_law)], [], []⟩ := ⟨rfl, rfl⟩
    refine ⟨K, KX, fd, [He.cT K ("law", none)], Mk.spEndT K [He.cT K ("law", none)] 63, fun p hp => by rw [List.mem_singleton.mp hp]; exact sn.empty _ List.mem_cons_self, fun p hp => by rw [List.mem_singleton.mp hp]; exact sn.out _ List.mem_cons_self, fun p hp => by rw [List.mem_singleton.mp hp]; exact PySem.W.codeHd_of_K KX (sn.hd _ List.mem_cons_self), fun s v => bb s [v] rfl, fun H a ns hl _ hT hS => ⟨a, ns, rfl, hS, hl, hT, fun _ => rfl⟩, fun base KB GB TB => ?_⟩
    exact Mk.end_fnT (cs := [He.cT K ("law", none)]) sn.nl (Mk.law_def (C := ⟨Mk.clsA K Mk.hcl, [((He.cT K ("law", none)).2, Mk.qual_law)], [], []⟩) KX G sn.d sn.gl sn.ex rfl F hff (TB _ List.mem_cons_self) rfl) rfl rfl (by simp) law
end

section
set_option maxHeartbeats 4000000
/-! Pl0: how the evaluators are worked out. -/
open PySem PySem.Spec PyProof.Rows L2
namespace Mk
def andK (d : D) (r : Res D) (M : Mem) : Res D := match d with
  | .bl true => r
  | .bl false => .ok (.bl false) M
  | _ => .err
def orK (d : D) (r : Res D) (M : Mem) : Res D := match d with
  | .bl true => .ok (.bl true) M
  | .bl false => r
  | _ => .err
def ifK {α : Type} (b : Bool) (x y : α) : α := match b with
  | true => x
  | false => y
section
variable {α : Type} (b c : Bool) (M : Mem)
@[simp] theorem ifK_true (x y : α) : ifK true x y = x := rfl
@[simp] theorem ifK_false (x y : α) : ifK false x y = y := rfl
@[simp] theorem ifK_not (x y : α) : ifK (!b) x y = ifK b y x := by cases b <;> rfl
@[simp] theorem ifK_ifK (x y : α) : ifK b (ifK c x y) y = ifK (b && c) x y := by cases b <;> rfl
@[simp] theorem ifK_ifK' (x y : α) : ifK b x (ifK c x y) = ifK (b || c) x y := by cases b <;> rfl
theorem ifK_eq (x y : α) : (if b = true then x else y) = ifK b x y := by cases b <;> rfl
@[simp] theorem ifK_and : ifK b (Res.ok (D.bl c) M) (Res.ok (D.bl false) M) = .ok (.bl (b && c)) M := by cases b <;> rfl
@[simp] theorem ifK_or : ifK b (Res.ok (D.bl true) M) (Res.ok (D.bl c) M) = .ok (.bl (b || c)) M := by cases b <;> rfl
@[simp] theorem ifK_nor : ifK b (Res.ok (D.bl false) M) (Res.ok (D.bl c) M) = .ok (.bl (!b && c)) M := by cases b <;> rfl
@[simp] theorem ifT_and : ifK b (Res.ok c M) (Res.ok false M) = .ok (b && c) M := by cases b <;> rfl
@[simp] theorem ifT_or : ifK b (Res.ok true M) (Res.ok c M) = .ok (b || c) M := by cases b <;> rfl
@[simp] theorem andK_bl (r : Res D) : andK (.bl b) r M = ifK b r (.ok (.bl false) M) := by cases b <;> rfl
@[simp] theorem orK_bl (r : Res D) : orK (.bl b) r M = ifK b (.ok (.bl true) M) r := by cases b <;> rfl
end
/-- how a def ends -/
def fnR : SR → Res D
  | .nx _ M' => .ok .non M'
  | .rt d M' => .ok d M'
  | .exc x _ M' => .exc x M'
  | _ => .err
@[simp] theorem fnR_nx (ρ : Sl) (M : Mem) : fnR (.nx ρ M) = .ok .non M := rfl
@[simp] theorem fnR_rt (d : D) (M : Mem) : fnR (.rt d M) = .ok d M := rfl
@[simp] theorem fnR_exc (x : Ex) (ρ : Sl) (M : Mem) : fnR (.exc x ρ M) = .exc x M := rfl
@[simp] theorem fnR_if (c : Bool) (x y : SR) : fnR (ifK c x y) = ifK c (fnR x) (fnR y) := by cases c <;> rfl
@[simp] theorem then_if (c : Bool) (x y : SR) (f : EvS) : (ifK c x y).then f = ifK c (x.then f) (y.then f) := by cases c <;> rfl
section
variable (ρ : Sl) (M : Mem)
@[simp] theorem w_eV (i : Nat) : eV i ρ M = match ρ[i]? with
  | some (some d) => .ok d M
  | _ => .err := rfl
@[simp] theorem w_eC (d : D) : eC d ρ M = .ok d M := rfl
@[simp] theorem w_aL0 : aL [] ρ M = .ok [] M := rfl
@[simp] theorem w_aL1 (a : Ev) (r : List Ev) : aL (a :: r) ρ M = (a ρ M).bind fun x M1 => (aL r ρ M1).bind fun xs M2 => .ok (x :: xs) M2 := rfl
@[simp] theorem w_eTup (es : List Ev) : eTup es ρ M = (aL es ρ M).bind fun xs M1 => .ok (.tup xs) M1 := rfl
@[simp] theorem w_eLst (es : List Ev) : eLst es ρ M = (aL es ρ M).bind fun xs M1 => .ok (.lst xs) M1 := rfl
@[simp] theorem w_eNew (es : List Ev) : eNew es ρ M = (aL es ρ M).bind fun xs M1 => .ok (.ref M1.length) (M1 ++ [.lst xs]) := rfl
@[simp] theorem w_eU (f : P1) (a : Ev) : eU f a ρ M = (a ρ M).bind fun x M1 => out M1 (f x M1) := rfl
@[simp] theorem w_eB (f : P2) (a b : Ev) : eB f a b ρ M = (a ρ M).bind fun x M1 => (b ρ M1).bind fun y M2 => out M2 (f x y M2) := rfl
@[simp] theorem w_eN (f : PN) (es : List Ev) : eN f es ρ M = (aL es ρ M).bind fun xs M1 => out M1 (f xs M1) := rfl
@[simp] theorem w_eT (a : Ev) : eT a ρ M = (a ρ M).bind asT := rfl
@[simp] theorem w_asT (b : Bool) : asT (.bl b) M = .ok b M := rfl
@[simp] theorem w_eCh (f g : P2) (a b c : Ev) : eCh f g a b c ρ M = (a ρ M).bind fun x M1 => (b ρ M1).bind fun y M2 => match f x y M2 with
  | some (.bl true) => (c ρ M2).bind fun z M3 => out M3 (g y z M3)
  | some (.bl false) => .ok (.bl false) M2
  | _ => .err := rfl
@[simp] theorem w_tAnd (t u : EvT) : tAnd t u ρ M = (t ρ M).bind fun k M1 => ifK k (u ρ M1) (.ok false M1) := by simp only [← ifK_eq]; rfl
@[simp] theorem w_tOr (t u : EvT) : tOr t u ρ M = (t ρ M).bind fun k M1 => ifK k (.ok true M1) (u ρ M1) := by simp only [← ifK_eq]; rfl
@[simp] theorem w_tNot (t : EvT) : tNot t ρ M = (t ρ M).bind fun k M1 => .ok (!k) M1 := rfl
@[simp] theorem w_tYes : tYes ρ M = .ok true M := rfl
@[simp] theorem w_eAnd (x y : Ev) : eAnd x y ρ M = (x ρ M).bind fun d M1 => andK d (y ρ M1) M1 := rfl
@[simp] theorem w_eOr (x y : Ev) : eOr x y ρ M = (x ρ M).bind fun d M1 => orK d (y ρ M1) M1 := rfl
@[simp] theorem w_eNot (x : Ev) : eNot x ρ M = (x ρ M).bind fun d M1 => match d with
  | .bl k => .ok (.bl (!k)) M1
  | _ => .err := rfl
@[simp] theorem w_eIf (t : EvT) (x y : Ev) : eIf t x y ρ M = (t ρ M).bind fun k M1 => ifK k (x ρ M1) (y ρ M1) := by simp only [← ifK_eq]; rfl
@[simp] theorem w_eSl (a : Ev) (lo hi : EvP) : eSl a lo hi ρ M = (a ρ M).bind fun x M1 => (lo ρ M1).bind fun l M2 => (hi ρ M2).bind fun h M3 => out M3 (cutD x l h M3) := rfl
@[simp] theorem w_pNo : pNo ρ M = .ok none M := rfl
@[simp] theorem w_pSo (e : Ev) : pSo e ρ M = (e ρ M).bind fun d M1 => match d with
  | .int i => .ok (some i) M1
  | _ => .err := rfl
@[simp] theorem w_eCall (ev : Fv) (as : List Ev) : eCall ev as ρ M = (aL as ρ M).bind fun ds M1 => ev ds M1 := rfl
@[simp] theorem w_eIt (a : Ev) : eIt a ρ M = (a ρ M).bind fun d M1 => outS M1 (srcOf d M1) := rfl
@[simp] theorem w_outS (s : Src) : outS M (some s) = .ok s M := rfl
@[simp] theorem w_eZip (a b : Ev) : eZip a b ρ M = (a ρ M).bind fun x M1 => (b ρ M1).bind fun y M2 => outS M2 (match seqOf M2 x, seqOf M2 y with
  | some xs, some ys => some ⟨zipD xs ys, keepOf x ++ keepOf y, M2⟩
  | _, _ => none) := rfl
@[simp] theorem w_eEnum (a : Ev) : eEnum a ρ M = (a ρ M).bind fun x M1 => outS M1 ((seqOf M1 x).map fun xs => ⟨enumD xs, keepOf x, M1⟩) := rfl
@[simp] theorem w_eRng (es : List Ev) : eRng es ρ M = (aL es ρ M).bind fun xs M1 => outS M1 (rngS xs M1) := rfl
@[simp] theorem w_sNil : sNil ρ M = .nx ρ M := rfl
@[simp] theorem w_sCons (a b : EvS) : sCons a b ρ M = (a ρ M).then b := rfl
@[simp] theorem w_sDo (a : Ev) : sDo a ρ M = ofR (a ρ M) ρ fun _ M1 => .nx ρ M1 := rfl
@[simp] theorem w_sLet (i : Nat) (a : Ev) : sLet i a ρ M = ofR (a ρ M) ρ fun d M1 => .nx (ρ.set i (some d)) M1 := rfl
@[simp] theorem w_sSet (t : Tg) (a : Ev) : sSet t a ρ M = ofR (a ρ M) ρ fun d M1 => outR M1 (t.set d ρ M1) := rfl
@[simp] theorem w_sPar (i j : Nat) (a b : Ev) : sPar i j a b ρ M = ofR (a ρ M) ρ fun x M1 => ofR (b ρ M1) ρ fun y M2 => .nx ((ρ.set i (some x)).set j (some y)) M2 := rfl
@[simp] theorem w_sRet (a : Ev) : sRet a ρ M = ofR (a ρ M) ρ fun d M1 => .rt d M1 := rfl
@[simp] theorem w_sRetN : sRetN ρ M = .rt .non M := rfl
@[simp] theorem w_sIf (c : EvT) (a b : EvS) : sIf c a b ρ M = ofR (c ρ M) ρ fun k M1 => ifK k (a ρ M1) (b ρ M1) := by simp only [← ifK_eq]; rfl
@[simp] theorem w_sBk : sBk ρ M = .bk ρ M := rfl
@[simp] theorem w_sCt : sCt ρ M = .ct ρ M := rfl
end
@[simp] theorem w_outR (M : Mem) (ρ : Sl) : outR M (some ρ) = .nx ρ M := rfl
@[simp] theorem w_name (i : Nat) (d : D) (ρ : Sl) (M : Mem) : Tg.set (.name i) d ρ M = some (ρ.set i (some d)) := by unfold Tg.set; rfl
@[simp] theorem w_tgt (ts : List Tg) (xs : List D) (ρ : Sl) (M : Mem) : Tg.set (.tup ts) (.tup xs) ρ M = Tg.sets ts xs ρ M := by unfold Tg.set; rfl
@[simp] theorem w_tg0 (ρ : Sl) (M : Mem) : Tg.sets [] [] ρ M = some ρ := by unfold Tg.sets; rfl
@[simp] theorem w_tg1 (t : Tg) (ts : List Tg) (x : D) (xs : List D) (ρ : Sl) (M : Mem) : Tg.sets (t :: ts) (x :: xs) ρ M = match t.set x ρ M with
  | some ρ1 => Tg.sets ts xs ρ1 M
  | none => none := by
  (rw [Tg.sets]) <;> cases t.set x ρ M <;> rfl
/-- a def's evaluator, entered -/
theorem w_fn (N : Nat) (b : EvS) (ds : List D) (M : Mem) : fnE N b ds M = fnR (b (ds.map some ++ List.replicate (N - ds.length) none) M) := by
  unfold fnE fnR
  rfl
@[simp] theorem deref_pure {M : Mem} {d : D} (h : d.pure = true) : deref M d = d := by
  cases d with
  | ref i => simp [D.pure] at h
  | nms _ => simp [D.pure] at h
  | _ => rfl
@[simp] theorem d_nms (M : Mem) (x : List D) : deref M (.nms x) = .tup x := rfl
@[simp] theorem nms_eq (xs : List D) (y : D) (M : Mem) : eqD (.nms xs) y M = eqD (.tup xs) y M := rfl
@[simp] theorem nms_ne (xs : List D) (y : D) (M : Mem) : neD (.nms xs) y M = neD (.tup xs) y M := rfl
@[simp] theorem nms_in (xs : List D) (y : D) (M : Mem) : inD y (.nms xs) M = inD y (.tup xs) M := rfl
@[simp] theorem nms_notin (xs : List D) (y : D) (M : Mem) : notInD y (.nms xs) M = notInD y (.tup xs) M := rfl
@[simp] theorem nms_len (xs : List D) (M : Mem) : lenD [.nms xs] M = lenD [.tup xs] M := rfl
@[simp] theorem nms_set (xs : List D) (M : Mem) : lenSetD (.nms xs) M = lenSetD (.tup xs) M := rfl
@[simp] theorem nms_seq (xs : List D) (M : Mem) : seqOf M (.nms xs) = some xs := rfl
@[simp] theorem nms_src (xs : List D) (M : Mem) : srcOf (.nms xs) M = some ⟨xs, [], M⟩ := rfl
@[simp] theorem nms_keep (xs : List D) : keepOf (.nms xs) = [] := rfl
@[simp] theorem w_eWk (a : Ev) (ρ : Sl) (M : Mem) : eWk a ρ M = (a ρ M).bind fun x M1 => .ok (match x with
  | .nms xs => .tup xs
  | d => d) M1 := rfl
@[simp] theorem w_eM1 (kd : D → Mem → Bool) (f : PM) (a b : Ev) (ρ : Sl) (M : Mem) : eM1 kd f a b ρ M = (a ρ M).bind fun x M1 => ifK (kd x M1) ((b ρ M1).bind fun y M2 => outM (f x y M2)) .err := by simp only [← ifK_eq]; rfl
@[simp] theorem w_outM (d : D) (M : Mem) : outM (some (d, M)) = .ok d M := rfl
@[simp] theorem w_sRaise (c : Nat) (ρ : Sl) (M : Mem) : sRaise c ρ M = .exc ⟨c, []⟩ ρ M := rfl
@[simp] theorem d_non (M : Mem) : deref M .non = .non := rfl
@[simp] theorem d_bl (M : Mem) (b : Bool) : deref M (.bl b) = .bl b := rfl
@[simp] theorem d_int (M : Mem) (i : Int) : deref M (.int i) = .int i := rfl
@[simp] theorem d_str (M : Mem) (x : List Nat) : deref M (.str x) = .str x := rfl
@[simp] theorem d_tup (M : Mem) (x : List D) : deref M (.tup x) = .tup x := rfl
@[simp] theorem d_lst (M : Mem) (x : List D) : deref M (.lst x) = .lst x := rfl
@[simp] theorem w_wipe0 (ρ : Sl) : wipeE ρ [] = ρ := rfl
@[simp] theorem w_wipe1 (ρ : Sl) (v : Nat) (vs : List Nat) : wipeE ρ (v :: vs) = (wipeE ρ vs).set v none := rfl
@[simp] theorem seq_tup (M : Mem) (xs : List D) : seqOf M (.tup xs) = some xs := rfl
@[simp] theorem seq_lst (M : Mem) (xs : List D) : seqOf M (.lst xs) = some xs := rfl
@[simp] theorem lst_lst (M : Mem) (xs : List D) : lstOf M (.lst xs) = some xs := rfl
@[simp] theorem lst_tup (M : Mem) (xs : List D) : lstOf M (.tup xs) = none := rfl
@[simp] theorem lst_int (M : Mem) (i : Int) : lstOf M (.int i) = none := rfl
@[simp] theorem src_tup (M : Mem) (xs : List D) : srcOf (.tup xs) M = some ⟨xs, [], M⟩ := rfl
@[simp] theorem src_lst (M : Mem) (xs : List D) : srcOf (.lst xs) M = some ⟨xs, [], M⟩ := rfl
@[simp] theorem src_str (M : Mem) (xs : List Nat) : srcOf (.str xs) M = some ⟨strItems xs, [], M⟩ := rfl
@[simp] theorem keep_tup (xs : List D) : keepOf (.tup xs) = [] := rfl
@[simp] theorem keep_lst (xs : List D) : keepOf (.lst xs) = [] := rfl
@[simp] theorem src_ok (xs : List D) (M M' : Mem) : Src.ok ⟨xs, [], M⟩ M' := fun j h => by cases h
@[simp] theorem noX_ok' {α : Type} (a : α) (M : Mem) : noX (.ok a M) = .ok a M := rfl
/-! the data that come up: no mutable object, not too deep, not too wide -/
mutual
def D.fit : D → Bool
  | .str x => decide (x.length ≤ 1000)
  | .tup xs => decide (xs.length ≤ 1000) && D.fits xs
  | .lst xs => decide (xs.length ≤ 1000) && D.fits xs
  | .ref _ => false
  | .nms _ => false
  | _ => true
def D.fits : List D → Bool
  | [] => true
  | x :: xs => x.fit && D.fits xs
end
mutual
theorem fit_pure : ∀ d : D, d.fit = true → d.pure = true
  | .non, _ => rfl
  | .bl _, _ => rfl
  | .int _, _ => rfl
  | .str _, _ => rfl
  | .tup xs, h => by
    simp only [D.fit, Bool.and_eq_true] at h
    unfold D.pure
    exact fits_pure xs h.2
  | .lst xs, h => by
    simp only [D.fit, Bool.and_eq_true] at h
    unfold D.pure
    exact fits_pure xs h.2
  | .ref i, h => by simp [D.fit] at h
  | .nms _, h => by simp [D.fit] at h
theorem fits_pure : ∀ ds : List D, D.fits ds = true → D.pures ds = true
  | [], _ => rfl
  | d :: ds, h => by
    simp only [D.fits, Bool.and_eq_true] at h
    unfold D.pures
    rw [fit_pure d h.1, fits_pure ds h.2]
    rfl
end
theorem fits_mem : ∀ {xs : List D}, D.fits xs = true ↔ ∀ x ∈ xs, x.fit = true
  | [] => by simp [D.fits]
  | x :: xs => by
    simp only [D.fits, Bool.and_eq_true, List.forall_mem_cons, fits_mem (xs := xs)]
theorem pures_mem' : ∀ {xs : List D}, D.pures xs = true ↔ ∀ x ∈ xs, x.pure = true
  | [] => by simp [D.pures]
  | x :: xs => by
    simp only [D.pures, Bool.and_eq_true, List.forall_mem_cons, pures_mem' (xs := xs)]
theorem depths_le : ∀ {xs : List D} {n : Nat}, D.depths xs ≤ n ↔ ∀ x ∈ xs, x.depth ≤ n
  | [], n => by simp [D.depths]
  | x :: xs, n => by
    simp only [D.depths, List.forall_mem_cons, ← depths_le (xs := xs)]
    omega
@[simp] theorem fit_non : D.fit .non = true := by simp [D.fit]
@[simp] theorem fit_bl (b : Bool) : D.fit (.bl b) = true := by simp [D.fit]
@[simp] theorem fit_int (i : Int) : D.fit (.int i) = true := by simp [D.fit]
def isBl : D → Bool
  | .bl _ => true
  | _ => false
def isLst : D → Bool
  | .lst _ => true
  | _ => false
@[simp] theorem isi_bool {d : D} {M : Mem} (h : d.fit = true) : isiD "bool" d M = some (.bl (isBl d)) := by cases d <;> first | rfl | simp [D.fit] at h
@[simp] theorem isi_int {d : D} {M : Mem} (h : d.fit = true) : isiD "int" d M = some (.bl (isInt d || isBl d)) := by cases d <;> first | rfl | simp [D.fit] at h
@[simp] theorem isi_str {d : D} {M : Mem} (h : d.fit = true) : isiD "str" d M = some (.bl (isStr d)) := by cases d <;> first | rfl | simp [D.fit] at h
@[simp] theorem isi_tuple {d : D} {M : Mem} (h : d.fit = true) : isiD "tuple" d M = some (.bl (isTup0 d)) := by cases d <;> first | rfl | simp [D.fit] at h
@[simp] theorem isi_list {d : D} {M : Mem} (h : d.fit = true) : isiD "list" d M = some (.bl (isLst d)) := by cases d <;> first | rfl | simp [D.fit] at h
@[simp] theorem bind_if {α β : Type} (c : Bool) (x y : Res α) (f : α → Mem → Res β) : (ifK c x y).bind f = ifK c (x.bind f) (y.bind f) := by cases c <;> rfl
@[simp] theorem ofR_if {α : Type} (c : Bool) (x y : Res α) (ρ : Sl) (f : α → Mem → SR) : ofR (ifK c x y) ρ f = ifK c (ofR x ρ f) (ofR y ρ f) := by cases c <;> rfl
/-! ### comprehensions -/
theorem comp_pure {ok : Mem → Prop} {t : Tg} {test : EvT} {elt : Ev} {ρw : Sl} {M : Mem} {p : D → Bool} {f : D → D} (hok : ok M) : ∀ {items : List D},
    (∀ d ∈ items, ∃ ρ1, t.set d ρw M = some ρ1 ∧ test ρ1 M = .ok (p d) M ∧ (p d = true → elt ρ1 M = .ok (f d) M)) → comp ok t test elt ρw items M = .ok ((items.filter p).map f) M
  | [], _ => by unfold comp; rw [if_pos hok]; rfl
  | d :: ds, h => by
    obtain ⟨ρ1, h1, h2, h3⟩ := h d List.mem_cons_self
    have ih := comp_pure hok (items := ds) fun x hx => h x (List.mem_cons_of_mem _ hx)
    unfold comp
    rw [if_pos hok, h1]
    simp only [h2, noX_ok', Res.bind_ok]
    by_cases hp : p d = true
    · rw [if_pos hp, h3 hp, List.filter_cons_of_pos hp]
      simp only [noX_ok', Res.bind_ok, ih]
      rfl
    · rw [if_neg hp, ih, List.filter_cons_of_neg hp]
theorem lc_pure {it : EvI} {t : Tg} {own : List Nat} {test : EvT} {elt : Ev} {ρ : Sl} {M M1 : Mem} {src : Src} (p : D → Bool) (f : D → D) (hi : it ρ M = .ok src M1) (hl : src.items.length ≤ lim) (hok : src.ok M1)
    (h : ∀ d ∈ src.items, ∃ ρ1, t.set d (wipeE ρ own) M1 = some ρ1 ∧ test ρ1 M1 = .ok (p d) M1 ∧ (p d = true → elt ρ1 M1 = .ok (f d) M1)) : eLc it t own test elt ρ M = .ok (.lst ((src.items.filter p).map f)) M1 := by
  unfold eLc
  rw [hi]
  simp only [Res.bind_ok]
  rw [if_pos hl, comp_pure hok h]
theorem le_lim {n : Nat} (h : n ≤ 1000) : n ≤ lim := by show n ≤ 16777216; omega
section
variable {it : EvI} {own : List Nat} {test : EvT} {elt : Ev} {ρ : Sl} {M M1 : Mem} {src : Src} {i j : Nat}
theorem lc_filter (p : D → Bool) (f : D → D) (hi : it ρ M = .ok src M1) (hl : src.items.length ≤ lim) (hok : src.ok M1) (ht : ∀ d ∈ src.items, test ((wipeE ρ own).set i (some d)) M1 = .ok (p d) M1)
    (he : ∀ d ∈ src.items, p d = true → elt ((wipeE ρ own).set i (some d)) M1 = .ok (f d) M1) : eLc it (.name i) own test elt ρ M = .ok (.lst ((src.items.filter p).map f)) M1 :=
  lc_pure p f hi hl hok fun d hd => ⟨_, w_name i d _ _, ht d hd, he d hd⟩
theorem lc_map (f : D → D) (hi : it ρ M = .ok src M1) (hl : src.items.length ≤ lim) (hok : src.ok M1) (he : ∀ d ∈ src.items, elt ((wipeE ρ own).set i (some d)) M1 = .ok (f d) M1) : eLc it (.name i) own tYes elt ρ M = .ok (.lst (src.items.map f)) M1 := by
  have := lc_filter (own := own) (test := tYes) (i := i) (fun _ => true) f hi hl hok (fun _ _ => rfl) fun d hd _ => he d hd
  rw [List.filter_eq_self.mpr fun _ _ => rfl] at this
  exact this
theorem zipD_map (xs ys : List D) : zipD xs ys = (xs.zip ys).map fun q => .tup [q.1, q.2] := by
  unfold zipD
  rw [List.zip, List.map_zipWith]
theorem w_pair (i j : Nat) (a b : D) (ρ : Sl) (M : Mem) : Tg.set (.tup [.name i, .name j]) (.tup [a, b]) ρ M = some ((ρ.set i (some a)).set j (some b)) := by simp
theorem pair_filter (p : D → D → Bool) (f : D → D → D) {items : List (D × D)} (hi : it ρ M = .ok src M1) (hs : src.items = items.map fun q => .tup [q.1, q.2]) (hl : items.length ≤ lim) (hok : src.ok M1)
    (ht : ∀ q ∈ items, test (((wipeE ρ own).set i (some q.1)).set j (some q.2)) M1 = .ok (p q.1 q.2) M1)
    (he : ∀ q ∈ items, p q.1 q.2 = true → elt (((wipeE ρ own).set i (some q.1)).set j (some q.2)) M1 = .ok (f q.1 q.2) M1) :
    eLc it (.tup [.name i, .name j]) own test elt ρ M = .ok (.lst ((items.filter fun q => p q.1 q.2).map fun q => f q.1 q.2)) M1 := by
  have := lc_pure (it := it) (t := .tup [.name i, .name j]) (own := own) (test := test) (elt := elt) (ρ := ρ) (M := M) (M1 := M1) (src := src) (fun d => match d with
    | .tup [a, b] => p a b
    | _ => false) (fun d => match d with
    | .tup [a, b] => f a b
    | _ => .non) hi (by rw [hs, List.length_map]; exact hl) hok fun d hd => by
      rw [hs] at hd
      obtain ⟨q, hq, rfl⟩ := List.mem_map.mp hd
      exact ⟨_, w_pair i j q.1 q.2 _ _, ht q hq, he q hq⟩
  rw [this, hs, List.filter_map, List.map_map]
  rfl
theorem pair_map (f : D → D → D) {items : List (D × D)} (hi : it ρ M = .ok src M1) (hs : src.items = items.map fun q => .tup [q.1, q.2]) (hl : items.length ≤ lim) (hok : src.ok M1)
    (he : ∀ q ∈ items, elt (((wipeE ρ own).set i (some q.1)).set j (some q.2)) M1 = .ok (f q.1 q.2) M1) :
    eLc it (.tup [.name i, .name j]) own tYes elt ρ M = .ok (.lst (items.map fun q => f q.1 q.2)) M1 := by
  have := pair_filter (own := own) (test := tYes) (i := i) (j := j) (fun _ _ => true) f hi hs hl hok (fun _ _ => rfl) fun q hq _ => he q hq
  rw [List.filter_eq_self.mpr fun _ _ => rfl] at this
  exact this
end
theorem bools_map {α : Type} (xs : List α) (g : α → Bool) : bools (xs.map fun d => .bl (g d)) = some (xs.map g) := by
  induction xs with
  | nil => rfl
  | cons x xs ih => simp [bools, ih]
theorem all_map {α : Type} (xs : List α) (g : α → Bool) (M : Mem) : allD [.lst (xs.map fun d => .bl (g d))] M = some (.bl (xs.all g)) := by
  simp [allD, bools_map]
  rfl
/-! ### subscripts by number -/
@[simp] theorem ix_0 (M : Mem) (a : D) (r : List D) : ixD (.tup (a :: r)) (.int 0) M = some a := show L2.atI _ ((0 : Nat) : Int) = _ from atI_nat rfl
@[simp] theorem ix_1 (M : Mem) (a b : D) (r : List D) : ixD (.tup (a :: b :: r)) (.int 1) M = some b := show L2.atI _ ((1 : Nat) : Int) = _ from atI_nat rfl
@[simp] theorem ix_2 (M : Mem) (a b c : D) (r : List D) : ixD (.tup (a :: b :: c :: r)) (.int 2) M = some c := show L2.atI _ ((2 : Nat) : Int) = _ from atI_nat rfl
@[simp] theorem ix_3 (M : Mem) (a b c e : D) (r : List D) : ixD (.tup (a :: b :: c :: e :: r)) (.int 3) M = some e := show L2.atI _ ((3 : Nat) : Int) = _ from atI_nat rfl
/-! ### comprehensions of two clauses -/
theorem comp2_pure {ok : Mem → Prop} {t t1 : Tg} {it1 : EvI} {elt : Ev} {ρw : Sl} {vs1 : List Nat} {M : Mem} {inner : D → List D} {f : D → D → D} (hok : ok M) : ∀ {items : List D},
    (∀ d ∈ items, ∃ ρ1, t.set d ρw M = some ρ1 ∧ it1 ρ1 M = .ok ⟨inner d, [], M⟩ M ∧ ∀ e ∈ inner d, ∃ ρ2, t1.set e (wipeE ρ1 vs1) M = some ρ2 ∧ elt ρ2 M = .ok (f d e) M) →
      comp2 ok t tYes it1 t1 tYes elt ρw vs1 items M = .ok (items.flatMap fun d => (inner d).map (f d)) M
  | [], _ => by unfold comp2; rw [if_pos hok]; rfl
  | d :: ds, h => by
    obtain ⟨ρ1, h1, h2, h3⟩ := h d List.mem_cons_self
    have ih := comp2_pure hok (items := ds) fun x hx => h x (List.mem_cons_of_mem _ hx)
    have hin := comp_pure (ok := Src.ok ⟨inner d, [], M⟩) (t := t1) (test := tYes) (elt := elt) (ρw := wipeE ρ1 vs1) (M := M) (p := fun _ => true) (f := f d) (src_ok _ _ _) (items := inner d) fun e he => by
      obtain ⟨ρ2, a, b⟩ := h3 e he
      exact ⟨ρ2, a, rfl, fun _ => b⟩
    rw [List.filter_eq_self.mpr fun _ _ => rfl] at hin
    unfold comp2
    rw [if_pos hok, h1]
    simp only [w_tYes, noX_ok', Res.bind_ok, if_true, h2, hin, ih, List.flatMap_cons]
theorem lc2_map {it it1 : EvI} {own vs1 : List Nat} {elt : Ev} {ρ : Sl} {M M1 : Mem} {src : Src} {i j : Nat} (inner : D → List D) (f : D → D → D) (hi : it ρ M = .ok src M1) (hl : (src.items.flatMap fun d => (inner d).map (f d)).length ≤ lim) (hok : src.ok M1)
    (h1 : ∀ d ∈ src.items, it1 ((wipeE ρ own).set i (some d)) M1 = .ok ⟨inner d, [], M1⟩ M1)
    (h2 : ∀ d ∈ src.items, ∀ e ∈ inner d, elt ((wipeE ((wipeE ρ own).set i (some d)) vs1).set j (some e)) M1 = .ok (f d e) M1) :
    eLc2 it (.name i) own vs1 tYes it1 (.name j) tYes elt ρ M = .ok (.lst (src.items.flatMap fun d => (inner d).map (f d))) M1 := by
  unfold eLc2
  rw [hi]
  simp only [Res.bind_ok]
  rw [comp2_pure hok (inner := inner) (f := f) fun d hd => ⟨_, w_name i d _ _, h1 d hd, fun e he => ⟨_, w_name j e _ _, h2 d hd e he⟩⟩]
  simp only [if_pos hl]
/-! ### for -/
/-- a walk each turn of which goes on with the same names' values, or ends the def -/
theorem loop_check {ok : Mem → Prop} {t : Tg} {body : EvS} {M : Mem} (stay : Sl → Prop) {good : D → Bool} {bad : D} (hok : ok M) : ∀ {items : List D} {ρ : Sl}, stay ρ →
    (∀ d ∈ items, ∀ ρ, stay ρ → ∃ ρ1, t.set d ρ M = some ρ1 ∧ ∃ ρ2, stay ρ2 ∧ body ρ1 M = ifK (good d) (.nx ρ2 M) (.rt bad M)) →
      ∃ ρ2, stay ρ2 ∧ loop ok t body items ρ M = ifK (items.all good) (.nx ρ2 M) (.rt bad M)
  | [], ρ, h, _ => ⟨ρ, h, by unfold loop; rw [if_pos hok]; rfl⟩
  | d :: ds, ρ, h, hb => by
    obtain ⟨ρ1, h1, ρ2, h2, h3⟩ := hb d List.mem_cons_self ρ h
    cases hg : good d with
    | false =>
      refine ⟨ρ, h, ?_⟩
      unfold loop
      rw [if_pos hok, h1]
      simp only [h3, hg, ifK_false, List.all_cons, Bool.false_and]
    | true =>
      obtain ⟨ρ3, h4, h5⟩ := loop_check stay hok (items := ds) h2 fun x hx => hb x (List.mem_cons_of_mem _ hx)
      refine ⟨ρ3, h4, ?_⟩
      unfold loop
      rw [if_pos hok, h1]
      simp only [h3, hg, ifK_true, h5, List.all_cons, Bool.true_and]
@[simp] theorem w_sFor (it : EvI) (t : Tg) (body : EvS) (ρ : Sl) (M : Mem) : sFor it t body ρ M = ofR (it ρ M) ρ fun src M1 => loop src.ok t body src.items ρ M1 := rfl
/-! ### lists that are empty -/
theorem eq_nil {xs : List D} (h : D.pures xs = true) (M : Mem) : eqD (.lst xs) (.lst []) M = some (.bl xs.isEmpty) := by
  cases xs with
  | nil => simp [eqD, cmpOk, D.pure, D.pures, D.depth, D.depths, D.beq, D.beqs]
  | cons x xs =>
    have e : (min (D.depth (.lst (x :: xs))) (D.depth (.lst []))) ≤ 100 := by
      have : D.depth (.lst []) = 1 := by simp [D.depth, D.depths]
      omega
    have p : D.pure (.lst (x :: xs)) = true := by unfold D.pure; exact h
    have p0 : D.pure (.lst []) = true := rfl
    simp only [eqD, d_lst, cmpOk, p, p0, e, Bool.and_self, decide_true, if_true, D.beq, D.beqs, List.isEmpty_cons]
theorem ne_nil {xs : List D} (h : D.pures xs = true) (M : Mem) : neD (.lst xs) (.lst []) M = some (.bl (!xs.isEmpty)) := by
  cases xs with
  | nil => simp [neD, cmpOk, D.pure, D.pures, D.depth, D.depths, D.beq, D.beqs]
  | cons x xs =>
    have e : (min (D.depth (.lst (x :: xs))) (D.depth (.lst []))) ≤ 100 := by
      have : D.depth (.lst []) = 1 := by simp [D.depth, D.depths]
      omega
    have p : D.pure (.lst (x :: xs)) = true := by unfold D.pure; exact h
    have p0 : D.pure (.lst []) = true := rfl
    simp only [neD, d_lst, cmpOk, p, p0, e, Bool.and_self, decide_true, if_true, D.beq, D.beqs, List.isEmpty_cons]
theorem filter_nil {α : Type} (p : α → Bool) (xs : List α) : (xs.filter p).isEmpty = xs.all fun x => !p x := by
  induction xs with
  | nil => rfl
  | cons x xs ih =>
    rw [List.filter_cons]
    cases h : p x <;> simp [h, ih]
@[simp] theorem gt_int (i j : Int) (M : Mem) : gtD (.int i) (.int j) M = some (.bl (decide (j < i))) := by simp [gtD, ordOk, D.alike, isNon, cmpOk, D.pure, D.depth, D.ltb]
@[simp] theorem lt_int (i j : Int) (M : Mem) : ltD (.int i) (.int j) M = some (.bl (decide (i < j))) := by simp [ltD, ordOk, D.alike, isNon, cmpOk, D.pure, D.depth, D.ltb]
@[simp] theorem le_int (i j : Int) (M : Mem) : leD (.int i) (.int j) M = some (.bl (decide (i ≤ j))) := rfl
@[simp] theorem ge_int (i j : Int) (M : Mem) : geD (.int i) (.int j) M = some (.bl (decide (j ≤ i))) := rfl
@[simp] theorem eq_int (i j : Int) (M : Mem) : eqD (.int i) (.int j) M = some (.bl (decide (i = j))) := by
  have e : (i == j) = decide (i = j) := by rw [Bool.eq_iff_iff, beq_iff_eq, decide_eq_true_iff]
  simp [eqD, cmpOk, D.pure, D.depth, D.beq, e]
@[simp] theorem ne_int (i j : Int) (M : Mem) : neD (.int i) (.int j) M = some (.bl (!decide (i = j))) := by
  have e : (i == j) = decide (i = j) := by rw [Bool.eq_iff_iff, beq_iff_eq, decide_eq_true_iff]
  simp [neD, cmpOk, D.pure, D.depth, D.beq, e]
@[simp] theorem eq_bl (i j : Bool) (M : Mem) : eqD (.bl i) (.bl j) M = some (.bl (i == j)) := by simp [eqD, cmpOk, D.pure, D.depth, D.beq]
@[simp] theorem add_int (i j : Int) (M : Mem) : addD (.int i) (.int j) M = some (.int (i + j)) := rfl
@[simp] theorem sub_int (i j : Int) (M : Mem) : subD (.int i) (.int j) M = some (.int (i - j)) := rfl
/-- one turn, then the rest -/
def turn (r : SR) (k : Sl → Mem → SR) : SR := match r with
  | .nx ρ2 M2 => k ρ2 M2
  | .ct ρ2 M2 => k ρ2 M2
  | .bk ρ2 M2 => .nx ρ2 M2
  | r => r
@[simp] theorem turn_nx (ρ : Sl) (M : Mem) (k : Sl → Mem → SR) : turn (.nx ρ M) k = k ρ M := rfl
@[simp] theorem turn_ct (ρ : Sl) (M : Mem) (k : Sl → Mem → SR) : turn (.ct ρ M) k = k ρ M := rfl
@[simp] theorem turn_bk (ρ : Sl) (M : Mem) (k : Sl → Mem → SR) : turn (.bk ρ M) k = .nx ρ M := rfl
@[simp] theorem turn_rt (d : D) (M : Mem) (k : Sl → Mem → SR) : turn (.rt d M) k = .rt d M := rfl
@[simp] theorem turn_exc (x : Ex) (ρ : Sl) (M : Mem) (k : Sl → Mem → SR) : turn (.exc x ρ M) k = .exc x ρ M := rfl
@[simp] theorem turn_if (c : Bool) (x y : SR) (k : Sl → Mem → SR) : turn (ifK c x y) k = ifK c (turn x k) (turn y k) := by cases c <;> rfl
theorem loop_cons (ok : Mem → Prop) (t : Tg) (body : EvS) (d : D) (ds : List D) (ρ : Sl) (M : Mem) (h : ok M) {ρ1 : Sl} (hs : t.set d ρ M = some ρ1) : loop ok t body (d :: ds) ρ M = turn (body ρ1 M) fun ρ2 M2 => loop ok t body ds ρ2 M2 := by
  conv => lhs; unfold loop
  rw [if_pos h, hs]
  show (match body ρ1 M with
      | .nx ρ2 M2 => loop ok t body ds ρ2 M2
      | .ct ρ2 M2 => loop ok t body ds ρ2 M2
      | .bk ρ2 M2 => .nx ρ2 M2
      | r => r) = _
  cases body ρ1 M <;> rfl
theorem loop_nil (ok : Mem → Prop) (t : Tg) (body : EvS) (ρ : Sl) (M : Mem) (h : ok M) : loop ok t body [] ρ M = .nx ρ M := by
  unfold loop
  rw [if_pos h]
@[simp] theorem loop_n (xs : List D) (M0 : Mem) (i : Nat) (body : EvS) (d : D) (ds : List D) (ρ : Sl) (M : Mem) : loop (Src.ok ⟨xs, [], M0⟩) (.name i) body (d :: ds) ρ M = turn (body (ρ.set i (some d)) M) fun ρ2 M2 => loop (Src.ok ⟨xs, [], M0⟩) (.name i) body ds ρ2 M2 :=
  loop_cons _ _ _ _ _ _ _ (src_ok _ _ _) (w_name i d ρ M)
@[simp] theorem loop_p (xs : List D) (M0 : Mem) (i j : Nat) (body : EvS) (a b : D) (ds : List D) (ρ : Sl) (M : Mem) : loop (Src.ok ⟨xs, [], M0⟩) (.tup [.name i, .name j]) body (.tup [a, b] :: ds) ρ M = turn (body ((ρ.set i (some a)).set j (some b)) M) fun ρ2 M2 => loop (Src.ok ⟨xs, [], M0⟩) (.tup [.name i, .name j]) body ds ρ2 M2 :=
  loop_cons _ _ _ _ _ _ _ (src_ok _ _ _) (w_pair i j a b ρ M)
@[simp] theorem loop_0 (xs : List D) (M0 : Mem) (t : Tg) (body : EvS) (ρ : Sl) (M : Mem) : loop (Src.ok ⟨xs, [], M0⟩) t body [] ρ M = .nx ρ M := loop_nil _ _ _ _ _ (src_ok _ _ _)
@[simp] theorem zip_c (a b : D) (xs ys : List D) : zipD (a :: xs) (b :: ys) = .tup [a, b] :: zipD xs ys := rfl
@[simp] theorem zip_n (ys : List D) : zipD [] ys = [] := rfl
@[simp] theorem zip_n' (xs : List D) : zipD xs [] = [] := by cases xs <;> rfl
end Mk
end

section
set_option maxHeartbeats 4000000
/-! Pl1: what a schema is. -/
open PySem PySem.Spec PyProof.Rows L2
namespace Mk
def letters : List Nat := [97, 98, 99, 100, 101, 102, 103, 104, 105, 106, 107, 108, 109, 110, 111, 112, 113, 114, 115, 116, 117, 118, 119, 120, 121, 122]
theorem g_letters : g_LETTERS = .str letters := rfl
def isWord (d : D) (n : Int) : Bool := match d with
  | .str x => decide (n ≤ x.length) && decide (x.length ≤ 8) && x.all fun c => decide (c ∈ letters)
  | _ => false
def isTuple (d : D) (lo hi : Int) : Bool := match d with
  | .tup xs => decide (lo ≤ xs.length) && decide ((xs.length : Int) ≤ hi)
  | _ => false
theorem is_word_ok (d : D) (n : Int) (M : Mem) (h : d.fit = true) : ev_is_word [d, .int n] M = .ok (.bl (isWord d n)) M := by
  unfold ev_is_word
  rw [w_fn]
  unfold b_is_word
  cases d with
  | ref i => simp [D.fit] at h
  | nms _ => simp [D.fit] at h
  | str x =>
    have hx : x.length ≤ 1000 := by simpa [D.fit] using h
    have hl : x.length ≤ lim := le_lim hx
    have lc : eLc (eIt (eV 0)) (.name 2) [2] tYes (eB inD (eV 2) (eC g_LETTERS)) [some (.str x), some (.int n), none] M = .ok (.lst (x.map fun c => .bl (decide (c ∈ letters)))) M := by
      rw [lc_map (M1 := M) (src := ⟨strItems x, [], M⟩) (fun d => match d with
        | .str [c] => .bl (decide (c ∈ letters))
        | _ => .non) (by simp) (by simpa [strItems] using hl) (by simp) (fun d hd => by
          obtain ⟨c, _, rfl⟩ := List.mem_map.mp hd
          simp [inD, inB, g_letters])]
      simp [strItems, List.map_map, Function.comp_def]
    by_cases h1 : n ≤ (x.length : Int)
    · by_cases h2 : x.length ≤ 8
      · have h2' : (x.length : Int) ≤ 8 := by omega
        simp [isiD, isiB, leD, lenD, hl, h1, h2, h2', lc, all_map, isWord]
      · have h2' : ¬ (x.length : Int) ≤ 8 := by omega
        simp [isiD, isiB, leD, lenD, hl, h1, h2, h2', isWord]
    · simp [isiD, isiB, leD, lenD, hl, h1, isWord]
  | _ => simp [isiD, isiB, isWord]
theorem is_tuple_ok (d : D) (lo hi : Int) (M : Mem) (h : d.fit = true) : ev_is_tuple [d, .int lo, .int hi] M = .ok (.bl (isTuple d lo hi)) M := by
  unfold ev_is_tuple
  rw [w_fn]
  unfold b_is_tuple
  cases d with
  | ref i => simp [D.fit] at h
  | nms _ => simp [D.fit] at h
  | tup xs =>
    by_cases h1 : lo ≤ (xs.length : Int)
    · simp [isiD, isiB, leD, lenD, h1, isTuple]
    · simp [isiD, isiB, leD, lenD, h1, isTuple]
  | _ => simp [isiD, isiB, isTuple]
/-- each below the next -/
def rising (xs : List D) : Bool := (xs.zip (xs.drop 1)).all fun q => q.1.ltb q.2
/-- the items can be compared one with the next -/
def chained (xs : List D) : Prop := ∀ q ∈ xs.zip (xs.drop 1), ordOk q.1 q.2 = true ∧ q.1.pure = true ∧ q.2.pure = true
theorem cut1 {α : Type} (xs : List α) : cut xs (some 1) none = xs.drop 1 := by
  unfold cut
  cases xs with
  | nil => simp [HT.sIx]
  | cons x xs => simp [HT.sIx]
theorem is_rising_ok (d : D) (xs : List D) (M : Mem) (h : d = .tup xs ∨ d = .lst xs) (hl : xs.length ≤ 1000) (hc : chained xs) : ev_is_rising [d] M = .ok (.bl (rising xs)) M := by
  unfold ev_is_rising
  rw [w_fn]
  unfold b_is_rising
  have lc : eLc (eZip (eV 0) (eSl (eV 0) (pSo (eC (.int 1))) pNo)) (.tup [.name 1, .name 2]) [1, 2] tYes (eB ltD (eV 1) (eV 2)) [some d, none, none] M = .ok (.lst ((xs.zip (xs.drop 1)).map fun q => .bl (q.1.ltb q.2))) M := by
    have hi : eZip (eV 0) (eSl (eV 0) (pSo (eC (.int 1))) pNo) [some d, none, none] M = .ok ⟨zipD xs (xs.drop 1), [], M⟩ M := by
      rcases h with rfl | rfl <;> simp [cutD, cut1]
    refine pair_map (own := [1, 2]) (i := 1) (j := 2) (fun a b => .bl (a.ltb b)) hi (zipD_map _ _) (le_lim (by simp; omega)) (by simp) fun q hq => ?_
    obtain ⟨h1, h2, h3⟩ := hc q hq
    simp [ltD, h1, h2, h3]
  simp [lc, all_map, rising]
def tInt : List Nat := [105, 110, 116]
def tText : List Nat := [116, 101, 120, 116]
def tHold : List Nat := [104, 111, 108, 100]
def tFollow : List Nat := [102, 111, 108, 108, 111, 119]
def tClear : List Nat := [99, 108, 101, 97, 114]
theorem f_int : ([105, 110, 116] : List Nat) = tInt := rfl
theorem f_text : ([116, 101, 120, 116] : List Nat) = tText := rfl
theorem f_hold : ([104, 111, 108, 100] : List Nat) = tHold := rfl
theorem f_follow : ([102, 111, 108, 108, 111, 119] : List Nat) = tFollow := rfl
theorem f_clear : ([99, 108, 101, 97, 114] : List Nat) = tClear := rfl
theorem g_rules : g_RULES = .tup [.str tHold, .str tFollow, .str tClear] := rfl
def isSort : D → Bool
  | .str x => decide (x = tInt) || decide (x = tText)
  | _ => false
def isRule : D → Bool
  | .str x => decide (x = tHold) || decide (x = tFollow) || decide (x = tClear)
  | _ => false
/-- a column of a table: its name, its sort, may it be None -/
def isField : D → Bool
  | .tup [a, b, c] => isWord a 1 && isSort b && isBl c
  | _ => false
/-- a link: its name, its target, may it be None, what becomes of it -/
def isLink : D → Bool
  | .tup [a, b, c, e] => isWord a 1 && isWord b 1 && isBl c && isRule e && (D.beq c (.bl true) || !D.beq e (.str tClear))
  | _ => false
@[simp] theorem w_isTup (xs : List D) (lo hi : Int) : isTuple (.tup xs) lo hi = (decide (lo ≤ xs.length) && decide ((xs.length : Int) ≤ hi)) := rfl
theorem len3 {xs : List D} (h : isTuple (.tup xs) 3 3 = true) : ∃ a b c, xs = [a, b, c] := by
  simp only [w_isTup, Bool.and_eq_true, decide_eq_true_eq] at h
  match xs, h with
  | [a, b, c], _ => exact ⟨a, b, c, rfl⟩
  | [], h => simp at h
  | [_], h => simp at h
  | [_, _], h => simp at h
  | _ :: _ :: _ :: _ :: _, h => simp at h; omega
theorem len4 {xs : List D} (h : isTuple (.tup xs) 4 4 = true) : ∃ a b c e, xs = [a, b, c, e] := by
  simp only [w_isTup, Bool.and_eq_true, decide_eq_true_eq] at h
  match xs, h with
  | [a, b, c, e], _ => exact ⟨a, b, c, e, rfl⟩
  | [], h => simp at h
  | [_], h => simp at h
  | [_, _], h => simp at h
  | [_, _, _], h => simp at h
  | _ :: _ :: _ :: _ :: _ :: _, h => simp at h; omega
theorem isTuple_tup {d : D} {lo hi : Int} (h : isTuple d lo hi = true) : ∃ xs, d = .tup xs := by
  cases d with
  | tup xs => exact ⟨xs, rfl⟩
  | _ => simp [isTuple] at h
theorem isField_len {d : D} (h : isTuple d 3 3 = false) : isField d = false := by
  unfold isField
  split
  · simp at h
  · rfl
theorem isLink_len {d : D} (h : isTuple d 4 4 = false) : isLink d = false := by
  unfold isLink
  split
  · simp at h
  · rfl
theorem fit_tup {xs : List D} (h : D.fit (.tup xs) = true) : ∀ x ∈ xs, x.fit = true := by
  simp only [D.fit, Bool.and_eq_true] at h
  exact fits_mem.mp h.2
theorem fit_tup_len {xs : List D} (h : D.fit (.tup xs) = true) : xs.length ≤ 1000 := by
  simp only [D.fit, Bool.and_eq_true, decide_eq_true_eq] at h
  exact h.1
/-- a text among written texts -/
theorem in_strs (x : List Nat) (ys : List (List Nat)) (M : Mem) : inD (.str x) (.tup (ys.map D.str)) M = some (.bl (ys.any fun y => decide (x = y))) := by
  have p : D.pures (ys.map D.str) = true := pures_mem'.mpr fun d hd => by
    obtain ⟨y, _, rfl⟩ := List.mem_map.mp hd
    rfl
  have e : ((ys.map D.str).any fun z => z.beq (.str x)) = ys.any fun y => decide (x = y) := by
    rw [List.any_map]
    refine congrArg (fun f => ys.any f) (funext fun y => ?_)
    show (y == x) = decide (x = y)
    rw [Bool.eq_iff_iff, beq_iff_eq, decide_eq_true_iff]
    exact eq_comm
  simp [inD, inB, cmpOk, D.pure, p, D.depth, e]
theorem is_field_ok (d : D) (M : Mem) (h : d.fit = true) : ev_is_field [d] M = .ok (.bl (isField d)) M := by
  unfold ev_is_field
  rw [w_fn]
  unfold b_is_field
  have t := is_tuple_ok d 3 3 M h
  cases ht : isTuple d 3 3 with
  | false => simp [t, ht, isField_len ht]
  | true =>
    obtain ⟨xs, rfl⟩ := isTuple_tup ht
    obtain ⟨a, b, c, rfl⟩ := len3 ht
    have fa : a.fit = true := fit_tup h a (by simp)
    have wa := is_word_ok a 1 M fa
    have fb : b.fit = true := fit_tup h b (by simp)
    have fc : c.fit = true := fit_tup h c (by simp)
    cases b with
    | ref i => simp [D.fit] at fb
    | nms _ => simp [D.fit] at fb
    | str x =>
      have hin := in_strs x [tInt, tText] M
      simp only [List.map_cons, List.map_nil, List.any_cons, List.any_nil, Bool.or_false] at hin
      simp [t, ht, wa, isField, fb, fc, isStr, f_int, f_text, hin, isSort, Bool.and_assoc]
    | _ => simp [t, ht, wa, isField, fb, isStr, isSort]
theorem pure_str (x : List Nat) : (D.str x).pure = true := rfl
/-- texts that differ -/
@[simp] theorem ne_str (x y : List Nat) (M : Mem) : neD (.str x) (.str y) M = some (.bl (!decide (x = y))) := by
  have e : (x == y) = decide (x = y) := by rw [Bool.eq_iff_iff, beq_iff_eq, decide_eq_true_iff]
  simp [neD, cmpOk, D.pure, D.depth, D.beq, e]
theorem is_link_ok (d : D) (M : Mem) (h : d.fit = true) : ev_is_link [d] M = .ok (.bl (isLink d)) M := by
  unfold ev_is_link
  rw [w_fn]
  unfold b_is_link
  have t := is_tuple_ok d 4 4 M h
  cases ht : isTuple d 4 4 with
  | false => simp [t, ht, isLink_len ht]
  | true =>
    obtain ⟨xs, rfl⟩ := isTuple_tup ht
    obtain ⟨a, b, c, e, rfl⟩ := len4 ht
    have wa := is_word_ok a 1 M (fit_tup h a (by simp))
    have wb := is_word_ok b 1 M (fit_tup h b (by simp))
    have fc : c.fit = true := fit_tup h c (by simp)
    have fe : e.fit = true := fit_tup h e (by simp)
    cases e with
    | ref i => simp [D.fit] at fe
    | nms _ => simp [D.fit] at fe
    | str x =>
      have hin := in_strs x [tHold, tFollow, tClear] M
      simp only [List.map_cons, List.map_nil, List.any_cons, List.any_nil, Bool.or_false] at hin
      have hnot : notInD (.str x) (.tup [.str tHold, .str tFollow, .str tClear]) M = some (.bl (!isRule (.str x))) := by
        unfold inD at hin
        unfold notInD
        cases hb : inB (.str x) (.tup [.str tHold, .str tFollow, .str tClear]) M with
        | none => rw [hb] at hin; cases hin
        | some k =>
          rw [hb] at hin
          simp only [Option.map_some, Option.some.injEq, D.bl.injEq] at hin
          simp [hin, isRule, Bool.or_assoc]
      cases c with
      | ref i => simp [D.fit] at fc
      | nms _ => simp [D.fit] at fc
      | bl k =>
        cases hr : isRule (.str x) <;> cases hw : isWord a 1 <;> cases hv : isWord b 1 <;> simp [t, ht, wa, wb, hw, hv, isLink, fe, isStr, isBl, g_rules, f_clear, hnot, hr, D.beq]
        rw [Bool.eq_iff_iff]
        simp
      | _ => cases hw : isWord a 1 <;> cases hv : isWord b 1 <;> simp [t, ht, wa, wb, hw, hv, isLink, fc, fe, isBl]
    | _ =>
      cases hb : isBl c <;> cases hw : isWord a 1 <;> cases hv : isWord b 1 <;> simp [t, ht, wa, wb, hw, hv, hb, isLink, fc, fe, isRule, isStr]
/-! ### keys -/
def isStrs (xs : List D) : Bool := xs.all isStr
theorem strs_pure {xs : List D} (h : isStrs xs = true) : D.pures xs = true := pures_mem'.mpr fun d hd => by
  have := List.all_eq_true.mp h d hd
  cases d with
  | str x => rfl
  | _ => cases this
theorem strs_depth {xs : List D} (h : isStrs xs = true) : D.depths xs ≤ 0 := depths_le.mpr fun d hd => by
  have := List.all_eq_true.mp h d hd
  cases d with
  | str x => simp [D.depth]
  | _ => cases this
theorem strs_keyed {xs : List D} (h : isStrs xs = true) : D.keyeds xs = true := mem_keyeds fun d hd => by
  have := List.all_eq_true.mp h d hd
  cases d with
  | str x => rfl
  | _ => cases this
theorem zip_mem {α : Type} {xs : List α} {q : α × α} (h : q ∈ xs.zip (xs.drop 1)) : q.1 ∈ xs ∧ q.2 ∈ xs := by
  obtain ⟨h1, h2⟩ := List.of_mem_zip h
  exact ⟨h1, List.mem_of_mem_drop h2⟩
theorem strs_chained {xs : List D} (h : isStrs xs = true) : chained xs := fun q hq => by
  obtain ⟨h1, h2⟩ := zip_mem hq
  obtain ⟨a, b⟩ := q
  have k1 := List.all_eq_true.mp h a h1
  have k2 := List.all_eq_true.mp h b h2
  cases a with
  | str x =>
    cases b with
    | str y => simp [ordOk, D.alike, isNon, cmpOk, D.pure, D.depth]
    | _ => cases k2
  | _ => cases k1
/-- a text among texts -/
theorem in_texts {x : D} {ys : List D} (M : Mem) (hx : isStr x = true) (hy : isStrs ys = true) : inD x (.tup ys) M = some (.bl (ys.any fun z => z.beq x)) ∧ inD x (.lst ys) M = some (.bl (ys.any fun z => z.beq x)) := by
  have p := strs_pure hy
  cases x with
  | str x => constructor <;> simp [inD, inB, cmpOk, D.pure, p, D.depth]
  | _ => cases hx
def isKey (names : List D) (d : D) : Bool := match d with
  | .tup ks => decide (1 ≤ (ks.length : Int)) && decide ((ks.length : Int) ≤ 3) && (ks.all fun k => isStr k && names.any fun z => z.beq k) && rising ks
  | _ => false
theorem is_key_ok (names : List D) (d : D) (M : Mem) (h : d.fit = true) (hn : isStrs names = true) : ev_is_key [.nms names, d] M = .ok (.bl (isKey names d)) M := by
  unfold ev_is_key
  rw [w_fn]
  unfold b_is_key
  have t := is_tuple_ok d 1 3 M h
  cases ht : isTuple d 1 3 with
  | false =>
    have e : isKey names d = false := by
      cases d with
      | tup ks => simp only [w_isTup] at ht; simp [isKey, ht]
      | _ => rfl
    simp [t, ht, e]
  | true =>
    obtain ⟨ks, rfl⟩ := isTuple_tup ht
    have hk := fit_tup h
    have lc : eLc (eIt (eV 1)) (.name 2) [2] tYes (eAnd (eU (isiD "str") (eV 2)) (eB inD (eV 2) (eV 0))) [some (.nms names), some (.tup ks), none] M = .ok (.lst (ks.map fun k => .bl (isStr k && names.any fun z => z.beq k))) M := by
      refine lc_map (src := ⟨ks, [], M⟩) _ (by simp) (le_lim (fit_tup_len h)) (by simp) fun k hk' => ?_
      have fk := hk k hk'
      cases hs : isStr k with
      | false => simp [fk, hs]
      | true => simp [fk, hs, (in_texts M hs hn).1]
    simp only [w_isTup] at ht
    cases ha : ks.all fun k => isStr k && names.any fun z => z.beq k with
    | false => simp [t, ht, lc, all_map, ha, isKey]
    | true =>
      have hs : isStrs ks = true := List.all_eq_true.mpr fun k hk' => by
        have := List.all_eq_true.mp ha k hk'
        exact (Bool.and_eq_true_iff.mp this).1
      have r := is_rising_ok (.tup ks) ks M (.inl rfl) (fit_tup_len h) (strs_chained hs)
      simp [t, ht, lc, all_map, ha, isKey, r]
/-! ### tables -/
/-- the first of a tuple -/
def head0 : D → D
  | .tup (a :: _) => a
  | _ => .non
def namesOf (fs ls : List D) : List D := (fs ++ ls).map head0
theorem field_name {d : D} (h : isField d = true) : isStr (head0 d) = true ∧ ∃ a r, d = .tup (a :: r) := by
  unfold isField at h
  split at h
  · rename_i a b c
    simp only [Bool.and_eq_true] at h
    refine ⟨?_, a, [b, c], rfl⟩
    show isStr a = true
    cases a with
    | str x => rfl
    | _ => simp [isWord] at h
  · cases h
theorem link_name {d : D} (h : isLink d = true) : isStr (head0 d) = true ∧ ∃ a b r, d = .tup (a :: b :: r) ∧ isStr b = true := by
  unfold isLink at h
  split at h
  · rename_i a b c e
    simp only [Bool.and_eq_true] at h
    refine ⟨?_, a, b, [c, e], rfl, ?_⟩
    · show isStr a = true
      cases a with
      | str x => rfl
      | _ => simp [isWord] at h
    · cases b with
      | str x => rfl
      | _ => simp [isWord] at h
  · cases h
def nodupB (xs : List D) : Bool := decide ((D.once xs).length = xs.length)
def isTable : D → Bool
  | .tup [n, .tup fs, .tup ls, .tup ks] => isWord n 1 && (decide ((fs.length : Int) ≤ 4) && fs.all isField) && (decide ((ls.length : Int) ≤ 3) && ls.all isLink) && (!(fs ++ ls).isEmpty && nodupB (namesOf fs ls)) && (decide ((ks.length : Int) ≤ 2) && ks.all (isKey (namesOf fs ls))) && rising ks
  | _ => false
theorem isTable_len {d : D} (h : isTuple d 4 4 = false) : isTable d = false := by
  unfold isTable
  split
  · simp at h
  · rfl
end Mk
end

section
set_option maxHeartbeats 4000000
/-! Pl2: tables, schemas, as the program sees them. -/
open PySem PySem.Spec PyProof.Rows L2
namespace Mk
theorem isTable_no {n f l k : D} (h : isWord n 1 = false ∨ isTuple f 0 4 = false ∨ isTuple l 0 3 = false ∨ isTuple k 0 2 = false) : isTable (.tup [n, f, l, k]) = false := by
  cases f <;> cases l <;> cases k <;> simp [isTable, isTuple] at h ⊢
  rename_i fs ls ks
  intro h1 h2 h3 h4 h5 h6 h7 h8
  rcases h with h | h | h | h
  · rw [h] at h1; cases h1
  · omega
  · omega
  · omega
theorem bl_comp {ρ : Sl} {own : List Nat} {i : Nat} {it : EvI} {ev : Ev} {M : Mem} {xs : List D} {g : D → Bool} (hi : it ρ M = .ok ⟨xs, [], M⟩ M) (hl : xs.length ≤ 1000) (he : ∀ d ∈ xs, ev ((wipeE ρ own).set i (some d)) M = .ok (.bl (g d)) M) :
    eLc it (.name i) own tYes ev ρ M = .ok (.lst (xs.map fun d => .bl (g d))) M := lc_map (own := own) (i := i) (elt := ev) (fun d => .bl (g d)) hi (le_lim hl) (src_ok _ _ _) he
theorem fields_names {fs : List D} (h : fs.all isField = true) : isStrs (fs.map head0) = true := List.all_eq_true.mpr fun d hd => by
  obtain ⟨x, hx, rfl⟩ := List.mem_map.mp hd
  exact (field_name (List.all_eq_true.mp h x hx)).1
theorem links_names {ls : List D} (h : ls.all isLink = true) : isStrs (ls.map head0) = true := List.all_eq_true.mpr fun d hd => by
  obtain ⟨x, hx, rfl⟩ := List.mem_map.mp hd
  exact (link_name (List.all_eq_true.mp h x hx)).1
theorem names_strs {fs ls : List D} (hf : fs.all isField = true) (hl : ls.all isLink = true) : isStrs (namesOf fs ls) = true := by
  unfold namesOf isStrs
  rw [List.map_append, List.all_append]
  exact Bool.and_eq_true_iff.mpr ⟨fields_names hf, links_names hl⟩
theorem names_of_ok {n k : D} {fs ls : List D} (M : Mem) (hf : fs.all isField = true) (hl : ls.all isLink = true) (h1 : fs.length ≤ 400) (h2 : ls.length ≤ 400) : ev_names_of [.tup [n, .tup fs, .tup ls, k]] M = .ok (.nms (namesOf fs ls)) M := by
  unfold ev_names_of
  rw [w_fn]
  unfold b_names_of
  have hlim : fs.length + ls.length ≤ lim := le_lim (by omega)
  have lc : eLc (eIt (eB addD (eB ixD (eV 0) (eC (.int 1))) (eB ixD (eV 0) (eC (.int 2))))) (.name 1) [1] tYes (eB ixD (eV 1) (eC (.int 0))) [some (.tup [n, .tup fs, .tup ls, k]), none] M = .ok (.lst ((fs ++ ls).map head0)) M := by
    refine lc_map (src := ⟨fs ++ ls, [], M⟩) _ (by simp [addD, hlim]) (by simpa using hlim) (by simp) fun d hd => ?_
    have : ∃ a r, d = .tup (a :: r) := by
      rcases List.mem_append.mp hd with z | z
      · exact (field_name (List.all_eq_true.mp hf d z)).2
      · obtain ⟨a, b, r, e, _⟩ := (link_name (List.all_eq_true.mp hl d z)).2
        exact ⟨a, _, e⟩
    obtain ⟨a, r, rfl⟩ := this
    simp [head0]
  simp [lc, nmsD, namesOf]
theorem key_strs {names : List D} {d : D} (h : isKey names d = true) : ∃ ks, d = .tup ks ∧ isStrs ks = true ∧ ks ≠ [] ∧ ks.length ≤ 3 := by
  cases d with
  | tup ks =>
    simp only [isKey, Bool.and_eq_true, decide_eq_true_eq] at h
    refine ⟨ks, rfl, List.all_eq_true.mpr fun k hk => (Bool.and_eq_true_iff.mp (List.all_eq_true.mp h.1.2 k hk)).1, fun z => ?_, by omega⟩
    subst z
    simp at h
  | _ => simp [isKey] at h
theorem strs_alike : ∀ {xs ys : List D}, isStrs xs = true → isStrs ys = true → D.alikes xs ys = true
  | [], _, _, _ => by unfold D.alikes; rfl
  | _ :: _, [], _, _ => by unfold D.alikes; rfl
  | x :: xs, y :: ys, h, k => by
    simp only [isStrs, List.all_cons, Bool.and_eq_true] at h k
    unfold D.alikes
    rw [strs_alike h.2 k.2]
    cases x with
    | str x => cases y with
      | str y => simp [D.alike]
      | _ => cases k.1
    | _ => cases h.1
theorem keys_chained {ks : List D} (h : ∀ k ∈ ks, ∃ xs, k = .tup xs ∧ isStrs xs = true) : chained ks := fun q hq => by
  obtain ⟨h1, h2⟩ := zip_mem hq
  obtain ⟨a, b⟩ := q
  obtain ⟨xs, rfl, hx⟩ := h a h1
  obtain ⟨ys, rfl, hy⟩ := h b h2
  have px := strs_pure hx
  have py := strs_pure hy
  have dx := strs_depth hx
  have dy := strs_depth hy
  refine ⟨?_, by simp [D.pure, px], by simp [D.pure, py]⟩
  simp [ordOk, D.alike, strs_alike hx hy, isNon, cmpOk, D.pure, px, py, D.depth]
  omega
theorem names_set {xs : List D} (h : isStrs xs = true) (hl : xs.length < 64) (M : Mem) : lenSetD (.tup xs) M = some (.int ((D.once xs).length : Nat)) ∧ lenSetD (.lst xs) M = some (.int ((D.once xs).length : Nat)) := by
  have ok : setOk xs = true := by
    have : xs.all isStr = true := h
    simp [setOk, hl, strs_keyed h, this]
  constructor <;> simp [lenSetD, ok]
theorem eq_empty {xs : List D} (h : D.pures xs = true) (M : Mem) : eqD (.tup xs) (.tup []) M = some (.bl xs.isEmpty) := by
  cases xs with
  | nil => simp [eqD, cmpOk, D.pure, D.pures, D.depth, D.depths, D.beq, D.beqs]
  | cons x xs =>
    have e : (min (D.depth (.tup (x :: xs))) (D.depth (.tup []))) ≤ 100 := by
      have : D.depth (.tup []) = 1 := by simp [D.depth, D.depths]
      omega
    have p : D.pure (.tup (x :: xs)) = true := by unfold D.pure; exact h
    have p0 : D.pure (.tup []) = true := rfl
    simp only [eqD, d_tup, cmpOk, p, p0, e, Bool.and_self, decide_true, if_true, D.beq, D.beqs, List.isEmpty_cons]
theorem is_table_ok (d : D) (M : Mem) (h : d.fit = true) : ev_is_table [d] M = .ok (.bl (isTable d)) M := by
  unfold ev_is_table
  rw [w_fn]
  unfold b_is_table
  have t := is_tuple_ok d 4 4 M h
  cases ht : isTuple d 4 4 with
  | false => simp [t, ht, isTable_len ht]
  | true =>
    obtain ⟨xs, rfl⟩ := isTuple_tup ht
    obtain ⟨n, f, l, k, rfl⟩ := len4 ht
    have fn : n.fit = true := fit_tup h n (by simp)
    have ff : f.fit = true := fit_tup h f (by simp)
    have fl : l.fit = true := fit_tup h l (by simp)
    have fk : k.fit = true := fit_tup h k (by simp)
    have wn := is_word_ok n 1 M fn
    cases hn : isWord n 1 with
    | false => simp [t, ht, wn, hn, isTable_no (f := f) (l := l) (k := k) (.inl hn)]
    | true =>
      have tf := is_tuple_ok f 0 4 M ff
      cases hf : isTuple f 0 4 with
      | false => simp [t, ht, wn, hn, tf, hf, isTable_no (n := n) (l := l) (k := k) (.inr (.inl hf))]
      | true =>
        obtain ⟨fs, rfl⟩ := isTuple_tup hf
        have cf := bl_comp (ρ := [some (.tup [n, .tup fs, l, k]), none, none, none, none]) (own := [2]) (i := 2) (it := eIt (eB ixD (eV 0) (eC (.int 1)))) (ev := eCall ev_is_field [eV 2]) (M := M) (xs := fs) (g := isField) (by simp) (fit_tup_len ff)
          fun d hd => by simp [is_field_ok d M (fit_tup ff d hd)]
        cases af : fs.all isField with
        | false =>
          have : isTable (.tup [n, .tup fs, l, k]) = false := by cases l <;> cases k <;> simp [isTable, af]
          simp [t, ht, wn, hn, tf, hf, cf, all_map, af, this]
        | true =>
          have tl := is_tuple_ok l 0 3 M fl
          cases hl : isTuple l 0 3 with
          | false =>
              simp [t, ht, wn, hn, tf, hf, cf, all_map, af, tl, hl, isTable_no (n := n) (f := .tup fs) (k := k) (.inr (.inr (.inl hl)))]
          | true =>
            obtain ⟨ls, rfl⟩ := isTuple_tup hl
            have cl := bl_comp (ρ := [some (.tup [n, .tup fs, .tup ls, k]), none, none, none, none]) (own := [3]) (i := 3) (it := eIt (eB ixD (eV 0) (eC (.int 2)))) (ev := eCall ev_is_link [eV 3]) (M := M) (xs := ls) (g := isLink) (by simp) (fit_tup_len fl)
              fun d hd => by simp [is_link_ok d M (fit_tup fl d hd)]
            cases al : ls.all isLink with
            | false =>
              have : isTable (.tup [n, .tup fs, .tup ls, k]) = false := by cases k <;> simp [isTable, al]
              simp [t, ht, wn, hn, tf, hf, cf, all_map, af, tl, hl, al, this, cl]
            | true =>
              have lf : fs.length ≤ 4 := by simp only [w_isTup, Bool.and_eq_true, decide_eq_true_eq] at hf; omega
              have ll : ls.length ≤ 3 := by simp only [w_isTup, Bool.and_eq_true, decide_eq_true_eq] at hl; omega
              have hs := names_strs af al
              have nl : (namesOf fs ls).length = fs.length + ls.length := by simp [namesOf]
              have no := names_of_ok (n := n) (k := k) M af al (by omega) (by omega)
              have ns := (names_set hs (by omega) M).1
              have ee := eq_empty (strs_pure hs) M
              have ie : (namesOf fs ls).isEmpty = (fs ++ ls).isEmpty := by cases fs <;> cases ls <;> simp [namesOf]
              have hlen : (namesOf fs ls).length ≤ lim := le_lim (by omega)
              have nd : decide ((((D.once (namesOf fs ls)).length : Nat) : Int) = (((namesOf fs ls).length : Nat) : Int)) = nodupB (namesOf fs ls) := by
                unfold nodupB
                rw [Bool.eq_iff_iff, decide_eq_true_iff, decide_eq_true_iff]
                omega
              cases e1 : (namesOf fs ls).isEmpty with
              | true =>
                have : isTable (.tup [n, .tup fs, .tup ls, k]) = false := by
                  rw [ie] at e1
                  cases k <;> simp [isTable, e1]
                simp [t, ht, wn, hn, tf, hf, cf, all_map, af, tl, hl, al, cl, no, ee, e1, this]
              | false =>
                cases e2 : nodupB (namesOf fs ls) with
                | false =>
                  have : isTable (.tup [n, .tup fs, .tup ls, k]) = false := by cases k <;> simp [isTable, e2]
                  simp [t, ht, wn, hn, tf, hf, cf, all_map, af, tl, hl, al, cl, no, ee, e1, this, ns, lenD, nd, e2]
                | true =>
                  have tk := is_tuple_ok k 0 2 M fk
                  cases hk : isTuple k 0 2 with
                  | false => simp [t, ht, wn, hn, tf, hf, cf, all_map, af, tl, hl, al, cl, no, ee, e1, ns, lenD, nd, e2, tk, hk, isTable_no (n := n) (f := .tup fs) (l := .tup ls) (.inr (.inr (.inr hk)))]
                  | true =>
                    obtain ⟨ks, rfl⟩ := isTuple_tup hk
                    have ck := bl_comp (ρ := [some (.tup [n, .tup fs, .tup ls, .tup ks]), some (.nms (namesOf fs ls)), none, none, none]) (own := [4]) (i := 4) (it := eIt (eB ixD (eV 0) (eC (.int 3)))) (ev := eCall ev_is_key [eV 1, eV 4]) (M := M) (xs := ks) (g := isKey (namesOf fs ls)) (by simp) (fit_tup_len fk)
                      fun d hd => by simp [is_key_ok (namesOf fs ls) d M (fit_tup fk d hd) hs]
                    have fin : isTable (.tup [n, .tup fs, .tup ls, .tup ks]) = (ks.all (isKey (namesOf fs ls)) && rising ks) := by
                      rw [ie] at e1
                      simp only [w_isTup, Bool.and_eq_true, decide_eq_true_eq] at hf hl hk
                      simp [isTable, hn, af, al, hf.2, hl.2, hk.2, e1, e2]
                    cases ak : ks.all (isKey (namesOf fs ls)) with
                    | false => simp [t, ht, wn, hn, tf, hf, cf, all_map, af, tl, hl, al, cl, no, ee, e1, ns, lenD, nd, e2, tk, hk, ck, ak, fin]
                    | true =>
                      have r := is_rising_ok (.tup ks) ks M (.inl rfl) (fit_tup_len fk) (keys_chained fun x hx => by
                        obtain ⟨xs, e, h, _⟩ := key_strs (List.all_eq_true.mp ak x hx)
                        exact ⟨xs, e, h⟩)
                      simp [t, ht, wn, hn, tf, hf, cf, all_map, af, tl, hl, al, cl, no, ee, e1, ns, lenD, nd, e2, tk, hk, ck, ak, fin, r]
/-! ### schemas -/
def linksOf : D → List D
  | .tup [_, _, .tup ls, _] => ls
  | _ => []
def fieldsOf : D → List D
  | .tup [_, .tup fs, _, _] => fs
  | _ => []
def keysOf : D → List D
  | .tup [_, _, _, .tup ks] => ks
  | _ => []
/-- the second of a tuple -/
def second : D → D
  | .tup (_ :: b :: _) => b
  | _ => .non
def isSchema : D → Bool
  | .tup ts => decide (1 ≤ (ts.length : Int)) && decide ((ts.length : Int) ≤ 4) && ts.all isTable && rising (ts.map head0) && ts.all fun t => (linksOf t).all fun l => (ts.map head0).any fun z => z.beq (second l)
  | _ => false
theorem table_shape {d : D} (h : isTable d = true) : ∃ n fs ls ks, d = .tup [n, .tup fs, .tup ls, .tup ks] ∧ isWord n 1 = true ∧ fs.length ≤ 4 ∧ fs.all isField = true ∧ ls.length ≤ 3 ∧ ls.all isLink = true ∧ (fs ++ ls).isEmpty = false ∧ nodupB (namesOf fs ls) = true ∧ ks.length ≤ 2 ∧
    ks.all (isKey (namesOf fs ls)) = true ∧ rising ks = true := by
  unfold isTable at h
  split at h
  · rename_i n fs ls ks
    simp only [Bool.and_eq_true, decide_eq_true_eq, Bool.not_eq_true'] at h
    obtain ⟨⟨⟨⟨⟨h1, h2, h3⟩, h4, h5⟩, h6, h7⟩, h8, h9⟩, h10⟩ := h
    exact ⟨n, fs, ls, ks, rfl, h1, by omega, h3, by omega, h5, h6, h7, by omega, h9, h10⟩
  · cases h
theorem word_str {d : D} {n : Int} (h : isWord d n = true) : isStr d = true := by
  cases d with
  | str x => rfl
  | _ => simp [isWord] at h
theorem tables_names {ts : List D} (h : ts.all isTable = true) : isStrs (ts.map head0) = true := List.all_eq_true.mpr fun d hd => by
  obtain ⟨x, hx, rfl⟩ := List.mem_map.mp hd
  obtain ⟨n, fs, ls, ks, rfl, w, _⟩ := table_shape (List.all_eq_true.mp h x hx)
  exact word_str w
theorem flatMap_len {α β : Type} {f : α → List β} {n : Nat} : ∀ {xs : List α}, (∀ x ∈ xs, (f x).length ≤ n) → (xs.flatMap f).length ≤ xs.length * n
  | [], _ => by simp
  | x :: xs, h => by
    have ih := flatMap_len (f := f) (n := n) (xs := xs) fun y hy => h y (List.mem_cons_of_mem _ hy)
    have := h x List.mem_cons_self
    rw [List.flatMap_cons, List.length_append, List.length_cons, Nat.succ_mul]
    omega
theorem can_be_schema_ok (d : D) (M : Mem) (h : d.fit = true) : ev_can_be_schema [d] M = .ok (.bl (isSchema d)) M := by
  unfold ev_can_be_schema
  rw [w_fn]
  unfold b_can_be_schema
  have t := is_tuple_ok d 1 4 M h
  cases ht : isTuple d 1 4 with
  | false =>
    have e : isSchema d = false := by
      cases d with
      | tup ks => simp only [w_isTup] at ht; simp [isSchema, ht]
      | _ => rfl
    simp [t, ht, e]
  | true =>
    obtain ⟨ts, rfl⟩ := isTuple_tup ht
    have ct := bl_comp (ρ := [some (.tup ts), none, none, none]) (own := [2]) (i := 2) (it := eIt (eV 0)) (ev := eCall ev_is_table [eV 2]) (M := M) (xs := ts) (g := isTable) (by simp) (fit_tup_len h) fun d hd => by simp [is_table_ok d M (fit_tup h d hd)]
    have hh := ht
    simp only [w_isTup] at hh
    cases at_ : ts.all isTable with
    | false =>
      have e : isSchema (.tup ts) = false := by simp [isSchema, at_]
      simp [t, ht, ct, all_map, at_, e]
    | true =>
      have shape : ∀ d ∈ ts, ∃ n fs ls ks, d = .tup [n, .tup fs, .tup ls, .tup ks] ∧ ls.length ≤ 3 ∧ ls.all isLink = true := fun d hd => by
        obtain ⟨n, fs, ls, ks, e, _, _, _, a, b, _⟩ := table_shape (List.all_eq_true.mp at_ d hd)
        exact ⟨n, fs, ls, ks, e, a, b⟩
      have cn := lc_map (ρ := [some (.tup ts), none, none, none]) (own := [2]) (i := 2) (it := eIt (eV 0)) (elt := eB ixD (eV 2) (eC (.int 0))) (M := M) (M1 := M) (src := ⟨ts, [], M⟩) head0 (by simp) (le_lim (fit_tup_len h)) (by simp) fun d hd => by
        obtain ⟨n, fs, ls, ks, rfl, _⟩ := shape d hd
        simp [head0]
      have hs := tables_names at_
      have r := is_rising_ok (.lst (ts.map head0)) (ts.map head0) M (.inr rfl) (by simpa using fit_tup_len h) (strs_chained hs)
      have c2 := lc2_map (ρ := [some (.tup ts), some (.lst (ts.map head0)), none, none]) (own := [2, 3]) (vs1 := [3]) (i := 2) (j := 3) (it := eIt (eV 0)) (it1 := eIt (eB ixD (eV 2) (eC (.int 2)))) (elt := eB inD (eB ixD (eV 3) (eC (.int 1))) (eV 1)) (M := M) (M1 := M) (src := ⟨ts, [], M⟩)
        linksOf (fun _ l => .bl ((ts.map head0).any fun z => z.beq (second l))) (by simp)
        (by
          have := flatMap_len (f := fun d => (linksOf d).map fun l => D.bl ((ts.map head0).any fun z => z.beq (second l))) (n := 3) (xs := ts) fun d hd => by
            obtain ⟨n, fs, ls, ks, rfl, a, _⟩ := shape d hd
            simpa [linksOf] using a
          have l1 := fit_tup_len h
          refine Nat.le_trans this ?_
          show ts.length * 3 ≤ 16777216
          omega) (by simp)
        (fun d hd => by
          obtain ⟨n, fs, ls, ks, rfl, _⟩ := shape d hd
          simp [linksOf])
        (fun d hd e he => by
          obtain ⟨n, fs, ls, ks, rfl, _, al⟩ := shape d hd
          have he : e ∈ ls := he
          obtain ⟨a, b, r, rfl, sb⟩ := (link_name (List.all_eq_true.mp al e he)).2
          simp [(in_texts M sb hs).2, second])
      have fl : (ts.flatMap fun d => (linksOf d).map fun l => D.bl ((ts.map head0).any fun z => z.beq (second l))) = (ts.flatMap linksOf).map fun l => D.bl ((ts.map head0).any fun z => z.beq (second l)) := by
        rw [List.map_flatMap]
      have e : isSchema (.tup ts) = (rising (ts.map head0) && (ts.flatMap linksOf).all fun l => (ts.map head0).any fun z => z.beq (second l)) := by
        rw [List.all_flatMap]
        simp only [Bool.and_eq_true, decide_eq_true_eq] at hh
        simp only [isSchema, at_, hh.1, hh.2, decide_true, Bool.true_and, Bool.and_true]
      cases hr : rising (ts.map head0) with
      | false => simp [t, ht, ct, all_map, at_, cn, r, hr, e]
      | true =>
        rw [fl] at c2
        simp [t, ht, ct, all_map, at_, cn, r, hr, e, c2]
theorem is_schema_ok (d : D) (M : Mem) (h : d.fit = true) : ev_is_schema [d] M = .ok (.bl (isSchema d)) M := by
  unfold ev_is_schema
  rw [w_fn]
  unfold b_is_schema
  simp [can_be_schema_ok d M h]
end Mk
end

section
set_option maxHeartbeats 4000000
/-! Pl3: what a schema is, as the laws see it. -/
open PySem PySem.Spec PyProof.Rows L2
namespace Mk
theorem f_letters : ([97, 98, 99, 100, 101, 102, 103, 104, 105, 106, 107, 108, 109, 110, 111, 112, 113, 114, 115, 116, 117, 118, 119, 120, 121, 122] : List Nat) = letters := rfl
theorem strItems_strs (x : List Nat) : isStrs (strItems x) = true := List.all_eq_true.mpr fun d hd => by
  obtain ⟨c, _, rfl⟩ := List.mem_map.mp hd
  rfl
theorem strs_filter {xs : List D} (p : D → Bool) (h : isStrs xs = true) : isStrs (xs.filter p) = true := List.all_eq_true.mpr fun d hd => List.all_eq_true.mp h d (List.mem_filter.mp hd).1
theorem law_is_word_ok (d : D) (n : Int) (M : Mem) (h : d.fit = true) : ev__law_is_word [d, .int n] M = .ok (.bl (isWord d n)) M := by
  unfold ev__law_is_word
  rw [w_fn]
  unfold b__law_is_word
  cases d with
  | ref i => simp [D.fit] at h
  | nms _ => simp [D.fit] at h
  | str x =>
    have hx : x.length ≤ 1000 := by simpa [D.fit] using h
    have hl : x.length ≤ lim := le_lim hx
    have lc := lc_filter (it := eIt (eV 0)) (own := [2]) (i := 2) (test := eT (eB notInD (eV 2) (eC (.str letters)))) (elt := eV 2) (ρ := [some (.str x), some (.int n), none]) (M := M) (M1 := M) (src := ⟨strItems x, [], M⟩) (fun d => match d with
      | .str [c] => !decide (c ∈ letters)
      | _ => false) (fun d => d) (by simp) (by simpa [strItems] using hl) (by simp) (fun d hd => by
        obtain ⟨c, _, rfl⟩ := List.mem_map.mp hd
        simp [notInD, inB]) (fun d hd _ => by simp)
    rw [List.map_id'] at lc
    have en := eq_nil (strs_pure (strs_filter (fun d => match d with
      | .str [c] => !decide (c ∈ letters)
      | _ => false) (strItems_strs x))) M
    rw [filter_nil] at en
    have e2 : ((strItems x).all fun d => !(match d with
      | .str [c] => !decide (c ∈ letters)
      | _ => false)) = x.all fun c => decide (c ∈ letters) := by
      unfold strItems
      rw [List.all_map]
      refine congrArg (fun f => x.all f) (funext fun c => ?_)
      simp
    rw [e2] at en
    by_cases h1 : n ≤ (x.length : Int)
    · by_cases h2 : x.length ≤ 8
      · have h2' : (x.length : Int) ≤ 8 := by omega
        simp [h, isStr, lenD, hl, h1, h2, h2', f_letters, lc, en, isWord]
      · have h2' : ¬ (x.length : Int) ≤ 8 := by omega
        simp [h, isStr, lenD, hl, h1, h2, h2', isWord]
    · simp [h, isStr, lenD, hl, h1, isWord]
  | _ => simp [h, isStr, isWord]
theorem law_is_tuple_ok (d : D) (lo hi : Int) (M : Mem) (h : d.fit = true) : ev__law_is_tuple [d, .int lo, .int hi] M = .ok (.bl (isTuple d lo hi)) M := by
  unfold ev__law_is_tuple
  rw [w_fn]
  unfold b__law_is_tuple
  cases d with
  | ref i => simp [D.fit] at h
  | nms _ => simp [D.fit] at h
  | tup xs =>
    by_cases h1 : lo ≤ (xs.length : Int)
    · simp [isTup0, h, lenD, h1, isTuple]
    · simp [isTup0, h, lenD, h1, isTuple]
  | _ => simp [h, isTup0, isTuple]
theorem ones_pure {α : Type} (xs : List α) : D.pures (xs.map fun _ => D.int 1) = true := pures_mem'.mpr fun d hd => by
  obtain ⟨x, _, rfl⟩ := List.mem_map.mp hd
  rfl
theorem law_rises_ok (d : D) (xs : List D) (M : Mem) (h : d = .tup xs ∨ d = .lst xs) (hl : xs.length ≤ 1000) (hc : chained xs) : ev__law_rises [d] M = .ok (.bl (rising xs)) M := by
  unfold ev__law_rises
  rw [w_fn]
  unfold b__law_rises
  have hi : eZip (eV 0) (eSl (eV 0) (pSo (eC (.int 1))) pNo) [some d, none, none] M = .ok ⟨zipD xs (xs.drop 1), [], M⟩ M := by
    rcases h with rfl | rfl <;> simp [cutD, cut1]
  have lc := pair_filter (own := [1, 2]) (i := 1) (j := 2) (test := tNot (eT (eB ltD (eV 1) (eV 2)))) (elt := eC (.int 1)) (fun a b => !a.ltb b) (fun _ _ => .int 1) hi (zipD_map _ _) (le_lim (by simp; omega)) (by simp)
    (fun q hq => by
      obtain ⟨h1, h2, h3⟩ := hc q hq
      simp [ltD, h1, h2, h3]) (fun _ _ _ => rfl)
  have en := eq_nil (ones_pure ((xs.zip (xs.drop 1)).filter fun q => !q.1.ltb q.2)) M
  have e2 : (((xs.zip (xs.drop 1)).filter fun q => !q.1.ltb q.2).map fun _ => D.int 1).isEmpty = rising xs := by
    rw [List.isEmpty_map, filter_nil]
    unfold rising
    refine congrArg (fun f => (xs.zip (xs.drop 1)).all f) (funext fun q => ?_)
    simp
  rw [e2] at en
  generalize ((xs.zip (xs.drop 1)).filter fun q => !q.1.ltb q.2).map (fun _ => D.int 1) = zs at lc en
  simp [lc, en]
/-- a column or a link, by the flag -/
def isColumn (link : Bool) (d : D) : Bool := if link then isLink d else isField d
theorem in_lst (x : List Nat) (ys : List (List Nat)) (M : Mem) : inD (.str x) (.lst (ys.map D.str)) M = some (.bl (ys.any fun y => decide (x = y))) := by
  have := in_strs x ys M
  have p : D.pures (ys.map D.str) = true := pures_mem'.mpr fun d hd => by
    obtain ⟨y, _, rfl⟩ := List.mem_map.mp hd
    rfl
  simpa [inD, inB, cmpOk, D.pure, p, D.depth] using this
theorem law_is_column_ok (d : D) (k : Bool) (M : Mem) (h : d.fit = true) : ev__law_is_column [d, .bl k] M = .ok (.bl (isColumn k d)) M := by
  unfold ev__law_is_column
  rw [w_fn]
  unfold b__law_is_column
  cases k with
  | false =>
    have t := law_is_tuple_ok d 3 3 M h
    cases ht : isTuple d 3 3 with
    | false => simp [intD, t, ht, isColumn, isField_len ht]
    | true =>
      obtain ⟨xs, rfl⟩ := isTuple_tup ht
      obtain ⟨a, b, c, rfl⟩ := len3 ht
      have wa := law_is_word_ok a 1 M (fit_tup h a (by simp))
      have fb : b.fit = true := fit_tup h b (by simp)
      have fc : c.fit = true := fit_tup h c (by simp)
      cases b with
      | ref i => simp [D.fit] at fb
      | nms _ => simp [D.fit] at fb
      | str x =>
        have hin := in_lst x [tInt, tText] M
        simp only [List.map_cons, List.map_nil, List.any_cons, List.any_nil, Bool.or_false] at hin
        cases hw : isWord a 1 <;> cases hb : isBl c <;> simp [intD, t, ht, wa, hw, isColumn, isField, fb, fc, hb, isStr, f_int, f_text, hin, isSort]
      | _ => cases hw : isWord a 1 <;> cases hb : isBl c <;> simp [intD, t, ht, wa, hw, isColumn, isField, fb, fc, hb, isStr, isSort]
  | true =>
    have t := law_is_tuple_ok d 4 4 M h
    cases ht : isTuple d 4 4 with
    | false => simp [intD, t, ht, isColumn, isLink_len ht]
    | true =>
      obtain ⟨xs, rfl⟩ := isTuple_tup ht
      obtain ⟨a, b, c, e, rfl⟩ := len4 ht
      have wa := law_is_word_ok a 1 M (fit_tup h a (by simp))
      have wb := law_is_word_ok b 1 M (fit_tup h b (by simp))
      have fc : c.fit = true := fit_tup h c (by simp)
      have fe : e.fit = true := fit_tup h e (by simp)
      cases e with
      | ref i => simp [D.fit] at fe
      | nms _ => simp [D.fit] at fe
      | str x =>
        have hin := in_lst x [tHold, tFollow, tClear] M
        have hin2 := in_lst x [tHold, tFollow] M
        simp only [List.map_cons, List.map_nil, List.any_cons, List.any_nil, Bool.or_false] at hin hin2
        cases c with
        | ref i => simp [D.fit] at fc
        | nms _ => simp [D.fit] at fc
        | bl q =>
          have e1 : (x == tClear) = decide (x = tClear) := by rw [Bool.eq_iff_iff, beq_iff_eq, decide_eq_true_iff]
          cases q with
          | true =>
            cases hw : isWord a 1 <;> cases hv : isWord b 1 <;> simp [intD, t, ht, wa, wb, hw, hv, isColumn, isLink, fe, isStr, isBl, isRule, f_hold, f_follow, f_clear, hin, D.beq, Bool.or_assoc]
          | false =>
            have ne1 : tHold ≠ tClear := by decide
            have ne2 : tFollow ≠ tClear := by decide
            cases hw : isWord a 1 <;> cases hv : isWord b 1 <;> simp [intD, t, ht, wa, wb, hw, hv, isColumn, isLink, fe, isStr, isBl, isRule, f_hold, f_follow, f_clear, hin2, D.beq, e1]
            by_cases z1 : x = tHold
            · simp [z1, ne1]
            · by_cases z2 : x = tFollow
              · simp [z2, ne2]
              · simp [z1, z2]
        | _ => cases hw : isWord a 1 <;> cases hv : isWord b 1 <;> simp [intD, t, ht, wa, wb, hw, hv, isColumn, isLink, fc, fe, isBl]
      | _ => cases hw : isWord a 1 <;> cases hv : isWord b 1 <;> cases hc : isBl c <;> simp [intD, t, ht, wa, wb, hw, hv, isColumn, isLink, fc, fe, hc, isStr, isRule]
theorem bls_pure (bs : List Bool) : D.pures (bs.map D.bl) = true := pures_mem'.mpr fun d hd => by
  obtain ⟨b, _, rfl⟩ := List.mem_map.mp hd
  rfl
theorem false_in (bs : List Bool) (M : Mem) : inD (.bl false) (.lst (bs.map D.bl)) M = some (.bl (!bs.all fun b => b)) := by
  have e : ((bs.map D.bl).any fun z => z.beq (.bl false)) = !bs.all fun b => b := by
    induction bs with
    | nil => rfl
    | cons b bs ih =>
      rw [List.map_cons, List.any_cons, List.all_cons, ih]
      cases b <;> simp [D.beq]
  simp [inD, inB, cmpOk, bls_pure, D.pure, D.depth, e]
theorem notin_texts {x : D} {ys : List D} (M : Mem) (hx : isStr x = true) (hy : isStrs ys = true) : notInD x (.tup ys) M = some (.bl (!ys.any fun z => z.beq x)) ∧ notInD x (.lst ys) M = some (.bl (!ys.any fun z => z.beq x)) := by
  have p := strs_pure hy
  cases x with
  | str x => constructor <;> simp [notInD, inB, cmpOk, D.pure, p, D.depth]
  | _ => cases hx
theorem isKey_no {names : List D} {d : D} (h : isTuple d 1 3 = false) : isKey names d = false := by
  cases d with
  | tup ks => simp only [w_isTup] at h; simp [isKey, h]
  | _ => rfl
theorem law_is_table_ok (d : D) (M : Mem) (h : d.fit = true) : ev__law_is_table [d] M = .ok (.bl (isTable d)) M := by
  unfold ev__law_is_table
  rw [w_fn]
  unfold b__law_is_table
  have t := law_is_tuple_ok d 4 4 M h
  cases ht : isTuple d 4 4 with
  | false => simp [t, ht, isTable_len ht]
  | true =>
    obtain ⟨xs, rfl⟩ := isTuple_tup ht
    obtain ⟨n, f, l, k, rfl⟩ := len4 ht
    have fn : n.fit = true := fit_tup h n (by simp)
    have ff : f.fit = true := fit_tup h f (by simp)
    have fl : l.fit = true := fit_tup h l (by simp)
    have fk : k.fit = true := fit_tup h k (by simp)
    have wn := law_is_word_ok n 1 M fn
    have tf := law_is_tuple_ok f 0 4 M ff
    have tl := law_is_tuple_ok l 0 3 M fl
    have tk := law_is_tuple_ok k 0 2 M fk
    cases hn : isWord n 1 with
    | false => simp [t, ht, wn, hn, isTable_no (f := f) (l := l) (k := k) (.inl hn)]
    | true =>
      cases hf : isTuple f 0 4 with
      | false => simp [t, ht, wn, hn, cutD, cut1, tf, hf, isTable_no (n := n) (l := l) (k := k) (.inr (.inl hf))]
      | true =>
        cases hl : isTuple l 0 3 with
        | false => simp [t, ht, wn, hn, cutD, cut1, tf, hf, tl, hl, isTable_no (n := n) (f := f) (k := k) (.inr (.inr (.inl hl)))]
        | true =>
          cases hk : isTuple k 0 2 with
          | false => simp [t, ht, wn, hn, cutD, cut1, tf, hf, tl, hl, tk, hk, isTable_no (n := n) (f := f) (l := l) (.inr (.inr (.inr hk)))]
          | true =>
            obtain ⟨fs, rfl⟩ := isTuple_tup hf
            obtain ⟨ls, rfl⟩ := isTuple_tup hl
            obtain ⟨ks, rfl⟩ := isTuple_tup hk
            have lf : fs.length ≤ 4 := by simp only [w_isTup, Bool.and_eq_true, decide_eq_true_eq] at hf; omega
            have ll : ls.length ≤ 3 := by simp only [w_isTup, Bool.and_eq_true, decide_eq_true_eq] at hl; omega
            have lk : ks.length ≤ 2 := by simp only [w_isTup, Bool.and_eq_true, decide_eq_true_eq] at hk; omega
            have dd : isTable (.tup [n, .tup fs, .tup ls, .tup ks]) = (fs.all isField && ls.all isLink && !(fs ++ ls).isEmpty && nodupB (namesOf fs ls) && ks.all (isKey (namesOf fs ls)) && rising ks) := by
              have a1 : (fs.length : Int) ≤ 4 := by omega
              have a2 : (ls.length : Int) ≤ 3 := by omega
              have a3 : (ks.length : Int) ≤ 2 := by omega
              simp [isTable, hn, a1, a2, a3, Bool.and_assoc]
            have cf := bl_comp (ρ := [some (.tup [n, .tup fs, .tup ls, .tup ks]), some (.tup ks), some (.int 2), none, none, none, none]) (own := [1]) (i := 1) (it := eIt (eB ixD (eV 0) (eC (.int 1)))) (ev := eCall ev__law_is_column [eV 1, eC (.bl false)]) (M := M) (xs := fs) (g := isField) (by simp) (fit_tup_len ff)
              fun d hd => by simp [law_is_column_ok d false M (fit_tup ff d hd), isColumn]
            have cl := bl_comp (ρ := [some (.tup [n, .tup fs, .tup ls, .tup ks]), some (.tup ks), some (.int 2), some (.lst (fs.map fun d => .bl (isField d))), none, none, none]) (own := [1]) (i := 1) (it := eIt (eB ixD (eV 0) (eC (.int 2)))) (ev := eCall ev__law_is_column [eV 1, eC (.bl true)]) (M := M) (xs := ls) (g := isLink) (by simp) (fit_tup_len fl)
              fun d hd => by simp [law_is_column_ok d true M (fit_tup fl d hd), isColumn]
            have hb : (fs.map fun d => D.bl (isField d)) ++ (ls.map fun d => D.bl (isLink d)) = ((fs.map isField) ++ (ls.map isLink)).map D.bl := by simp [List.map_map, Function.comp_def]
            have el := eq_nil (bls_pure ((fs.map isField) ++ (ls.map isLink))) M
            have fi := false_in ((fs.map isField) ++ (ls.map isLink)) M
            have ie : (((fs.map isField) ++ (ls.map isLink)).map D.bl).isEmpty = (fs ++ ls).isEmpty := by cases fs <;> cases ls <;> simp
            have ia : (((fs.map isField) ++ (ls.map isLink)).all fun b => b) = (fs.all isField && ls.all isLink) := by
              rw [List.all_append, List.all_map, List.all_map]
              rfl
            rw [ie] at el
            rw [ia] at fi
            have l7 : fs.length + ls.length ≤ lim := le_lim (by omega)
            cases e1 : (fs ++ ls).isEmpty with
            | true =>
              rw [e1] at el
              simp only [← hb] at el fi
              simp [t, ht, wn, hn, cutD, cut1, tf, hf, tl, hl, tk, hk, cf, cl, addD, l7, el, dd, e1]
            | false =>
              rw [e1] at el
              simp only [← hb] at el fi
              cases e2 : fs.all isField && ls.all isLink with
              | false =>
                rw [e2] at fi
                have dn : isTable (.tup [n, .tup fs, .tup ls, .tup ks]) = false := by rw [dd, e2]; simp
                simp [t, ht, wn, hn, cutD, cut1, tf, hf, tl, hl, tk, hk, cf, cl, addD, l7, el, fi, dn]
              | true =>
                rw [e2] at fi
                obtain ⟨af, al⟩ := Bool.and_eq_true_iff.mp e2
                have hs := names_strs af al
                have nl : (namesOf fs ls).length = fs.length + ls.length := by simp [namesOf]
                have ns := (names_set hs (by omega) M).2
                have nd : decide ((((D.once (namesOf fs ls)).length : Nat) : Int) = (((namesOf fs ls).length : Nat) : Int)) = nodupB (namesOf fs ls) := by
                  unfold nodupB
                  rw [Bool.eq_iff_iff, decide_eq_true_iff, decide_eq_true_iff]
                  omega
                have cn := lc_map (ρ := [some (.tup [n, .tup fs, .tup ls, .tup ks]), some (.tup ks), some (.int 2), some (.lst ((fs.map fun d => .bl (isField d)) ++ (ls.map fun d => .bl (isLink d)))), none, none, none]) (own := [1]) (i := 1)
                  (it := eIt (eB addD (eB ixD (eV 0) (eC (.int 1))) (eB ixD (eV 0) (eC (.int 2))))) (elt := eB ixD (eV 1) (eC (.int 0))) (M := M) (M1 := M) (src := ⟨fs ++ ls, [], M⟩) head0 (by simp [addD, l7]) (by simpa using l7) (by simp) fun d hd => by
                    have : ∃ a r, d = .tup (a :: r) := by
                      rcases List.mem_append.mp hd with z | z
                      · exact (field_name (List.all_eq_true.mp af d z)).2
                      · obtain ⟨a, b, r, e, _⟩ := (link_name (List.all_eq_true.mp al d z)).2
                        exact ⟨a, _, e⟩
                    obtain ⟨a, r, rfl⟩ := this
                    simp [head0]
                have cn' : eLc (eIt (eB addD (eB ixD (eV 0) (eC (.int 1))) (eB ixD (eV 0) (eC (.int 2))))) (.name 1) [1] tYes (eB ixD (eV 1) (eC (.int 0))) [some (.tup [n, .tup fs, .tup ls, .tup ks]), some (.tup ks), some (.int 2), some (.lst ((fs.map fun d => .bl (isField d)) ++ (ls.map fun d => .bl (isLink d)))), none, none, none] M = .ok (.lst (namesOf fs ls)) M := cn
                cases e3 : nodupB (namesOf fs ls) with
                | false =>
                  have dn : isTable (.tup [n, .tup fs, .tup ls, .tup ks]) = false := by rw [dd, e3]; simp
                  simp [t, ht, wn, hn, cutD, cut1, tf, hf, tl, hl, tk, hk, cf, cl, addD, l7, el, fi, dn, cn', ns, lenD, nd, e3]
                | true =>
                  -- the keys, one after another
                  have lp := loop_check (ok := Src.ok ⟨ks, [], M⟩) (t := .name 5) (M := M) (bad := .bl false) (good := isKey (namesOf fs ls)) (items := ks)
                    (body := sCons (sIf (tOr (tNot (eT (eCall ev__law_is_tuple [eV 5, eC (.int 1), eC (.int 3)]))) (eT (eB neD (eLc (eIt (eV 5)) (.name 6) [6] (tNot (eT (eU (isiD "str") (eV 6)))) (eC (.int 1))) (eLst [])))) (sRet (eC (.bl false))) sNil)
                      (sIf (tOr (eT (eB neD (eLc (eIt (eV 5)) (.name 6) [6] (eT (eB notInD (eV 6) (eV 4))) (eV 6)) (eLst []))) (tNot (eT (eCall ev__law_rises [eV 5])))) (sRet (eC (.bl false))) sNil))
                    (stay := fun ρ => ∃ q, ρ = [some (.tup [n, .tup fs, .tup ls, .tup ks]), some (.tup ks), some (.int 2), some (.lst ((fs.map fun d => .bl (isField d)) ++ (ls.map fun d => .bl (isLink d)))), some (.lst (namesOf fs ls)), q, none]) (src_ok _ _ _)
                    (ρ := [some (.tup [n, .tup fs, .tup ls, .tup ks]), some (.tup ks), some (.int 2), some (.lst ((fs.map fun d => .bl (isField d)) ++ (ls.map fun d => .bl (isLink d)))), some (.lst (namesOf fs ls)), none, none]) ⟨_, rfl⟩
                    (fun d hd ρ ⟨q, hq⟩ => by
                      subst hq
                      refine ⟨_, w_name _ _ _ _, [some (.tup [n, .tup fs, .tup ls, .tup ks]), some (.tup ks), some (.int 2), some (.lst ((fs.map fun d => .bl (isField d)) ++ (ls.map fun d => .bl (isLink d)))), some (.lst (namesOf fs ls)), some d, none], ⟨_, rfl⟩, ?_⟩
                      have fd := fit_tup fk d hd
                      have td := law_is_tuple_ok d 1 3 M fd
                      cases htd : isTuple d 1 3 with
                      | false => simp [td, htd, isKey_no htd]
                      | true =>
                        obtain ⟨ys, rfl⟩ := isTuple_tup htd
                        have hys := htd
                        simp only [w_isTup] at hys
                        have ly := fit_tup_len fd
                        have c1 := lc_filter (ρ := [some (.tup [n, .tup fs, .tup ls, .tup ks]), some (.tup ks), some (.int 2), some (.lst ((fs.map fun d => .bl (isField d)) ++ (ls.map fun d => .bl (isLink d)))), some (.lst (namesOf fs ls)), some (.tup ys), none]) (own := [6]) (i := 6)
                          (it := eIt (eV 5)) (test := tNot (eT (eU (isiD "str") (eV 6)))) (elt := eC (.int 1)) (M := M) (M1 := M) (src := ⟨ys, [], M⟩) (fun d => !isStr d) (fun _ => .int 1) (by simp) (le_lim ly) (by simp) (fun e he => by simp [fit_tup fd e he]) (fun _ _ _ => rfl)
                        have n1 := ne_nil (ones_pure (ys.filter fun d => !isStr d)) M
                        rw [List.isEmpty_map, filter_nil] at n1
                        simp only [Bool.not_not] at n1
                        cases sy : isStrs ys with
                        | false =>
                          have kn : isKey (namesOf fs ls) (.tup ys) = false := by
                            have : (ys.all fun k => isStr k && (namesOf fs ls).any fun z => z.beq k) = false := by
                              cases z : ys.all fun k => isStr k && (namesOf fs ls).any fun z => z.beq k with
                              | false => rfl
                              | true =>
                                have : isStrs ys = true := List.all_eq_true.mpr fun k hk => (Bool.and_eq_true_iff.mp (List.all_eq_true.mp z k hk)).1
                                rw [sy] at this; cases this
                            simp [isKey, this]
                          have sy' : (ys.all isStr) = false := sy
                          rw [sy'] at n1
                          simp [td, htd, c1, n1, kn]
                        | true =>
                          have sy' : (ys.all isStr) = true := sy
                          rw [sy'] at n1
                          have c2 := lc_filter (ρ := [some (.tup [n, .tup fs, .tup ls, .tup ks]), some (.tup ks), some (.int 2), some (.lst ((fs.map fun d => .bl (isField d)) ++ (ls.map fun d => .bl (isLink d)))), some (.lst (namesOf fs ls)), some (.tup ys), none]) (own := [6]) (i := 6)
                            (it := eIt (eV 5)) (test := eT (eB notInD (eV 6) (eV 4))) (elt := eV 6) (M := M) (M1 := M) (src := ⟨ys, [], M⟩) (fun d => !(namesOf fs ls).any fun z => z.beq d) (fun d => d) (by simp) (le_lim ly) (by simp)
                            (fun e he => by simp [(notin_texts M (List.all_eq_true.mp sy e he) hs).2]) (fun _ _ _ => by simp)
                          rw [List.map_id'] at c2
                          have n2 := ne_nil (strs_pure (strs_filter (fun d => !(namesOf fs ls).any fun z => z.beq d) sy)) M
                          rw [filter_nil] at n2
                          simp only [Bool.not_not] at n2
                          have r := law_rises_ok (.tup ys) ys M (.inl rfl) ly (strs_chained sy)
                          have kk : isKey (namesOf fs ls) (.tup ys) = ((ys.all fun k => (namesOf fs ls).any fun z => z.beq k) && rising ys) := by
                            have e0 : (ys.all fun k => isStr k && (namesOf fs ls).any fun z => z.beq k) = ys.all fun k => (namesOf fs ls).any fun z => z.beq k := by
                              rw [Bool.eq_iff_iff, List.all_eq_true, List.all_eq_true]
                              exact ⟨fun z k hk => (Bool.and_eq_true_iff.mp (z k hk)).2, fun z k hk => Bool.and_eq_true_iff.mpr ⟨List.all_eq_true.mp sy k hk, z k hk⟩⟩
                            simp only [isKey, hys, e0, Bool.true_and]
                          simp [td, htd, c1, n1, c2, n2, r, kk])
                  obtain ⟨ρ2, ⟨q, rfl⟩, lp⟩ := lp
                  have dk : isTable (.tup [n, .tup fs, .tup ls, .tup ks]) = (ks.all (isKey (namesOf fs ls)) && rising ks) := by rw [dd, e2, e1, e3]; simp
                  cases ak : ks.all (isKey (namesOf fs ls)) with
                  | false =>
                    rw [ak] at lp
                    simp [t, ht, wn, hn, cutD, cut1, tf, hf, tl, hl, tk, hk, cf, cl, addD, l7, el, fi, cn', ns, lenD, nd, e3, lp, dk, ak]
                  | true =>
                    rw [ak] at lp
                    have r := law_rises_ok (.tup ks) ks M (.inl rfl) (fit_tup_len fk) (keys_chained fun x hx => by
                      obtain ⟨xs, e, h, _⟩ := key_strs (List.all_eq_true.mp ak x hx)
                      exact ⟨xs, e, h⟩)
                    simp [t, ht, wn, hn, cutD, cut1, tf, hf, tl, hl, tk, hk, cf, cl, addD, l7, el, fi, cn', ns, lenD, nd, e3, lp, dk, ak, r]
theorem law_is_schema_ok (d : D) (M : Mem) (h : d.fit = true) : ev__law_is_schema [d] M = .ok (.bl (isSchema d)) M := by
  unfold ev__law_is_schema
  rw [w_fn]
  unfold b__law_is_schema
  have t := law_is_tuple_ok d 1 4 M h
  cases ht : isTuple d 1 4 with
  | false =>
    have e : isSchema d = false := by
      cases d with
      | tup ks => simp only [w_isTup] at ht; simp [isSchema, ht]
      | _ => rfl
    simp [t, ht, e]
  | true =>
    obtain ⟨ts, rfl⟩ := isTuple_tup ht
    have hh := ht
    simp only [w_isTup] at hh
    have lt := fit_tup_len h
    have ct := lc_filter (ρ := [some (.tup ts), none, none, none]) (own := [1]) (i := 1) (it := eIt (eV 0)) (test := tNot (eT (eCall ev__law_is_table [eV 1]))) (elt := eV 1) (M := M) (M1 := M) (src := ⟨ts, [], M⟩) (fun d => !isTable d) (fun d => d) (by simp) (le_lim lt) (by simp)
      (fun d hd => by simp [law_is_table_ok d M (fit_tup h d hd)]) (fun _ _ _ => by simp)
    rw [List.map_id'] at ct
    have n1 := ne_nil (xs := ts.filter fun d => !isTable d) (pures_mem'.mpr fun d hd => fit_pure d (fit_tup h d (List.mem_filter.mp hd).1)) M
    rw [filter_nil] at n1
    simp only [Bool.not_not] at n1
    cases at_ : ts.all isTable with
    | false =>
      have at' : (ts.all fun x => isTable x) = false := at_
      rw [at'] at n1
      have e : isSchema (.tup ts) = false := by simp [isSchema, at_]
      simp [t, ht, ct, n1, e]
    | true =>
      have at' : (ts.all fun x => isTable x) = true := at_
      rw [at'] at n1
      have shape : ∀ d ∈ ts, ∃ n fs ls ks, d = .tup [n, .tup fs, .tup ls, .tup ks] ∧ ls.length ≤ 3 ∧ ls.all isLink = true := fun d hd => by
        obtain ⟨n, fs, ls, ks, e, _, _, _, a, b, _⟩ := table_shape (List.all_eq_true.mp at_ d hd)
        exact ⟨n, fs, ls, ks, e, a, b⟩
      have cn := lc_map (ρ := [some (.tup ts), none, none, none]) (own := [1]) (i := 1) (it := eIt (eV 0)) (elt := eB ixD (eV 1) (eC (.int 0))) (M := M) (M1 := M) (src := ⟨ts, [], M⟩) head0 (by simp) (le_lim lt) (by simp) fun d hd => by
        obtain ⟨n, fs, ls, ks, rfl, _⟩ := shape d hd
        simp [head0]
      have hs := tables_names at_
      have r := law_rises_ok (.lst (ts.map head0)) (ts.map head0) M (.inr rfl) (by simpa using lt) (strs_chained hs)
      have e : isSchema (.tup ts) = (rising (ts.map head0) && ts.all fun t => (linksOf t).all fun l => (ts.map head0).any fun z => z.beq (second l)) := by
        simp only [Bool.and_eq_true, decide_eq_true_eq] at hh
        simp only [isSchema, at_, hh.1, hh.2, decide_true, Bool.true_and, Bool.and_true]
      have cn' : eLc (eIt (eV 0)) (.name 1) [1] tYes (eB ixD (eV 1) (eC (.int 0))) [some (.tup ts), none, none, none] M = .ok (.lst (ts.map head0)) M := cn
      clear cn
      generalize ts.map head0 = nm at cn' hs r e
      have lp := loop_check (ok := Src.ok ⟨ts, [], M⟩) (t := .name 1) (M := M) (bad := .bl false) (good := fun t => (linksOf t).all fun l => (nm).any fun z => z.beq (second l)) (items := ts)
        (body := sIf (eT (eB neD (eLc (eIt (eB ixD (eV 1) (eC (.int 2)))) (.name 3) [3] (eT (eB notInD (eB ixD (eV 3) (eC (.int 1))) (eV 2))) (eV 3)) (eLst []))) (sRet (eC (.bl false))) sNil)
        (stay := fun ρ => ∃ q, ρ = [some (.tup ts), q, some (.lst (nm)), none]) (src_ok _ _ _) (ρ := [some (.tup ts), none, some (.lst (nm)), none]) ⟨_, rfl⟩
        (fun d hd ρ ⟨q, hq⟩ => by
          subst hq
          refine ⟨_, w_name _ _ _ _, [some (.tup ts), some d, some (.lst (nm)), none], ⟨_, rfl⟩, ?_⟩
          have fd := fit_tup h d hd
          obtain ⟨n, fs, ls, ks, rfl, ll, al⟩ := shape d hd
          have c1 := lc_filter (ρ := [some (.tup ts), some (.tup [n, .tup fs, .tup ls, .tup ks]), some (.lst (nm)), none]) (own := [3]) (i := 3) (it := eIt (eB ixD (eV 1) (eC (.int 2)))) (test := eT (eB notInD (eB ixD (eV 3) (eC (.int 1))) (eV 2))) (elt := eV 3) (M := M) (M1 := M) (src := ⟨ls, [], M⟩)
            (fun l => !(nm).any fun z => z.beq (second l)) (fun d => d) (by simp) (le_lim (show ls.length ≤ 1000 by omega)) (by simp)
            (fun e he => by
              obtain ⟨a, b, r, rfl, sb⟩ := (link_name (List.all_eq_true.mp al e he)).2
              simp [(notin_texts M sb hs).2, second]) (fun _ _ _ => by simp)
          rw [List.map_id'] at c1
          have fl : (D.tup ls).fit = true := fit_tup fd (.tup ls) (by simp)
          have n2 := ne_nil (xs := ls.filter fun l => !(nm).any fun z => z.beq (second l)) (pures_mem'.mpr fun d hd => fit_pure d (fit_tup fl d (List.mem_filter.mp hd).1)) M
          rw [filter_nil] at n2
          simp only [Bool.not_not] at n2
          simp [c1, n2, linksOf])
      obtain ⟨ρ2, ⟨q, rfl⟩, lp⟩ := lp
      rw [e]
      cases al : ts.all fun t => (linksOf t).all fun l => (nm).any fun z => z.beq (second l) with
      | false =>
        rw [al] at lp
        simp [t, ht, ct, n1, cn', lp]
      | true =>
        rw [al] at lp
        simp [t, ht, ct, n1, cn', lp, r]
end Mk
end

section
set_option maxHeartbeats 4000000
/-! Pl4: the laws' own equality; drawing. -/
open PySem PySem.Spec PyProof.Rows L2
namespace Mk
mutual
/-- equal, kind and all -/
def D.eqb : D → D → Bool
  | .non, .non => true
  | .bl a, .bl b => a == b
  | .int i, .int j => decide (i = j)
  | .str x, .str y => decide (x = y)
  | .tup xs, .tup ys => D.eqbs xs ys
  | .lst xs, .lst ys => D.eqbs xs ys
  | .ref i, .ref j => decide (i = j)
  | .nms xs, .nms ys => D.eqbs xs ys
  | _, _ => false
def D.eqbs : List D → List D → Bool
  | [], [] => true
  | x :: xs, y :: ys => x.eqb y && D.eqbs xs ys
  | _, _ => false
end
mutual
theorem eqb_refl : ∀ d : D, d.eqb d = true
  | .non => by simp [D.eqb]
  | .bl _ => by simp [D.eqb]
  | .int _ => by simp [D.eqb]
  | .str _ => by simp [D.eqb]
  | .tup xs => by simp [D.eqb, eqbs_refl xs]
  | .lst xs => by simp [D.eqb, eqbs_refl xs]
  | .ref _ => by simp [D.eqb]
  | .nms xs => by simp [D.eqb, eqbs_refl xs]
theorem eqbs_refl : ∀ ds : List D, D.eqbs ds ds = true
  | [] => by simp [D.eqbs]
  | d :: ds => by simp [D.eqbs, eqb_refl d, eqbs_refl ds]
end
mutual
theorem eqb_eq : ∀ d e : D, d.eqb e = true → d = e
  | .non, e, h => by cases e <;> simp [D.eqb] at h <;> rfl
  | .bl _, e, h => by cases e <;> simp [D.eqb] at h; rw [h]
  | .int _, e, h => by cases e <;> simp [D.eqb] at h; rw [h]
  | .str _, e, h => by cases e <;> simp [D.eqb] at h; rw [h]
  | .tup xs, e, h => by cases e <;> simp [D.eqb] at h; rw [eqbs_eq xs _ h]
  | .lst xs, e, h => by cases e <;> simp [D.eqb] at h; rw [eqbs_eq xs _ h]
  | .ref _, e, h => by cases e <;> simp [D.eqb] at h; rw [h]
  | .nms xs, e, h => by cases e <;> simp [D.eqb] at h; rw [eqbs_eq xs _ h]
theorem eqbs_eq : ∀ ds es : List D, D.eqbs ds es = true → ds = es
  | [], es, h => by cases es <;> simp [D.eqbs] at h; rfl
  | d :: ds, es, h => by
    cases es with
    | nil => simp [D.eqbs] at h
    | cons e es =>
      simp only [D.eqbs, Bool.and_eq_true] at h
      rw [eqb_eq d e h.1, eqbs_eq ds es h.2]
end
def kindOf : D → Int
  | .bl _ => 1
  | .int _ => 2
  | .str _ => 3
  | .lst _ => 4
  | .tup _ => 5
  | _ => 6
theorem law_kind_ok (d : D) (M : Mem) (h : d.fit = true) : ev__law_kind [d] M = .ok (.int (kindOf d)) M := by
  unfold ev__law_kind
  rw [w_fn]
  unfold b__law_kind
  cases d with
  | ref i => simp [D.fit] at h
  | nms _ => simp [D.fit] at h
  | _ => simp [h, isBl, isInt, isStr, isLst, isTup0, kindOf]
theorem enumD_map (xs : List D) : enumD xs = (((List.range xs.length).map fun (i : Nat) => D.int i).zip xs).map fun q => .tup [q.1, q.2] := by
  unfold enumD
  rw [List.zip, List.map_zipWith, List.zipWith_map_left]
theorem eqbs_all : ∀ {xs ys : List D}, xs.length = ys.length → D.eqbs xs ys = (xs.zip ys).all fun q => q.1.eqb q.2
  | [], [], _ => rfl
  | [], _ :: _, h => by simp at h
  | _ :: _, [], h => by simp at h
  | x :: xs, y :: ys, h => by
    simp only [List.length_cons, Nat.add_right_cancel_iff] at h
    simp only [D.eqbs, List.zip_cons_cons, List.all_cons, eqbs_all h]
theorem eqbs_len {xs ys : List D} (h : xs.length ≠ ys.length) : D.eqbs xs ys = false := by
  cases e : D.eqbs xs ys with
  | false => rfl
  | true => exact absurd (congrArg List.length (eqbs_eq xs ys e)) h
/-- the item that is told by its place differs -/
def missAt (ys : List D) (a b : D) : Bool := match a with
  | .int i => !b.eqb (ys[i.toNat]?.getD .non)
  | _ => false
theorem enum_all : ∀ (xs ys : List D) (k : Nat), xs.length + k ≤ ys.length → (((List.range' k xs.length).map fun (i : Nat) => D.int i).zip xs).all (fun q => !missAt ys q.1 q.2) = (xs.zip (ys.drop k)).all fun q => q.1.eqb q.2
  | [], ys, k, _ => by simp
  | x :: xs, ys, k, h => by
    simp only [List.length_cons] at h
    have hk : k < ys.length := by omega
    have ih := enum_all xs ys (k + 1) (by omega)
    rw [List.drop_eq_getElem_cons hk]
    simp only [List.length_cons, List.range'_succ, List.map_cons, List.zip_cons_cons, List.all_cons, ih]
    congr 1
    show (!!x.eqb (ys[((k : Nat) : Int).toNat]?.getD .non)) = _
    rw [Int.toNat_natCast, List.getElem?_eq_getElem hk, Bool.not_not]
    rfl
theorem fit_seq {d : D} {xs : List D} (h : d = .tup xs ∨ d = .lst xs) (hf : d.fit = true) : xs.length ≤ 1000 ∧ ∀ x ∈ xs, x.fit = true := by
  rcases h with rfl | rfl <;> (simp only [D.fit, Bool.and_eq_true, decide_eq_true_eq] at hf; exact ⟨hf.1, fits_mem.mp hf.2⟩)
theorem law_equal_ok : ∀ (n : Nat) (d e : D) (M : Mem), d.fit = true → e.fit = true → d.depth < n → d.depth ≤ 100 → ev__law_equal n [d, e] M = .ok (.bl (d.eqb e)) M
  | 0, _, _, _, _, _, h, _ => absurd h (Nat.not_lt_zero _)
  | n + 1, d, e, M, fd, fe, hn, h100 => by
    unfold ev__law_equal
    rw [w_fn]
    unfold b__law_equal
    have kd := law_kind_ok d M fd
    have ke := law_kind_ok e M fe
    have seq : ∀ (xs ys : List D), (d = .tup xs ∧ e = .tup ys) ∨ (d = .lst xs ∧ e = .lst ys) →
        (eB eqD (eLc (eEnum (eV 0)) (.tup [.name 2, .name 3]) [2, 3] (tNot (eT (eCall (ev__law_equal n) [eV 3, eB ixD (eV 1) (eV 2)]))) (eV 2)) (eLst [])) [some d, some e, none, none] M = .ok (.bl (D.eqbs xs ys)) M ∨ xs.length ≠ ys.length := by
      intro xs ys hde
      by_cases hl : xs.length = ys.length
      case neg => exact .inr hl
      left
      have hd : d = .tup xs ∨ d = .lst xs := hde.imp (·.1) (·.1)
      have he : e = .tup ys ∨ e = .lst ys := hde.imp (·.2) (·.2)
      obtain ⟨lx, fx⟩ := fit_seq hd fd
      obtain ⟨ly, fy⟩ := fit_seq he fe
      have dx : ∀ x ∈ xs, x.depth < n ∧ x.depth ≤ 100 := by
        have : D.depths xs + 1 ≤ n ∧ D.depths xs ≤ 100 := by rcases hd with rfl | rfl <;> (simp only [D.depth] at hn h100; omega)
        intro x hx
        have := depths_mem (n := D.depths xs) (Nat.le_refl _) x hx
        omega
      have hi : eEnum (eV 0) [some d, some e, none, none] M = .ok ⟨enumD xs, [], M⟩ M := by rcases hd with rfl | rfl <;> simp
      have lc := pair_filter (own := [2, 3]) (i := 2) (j := 3) (test := tNot (eT (eCall (ev__law_equal n) [eV 3, eB ixD (eV 1) (eV 2)]))) (elt := eV 2) (ρ := [some d, some e, none, none]) (missAt ys) (fun a _ => a) hi (enumD_map xs) (le_lim (by simp; omega)) (by simp)
        (fun q hq => by
          obtain ⟨h1, h2⟩ := List.of_mem_zip hq
          obtain ⟨i, hi, e1⟩ := List.mem_map.mp h1
          have hil := List.mem_range.mp hi
          obtain ⟨a, b⟩ := q
          simp only at e1
          subst e1
          have hy : i < ys.length := by omega
          have ix : ixD e (.int (i : Nat)) M = some ys[i] := by
            have : L2.atI ys ((i : Nat) : Int) = some ys[i] := atI_nat (List.getElem?_eq_getElem hy)
            rcases he with rfl | rfl <;> exact this
          have ih := law_equal_ok n b ys[i] M (fx b h2) (fy _ (List.getElem_mem hy)) (dx b h2).1 (dx b h2).2
          have gd : missAt ys (.int (i : Nat)) b = !b.eqb ys[i] := by simp [missAt, List.getElem?_eq_getElem hy]
          simp [ix, ih, gd])
        (fun q hq _ => by simp)
      have pz : D.pures (((((List.range xs.length).map fun (i : Nat) => D.int i).zip xs).filter fun q => missAt ys q.1 q.2).map fun q => q.1) = true := pures_mem'.mpr fun z hz => by
        obtain ⟨q, hq, rfl⟩ := List.mem_map.mp hz
        obtain ⟨i, _, e1⟩ := List.mem_map.mp (List.of_mem_zip (List.mem_filter.mp hq).1).1
        rw [← e1]
        rfl
      have en := eq_nil pz M
      have ev : (((((List.range xs.length).map fun (i : Nat) => D.int i).zip xs).filter fun q => missAt ys q.1 q.2).map fun q => q.1).isEmpty = D.eqbs xs ys := by
        rw [List.isEmpty_map, filter_nil, eqbs_all hl]
        have := enum_all xs ys 0 (by omega)
        rw [← List.range_eq_range', List.drop_zero] at this
        rw [← this]
      rw [ev] at en
      generalize ((((List.range xs.length).map fun (i : Nat) => D.int i).zip xs).filter fun q => missAt ys q.1 q.2).map (fun q => q.1) = zs at lc en
      simp [lc, en]
    cases d with
    | ref i => simp [D.fit] at fd
    | nms _ => simp [D.fit] at fd
    | tup xs =>
      cases e with
      | tup ys =>
        rcases seq xs ys (.inl ⟨rfl, rfl⟩) with h | h
        · by_cases hl : xs.length = ys.length
          · simp only [w_eB, w_eLst, w_aL0, Res.bind_ok] at h
            simp [kd, ke, kindOf, lenD, hl, h, D.eqb]
          · have : ¬ (xs.length : Int) = ys.length := by omega
            simp [kd, ke, kindOf, lenD, this, D.eqb, eqbs_len hl]
        · have : ¬ (xs.length : Int) = ys.length := by omega
          simp [kd, ke, kindOf, lenD, this, D.eqb, eqbs_len h]
      | ref i => simp [D.fit] at fe
      | nms _ => simp [D.fit] at fe
      | _ => simp [kd, ke, kindOf, D.eqb]
    | lst xs =>
      cases e with
      | lst ys =>
        rcases seq xs ys (.inr ⟨rfl, rfl⟩) with h | h
        · by_cases hl : xs.length = ys.length
          · simp only [w_eB, w_eLst, w_aL0, Res.bind_ok] at h
            simp [kd, ke, kindOf, lenD, hl, h, D.eqb]
          · have : ¬ (xs.length : Int) = ys.length := by omega
            simp [kd, ke, kindOf, lenD, this, D.eqb, eqbs_len hl]
        · have : ¬ (xs.length : Int) = ys.length := by omega
          simp [kd, ke, kindOf, lenD, this, D.eqb, eqbs_len h]
      | ref i => simp [D.fit] at fe
      | nms _ => simp [D.fit] at fe
      | _ => simp [kd, ke, kindOf, D.eqb]
    | str x =>
      cases e with
      | ref i => simp [D.fit] at fe
      | nms _ => simp [D.fit] at fe
      | str y =>
        have e1 : (x == y) = decide (x = y) := by rw [Bool.eq_iff_iff, beq_iff_eq, decide_eq_true_iff]
        simp [kd, ke, kindOf, eqD, cmpOk, D.pure, D.depth, D.beq, D.eqb, e1]
      | _ => simp [kd, ke, kindOf, D.eqb]
    | non =>
      cases e with
      | ref i => simp [D.fit] at fe
      | nms _ => simp [D.fit] at fe
      | non => simp [kd, ke, kindOf, eqD, cmpOk, D.pure, D.depth, D.beq, D.eqb]
      | _ => simp [kd, ke, kindOf, D.eqb]
    | bl b =>
      cases e with
      | ref i => simp [D.fit] at fe
      | nms _ => simp [D.fit] at fe
      | bl c => simp [kd, ke, kindOf, D.eqb]
      | _ => simp [kd, ke, kindOf, D.eqb]
    | int i =>
      cases e with
      | ref i => simp [D.fit] at fe
      | nms _ => simp [D.fit] at fe
      | int j => simp [kd, ke, kindOf, D.eqb]
      | _ => simp [kd, ke, kindOf, D.eqb]
end Mk
end

section
set_option maxHeartbeats 4000000
/-! Pl5: drawing. -/
open PySem PySem.Spec PyProof.Rows L2
namespace Mk
/-- a source of numbers stands at place i, its count at most b -/
def SrcAt (M : Mem) (i : Nat) (b : Int) : Prop := ∃ c0 c1 c2 : Int, M[i]? = some (.lst [.int c0, .int c1, .int c2]) ∧ 0 ≤ c0 ∧ 0 ≤ c1 ∧ c1 < 2147483579 ∧ 0 ≤ c2 ∧ c2 ≤ b
theorem SrcAt.mono {M : Mem} {i : Nat} {b b' : Int} (h : SrcAt M i b) (hb : b ≤ b') : SrcAt M i b' := by
  obtain ⟨c0, c1, c2, e, h0, h1, h2, h3, h4⟩ := h
  exact ⟨c0, c1, c2, e, h0, h1, h2, h3, Int.le_trans h4 hb⟩
/-- all but the object at i stands -/
def But (i : Nat) (M M' : Mem) : Prop := M'.length = M.length ∧ ∀ j, j ≠ i → M'[j]? = M[j]?
theorem But.refl (i : Nat) (M : Mem) : But i M M := ⟨rfl, fun _ _ => rfl⟩
theorem But.trans {i : Nat} {M M1 M2 : Mem} (a : But i M M1) (b : But i M1 M2) : But i M M2 := ⟨b.1.trans a.1, fun j h => (b.2 j h).trans (a.2 j h)⟩
theorem But.set (i : Nat) (M : Mem) (o : O) : But i M (M.set i o) := ⟨by simp, fun j h => List.getElem?_set_ne (Ne.symm h)⟩
@[simp] theorem w_sSt (o i v : Ev) (ρ : Sl) (M : Mem) : sSt o i v ρ M = ofR (v ρ M) ρ fun d M1 => ofR (o ρ M1) ρ fun od M2 => ofR (i ρ M2) ρ fun id M3 => match od, id with
  | .ref k, .int z => match M3[k]? with
    | some (.lst xs) => match ixN xs.length z with
      | some j => .nx ρ (M3.set k (.lst (xs.set j d)))
      | none => .err
    | _ => .err
  | _, _ => .err := rfl
theorem ix_ref {M : Mem} {i : Nat} {xs : List D} (h : M[i]? = some (.lst xs)) (z : Int) : ixD (.ref i) (.int z) M = L2.atI xs z := by
  simp [ixD, deref, h]
theorem at3_0 (a b c : D) : L2.atI [a, b, c] 0 = some a := show L2.atI _ ((0 : Nat) : Int) = _ from atI_nat rfl
theorem at3_1 (a b c : D) : L2.atI [a, b, c] 1 = some b := show L2.atI _ ((1 : Nat) : Int) = _ from atI_nat rfl
theorem at3_2 (a b c : D) : L2.atI [a, b, c] 2 = some c := show L2.atI _ ((2 : Nat) : Int) = _ from atI_nat rfl
theorem ixN3_0 : ixN 3 0 = some 0 := by decide
theorem ixN3_2 : ixN 3 2 = some 2 := by decide
theorem pow_ok (n : Int) (k : Nat) (hk : (k : Int) ≤ 1000) (h0 : 0 ≤ n) (h1 : n < 2 ^ 60) (M : Mem) : powD (.int n) (.int (k : Nat)) M = some (.int (n ^ k)) := by
  have e : n.natAbs < 2 ^ 64 := by omega
  have e0 : (0 : Int) ≤ (k : Nat) := by omega
  simp only [powD]
  rw [if_pos ⟨e0, hk, e⟩, Int.toNat_natCast]
theorem mul_ok (i j : Int) (h0 : 0 ≤ i) (h1 : i < 2 ^ 60) (M : Mem) : mulD (.int i) (.int j) M = some (.int (i * j)) := by
  simp only [mulD]
  rw [if_pos (.inl ⟨by omega, by omega⟩)]
theorem mod_ok (i j : Int) (h : 0 < j) (M : Mem) : modD (.int i) (.int j) M = some (.int (i % j)) := by
  simp only [modD]
  rw [if_pos h]
theorem div_ok (i j : Int) (h : 0 < j) (h2 : j < 2 ^ 62) (M : Mem) : divD (.int i) (.int j) M = some (.int (i / j)) := by
  simp only [divD]
  rw [if_pos ⟨h, h2⟩]
theorem draw_ok (M : Mem) (i : Nat) (b size : Int) (hs : SrcAt M i b) (hb : b ≤ 1000000000) (h0 : 0 < size) (h1 : size < 2 ^ 62) :
    ∃ r M', ev__law_draw [.ref i, .int size] M = .ok (.int r) M' ∧ 0 ≤ r ∧ r < size ∧ SrcAt M' i (b + 1) ∧ But i M M' := by
  obtain ⟨c0, c1, c2, e, p0, p1, p2, p3, p4⟩ := hs
  have hi : i < M.length := at_lt e
  by_cases hc : 1 < c0
  · refine ⟨c0 % size, M.set i (.lst [.int (c0 / size), .int c1, .int c2]), ?_, Int.emod_nonneg _ (by omega), Int.emod_lt_of_pos _ h0, ⟨c0 / size, c1, c2, by rw [List.getElem?_set_self hi], Int.ediv_nonneg p0 (by omega), p1, p2, p3, by omega⟩, But.set i M _⟩
    unfold ev__law_draw
    rw [w_fn]
    unfold b__law_draw
    simp [ix_ref e, at3_0, hc, mod_ok _ _ h0, div_ok _ _ h0 h1, e, ixN3_0]
  · have e2 : (M.set i (.lst [.int c0, .int c1, .int (c2 + 1)]))[i]? = some (.lst [.int c0, .int c1, .int (c2 + 1)]) := by rw [List.getElem?_set_self hi]
    obtain ⟨n, hn⟩ : ∃ n, n = (c1 + 15485867 * (c2 + 1)) ^ 5 % 2147483647 := ⟨_, rfl⟩
    have n0 : 0 ≤ n := by rw [hn]; exact Int.emod_nonneg _ (by omega)
    have n1 : n < 2147483647 := by rw [hn]; exact Int.emod_lt_of_pos _ (by omega)
    obtain ⟨d, hd⟩ : ∃ d, d = (n + 7919 * (c2 + 1)) ^ 3 % 2147483629 / 32 := ⟨_, rfl⟩
    refine ⟨d % size, M.set i (.lst [.int c0, .int c1, .int (c2 + 1)]), ?_, Int.emod_nonneg _ (by omega), Int.emod_lt_of_pos _ h0, ⟨c0, c1, c2 + 1, e2, p0, p1, p2, by omega, by omega⟩, But.set i M _⟩
    have w1 := pow_ok (c1 + 15485867 * (c2 + 1)) 5 (by omega) (by omega) (by omega)
    have w2 := pow_ok (n + 7919 * (c2 + 1)) 3 (by omega) (by omega) (by omega)
    have w1' : ∀ M : Mem, powD (.int (c1 + 15485867 * (c2 + 1))) (.int 5) M = some (.int ((c1 + 15485867 * (c2 + 1)) ^ 5)) := w1
    have w2' : ∀ M : Mem, powD (.int (n + 7919 * (c2 + 1))) (.int 3) M = some (.int ((n + 7919 * (c2 + 1)) ^ 3)) := w2
    have m1 := mul_ok 15485867 (c2 + 1) (by omega) (by omega)
    have m2 := mul_ok 7919 (c2 + 1) (by omega) (by omega)
    have q1 := mod_ok ((c1 + 15485867 * (c2 + 1)) ^ 5) 2147483647 (by omega)
    have q2 := mod_ok ((n + 7919 * (c2 + 1)) ^ 3) 2147483629 (by omega)
    have q3 := div_ok ((n + 7919 * (c2 + 1)) ^ 3 % 2147483629) 32 (by omega) (by omega)
    have q4 := mod_ok d size h0
    unfold ev__law_draw
    rw [w_fn]
    unfold b__law_draw
    simp only [← hn] at q1
    simp only [← hd] at q3
    have hc' : decide (1 < c0) = false := decide_eq_false hc
    simp [ix_ref e, at3_0, at3_1, at3_2, hc', e, ixN3_2, ix_ref e2, w1', w2', m1, m2, q1, q2, q3, q4]
theorem choice_ok (M : Mem) (i : Nat) (b : Int) (xs : List D) (hs : SrcAt M i b) (hb : b ≤ 1000000000) (h0 : xs ≠ []) (h1 : xs.length ≤ 1000) (d : D) (hd : d = .lst xs ∨ d = .tup xs) :
    ∃ r M', ev__law_choice [.ref i, d] M = .ok r M' ∧ r ∈ xs ∧ SrcAt M' i (b + 1) ∧ But i M M' := by
  have hl : 0 < (xs.length : Int) := by
    have := List.length_pos_iff.mpr h0
    omega
  obtain ⟨r, M', e, r0, r1, s, k⟩ := draw_ok M i b xs.length hs hb hl (by omega)
  have hr : r.toNat < xs.length := by omega
  refine ⟨xs[r.toNat], M', ?_, List.getElem_mem hr, s, k⟩
  unfold ev__law_choice
  rw [w_fn]
  unfold b__law_choice
  have ix : ixD d (.int r) M' = some xs[r.toNat] := by
    have : L2.atI xs r = some xs[r.toNat] := by
      have z := atI_nat (xs := xs) (List.getElem?_eq_getElem hr)
      rwa [show ((r.toNat : Nat) : Int) = r by omega] at z
    rcases hd with rfl | rfl <;> exact this
  have ln : lenD [d] M = some (.int xs.length) := by rcases hd with rfl | rfl <;> rfl
  simp [ln, e, ix]
end Mk
end

section
set_option maxHeartbeats 4000000
/-! Pl6: spoilt values. -/
open PySem PySem.Spec PyProof.Rows L2
namespace Mk
mutual
/-- not too wide, no number too great -/
def D.sane (w : Nat) : D → Bool
  | .int i => decide (i.natAbs ≤ 10 ^ 40 + w)
  | .str x => decide (x.length ≤ 100)
  | .tup xs => decide (xs.length ≤ w) && D.sanes w xs
  | .lst xs => decide (xs.length ≤ w) && D.sanes w xs
  | .ref _ => false
  | .nms _ => false
  | _ => true
def D.sanes (w : Nat) : List D → Bool
  | [] => true
  | x :: xs => x.sane w && D.sanes w xs
end
theorem sanes_mem {w : Nat} : ∀ {xs : List D}, D.sanes w xs = true ↔ ∀ x ∈ xs, x.sane w = true
  | [] => by simp [D.sanes]
  | x :: xs => by simp only [D.sanes, Bool.and_eq_true, List.forall_mem_cons, sanes_mem (xs := xs)]
mutual
theorem sane_mono {w w' : Nat} (h : w ≤ w') : ∀ d : D, d.sane w = true → d.sane w' = true
  | .non, _ => by simp [D.sane]
  | .bl _, _ => by simp [D.sane]
  | .int i, k => by simp only [D.sane, decide_eq_true_eq] at *; omega
  | .str x, k => by simp only [D.sane, decide_eq_true_eq] at *; exact k
  | .tup xs, k => by
    simp only [D.sane, Bool.and_eq_true, decide_eq_true_eq] at *
    exact ⟨by omega, sanes_mono h xs k.2⟩
  | .lst xs, k => by
    simp only [D.sane, Bool.and_eq_true, decide_eq_true_eq] at *
    exact ⟨by omega, sanes_mono h xs k.2⟩
  | .ref _, k => by simp [D.sane] at k
  | .nms _, k => by simp [D.sane] at k
theorem sanes_mono {w w' : Nat} (h : w ≤ w') : ∀ ds : List D, D.sanes w ds = true → D.sanes w' ds = true
  | [], _ => by simp [D.sanes]
  | d :: ds, k => by
    simp only [D.sanes, Bool.and_eq_true] at *
    exact ⟨sane_mono h d k.1, sanes_mono h ds k.2⟩
end
mutual
theorem sane_fit {w : Nat} (h : w ≤ 1000) : ∀ d : D, d.sane w = true → d.fit = true
  | .non, _ => by simp
  | .bl _, _ => by simp
  | .int i, k => by simp
  | .str x, k => by simp only [D.sane, D.fit, decide_eq_true_eq] at *; omega
  | .tup xs, k => by
    simp only [D.sane, D.fit, Bool.and_eq_true, decide_eq_true_eq] at *
    exact ⟨by omega, sanes_fit h xs k.2⟩
  | .lst xs, k => by
    simp only [D.sane, D.fit, Bool.and_eq_true, decide_eq_true_eq] at *
    exact ⟨by omega, sanes_fit h xs k.2⟩
  | .ref _, k => by simp [D.sane] at k
  | .nms _, k => by simp [D.sane] at k
theorem sanes_fit {w : Nat} (h : w ≤ 1000) : ∀ ds : List D, D.sanes w ds = true → D.fits ds = true
  | [], _ => by simp [D.fits]
  | d :: ds, k => by
    simp only [D.sanes, D.fits, Bool.and_eq_true] at *
    exact ⟨sane_fit h d k.1, sanes_fit h ds k.2⟩
end
theorem signs_len (i : Int) (h : i.natAbs < 10 ^ 50) : (signs i).length ≤ 51 := by
  unfold signs
  rw [List.length_map]
  show (toString i).length ≤ 51
  cases i with
  | ofNat n =>
    have : (Nat.repr n).length ≤ 50 := (Nat.length_repr_le_iff (by omega)).mpr h
    show (Nat.repr n).length ≤ 51
    omega
  | negSucc n =>
    have : (Nat.repr (n + 1)).length ≤ 50 := (Nat.length_repr_le_iff (by omega)).mpr h
    show ("-" ++ Nat.repr (n + 1)).length ≤ 51
    rw [String.length_append]
    have e : "-".length = 1 := by decide
    omega
theorem cut_take {α : Type} (xs : List α) (k : Nat) (h : k ≤ xs.length) : cut xs none (some (k : Nat)) = xs.take k := by
  unfold cut
  rw [HT.sIx_none, HT.sIx_nat, List.drop_zero, Nat.sub_zero, Nat.min_eq_left h]
theorem cut_drop {α : Type} (xs : List α) (k : Nat) (h : k ≤ xs.length) : cut xs (some (k : Nat)) none = xs.drop k := by
  unfold cut
  rw [HT.sIx_none, HT.sIx_nat, Nat.min_eq_left h]
  exact List.take_of_length_le (by rw [List.length_drop]; exact Nat.le_refl _)
/-- the odd values -/
def odds : List D := [.non, .bl true, .bl false, .int 0, .int 1, .int (-1), .int 13, .int 1000000, .int 1000001, .int 1000000000000000000000000000000000000000, .str [], .str [97], .str [98, 98], .str tInt, .str tClear, .str [65], .str [97, 32, 98],
  .str [97, 98, 99, 100, 101, 102, 103, 104, 105], .tup [], .lst [], .tup [.str [97]], .lst [.int 1], .tup [.int 1, .str [97]], .tup [.tup []], .str tHold, .str tText, .tup [.tup [.str [102]]], .int 999, .int 1000]
theorem odds_sane : ∀ d ∈ odds, d.sane 2 = true ∧ d.depth ≤ 3 := by
  have : (odds.all fun d => d.sane 2 && decide (d.depth ≤ 3)) = true := by decide +kernel
  intro d hd
  have := List.all_eq_true.mp this d hd
  simpa using this
theorem odd_ok (M : Mem) (i : Nat) (b : Int) (hs : SrcAt M i b) (hb : b ≤ 1000000000) : ∃ r M', ev__law_odd [.ref i] M = .ok r M' ∧ r ∈ odds ∧ SrcAt M' i (b + 1) ∧ But i M M' := by
  obtain ⟨r, M', e, m, s, k⟩ := choice_ok M i b odds hs hb (by unfold odds; simp) (by unfold odds; simp) (.lst odds) (.inl rfl)
  refine ⟨r, M', ?_, m, s, k⟩
  unfold ev__law_odd
  rw [w_fn]
  unfold b__law_odd
  have p6 : ∀ M, powD (.int 10) (.int 6) M = some (.int (10 ^ 6)) := pow_ok 10 6 (by omega) (by omega) (by omega)
  have p39 : ∀ M, powD (.int 10) (.int 39) M = some (.int (10 ^ 39)) := pow_ok 10 39 (by omega) (by omega) (by omega)
  unfold odds at e
  simp only [tInt, tClear, tHold, tText] at e
  have h29 : 29 ≤ lim := le_lim (by omega)
  simp [p6, p39, negD, addD, h29, e]
theorem sane_tup {w : Nat} {xs : List D} : D.sane w (.tup xs) = true ↔ xs.length ≤ w ∧ ∀ x ∈ xs, x.sane w = true := by
  simp only [D.sane, Bool.and_eq_true, decide_eq_true_eq, sanes_mem]
theorem sane_lst {w : Nat} {xs : List D} : D.sane w (.lst xs) = true ↔ xs.length ≤ w ∧ ∀ x ∈ xs, x.sane w = true := by
  simp only [D.sane, Bool.and_eq_true, decide_eq_true_eq, sanes_mem]
theorem depth_tup {xs : List D} {n : Nat} : D.depth (.tup xs) ≤ n + 1 ↔ ∀ x ∈ xs, x.depth ≤ n := by
  simp only [D.depth]
  rw [← depths_le]
  omega
theorem depth_lst {xs : List D} {n : Nat} : D.depth (.lst xs) ≤ n + 1 ↔ ∀ x ∈ xs, x.depth ≤ n := by
  simp only [D.depth]
  rw [← depths_le]
  omega
/-- a leaf is spoilt -/
noncomputable abbrev leafS : EvS := sCons (sIf (tAnd (eT (eB eqD (eCall ev__law_draw [eV 0, eC (.int 3)]) (eC (.int 0)))) (eT (eU (isiD "int") (eV 1)))) (sRet (eCall ev__law_choice [eV 0, eLst [eB addD (eV 1) (eC (.int 1)), eB subD (eC (.int 0)) (eV 1), eB eqD (eV 1) (eC (.int 1)), eN strD [eV 1]]])) sNil) (sRet (eCall ev__law_odd [eV 0]))
theorem leaf_ok (M : Mem) (i : Nat) (b : Int) (v : D) (w : Nat) (c e : Option D) (hs : SrcAt M i b) (hb : b + 2 ≤ 1000000000) (hv : v.sane w = true) (hw : 2 ≤ w) (hw2 : w ≤ 900) :
    ∃ r M', fnR (leafS [some (.ref i), some v, c, e] M) = .ok r M' ∧ r.sane (w + 1) = true ∧ r.depth ≤ 3 ∧ SrcAt M' i (b + 2) ∧ But i M M' := by
  obtain ⟨x, M1, e1, x0, x1, s1, k1⟩ := draw_ok M i b 3 hs (by omega) (by omega) (by omega)
  have fv := sane_fit (by omega) v hv
  obtain ⟨r2, M2, e2, m2, s2, k2⟩ := odd_ok M1 i (b + 1) s1 (by omega)
  have go2 : ∃ r M', Res.ok r2 M2 = .ok r M' ∧ r.sane (w + 1) = true ∧ r.depth ≤ 3 ∧ SrcAt M' i (b + 2) ∧ But i M M' := by
    obtain ⟨o1, o2⟩ := odds_sane r2 m2
    exact ⟨r2, M2, rfl, sane_mono (by omega) r2 o1, o2, s2.mono (by omega), k1.trans k2⟩
  cases hx : decide (x = 0) with
  | false =>
    have : fnR (leafS [some (.ref i), some v, c, e] M) = .ok r2 M2 := by simp [e1, hx, e2, fv]
    rw [this]
    exact go2
  | true =>
    by_cases hi : (isInt v || isBl v) = true
    case neg =>
      have hi' : (isInt v || isBl v) = false := by simpa using hi
      have : fnR (leafS [some (.ref i), some v, c, e] M) = .ok r2 M2 := by
        simp only [leafS, w_sCons, w_sIf, w_tAnd, w_eT, w_eB, w_eCall, w_aL1, w_aL0, w_eV, w_eC, List.getElem?_cons_zero, List.getElem?_cons_succ, Res.bind_ok, e1, eq_int, out_some, w_asT, hx, ifK_true, w_eU, isi_int fv, hi', ifK_false, ofR_ok, w_sNil, SR.then_nx, w_sRet, e2, fnR_rt]
      rw [this]
      exact go2
    case pos =>
      cases v with
      | int n =>
        simp only [D.sane, decide_eq_true_eq] at hv
        have hstr : ∀ M, strD [.int n] M = some (.str (signs n)) := fun M => by
          have : n.natAbs < 10 ^ 100 := by omega
          simp only [strD]
          rw [if_pos this]
        obtain ⟨r3, M3, e3, m3, s3, k3⟩ := choice_ok M1 i (b + 1) [.int (n + 1), .int (0 - n), .bl (decide (n = 1)), .str (signs n)] s1 (by omega) (by simp) (by simp) _ (.inl rfl)
        have : fnR (leafS [some (.ref i), some (.int n), c, e] M) = .ok r3 M3 := by
          simp only [leafS, w_sCons, w_sIf, w_tAnd, w_eT, w_eB, w_eCall, w_aL1, w_aL0, w_eV, w_eC, List.getElem?_cons_zero, List.getElem?_cons_succ, Res.bind_ok, e1, eq_int, out_some, w_asT, hx, ifK_true, w_eU, isi_int fv, hi, ofR_ok, w_sRet, SR.then_rt, w_eLst, add_int, sub_int, w_eN, hstr, e3, fnR_rt]
        rw [this]
        refine ⟨r3, M3, rfl, ?_, ?_, s3.mono (by omega), k1.trans k3⟩
        · simp only [List.mem_cons, List.not_mem_nil, or_false] at m3
          rcases m3 with rfl | rfl | rfl | rfl
          · simp only [D.sane, decide_eq_true_eq]; omega
          · simp only [D.sane, decide_eq_true_eq]; omega
          · simp [D.sane]
          · have := signs_len n (by omega)
            simp only [D.sane, decide_eq_true_eq]; omega
        · simp only [List.mem_cons, List.not_mem_nil, or_false] at m3
          rcases m3 with rfl | rfl | rfl | rfl <;> simp [D.depth]
      | bl q =>
        obtain ⟨r3, M3, e3, m3, s3, k3⟩ := choice_ok M1 i (b + 1) [.int (b2i q + 1), .int (0 - b2i q), .bl (b2i q == 1), .str (if q = true then [84, 114, 117, 101] else [70, 97, 108, 115, 101])] s1 (by omega) (by simp) (by simp) _ (.inl rfl)
        have a1 : ∀ M, addD (.bl q) (.int 1) M = some (.int (b2i q + 1)) := fun _ => rfl
        have a2 : ∀ M, subD (.int 0) (.bl q) M = some (.int (0 - b2i q)) := fun _ => rfl
        have a3 : ∀ M, eqD (.bl q) (.int 1) M = some (.bl (b2i q == 1)) := fun M => by cases q <;> simp [eqD, cmpOk, D.pure, D.depth, D.beq, b2i]
        have a4 : ∀ M, strD [.bl q] M = some (.str (if q = true then [84, 114, 117, 101] else [70, 97, 108, 115, 101])) := fun _ => rfl
        have : fnR (leafS [some (.ref i), some (.bl q), c, e] M) = .ok r3 M3 := by
          simp only [leafS, w_sCons, w_sIf, w_tAnd, w_eT, w_eB, w_eCall, w_aL1, w_aL0, w_eV, w_eC, List.getElem?_cons_zero, List.getElem?_cons_succ, Res.bind_ok, e1, eq_int, out_some, w_asT, hx, ifK_true, w_eU, isi_int fv, hi, ofR_ok, w_sRet, SR.then_rt, w_eLst, a1, a2, a3, a4, w_eN, e3, fnR_rt]
        rw [this]
        refine ⟨r3, M3, rfl, ?_, ?_, s3.mono (by omega), k1.trans k3⟩
        · simp only [List.mem_cons, List.not_mem_nil, or_false] at m3
          rcases m3 with rfl | rfl | rfl | rfl <;> cases q <;> simp [D.sane, b2i] <;> omega
        · simp only [List.mem_cons, List.not_mem_nil, or_false] at m3
          rcases m3 with rfl | rfl | rfl | rfl <;> simp [D.depth]
      | _ => simp [isInt, isBl] at hi
theorem ne_empty {xs : List D} (h : D.pures xs = true) (M : Mem) : neD (.tup xs) (.tup []) M = some (.bl (!xs.isEmpty)) := by
  cases xs with
  | nil => simp [neD, cmpOk, D.pure, D.pures, D.depth, D.depths, D.beq, D.beqs]
  | cons x xs =>
    have e : (min (D.depth (.tup (x :: xs))) (D.depth (.tup []))) ≤ 100 := by
      have : D.depth (.tup []) = 1 := by simp [D.depth, D.depths]
      omega
    have p : D.pure (.tup (x :: xs)) = true := by unfold D.pure; exact h
    have p0 : D.pure (.tup []) = true := rfl
    simp only [neD, d_tup, cmpOk, p, p0, e, Bool.and_self, decide_true, if_true, D.beq, D.beqs, List.isEmpty_cons]
theorem add_tup {xs ys : List D} (h : xs.length + ys.length ≤ 1000) (M : Mem) : addD (.tup xs) (.tup ys) M = some (.tup (xs ++ ys)) := by
  simp only [addD]
  rw [if_pos (le_lim h)]
/-- a tuple is spoilt, by the way that was drawn -/
noncomputable abbrev waysS (e : Fv) : EvS := sCons (sIf (eT (eB eqD (eV 3) (eC (.int 0)))) (sRet (eB addD (eSl (eV 1) pNo (pSo (eV 2))) (eSl (eV 1) (pSo (eB addD (eV 2) (eC (.int 1)))) pNo))) sNil)
              (sCons (sIf (eT (eB eqD (eV 3) (eC (.int 1)))) (sRet (eB addD (eB addD (eSl (eV 1) pNo (pSo (eV 2))) (eTup [eB ixD (eV 1) (eV 2)])) (eSl (eV 1) (pSo (eV 2)) pNo))) sNil)
              (sCons (sIf (eT (eB eqD (eV 3) (eC (.int 2)))) (sRet (eB addD (eU revD (eSl (eV 1) pNo (pSo (eV 2)))) (eSl (eV 1) (pSo (eV 2)) pNo))) sNil)
              (sCons (sIf (eT (eB eqD (eV 3) (eC (.int 3)))) (sRet (eN lstD [eV 1])) sNil)
              (sRet (eB addD (eB addD (eSl (eV 1) pNo (pSo (eV 2))) (eTup [eCall e [eV 0, eB ixD (eV 1) (eV 2)]])) (eSl (eV 1) (pSo (eB addD (eV 2) (eC (.int 1)))) pNo))))))
theorem spoilt_ok : ∀ (n : Nat) (M : Mem) (i : Nat) (b : Int) (v : D) (w : Nat), SrcAt M i b → b + 4 * n ≤ 1000000000 → v.sane w = true → 2 ≤ w → w ≤ 400 → v.depth < n →
    ∃ r M', ev__law_spoilt n [.ref i, v] M = .ok r M' ∧ r.sane (w + 1) = true ∧ r.depth ≤ v.depth + 3 ∧ SrcAt M' i (b + 4 * n) ∧ But i M M'
  | 0, _, _, _, _, _, _, _, _, _, _, h => absurd h (Nat.not_lt_zero _)
  | n + 1, M, i, b, v, w, hs, hb, hv, hw, hw2, hn => by
    have fv := sane_fit (by omega) v hv
    have toLeaf : ∀ (M1 : Mem) (b1 : Int) (k1 : But i M M1) (s1 : SrcAt M1 i b1) (hb1 : b1 + 2 ≤ b + 4 * ((n + 1 : Nat) : Int)) (he : ev__law_spoilt (n + 1) [.ref i, v] M = fnR (leafS [some (.ref i), some v, none, none] M1)),
        ∃ r M', ev__law_spoilt (n + 1) [.ref i, v] M = .ok r M' ∧ r.sane (w + 1) = true ∧ r.depth ≤ v.depth + 3 ∧ SrcAt M' i (b + 4 * ((n + 1 : Nat) : Int)) ∧ But i M M' := by
      intro M1 b1 k1 s1 hb1 he
      obtain ⟨r, M', e, h1, h2, h3, h4⟩ := leaf_ok M1 i b1 v w none none s1 (by omega) hv hw (by omega)
      exact ⟨r, M', he.trans e, h1, by omega, h3.mono (by omega), k1.trans h4⟩
    cases v with
    | ref j => simp [D.sane] at hv
    | nms _ => simp [D.sane] at hv
    | tup xs =>
      obtain ⟨lx, mx⟩ := sane_tup.mp hv
      have px : D.pures xs = true := pures_mem'.mpr fun x hx => fit_pure x (sane_fit (by omega) x (mx x hx))
      cases xs with
      | nil =>
        refine toLeaf M b (But.refl i M) hs (by omega) ?_
        unfold ev__law_spoilt
        rw [w_fn]
        unfold b__law_spoilt
        simp only [w_sCons, w_sIf, w_tAnd, w_eT, w_eU, w_eV, List.length_cons, List.length_nil, List.map_cons, List.map_nil, List.cons_append, List.nil_append, List.replicate, List.getElem?_cons_zero, List.getElem?_cons_succ, Res.bind_ok, isi_tuple fv, out_some, w_asT, isTup0, ifK_true, w_eB, w_eTup, w_aL0, ne_empty px, List.isEmpty_nil, Bool.not_true, ifK_false, ofR_ok, w_sNil, SR.then_nx]
      | cons x0 xr =>
        obtain ⟨r0, M1, e1, r00, r01, s1, k1⟩ := draw_ok M i b 5 hs (by omega) (by omega) (by omega)
        cases h0 : decide (0 < r0) with
        | false =>
          refine toLeaf M1 (b + 1) k1 s1 (by omega) ?_
          unfold ev__law_spoilt
          rw [w_fn]
          unfold b__law_spoilt
          simp only [w_sCons, w_sIf, w_tAnd, w_eT, w_eU, w_eV, List.length_cons, List.length_nil, List.map_cons, List.map_nil, List.cons_append, List.nil_append, List.replicate, List.getElem?_cons_zero, List.getElem?_cons_succ, Res.bind_ok, isi_tuple fv, out_some, w_asT, isTup0, ifK_true, w_eB, w_eTup, w_aL0, w_aL1, w_eC, w_eCall, ne_empty px, List.isEmpty_cons, Bool.not_false, e1, gt_int, h0, ifK_false, ofR_ok, w_sNil, SR.then_nx]
        | true =>
          obtain ⟨at_, M2, e2, a0, a1, s2, k2⟩ := draw_ok M1 i (b + 1) ((x0 :: xr).length : Nat) s1 (by omega) (by rw [List.length_cons]; omega) (by omega)
          obtain ⟨way, M3, e3, w0, w1, s3, k3⟩ := draw_ok M2 i (b + 1 + 1) 12 s2 (by omega) (by omega) (by omega)
          have k03 := (k1.trans k2).trans k3
          obtain ⟨k, rfl⟩ : ∃ k : Nat, at_ = (k : Nat) := ⟨at_.toNat, by omega⟩
          generalize hxs : x0 :: xr = xs at *
          have hk : k < xs.length := by omega
          have ix : ∀ M, ixD (.tup xs) (.int (k : Nat)) M = some xs[k] := fun M => show L2.atI xs _ = _ from atI_nat (List.getElem?_eq_getElem hk)
          have c1 : ∀ M, cutD (.tup xs) none (some (k : Nat)) M = some (.tup (xs.take k)) := fun M => by simp only [cutD, d_tup]; rw [cut_take xs k (by omega)]
          have c2 : ∀ M, cutD (.tup xs) (some (k : Nat)) none M = some (.tup (xs.drop k)) := fun M => by simp only [cutD, d_tup]; rw [cut_drop xs k (by omega)]
          have c3 : ∀ M, cutD (.tup xs) (some ((k : Nat) + 1)) none M = some (.tup (xs.drop (k + 1))) := fun M => by
            have : ((k : Nat) : Int) + 1 = ((k + 1 : Nat) : Int) := by omega
            simp only [cutD, d_tup]
            rw [this, cut_drop xs (k + 1) (by omega)]
          have dx : ∀ y ∈ xs, y.depth + 1 ≤ D.depth (.tup xs) := fun y hy => by
            have := depths_mem (n := D.depths xs) (Nat.le_refl _) y hy
            simp only [D.depth]
            omega
          have give : ∀ ys : List D, ys.length ≤ w + 1 → (∀ y ∈ ys, y ∈ xs) → D.sane (w + 1) (.tup ys) = true ∧ D.depth (.tup ys) ≤ D.depth (.tup xs) + 3 := fun ys hl hm =>
            ⟨sane_tup.mpr ⟨hl, fun y hy => sane_mono (by omega) y (mx y (hm y hy))⟩, by
              have : D.depth (.tup ys) ≤ D.depths xs + 1 := depth_tup.mpr fun y hy => depths_mem (Nat.le_refl _) y (hm y hy)
              simp only [D.depth] at this ⊢
              omega⟩
          have ht : ∀ y ∈ xs.take k, y ∈ xs := fun y hy => List.mem_of_mem_take hy
          have hd : ∀ j, ∀ y ∈ xs.drop j, y ∈ xs := fun j y hy => List.mem_of_mem_drop hy
          have l1 : (xs.take k).length = k := by rw [List.length_take]; omega
          have l2 : (xs.drop k).length = xs.length - k := List.length_drop
          have l3 : (xs.drop (k + 1)).length = xs.length - (k + 1) := List.length_drop
          have b3 : b + 1 + 1 + 1 ≤ b + 4 * ((n + 1 : Nat) : Int) := by omega
          -- what the walk comes to, by the way
          have go : ∀ (R : Res D), (way = 0 → R = .ok (.tup (xs.take k ++ xs.drop (k + 1))) M3) → (way = 1 → R = .ok (.tup (xs.take k ++ [xs[k]] ++ xs.drop k)) M3) → (way = 2 → R = .ok (.tup ((xs.take k).reverse ++ xs.drop k)) M3) → (way = 3 → R = .ok (.lst xs) M3) →
              (3 < way → R = (ev__law_spoilt n [.ref i, xs[k]] M3).bind fun e M4 => .ok (.tup (xs.take k ++ [e] ++ xs.drop (k + 1))) M4) →
              ∃ r M', R = .ok r M' ∧ r.sane (w + 1) = true ∧ r.depth ≤ D.depth (.tup xs) + 3 ∧ SrcAt M' i (b + 4 * ((n + 1 : Nat) : Int)) ∧ But i M M' := by
            intro R g0 g1 g2 g3 g4
            rcases (by omega : 3 < way ∨ way ≤ 3) with z | z
            · obtain ⟨r, M4, e4, p1, p2, p3, p4⟩ := spoilt_ok n M3 i (b + 1 + 1 + 1) xs[k] w s3 (by omega) (mx _ (List.getElem_mem hk)) hw hw2 (by have := dx _ (List.getElem_mem hk); omega)
              refine ⟨_, M4, (g4 z).trans (by rw [e4]; rfl), sane_tup.mpr ⟨by simp only [List.length_append, List.length_cons, List.length_nil, l1, l3]; omega, fun y hy => ?_⟩, ?_, p3.mono (by omega), k03.trans p4⟩
              · rcases List.mem_append.mp hy with z | z
                · rcases List.mem_append.mp z with z | z
                  · exact sane_mono (by omega) y (mx y (ht y z))
                  · rw [List.mem_singleton.mp z]; exact p1
                · exact sane_mono (by omega) y (mx y (hd _ y z))
              · have q := dx _ (List.getElem_mem hk)
                have : D.depth (.tup (xs.take k ++ [r] ++ xs.drop (k + 1))) ≤ (D.depths xs + 3) + 1 := depth_tup.mpr fun y hy => by
                  have q2 : D.depth (.tup xs) = D.depths xs + 1 := by simp only [D.depth]
                  rcases List.mem_append.mp hy with z | z
                  · rcases List.mem_append.mp z with z | z
                    · exact Nat.le_trans (depths_mem (Nat.le_refl _) y (ht y z)) (by omega)
                    · rw [List.mem_singleton.mp z]; omega
                  · exact Nat.le_trans (depths_mem (Nat.le_refl _) y (hd _ y z)) (by omega)
                simp only [D.depth] at this ⊢
                omega
            · have : way = 0 ∨ way = 1 ∨ way = 2 ∨ way = 3 := by omega
              rcases this with e | e | e | e
              · obtain ⟨q1, q2⟩ := give (xs.take k ++ xs.drop (k + 1)) (by simp only [List.length_append, l1, l3]; omega) fun y hy => (List.mem_append.mp hy).elim (ht y) (hd _ y)
                exact ⟨_, M3, g0 e, q1, q2, s3.mono b3, k03⟩
              · obtain ⟨q1, q2⟩ := give (xs.take k ++ [xs[k]] ++ xs.drop k) (by simp only [List.length_append, List.length_cons, List.length_nil, l1, l2]; omega) fun y hy => (List.mem_append.mp hy).elim (fun z => (List.mem_append.mp z).elim (ht y) fun z => by rw [List.mem_singleton.mp z]; exact List.getElem_mem hk) (hd _ y)
                exact ⟨_, M3, g1 e, q1, q2, s3.mono b3, k03⟩
              · obtain ⟨q1, q2⟩ := give ((xs.take k).reverse ++ xs.drop k) (by simp only [List.length_append, List.length_reverse, l1, l2]; omega) fun y hy => (List.mem_append.mp hy).elim (fun z => ht y (List.mem_reverse.mp z)) (hd _ y)
                exact ⟨_, M3, g2 e, q1, q2, s3.mono b3, k03⟩
              · refine ⟨_, M3, g3 e, sane_lst.mpr ⟨by omega, fun y hy => sane_mono (by omega) y (mx y hy)⟩, ?_, s3.mono b3, k03⟩
                simp only [D.depth]
                omega
          have hne : xs.isEmpty = false := by rw [← hxs]; rfl
          have ln : ∀ M, lenD [.tup xs] M = some (.int (xs.length : Nat)) := fun _ => rfl
          have ne := ne_empty px
          rw [hne] at ne
          have rv : ∀ M, revD (.tup (xs.take k)) M = some (.tup (xs.take k).reverse) := fun _ => rfl
          have ls : ∀ M, lstD [.tup xs] M = some (.lst xs) := fun _ => rfl
          have p0 : ∀ M, addD (.tup (xs.take k)) (.tup (xs.drop (k + 1))) M = some (.tup (xs.take k ++ xs.drop (k + 1))) := add_tup (by rw [l1, l3]; omega)
          have p1 : ∀ (e : D) (M : Mem), addD (.tup (xs.take k)) (.tup [e]) M = some (.tup (xs.take k ++ [e])) := fun e => add_tup (by rw [l1]; simp; omega)
          have p2 : ∀ (e : D) (M : Mem), addD (.tup (xs.take k ++ [e])) (.tup (xs.drop k)) M = some (.tup (xs.take k ++ [e] ++ xs.drop k)) := fun e => add_tup (by rw [List.length_append, l1, l2]; simp; omega)
          have p3 : ∀ (e : D) (M : Mem), addD (.tup (xs.take k ++ [e])) (.tup (xs.drop (k + 1))) M = some (.tup (xs.take k ++ [e] ++ xs.drop (k + 1))) := fun e => add_tup (by rw [List.length_append, l1, l3]; simp; omega)
          have p4 : ∀ M, addD (.tup (xs.take k).reverse) (.tup (xs.drop k)) M = some (.tup ((xs.take k).reverse ++ xs.drop k)) := add_tup (by rw [List.length_reverse, l1, l2]; omega)
          have start : ∀ (S : EvS), fnR ((sCons (sIf (tAnd (eT (eU (isiD "tuple") (eV 1))) (tAnd (eT (eB neD (eV 1) (eTup []))) (eT (eB gtD (eCall ev__law_draw [eV 0, eC (.int 5)]) (eC (.int 0)))))) (sCons (sLet 2 (eCall ev__law_draw [eV 0, eN lenD [eV 1]])) (sCons (sLet 3 (eCall ev__law_draw [eV 0, eC (.int 12)])) S)) sNil) leafS)
              [some (.ref i), some (.tup xs), none, none] M) = fnR ((S [some (.ref i), some (.tup xs), some (.int (k : Nat)), some (.int way)] M3).then leafS) := by
            intro S
            simp only [w_sCons, w_sIf, w_tAnd, w_eT, w_eU, w_eV, List.getElem?_cons_zero, List.getElem?_cons_succ, Res.bind_ok, isi_tuple fv, out_some, w_asT, isTup0, ifK_true, w_eB, w_eTup, w_aL0, w_aL1, w_eC, w_eCall, ne, Bool.not_false, e1, gt_int, h0, ofR_ok, w_sLet, w_eN, ln, e2, e3, List.set_cons_zero, List.set_cons_succ, SR.then_nx]
          have body : ev__law_spoilt (n + 1) [.ref i, .tup xs] M = fnR ((waysS (ev__law_spoilt n) [some (.ref i), some (.tup xs), some (.int (k : Nat)), some (.int way)] M3).then leafS) := start (waysS (ev__law_spoilt n))
          rw [body]
          refine go _ ?_ ?_ ?_ ?_ ?_
          · rintro rfl
            simp only [w_sCons, w_sIf, w_eT, w_eB, w_eV, w_eC, List.getElem?_cons_zero, List.getElem?_cons_succ, Res.bind_ok, eq_int, out_some, w_asT, decide_true, ifK_true, ofR_ok, w_sRet, w_eSl, w_pNo, w_pSo, c1, c3, add_int, p0, SR.then_rt, fnR_rt]
          · rintro rfl
            simp only [w_sCons, w_sIf, w_eT, w_eB, w_eV, w_eC, List.getElem?_cons_zero, List.getElem?_cons_succ, Res.bind_ok, eq_int, out_some, w_asT, decide_true, ifK_true, ifK_false, ofR_ok, w_sRet, w_eSl, w_pNo, w_pSo, c1, c2, ix, w_eTup, w_aL1, w_aL0, p1, p2, w_sNil, SR.then_rt, SR.then_nx, fnR_rt, show decide ((1 : Int) = 0) = false from rfl]
          · rintro rfl
            simp only [w_sCons, w_sIf, w_eT, w_eB, w_eU, w_eV, w_eC, List.getElem?_cons_zero, List.getElem?_cons_succ, Res.bind_ok, eq_int, out_some, w_asT, decide_true, ifK_true, ifK_false, ofR_ok, w_sRet, w_eSl, w_pNo, w_pSo, c1, c2, rv, p4, w_sNil, SR.then_rt, SR.then_nx, fnR_rt, show decide ((2 : Int) = 0) = false from rfl, show decide ((2 : Int) = 1) = false from rfl]
          · rintro rfl
            simp only [w_sCons, w_sIf, w_eT, w_eB, w_eN, w_eV, w_eC, List.getElem?_cons_zero, List.getElem?_cons_succ, Res.bind_ok, eq_int, out_some, w_asT, decide_true, ifK_true, ifK_false, ofR_ok, w_sRet, w_aL1, w_aL0, ls, w_sNil, SR.then_rt, SR.then_nx, fnR_rt, show decide ((3 : Int) = 0) = false from rfl, show decide ((3 : Int) = 1) = false from rfl, show decide ((3 : Int) = 2) = false from rfl]
          · intro z
            have q0 : decide (way = 0) = false := decide_eq_false (by omega)
            have q1 : decide (way = 1) = false := decide_eq_false (by omega)
            have q2 : decide (way = 2) = false := decide_eq_false (by omega)
            have q3 : decide (way = 3) = false := decide_eq_false (by omega)
            simp only [w_sCons, w_sIf, w_eT, w_eB, w_eV, w_eC, List.getElem?_cons_zero, List.getElem?_cons_succ, Res.bind_ok, eq_int, out_some, w_asT, ifK_false, ofR_ok, w_sRet, w_eSl, w_pNo, w_pSo, c1, c3, ix, w_eCall, w_eTup, w_aL1, w_aL0, w_sNil, SR.then_nx, q0, q1, q2, q3]
            cases ev__law_spoilt n [.ref i, xs[k]] M3 with
            | err => rfl
            | exc x M4 => rfl
            | ok e M4 => simp only [Res.bind_ok, out_some, p1, w_eSl, w_pNo, w_pSo, w_eB, w_eV, w_eC, List.getElem?_cons_zero, List.getElem?_cons_succ, add_int, c3, p3, ofR_ok, SR.then_rt, fnR_rt]
    | _ =>
      refine toLeaf M b (But.refl i M) hs (by omega) ?_
      unfold ev__law_spoilt
      rw [w_fn]
      unfold b__law_spoilt
      simp only [w_sCons, w_sIf, w_tAnd, w_eT, w_eU, w_eV, List.length_cons, List.length_nil, List.map_cons, List.map_nil, List.cons_append, List.nil_append, List.replicate, List.getElem?_cons_zero, List.getElem?_cons_succ, Res.bind_ok, isi_tuple fv, out_some, w_asT, isTup0, ifK_false, ofR_ok, w_sNil, SR.then_nx]
end Mk
end

section
set_option maxHeartbeats 4000000
/-! Pl7: drawn keys, drawn schemas. -/
open PySem PySem.Spec PyProof.Rows L2
namespace Mk
/-- a walk by an invariant -/
theorem loop_inv {ok : Mem → Prop} {t : Tg} {body : EvS} (I : Nat → Sl → Mem → Prop) {all : List D} (hok : ∀ k ρ M, I k ρ M → ok M)
    (step : ∀ k d ρ M, all[k]? = some d → I k ρ M → ∃ ρ1, t.set d ρ M = some ρ1 ∧ ∃ ρ2 M2, body ρ1 M = .nx ρ2 M2 ∧ I (k + 1) ρ2 M2) :
    ∀ (n k : Nat) (ρ : Sl) (M : Mem), n + k = all.length → I k ρ M → ∃ ρ' M', loop ok t body (all.drop k) ρ M = .nx ρ' M' ∧ I all.length ρ' M'
  | 0, k, ρ, M, hn, hi => by
    have e : k = all.length := by omega
    subst e
    rw [List.drop_length]
    exact ⟨ρ, M, loop_nil _ _ _ _ _ (hok _ _ _ hi), hi⟩
  | n + 1, k, ρ, M, hn, hi => by
    have hk : k < all.length := by omega
    rw [List.drop_eq_getElem_cons hk]
    obtain ⟨ρ1, h1, ρ2, M2, h2, h3⟩ := step k all[k] ρ M (List.getElem?_eq_getElem hk) hi
    obtain ⟨ρ', M', h4, h5⟩ := loop_inv I hok step n (k + 1) ρ2 M2 (by omega) h3
    refine ⟨ρ', M', ?_, h5⟩
    rw [loop_cons _ _ _ _ _ _ _ (hok _ _ _ hi) h1, h2]
    exact h4
/-- a comprehension that draws -/
theorem comp_inv {ok : Mem → Prop} {t : Tg} {elt : Ev} {ρw : Sl} (I : Nat → Mem → Prop) (P : D → Prop) {all : List D} (hok : ∀ k M, I k M → ok M)
    (step : ∀ k d M, all[k]? = some d → I k M → ∃ ρ1, t.set d ρw M = some ρ1 ∧ ∃ y M2, elt ρ1 M = .ok y M2 ∧ P y ∧ I (k + 1) M2) :
    ∀ (n k : Nat) (M : Mem), n + k = all.length → I k M → ∃ ys M', comp ok t tYes elt ρw (all.drop k) M = .ok ys M' ∧ ys.length = n ∧ (∀ y ∈ ys, P y) ∧ I all.length M'
  | 0, k, M, hn, hi => by
    have e : k = all.length := by omega
    subst e
    rw [List.drop_length]
    refine ⟨[], M, ?_, rfl, (fun y hy => nomatch hy), hi⟩
    unfold comp
    rw [if_pos (hok _ _ hi)]
  | n + 1, k, M, hn, hi => by
    have hk : k < all.length := by omega
    rw [List.drop_eq_getElem_cons hk]
    obtain ⟨ρ1, h1, y, M2, h2, h3, h4⟩ := step k all[k] M (List.getElem?_eq_getElem hk) hi
    obtain ⟨ys, M', h5, h6, h7, h8⟩ := comp_inv I P hok step n (k + 1) M2 (by omega) h4
    refine ⟨y :: ys, M', ?_, by rw [List.length_cons, h6], fun z hz => ?_, h8⟩
    · unfold comp
      rw [if_pos (hok _ _ hi), h1]
      simp only [w_tYes, noX_ok', Res.bind_ok, if_true, h2, h5]
    · rcases List.mem_cons.mp hz with e | e
      · rw [e]; exact h3
      · exact h7 z e
theorem lc_inv {it : EvI} {i : Nat} {own : List Nat} {elt : Ev} {ρ : Sl} {M M1 : Mem} {all : List D} (I : Nat → Mem → Prop) (P : D → Prop) (hi : it ρ M = .ok ⟨all, [], M1⟩ M1) (hl : all.length ≤ 1000) (h0 : I 0 M1)
    (step : ∀ k d M, all[k]? = some d → I k M → ∃ y M2, elt ((wipeE ρ own).set i (some d)) M = .ok y M2 ∧ P y ∧ I (k + 1) M2) :
    ∃ ys M', eLc it (.name i) own tYes elt ρ M = .ok (.lst ys) M' ∧ ys.length = all.length ∧ (∀ y ∈ ys, P y) ∧ I all.length M' := by
  obtain ⟨ys, M', h1, h2, h3, h4⟩ := comp_inv (ok := Src.ok ⟨all, [], M1⟩) (t := .name i) (elt := elt) (ρw := wipeE ρ own) I P (all := all) (fun _ _ _ => src_ok _ _ _) (fun k d M e hk => ⟨_, w_name i d _ _, step k d M e hk⟩) all.length 0 M1 rfl h0
  refine ⟨ys, M', ?_, h2, h3, h4⟩
  unfold eLc
  rw [hi]
  simp only [Res.bind_ok]
  rw [if_pos (le_lim hl)]
  rw [List.drop_zero] at h1
  rw [h1]
/-! ### sets that are sorted rise -/
theorem pair_adj {α : Type} {R : α → α → Prop} : ∀ {xs : List α}, xs.Pairwise R → ∀ q ∈ xs.zip (xs.drop 1), R q.1 q.2
  | [], _, q, hq => by simp at hq
  | [x], _, q, hq => by simp at hq
  | x :: y :: r, h, q, hq => by
    obtain ⟨h1, h2⟩ := List.pairwise_cons.mp h
    rw [List.drop_one, List.tail_cons, List.zip_cons_cons] at hq
    rcases List.mem_cons.mp hq with e | e
    · rw [e]; exact h1 y List.mem_cons_self
    · have := pair_adj h2 q
      rw [List.drop_one, List.tail_cons] at this
      exact this e
theorem sort_le {xs : List D} (kd : D.keyeds xs = true) (al : ∀ x ∈ xs, ∀ y ∈ xs, x.alike y = true) : (D.sort xs).Pairwise fun a b => b.ltb a = false := by
  have e : D.sort xs = xs.mergeSort (PySem.W.dataLe false D.py) := sort_congr fun a ha b hb => by
    have := py_lt b a (al b hb a ha) (keyed_pure b (keyeds_mem kd b hb)) (keyed_pure a (keyeds_mem kd a ha))
    rw [PySem.W.dataLe_eq]
    show D.le a b = !PySem.W.dataLt b.py a.py
    rw [this]
    rfl
  have T : PySem.W.TotalLe (PySem.W.dataLe false D.py) := PySem.W.sortLe_total _ _ _
  rw [e]
  refine List.Pairwise.imp_of_mem (fun {a b} ha hb h => ?_) (List.pairwise_mergeSort T.trans (fun a b => by have := T.total a b; simpa using this) xs)
  have ma := (List.mergeSort_perm xs _).mem_iff.mp ha
  have mb := (List.mergeSort_perm xs _).mem_iff.mp hb
  have := py_lt b a (al b mb a ma) (keyed_pure b (keyeds_mem kd b mb)) (keyed_pure a (keyeds_mem kd a ma))
  have h' : (!PySem.W.dataLt b.py a.py) = true := h
  rw [this, Bool.not_eq_true'] at h'
  exact h'
theorem sort_mem {xs : List D} (d : D) : d ∈ D.sort xs ↔ d ∈ xs := (List.mergeSort_perm xs _).mem_iff
theorem sort_len (xs : List D) : (D.sort xs).length = xs.length := (List.mergeSort_perm xs _).length_eq
theorem sort_rising {xs : List D} (kd : D.keyeds xs = true) (al : ∀ x ∈ xs, ∀ y ∈ xs, x.alike y = true) (nd : xs.Nodup) : rising (D.sort xs) = true := by
  have nd2 : (D.sort xs).Nodup := ((List.mergeSort_perm xs _).nodup_iff).mpr nd
  refine List.all_eq_true.mpr fun q hq => ?_
  have h1 := pair_adj (sort_le kd al) q hq
  have h2 := pair_adj (R := fun a b => a ≠ b) nd2 q hq
  obtain ⟨m1, m2⟩ := zip_mem hq
  have k1 := (sort_mem q.1).mp m1
  have k2 := (sort_mem q.2).mp m2
  cases h3 : q.1.ltb q.2 with
  | true => rfl
  | false => exact absurd (ltb_tri q.1 q.2 (keyeds_mem kd _ k1) (keyeds_mem kd _ k2) (al _ k1 _ k2) h3 h1) h2
/-! ### keys -/
theorem add_lst {xs ys : List D} (h : xs.length + ys.length ≤ 1000) (M : Mem) : addD (.lst xs) (.lst ys) M = some (.lst (xs ++ ys)) := by
  simp only [addD, lst_lst]
  rw [if_pos (le_lim h)]
theorem str_in {x : D} {names : List D} (hn : isStrs names = true) (h : x ∈ names) : isStr x = true ∧ (names.any fun z => z.beq x) = true := by
  have k := strs_keyed hn
  exact ⟨List.all_eq_true.mp hn x h, List.any_eq_true.mpr ⟨x, h, beq_refl x (keyeds_mem k x h)⟩⟩
theorem isKey_one {x : D} {names : List D} (hn : isStrs names = true) (h : x ∈ names) : isKey names (.tup [x]) = true := by
  obtain ⟨h1, h2⟩ := str_in hn h
  simp [isKey, h1, h2, rising]
theorem isKey_two {x y : D} {names : List D} (hn : isStrs names = true) (h : x ∈ names) (h' : y ∈ names) (hl : x.ltb y = true) : isKey names (.tup [x, y]) = true := by
  obtain ⟨h1, h2⟩ := str_in hn h
  obtain ⟨h3, h4⟩ := str_in hn h'
  simp [isKey, h1, h2, h3, h4, rising, hl]
theorem lt_strs {x y : D} (hx : isStr x = true) (hy : isStr y = true) (M : Mem) : ltD x y M = some (.bl (x.ltb y)) := by
  cases x with
  | str x => cases y with
    | str y => simp [ltD, ordOk, D.alike, isNon, cmpOk, D.pure, D.depth]
    | _ => cases hy
  | _ => cases hx
theorem strs_keyed_tup {xs : List D} (h : isStrs xs = true) : D.keyed (.tup xs) = true := by
  simp only [D.keyed]
  exact strs_keyed h
theorem keys_alike {ks : List D} (h : ∀ k ∈ ks, ∃ xs, k = .tup xs ∧ isStrs xs = true) : ∀ x ∈ ks, ∀ y ∈ ks, x.alike y = true := fun x hx y hy => by
  obtain ⟨xs, rfl, h1⟩ := h x hx
  obtain ⟨ys, rfl, h2⟩ := h y hy
  simp only [D.alike]
  exact strs_alike h1 h2
/-- sorted(set(..)) of such keys -/
theorem srt_keys {ks : List D} (h : ∀ k ∈ ks, ∃ xs, k = .tup xs ∧ isStrs xs = true ∧ xs ≠ []) (hl : ks.length < 64) (d : D) (hd : d = .lst ks ∨ d = .tup ks) (M : Mem) :
    srtSetD d M = some (.lst (D.sort (D.once ks))) ∧ rising (D.sort (D.once ks)) = true := by
  have kd : D.keyeds ks = true := mem_keyeds fun k hk => by
    obtain ⟨xs, rfl, h1, _⟩ := h k hk
    exact strs_keyed_tup h1
  have dp : D.depths ks ≤ 1 := depths_le.mpr fun k hk => by
    obtain ⟨xs, rfl, h1, _⟩ := h k hk
    exact depth_tup.mpr fun y hy => Nat.le_trans (depths_mem (Nat.le_refl _) y hy) (strs_depth h1)
  have t0 : ks.all isTup0 = true := List.all_eq_true.mpr fun k hk => by
    obtain ⟨xs, rfl, _⟩ := h k hk
    rfl
  have om : ∀ k ∈ D.once ks, k ∈ ks := fun k hk => (once_mem kd k).mp hk
  have ol := once_len ks
  have t1 : (D.once ks).all isTup = true := List.all_eq_true.mpr fun k hk => by
    obtain ⟨xs, rfl, _, ne⟩ := h k (om k hk)
    cases xs with
    | nil => exact absurd rfl ne
    | cons x xs => rfl
  have al := keys_alike (ks := ks) fun k hk => by
    obtain ⟨xs, e, h1, _⟩ := h k hk
    exact ⟨xs, e, h1⟩
  have al2 : ((D.once ks).all fun x => (D.once ks).all fun y => x.alike y) = true := List.all_eq_true.mpr fun x hx => List.all_eq_true.mpr fun y hy => al x (om x hx) y (om y hy)
  have kd2 : D.keyeds (D.once ks) = true := mem_keyeds fun k hk => keyeds_mem kd k (om k hk)
  have pu : D.pures (D.once ks) = true := pures_mem'.mpr fun k hk => keyed_pure k (keyeds_mem kd2 k hk)
  have dp2 : D.depths (D.once ks) ≤ 100 := depths_le.mpr fun k hk => Nat.le_trans (depths_mem dp k (om k hk)) (by omega)
  have ok1 : setOk ks = true := by
    have : D.depths ks ≤ 8 := by omega
    simp [setOk, hl, kd, t0, this]
  have ok2 : isTups ks = true := by
    have : D.depths ks ≤ 8 := by omega
    simp [isTups, t0, this]
  have ok3 : srtOk (D.once ks) = true := by
    have h1 : (D.once ks).length ≤ lim := le_lim (by omega)
    simp only [srtOk, h1, decide_true, pu, al2, t1, Bool.true_or, Bool.and_self, dp2]
  refine ⟨?_, sort_rising kd2 (fun x hx y hy => al x (om x hx) y (om y hy)) (once_nodup kd)⟩
  rcases hd with rfl | rfl <;> simp [srtSetD, ok1, ok2, ok3]
theorem fit_small (n : Nat) (h : n ≤ 2) : fit62 (n : Nat) = true := by
  rcases n with _ | _ | _ | n
  · decide
  · decide
  · decide
  · omega

theorem keys_a (M : Mem) (i : Nat) (names : List D) (hn : isStrs names = true) (hne : names ≠ []) (hl : names.length ≤ 10) :
    eLc (eIt (eV 1)) (.name 5) [5] tYes (eTup [eV 5]) [some (.ref i), some (.lst names), none, none, none, none, none, none] M = .ok (.lst (names.map fun d => .tup [d])) M := by
  have c0 := lc_map (own := [5]) (i := 5) (it := eIt (eV 1)) (elt := eTup [eV 5]) (ρ := [some (.ref i), some (.lst names), none, none, none, none, none, none]) (M := M) (M1 := M) (src := ⟨names, [], M⟩) (fun d => .tup [d]) (by simp) (le_lim (show names.length ≤ 1000 by omega)) (by simp) (fun d hd => by simp)
  exact c0
theorem keys_b (M : Mem) (i : Nat) (names L : List D) (d : D) (hn : isStrs names = true) (hl : names.length ≤ 10) (sd : isStr d = true) :
    eLc (eIt (eV 1)) (.name 7) [7] (eT (eB ltD (eV 3) (eV 7))) (eTup [eV 3, eV 7]) [some (.ref i), some (.lst names), some (.lst L), some d, none, none, none, none] M = .ok (.lst ((names.filter fun e => d.ltb e).map fun e => .tup [d, e])) M := by
  have c1 := lc_filter (own := [7]) (i := 7) (it := eIt (eV 1)) (test := eT (eB ltD (eV 3) (eV 7))) (elt := eTup [eV 3, eV 7]) (ρ := [some (.ref i), some (.lst names), some (.lst L), some d, none, none, none, none]) (M := M) (M1 := M) (src := ⟨names, [], M⟩) (fun e => d.ltb e) (fun e => .tup [d, e])
          (by simp) (le_lim (show names.length ≤ 1000 by omega)) (by simp) (fun e he => by simp [lt_strs sd (List.all_eq_true.mp hn e he)]) (fun e he _ => by simp)
  exact c1
theorem keys_c (M : Mem) (i : Nat) (names : List D) (hn : isStrs names = true) (hne : names ≠ []) (hl : names.length ≤ 10) : ∃ L q,
    loop (Src.ok ⟨names, [], M⟩) (.name 3) (sLet 2 (eB addD (eV 2) (eLc (eIt (eV 1)) (.name 7) [7] (eT (eB ltD (eV 3) (eV 7))) (eTup [eV 3, eV 7])))) names
      [some (.ref i), some (.lst names), some (.lst (names.map fun d => .tup [d])), none, none, none, none, none] M = .nx [some (.ref i), some (.lst names), some (.lst L), q, none, none, none, none] M
    ∧ L ≠ [] ∧ L.length ≤ 10 + 10 * names.length ∧ ∀ x ∈ L, isKey names x = true := by
  obtain ⟨ρ2, M2, hloop, L, q, rfl, rfl, L1, L2, L3⟩ := loop_inv (ok := Src.ok ⟨names, [], M⟩) (t := .name 3) (body := sLet 2 (eB addD (eV 2) (eLc (eIt (eV 1)) (.name 7) [7] (eT (eB ltD (eV 3) (eV 7))) (eTup [eV 3, eV 7])))) (all := names)
    (fun k ρ M' => ∃ L q, ρ = [some (.ref i), some (.lst names), some (.lst L), q, none, none, none, none] ∧ M' = M ∧ L ≠ [] ∧ L.length ≤ 10 + 10 * k ∧ ∀ x ∈ L, isKey names x = true) (fun _ _ _ _ => src_ok _ _ _)
    (fun k d ρ M' hd ⟨L, q, hρ, hM, L1, L2, L3⟩ => by
      subst hρ hM
      have md : d ∈ names := List.mem_of_getElem? hd
      have hk := at_lt hd
      have sd := List.all_eq_true.mp hn d md
      refine ⟨_, w_name _ _ _ _, [some (.ref i), some (.lst names), some (.lst (L ++ (names.filter fun e => d.ltb e).map fun e => .tup [d, e])), some d, none, none, none, none], M', ?_, _, _, rfl, rfl, by simp [L1], ?_, ?_⟩
      · have hlen : L.length + ((names.filter fun e => d.ltb e).map fun e => D.tup [d, e]).length ≤ 1000 := by
          have := List.length_filter_le (fun e => d.ltb e) names
          rw [List.length_map]
          omega
        have ad := add_lst hlen M'
        have c1' := keys_b M' i names L d hn hl sd
        simp [c1', ad]
      · have := List.length_filter_le (fun e => d.ltb e) names
        rw [List.length_append, List.length_map]
        omega
      · intro x hx
        rcases List.mem_append.mp hx with z | z
        · exact L3 x z
        · obtain ⟨e, he, rfl⟩ := List.mem_map.mp z
          obtain ⟨he1, he2⟩ := List.mem_filter.mp he
          exact isKey_two hn md he1 he2) names.length 0
    [some (.ref i), some (.lst names), some (.lst (names.map fun d => .tup [d])), none, none, none, none, none] M (Nat.add_zero _)
    ⟨_, _, rfl, rfl, by simpa using hne, by simp; omega, fun x hx => by
      obtain ⟨d, hd, rfl⟩ := List.mem_map.mp hx
      exact isKey_one hn hd⟩
  rw [List.drop_zero] at hloop
  exact ⟨L, q, hloop, L1, L2, L3⟩
theorem rng_small {es : List Ev} {ρ : Sl} {M M1 : Mem} {n : Nat} (h : aL es ρ M = .ok [.int (n : Nat)] M1) (hrg : rngS [.int (n : Nat)] M1 = some ⟨intsD 0 n, [], M1⟩) :
    eRng es ρ M = .ok ⟨intsD 0 n, [], M1⟩ M1 := by
  unfold eRng
  rw [h, Res.bind_ok, hrg]
  rfl
theorem keys_d (M : Mem) (i : Nat) (b : Int) (hs : SrcAt M i b) (hb : b + 1 ≤ 1000000000) (L : List D) (nm : D) (q : Option D) : ∃ (n : Nat) (M' : Mem), n ≤ 2 ∧ SrcAt M' i (b + 1) ∧ But i M M' ∧
    eRng [eCall ev__law_choice [eV 0, eLst [eC (.int 0), eC (.int 1), eC (.int 1), eC (.int 2)]]] [some (.ref i), some nm, some (.lst L), q, none, none, none, none] M = .ok ⟨intsD 0 n, [], M'⟩ M' := by
  obtain ⟨r, M1, e1, m1, s1, k1⟩ := choice_ok M i b [.int 0, .int 1, .int 1, .int 2] hs (by omega) (by simp) (by simp) _ (.inl rfl)
  obtain ⟨n, hr, hn2⟩ : ∃ n : Nat, r = .int (n : Nat) ∧ n ≤ 2 := by
    simp only [List.mem_cons, List.not_mem_nil, or_false] at m1
    rcases m1 with rfl | rfl | rfl | rfl
    · exact ⟨0, rfl, by omega⟩
    · exact ⟨1, rfl, by omega⟩
    · exact ⟨1, rfl, by omega⟩
    · exact ⟨2, rfl, by omega⟩
  subst hr
  have fit : fit62 (n : Nat) = true := fit_small n hn2
  have hrg : rngS [.int (n : Nat)] M1 = some ⟨intsD 0 n, [], M1⟩ := by simp [rngS, fit]
  exact ⟨n, M1, hn2, s1, k1, rng_small (by simp [e1]) hrg⟩
theorem keys_e (M1 : Mem) (i : Nat) (b : Int) (hs : SrcAt M1 i b) (hb : b + 2 ≤ 1000000000) (L : List D) (nm : D) (q : Option D) (L1 : L ≠ []) (L2 : L.length ≤ 200) (it : EvI) (M : Mem) (n : Nat) (hn2 : n ≤ 2)
    (hit : it [some (.ref i), some nm, some (.lst L), q, none, none, none, none] M = .ok ⟨intsD 0 n, [], M1⟩ M1) : ∃ ys M',
    eLc it (.name 6) [6] tYes (eCall ev__law_choice [eV 0, eV 2]) [some (.ref i), some nm, some (.lst L), q, none, none, none, none] M = .ok (.lst ys) M' ∧ ys.length = n ∧ (∀ y ∈ ys, y ∈ L) ∧ SrcAt M' i (b + (n : Nat)) ∧ But i M1 M' := by
  have hil : (intsD 0 n).length = n := by simp [intsD]
  obtain ⟨ys, M3, e3, y1, y2, s3, k3⟩ := lc_inv (own := [6]) (i := 6) (it := it) (elt := eCall ev__law_choice [eV 0, eV 2]) (ρ := [some (.ref i), some nm, some (.lst L), q, none, none, none, none]) (M := M) (M1 := M1) (all := intsD 0 n)
    (fun k M' => SrcAt M' i (b + (k : Nat)) ∧ But i M1 M') (fun y => y ∈ L) hit (by rw [hil]; omega) ⟨hs.mono (by omega), But.refl i M1⟩
    (fun k d M' hd ⟨s, kk⟩ => by
      have := at_lt hd
      rw [hil] at this
      obtain ⟨y, M4, e4, m4, s4, k4⟩ := choice_ok M' i (b + (k : Nat)) L s (by omega) L1 (by omega) (.lst L) (.inl rfl)
      exact ⟨y, M4, by simp [e4], m4, s4.mono (by omega), kk.trans k4⟩)
  rw [hil] at y1 s3
  exact ⟨ys, M3, e3, y1, y2, s3, k3⟩
theorem keys_ok (M : Mem) (i : Nat) (b : Int) (names : List D) (hs : SrcAt M i b) (hb : b + 3 ≤ 1000000000) (hn : isStrs names = true) (hne : names ≠ []) (hl : names.length ≤ 10) :
    ∃ ks M', ev__law_keys [.ref i, .lst names] M = .ok (.tup ks) M' ∧ ks.length ≤ 2 ∧ (∀ k ∈ ks, isKey names k = true) ∧ rising ks = true ∧ SrcAt M' i (b + 3) ∧ But i M M' := by
  have c0' := keys_a M i names hn hne hl
  obtain ⟨L, q, hloop, L1, L2, L3⟩ := keys_c M i names hn hne hl
  obtain ⟨n, M1, n2, s1, k1, hit⟩ := keys_d M i b hs (by omega) L (.lst names) q
  obtain ⟨ys, M3, e3, y1, y2, s3, k3⟩ := keys_e M1 i (b + 1) s1 (by omega) L (.lst names) q L1 (by omega) _ M n n2 hit
  have hk : ∀ k ∈ ys, ∃ xs, k = .tup xs ∧ isStrs xs = true ∧ xs ≠ [] := fun k hk => by
    obtain ⟨xs, a, b, c, _⟩ := key_strs (L3 k (y2 k hk))
    exact ⟨xs, a, b, c⟩
  obtain ⟨so, ri⟩ := srt_keys hk (by omega) (.lst ys) (.inl rfl) M3
  have kd : D.keyeds ys = true := mem_keyeds fun k hk' => by
    obtain ⟨xs, rfl, h1, _⟩ := hk k hk'
    exact strs_keyed_tup h1
  refine ⟨D.sort (D.once ys), M3, ?_, by rw [sort_len]; have := once_len ys; omega, fun k hk' => L3 k (y2 k ((once_mem kd k).mp ((sort_mem k).mp hk'))), ri, s3.mono (by omega), k1.trans k3⟩
  unfold ev__law_keys
  rw [w_fn]
  unfold b__law_keys
  simp [c0', hloop, e3, so, tupD]
end Mk
end

section
set_option maxHeartbeats 4000000
/-! Pl8: drawn schemas. -/
open PySem PySem.Spec PyProof.Rows L2
namespace Mk
theorem take_at {all : List D} {k : Nat} {d : D} (h : all[k]? = some d) : all.take (k + 1) = all.take k ++ [d] := by
  rw [List.take_succ, h]
  rfl
theorem sane_word {x : D} {w : Nat} {n : Int} (h : isWord x n = true) : x.sane w = true ∧ x.depth = 0 := by
  cases x with
  | str x =>
    simp only [isWord, Bool.and_eq_true, decide_eq_true_eq] at h
    exact ⟨by simp only [D.sane, decide_eq_true_eq]; omega, by simp [D.depth]⟩
  | _ => simp [isWord] at h
theorem sane_bl {x : D} {w : Nat} (h : isBl x = true) : x.sane w = true ∧ x.depth = 0 := by
  cases x with
  | bl b => exact ⟨by simp [D.sane], by simp [D.depth]⟩
  | _ => simp [isBl] at h
theorem sane_sort {x : D} {w : Nat} (h : isSort x = true) : x.sane w = true ∧ x.depth = 0 := by
  cases x with
  | str x =>
    simp only [isSort, Bool.or_eq_true, decide_eq_true_eq] at h
    rcases h with rfl | rfl <;> exact ⟨by simp [D.sane, tInt, tText], by simp [D.depth]⟩
  | _ => simp [isSort] at h
theorem sane_rule {x : D} {w : Nat} (h : isRule x = true) : x.sane w = true ∧ x.depth = 0 := by
  cases x with
  | str x =>
    simp only [isRule, Bool.or_eq_true, decide_eq_true_eq] at h
    rcases h with (rfl | rfl) | rfl <;> exact ⟨by simp [D.sane, tHold, tFollow, tClear], by simp [D.depth]⟩
  | _ => simp [isRule] at h
theorem field_sane {d : D} (h : isField d = true) : d.sane 4 = true ∧ d.depth ≤ 1 := by
  unfold isField at h
  split at h
  · rename_i a b c
    simp only [Bool.and_eq_true] at h
    obtain ⟨⟨h1, h2⟩, h3⟩ := h
    have a1 := sane_word (w := 4) h1
    have a2 := sane_sort (w := 4) h2
    have a3 := sane_bl (w := 4) h3
    exact ⟨sane_tup.mpr ⟨by simp, by simp [a1.1, a2.1, a3.1]⟩, depth_tup.mpr (by simp [a1.2, a2.2, a3.2])⟩
  · cases h
theorem link_sane {d : D} (h : isLink d = true) : d.sane 4 = true ∧ d.depth ≤ 1 := by
  unfold isLink at h
  split at h
  · rename_i a b c e
    simp only [Bool.and_eq_true] at h
    obtain ⟨⟨⟨⟨h1, h2⟩, h3⟩, h4⟩, _⟩ := h
    have a1 := sane_word (w := 4) h1
    have a2 := sane_word (w := 4) h2
    have a3 := sane_bl (w := 4) h3
    have a4 := sane_rule (w := 4) h4
    exact ⟨sane_tup.mpr ⟨by simp, by simp [a1.1, a2.1, a3.1, a4.1]⟩, depth_tup.mpr (by simp [a1.2, a2.2, a3.2, a4.2])⟩
  · cases h
/-- the names of a table's columns are short -/
theorem names_sane {fs ls : List D} (hf : fs.all isField = true) (hl : ls.all isLink = true) : ∀ x ∈ namesOf fs ls, x.sane 4 = true ∧ x.depth = 0 := fun x hx => by
  obtain ⟨d, hd, rfl⟩ := List.mem_map.mp hx
  rcases List.mem_append.mp hd with z | z
  · have h := List.all_eq_true.mp hf d z
    unfold isField at h
    split at h
    · simp only [Bool.and_eq_true] at h
      exact sane_word h.1.1
    · cases h
  · have h := List.all_eq_true.mp hl d z
    unfold isLink at h
    split at h
    · simp only [Bool.and_eq_true] at h
      exact sane_word h.1.1.1.1
    · cases h
theorem key_sane {names : List D} {d : D} (hn : isStrs names = true) (hs : ∀ x ∈ names, x.sane 4 = true ∧ x.depth = 0) (h : isKey names d = true) : d.sane 4 = true ∧ d.depth ≤ 1 := by
  cases d with
  | tup ks =>
    simp only [isKey, Bool.and_eq_true, decide_eq_true_eq, List.all_eq_true, List.any_eq_true] at h
    obtain ⟨⟨⟨h1, h2⟩, h3⟩, _⟩ := h
    have kk : ∀ k ∈ ks, k.sane 4 = true ∧ k.depth = 0 := fun k hk => by
      obtain ⟨s, z, hz, e⟩ := h3 k hk
      have kz := keyeds_mem (strs_keyed hn) z hz
      have kk : k.keyed = true := by
        cases k with
        | str x => simp [D.keyed]
        | _ => cases s
      rw [← beq_eq z k kz kk e]
      exact hs z hz
    exact ⟨sane_tup.mpr ⟨by omega, fun k hk => (kk k hk).1⟩, depth_tup.mpr fun k hk => by rw [(kk k hk).2]; omega⟩
  | _ => simp [isKey] at h
theorem table_sane {t : D} (h : isTable t = true) : t.sane 4 = true ∧ t.depth ≤ 3 := by
  obtain ⟨n, fs, ls, ks, rfl, w, f1, f2, l1, l2, _, _, k1, k2, _⟩ := table_shape h
  have a1 := sane_word (w := 4) w
  have nn := names_strs f2 l2
  have ns := names_sane f2 l2
  refine ⟨sane_tup.mpr ⟨by simp, fun x hx => ?_⟩, depth_tup.mpr fun x hx => ?_⟩
  · simp only [List.mem_cons, List.not_mem_nil, or_false] at hx
    rcases hx with rfl | rfl | rfl | rfl
    · exact a1.1
    · exact sane_tup.mpr ⟨f1, fun y hy => (field_sane (List.all_eq_true.mp f2 y hy)).1⟩
    · exact sane_tup.mpr ⟨by omega, fun y hy => (link_sane (List.all_eq_true.mp l2 y hy)).1⟩
    · exact sane_tup.mpr ⟨by omega, fun y hy => (key_sane nn ns (List.all_eq_true.mp k2 y hy)).1⟩
  · simp only [List.mem_cons, List.not_mem_nil, or_false] at hx
    rcases hx with rfl | rfl | rfl | rfl
    · rw [a1.2]; omega
    · exact depth_tup.mpr fun y hy => (field_sane (List.all_eq_true.mp f2 y hy)).2
    · exact depth_tup.mpr fun y hy => (link_sane (List.all_eq_true.mp l2 y hy)).2
    · exact depth_tup.mpr fun y hy => (key_sane nn ns (List.all_eq_true.mp k2 y hy)).2
theorem schema_sane {d : D} (h : isSchema d = true) : d.sane 4 = true ∧ d.depth ≤ 4 := by
  cases d with
  | tup ts =>
    simp only [isSchema, Bool.and_eq_true, decide_eq_true_eq] at h
    obtain ⟨⟨⟨⟨_, h1⟩, h2⟩, _⟩, _⟩ := h
    exact ⟨sane_tup.mpr ⟨by omega, fun t ht => (table_sane (List.all_eq_true.mp h2 t ht)).1⟩, depth_tup.mpr fun t ht => (table_sane (List.all_eq_true.mp h2 t ht)).2⟩
  | _ => simp [isSchema] at h
/-! ### the loops -/
noncomputable def fldB : EvS := sCons (sLet 7 (eCall ev__law_choice [eV 0, eLst [eC (.str [105, 110, 116]), eC (.str [116, 101, 120, 116])]]))
    (sLet 4 (eB addD (eV 4) (eTup [eTup [eV 6, eV 7, eB eqD (eCall ev__law_draw [eV 0, eC (.int 2)]) (eC (.int 0))]])))
theorem fld_step (M : Mem) (i : Nat) (b : Int) (hs : SrcAt M i b) (hb : b + 2 ≤ 1000000000) (nm fo ne q5 q8 q9 q10 q11 q12 q13 q14 q7 : Option D) (fs : List D) (x : D) (hf : fs.all isField = true) (hl : fs.length ≤ 10) (hx : isWord x 1 = true) :
    ∃ f q7' M', fldB [some (.ref i), nm, fo, ne, some (.tup fs), q5, some x, q7, q8, q9, q10, q11, q12, q13, q14] M = .nx [some (.ref i), nm, fo, ne, some (.tup (fs ++ [f])), q5, some x, q7', q8, q9, q10, q11, q12, q13, q14] M' ∧ isField f = true ∧ head0 f = x ∧ SrcAt M' i (b + 2) ∧ But i M M' := by
  obtain ⟨r, M1, e1, m1, s1, k1⟩ := choice_ok M i b [.str [105, 110, 116], .str [116, 101, 120, 116]] hs (by omega) (by simp) (by simp) _ (.inl rfl)
  obtain ⟨c, M2, e2, c0, c1, s2, k2⟩ := draw_ok M1 i (b + 1) 2 s1 (by omega) (by omega) (by omega)
  have hr : isSort r = true := by
    simp only [List.mem_cons, List.not_mem_nil, or_false] at m1
    rcases m1 with rfl | rfl
    · show isSort (.str tInt) = true
      simp [isSort]
    · show isSort (.str tText) = true
      simp [isSort]
  have ad : ∀ M, addD (.tup fs) (.tup [.tup [x, r, .bl (decide (c = 0))]]) M = some (.tup (fs ++ [.tup [x, r, .bl (decide (c = 0))]])) := fun M => add_tup (by simp; omega) M
  refine ⟨.tup [x, r, .bl (decide (c = 0))], some r, M2, ?_, ?_, rfl, s2.mono (by omega), k1.trans k2⟩
  · unfold fldB
    simp [e1, e2, ad]
  · simp [isField, hx, hr, isBl]
theorem fld_loop (M M0 : Mem) (i : Nat) (b : Int) (hs : SrcAt M i b) (hb : b + 10 ≤ 1000000000) (nm fo ne q5 q6 q7 q8 q9 q10 q11 q12 q13 q14 : Option D) (all : List D) (ha : ∀ x ∈ all, isWord x 1 = true) (hl : all.length ≤ 2) :
    ∃ fs q6' q7' M', loop (Src.ok ⟨all, [], M0⟩) (.name 6) fldB all [some (.ref i), nm, fo, ne, some (.tup []), q5, q6, q7, q8, q9, q10, q11, q12, q13, q14] M = .nx [some (.ref i), nm, fo, ne, some (.tup fs), q5, q6', q7', q8, q9, q10, q11, q12, q13, q14] M'
      ∧ fs.all isField = true ∧ fs.map head0 = all ∧ SrcAt M' i (b + 4) ∧ But i M M' := by
  obtain ⟨ρ2, M2, hloop, fs, q6', q7', rfl, f1, f2, s2, k2⟩ := loop_inv (ok := Src.ok ⟨all, [], M0⟩) (t := .name 6) (body := fldB) (all := all)
    (fun k ρ M' => ∃ fs q6' q7', ρ = [some (.ref i), nm, fo, ne, some (.tup fs), q5, q6', q7', q8, q9, q10, q11, q12, q13, q14] ∧ fs.all isField = true ∧ fs.map head0 = all.take k ∧ SrcAt M' i (b + 2 * (k : Nat)) ∧ But i M M') (fun _ _ _ _ => src_ok _ _ _)
    (fun k d ρ M' hd ⟨fs, q6', q7', hρ, f1, f2, s, kk⟩ => by
      subst hρ
      have hk := at_lt hd
      have fl : fs.length ≤ 10 := by
        have := congrArg List.length f2
        rw [List.length_map, List.length_take] at this
        omega
      obtain ⟨f, q, M3, e3, g1, g2, s3, k3⟩ := fld_step M' i (b + 2 * (k : Nat)) s (by omega) nm fo ne q5 q8 q9 q10 q11 q12 q13 q14 q7' fs d f1 fl (ha d (List.mem_of_getElem? hd))
      refine ⟨_, w_name _ _ _ _, _, M3, e3, fs ++ [f], some d, q, rfl, ?_, ?_, s3.mono (by omega), kk.trans k3⟩
      · rw [List.all_append, f1]
        simp [g1]
      · rw [List.map_append, f2, take_at hd]
        simp [g2]) all.length 0 [some (.ref i), nm, fo, ne, some (.tup []), q5, q6, q7, q8, q9, q10, q11, q12, q13, q14] M (Nat.add_zero _)
    ⟨[], q6, q7, rfl, rfl, rfl, hs.mono (by omega), But.refl i M⟩
  rw [List.drop_zero] at hloop
  rw [List.take_length] at f2
  exact ⟨fs, q6', q7', M2, hloop, f1, f2, s2.mono (by omega), k2⟩
noncomputable def lnkB : EvS := sCons (sLet 9 (eB gtD (eCall ev__law_draw [eV 0, eC (.int 3)]) (eC (.int 0))))
    (sCons (sLet 10 (eIf (eT (eV 9)) (eLst [eC (.str [104, 111, 108, 100]), eC (.str [102, 111, 108, 108, 111, 119]), eC (.str [99, 108, 101, 97, 114])]) (eLst [eC (.str [104, 111, 108, 100]), eC (.str [102, 111, 108, 108, 111, 119])])))
    (sCons (sPar 11 12 (eCall ev__law_choice [eV 0, eV 1]) (eCall ev__law_choice [eV 0, eV 10]))
    (sLet 5 (eB addD (eV 5) (eTup [eTup [eV 8, eV 11, eV 9, eV 12]])))))
theorem lnk_step (M : Mem) (i : Nat) (b : Int) (hs : SrcAt M i b) (hb : b + 3 ≤ 1000000000) (names : List D) (hn : ∀ x ∈ names, isWord x 1 = true) (hne : names ≠ []) (hnl : names.length ≤ 10) (fo ne q4 q6 q7 q9 q10 q11 q12 q13 q14 : Option D) (ls : List D) (x : D) (hl : ls.length ≤ 10) (hx : isWord x 1 = true) :
    ∃ l q9' q10' q11' q12' M', lnkB [some (.ref i), some (.lst names), fo, ne, q4, some (.tup ls), q6, q7, some x, q9, q10, q11, q12, q13, q14] M = .nx [some (.ref i), some (.lst names), fo, ne, q4, some (.tup (ls ++ [l])), q6, q7, some x, q9', q10', q11', q12', q13, q14] M'
      ∧ isLink l = true ∧ head0 l = x ∧ second l ∈ names ∧ SrcAt M' i (b + 3) ∧ But i M M' := by
  obtain ⟨c, M1, e1, c0, c1, s1, k1⟩ := draw_ok M i b 3 hs (by omega) (by omega) (by omega)
  obtain ⟨t, M2, e2, m2, s2, k2⟩ := choice_ok M1 i (b + 1) names s1 (by omega) hne (by omega) _ (.inl rfl)
  by_cases hc : 0 < c
  · obtain ⟨r, M3, e3, m3, s3, k3⟩ := choice_ok M2 i (b + 1 + 1) [.str [104, 111, 108, 100], .str [102, 111, 108, 108, 111, 119], .str [99, 108, 101, 97, 114]] s2 (by omega) (by simp) (by simp) _ (.inl rfl)
    have hr : isRule r = true := by
      simp only [List.mem_cons, List.not_mem_nil, or_false] at m3
      rcases m3 with rfl | rfl | rfl
      · show isRule (.str tHold) = true
        simp [isRule]
      · show isRule (.str tFollow) = true
        simp [isRule]
      · show isRule (.str tClear) = true
        simp [isRule]
    have ad : ∀ M, addD (.tup ls) (.tup [.tup [x, t, .bl true, r]]) M = some (.tup (ls ++ [.tup [x, t, .bl true, r]])) := fun M => add_tup (by simp; omega) M
    refine ⟨.tup [x, t, .bl true, r], some (.bl true), some (.lst [.str [104, 111, 108, 100], .str [102, 111, 108, 108, 111, 119], .str [99, 108, 101, 97, 114]]), some t, some r, M3, ?_, ?_, rfl, m2, s3.mono (by omega), (k1.trans k2).trans k3⟩
    · unfold lnkB
      simp [e1, e2, e3, ad, hc]
    · simp [isLink, hx, hn t m2, isBl, hr, D.beq]
  · obtain ⟨r, M3, e3, m3, s3, k3⟩ := choice_ok M2 i (b + 1 + 1) [.str [104, 111, 108, 100], .str [102, 111, 108, 108, 111, 119]] s2 (by omega) (by simp) (by simp) _ (.inl rfl)
    have hr : isRule r = true ∧ D.beq r (.str tClear) = false := by
      simp only [List.mem_cons, List.not_mem_nil, or_false] at m3
      rcases m3 with rfl | rfl
      · show isRule (.str tHold) = true ∧ _
        simp [isRule, D.beq, tClear]
      · show isRule (.str tFollow) = true ∧ _
        simp [isRule, D.beq, tClear]
    have ad : ∀ M, addD (.tup ls) (.tup [.tup [x, t, .bl false, r]]) M = some (.tup (ls ++ [.tup [x, t, .bl false, r]])) := fun M => add_tup (by simp; omega) M
    refine ⟨.tup [x, t, .bl false, r], some (.bl false), some (.lst [.str [104, 111, 108, 100], .str [102, 111, 108, 108, 111, 119]]), some t, some r, M3, ?_, ?_, rfl, m2, s3.mono (by omega), (k1.trans k2).trans k3⟩
    · unfold lnkB
      simp [e1, e2, e3, ad, hc]
    · simp [isLink, hx, hn t m2, isBl, hr.1, hr.2]
theorem lnk_loop (M M0 : Mem) (i : Nat) (b : Int) (hs : SrcAt M i b) (hb : b + 10 ≤ 1000000000) (names : List D) (hn : ∀ x ∈ names, isWord x 1 = true) (hne : names ≠ []) (hnl : names.length ≤ 10) (fo ne q4 q6 q7 q8 q9 q10 q11 q12 q13 q14 : Option D) (all : List D) (ha : ∀ x ∈ all, isWord x 1 = true) (hl : all.length ≤ 2) :
    ∃ ls q8' q9' q10' q11' q12' M', loop (Src.ok ⟨all, [], M0⟩) (.name 8) lnkB all [some (.ref i), some (.lst names), fo, ne, q4, some (.tup []), q6, q7, q8, q9, q10, q11, q12, q13, q14] M = .nx [some (.ref i), some (.lst names), fo, ne, q4, some (.tup ls), q6, q7, q8', q9', q10', q11', q12', q13, q14] M'
      ∧ ls.all isLink = true ∧ ls.map head0 = all ∧ (∀ l ∈ ls, second l ∈ names) ∧ SrcAt M' i (b + 6) ∧ But i M M' := by
  obtain ⟨ρ2, M2, hloop, ls, q8', q9', q10', q11', q12', rfl, f1, f2, f3, s2, k2⟩ := loop_inv (ok := Src.ok ⟨all, [], M0⟩) (t := .name 8) (body := lnkB) (all := all)
    (fun k ρ M' => ∃ ls q8' q9' q10' q11' q12', ρ = [some (.ref i), some (.lst names), fo, ne, q4, some (.tup ls), q6, q7, q8', q9', q10', q11', q12', q13, q14] ∧ ls.all isLink = true ∧ ls.map head0 = all.take k ∧ (∀ l ∈ ls, second l ∈ names) ∧ SrcAt M' i (b + 3 * (k : Nat)) ∧ But i M M') (fun _ _ _ _ => src_ok _ _ _)
    (fun k d ρ M' hd ⟨ls, q8', q9', q10', q11', q12', hρ, f1, f2, f3, s, kk⟩ => by
      subst hρ
      have hk := at_lt hd
      have fl : ls.length ≤ 10 := by
        have := congrArg List.length f2
        rw [List.length_map, List.length_take] at this
        omega
      obtain ⟨f, q9, q10, q11, q12, M3, e3, g1, g2, g3, s3, k3⟩ := lnk_step M' i (b + 3 * (k : Nat)) s (by omega) names hn hne hnl fo ne q4 q6 q7 q9' q10' q11' q12' q13 q14 ls d fl (ha d (List.mem_of_getElem? hd))
      refine ⟨_, w_name _ _ _ _, _, M3, e3, ls ++ [f], some d, q9, q10, q11, q12, rfl, ?_, ?_, ?_, s3.mono (by omega), kk.trans k3⟩
      · rw [List.all_append, f1]
        simp [g1]
      · rw [List.map_append, f2, take_at hd]
        simp [g2]
      · intro l hl'
        rcases List.mem_append.mp hl' with z | z
        · exact f3 l z
        · rw [List.mem_singleton.mp z]; exact g3) all.length 0 [some (.ref i), some (.lst names), fo, ne, q4, some (.tup []), q6, q7, q8, q9, q10, q11, q12, q13, q14] M (Nat.add_zero _)
    ⟨[], q8, q9, q10, q11, q12, rfl, rfl, rfl, (fun l h => nomatch h), hs.mono (by omega), But.refl i M⟩
  rw [List.drop_zero] at hloop
  rw [List.take_length] at f2
  exact ⟨ls, q8', q9', q10', q11', q12', M2, hloop, f1, f2, f3, s2.mono (by omega), k2⟩
end Mk
end

section
set_option maxHeartbeats 4000000
/-! Pl9: drawn tables and schemas. -/
open PySem PySem.Spec PyProof.Rows L2
namespace Mk
theorem srt_strs {xs : List D} (h : isStrs xs = true) (hl : xs.length ≤ 1000) (M : Mem) : srtD [.lst xs] M = some (.lst (D.sort xs)) := by
  have h1 : xs.length ≤ lim := le_lim hl
  have al : (xs.all fun x => xs.all fun y => x.alike y) = true := List.all_eq_true.mpr fun x hx => List.all_eq_true.mpr fun y hy => by
    have k1 := List.all_eq_true.mp h x hx
    have k2 := List.all_eq_true.mp h y hy
    cases x with
    | str x => cases y with
      | str y => simp [D.alike]
      | _ => cases k2
    | _ => cases k1
  have fl : (xs.all isFlat) = true := List.all_eq_true.mpr fun x hx => by
    have k1 := List.all_eq_true.mp h x hx
    cases x with
    | str x => rfl
    | _ => cases k1
  have dp : D.depths xs ≤ 100 := Nat.le_trans (strs_depth h) (by omega)
  have ok : srtOk xs = true := by
    simp only [srtOk, h1, decide_true, strs_pure h, al, fl, Bool.or_true, Bool.and_self, dp]
  simp only [srtD, d_lst]
  rw [if_pos ok]
theorem sort_strs {xs : List D} (h : isStrs xs = true) : isStrs (D.sort xs) = true := List.all_eq_true.mpr fun x hx => List.all_eq_true.mp h x ((sort_mem x).mp hx)
theorem isKey_sort {xs : List D} {d : D} (h : isKey (D.sort xs) d = true) : isKey xs d = true := by
  cases d with
  | tup ks =>
    simp only [isKey, Bool.and_eq_true, decide_eq_true_eq, List.all_eq_true, List.any_eq_true] at h ⊢
    obtain ⟨⟨h1, h3⟩, h4⟩ := h
    exact ⟨⟨h1, fun k hk => ⟨(h3 k hk).1, by
      obtain ⟨z, hz, e⟩ := (h3 k hk).2
      exact ⟨z, (sort_mem z).mp hz, e⟩⟩⟩, h4⟩
  | _ => simp [isKey] at h
theorem cols_shape {fs ls : List D} (hf : fs.all isField = true) (hl : ls.all isLink = true) : ∀ d ∈ fs ++ ls, ∃ a r, d = .tup (a :: r) := fun d hd => by
  rcases List.mem_append.mp hd with z | z
  · exact (field_name (List.all_eq_true.mp hf d z)).2
  · obtain ⟨_, a, b, r, e, _⟩ := link_name (List.all_eq_true.mp hl d z)
    exact ⟨a, b :: r, e⟩
theorem cols_pure {fs ls : List D} (hf : fs.all isField = true) (hl : ls.all isLink = true) : D.pures (fs ++ ls) = true := pures_mem'.mpr fun d hd => by
  rcases List.mem_append.mp hd with z | z
  · exact fit_pure d (sane_fit (by omega) d (field_sane (List.all_eq_true.mp hf d z)).1)
  · exact fit_pure d (sane_fit (by omega) d (link_sane (List.all_eq_true.mp hl d z)).1)
def F2 : List D := [.str [102], .str [103, 103]]
def K2 : List D := [.str [109], .str [110, 110]]
def N4 : List D := [.str [97], .str [98, 98], .str [99, 97, 116], .str [100, 117, 110, 101]]
theorem cut_lst (xs : List D) (n : Nat) (h : n ≤ xs.length) (M : Mem) : cutD (.lst xs) none (some (n : Nat)) M = some (.lst (xs.take n)) := by
  simp only [cutD, d_lst]
  rw [cut_take xs n h]
theorem F2_word : ∀ x ∈ F2, isWord x 1 = true := by simp [F2, isWord, letters]
theorem K2_word : ∀ x ∈ K2, isWord x 1 = true := by simp [K2, isWord, letters]
theorem N4_word : ∀ x ∈ N4, isWord x 1 = true := by simp [N4, isWord, letters]
/-- the names of the columns differ -/
theorem nodup_cols (n m : Nat) (hn : n ≤ 2) (hm : m ≤ 2) : nodupB (F2.take n ++ K2.take m) = true := by
  have : ∀ xs ∈ [[], [D.str [102]], F2], ∀ ys ∈ [[], [D.str [109]], K2], nodupB (xs ++ ys) = true := by
    simp [nodupB, F2, K2, D.once, D.beq]
  refine this _ ?_ _ ?_
  · rcases n with _ | _ | _ | n
    · simp
    · simp [F2]
    · simp [F2]
    · omega
  · rcases m with _ | _ | _ | m
    · simp
    · simp [K2]
    · simp [K2]
    · omega
noncomputable def restB : EvS := sCons (sLet 13 (eN srtD [eLc (eIt (eB addD (eV 4) (eV 5))) (.name 14) [14] tYes (eB ixD (eV 14) (eC (.int 0)))]))
    (sLet 2 (eB addD (eV 2) (eTup [eTup [eV 3, eV 4, eV 5, eCall ev__law_keys [eV 0, eV 13]]])))
theorem rest_ok (M : Mem) (i : Nat) (b : Int) (hs : SrcAt M i b) (hb : b + 10 ≤ 1000000000) (q1 q6 q7 q8 q9 q10 q11 q12 q13 q14 : Option D) (found fs ls : List D) (x : D) (hx : isWord x 1 = true) (hfo : found.length ≤ 10)
    (hf : fs.all isField = true) (hl : ls.all isLink = true) (fl : fs.length ≤ 2) (ll : ls.length ≤ 2) (ne : (fs ++ ls).isEmpty = false) (nd : nodupB (namesOf fs ls) = true) :
    ∃ ks q13' M', restB [some (.ref i), q1, some (.tup found), some x, some (.tup fs), some (.tup ls), q6, q7, q8, q9, q10, q11, q12, q13, q14] M = .nx [some (.ref i), q1, some (.tup (found ++ [.tup [x, .tup fs, .tup ls, .tup ks]])), some x, some (.tup fs), some (.tup ls), q6, q7, q8, q9, q10, q11, q12, q13', q14] M'
      ∧ isTable (.tup [x, .tup fs, .tup ls, .tup ks]) = true ∧ SrcAt M' i (b + 3) ∧ But i M M' := by
  have nn := names_strs hf hl
  have nlen : (namesOf fs ls).length ≤ 4 := by
    unfold namesOf
    rw [List.length_map, List.length_append]
    omega
  have sn : D.sort (namesOf fs ls) ≠ [] := fun z => by
    have h1 := sort_len (namesOf fs ls)
    rw [z] at h1
    unfold namesOf at h1
    rw [List.length_map] at h1
    cases he : fs ++ ls with
    | nil => rw [he] at ne; cases ne
    | cons a r => rw [he] at h1; simp at h1
  obtain ⟨ks, M3, e3, k1, k2, k3, s3, b3⟩ := keys_ok M i b (D.sort (namesOf fs ls)) hs (by omega) (sort_strs nn) sn (by rw [sort_len]; omega)
  have hlim : (fs ++ ls).length ≤ 1000 := by rw [List.length_append]; omega
  have adc : ∀ M, addD (.tup fs) (.tup ls) M = some (.tup (fs ++ ls)) := fun M => add_tup (by omega) M
  have lc : eLc (eIt (eB addD (eV 4) (eV 5))) (.name 14) [14] tYes (eB ixD (eV 14) (eC (.int 0))) [some (.ref i), q1, some (.tup found), some x, some (.tup fs), some (.tup ls), q6, q7, q8, q9, q10, q11, q12, q13, q14] M = .ok (.lst (namesOf fs ls)) M := by
    refine lc_map (src := ⟨fs ++ ls, [], M⟩) head0 (by simp [adc]) (le_lim hlim) (src_ok _ _ _) fun d hd => ?_
    obtain ⟨a, r, rfl⟩ := cols_shape hf hl d hd
    simp
    rfl
  have so := srt_strs nn (by omega) M
  have ad : ∀ M, addD (.tup found) (.tup [.tup [x, .tup fs, .tup ls, .tup ks]]) M = some (.tup (found ++ [.tup [x, .tup fs, .tup ls, .tup ks]])) := fun M => add_tup (by simp; omega) M
  refine ⟨ks, some (.lst (D.sort (namesOf fs ls))), M3, ?_, ?_, s3, b3⟩
  · unfold restB
    simp [lc, so, e3, ad]
  · have kk : ks.all (isKey (namesOf fs ls)) = true := List.all_eq_true.mpr fun k hk => isKey_sort (k2 k hk)
    have c1 : ((fs.length : Int) ≤ 4) := by omega
    have c2 : ((ls.length : Int) ≤ 3) := by omega
    have c3 : ((ks.length : Int) ≤ 2) := by omega
    simp only [isTable, hx, hf, hl, c1, c2, c3, ne, nd, kk, k3, decide_true, Bool.not_false, Bool.and_self]
noncomputable def tabB : EvS := (sCons (sSet (.tup [.name 4, .name 5]) (eTup [eTup [], eTup []]))
    (sCons (sFor (eIt (eSl (eLst [eC (.str [102]), eC (.str [103, 103])]) pNo (pSo (eCall ev__law_draw [eV 0, eC (.int 3)])))) (.name 6) fldB)
    (sCons (sFor (eIt (eSl (eLst [eC (.str [109]), eC (.str [110, 110])]) pNo (pSo (eCall ev__law_choice [eV 0, eLst [eC (.int 0), eC (.int 1), eC (.int 1), eC (.int 2), eC (.int 2)]])))) (.name 8) lnkB)
    (sCons (sIf (eT (eB eqD (eB addD (eV 4) (eV 5)) (eTup []))) (sLet 4 (eTup [eTup [eC (.str [102]), eC (.str [105, 110, 116]), eC (.bl true)]])) sNil)
    restB))))
theorem tab_step (M : Mem) (i : Nat) (b : Int) (hs : SrcAt M i b) (hb : b + 40 ≤ 1000000000) (names : List D) (hn : ∀ x ∈ names, isWord x 1 = true) (hne : names ≠ []) (hnl : names.length ≤ 10) (q4 q5 q6 q7 q8 q9 q10 q11 q12 q13 q14 : Option D) (found : List D) (x : D) (hx : isWord x 1 = true) (hfo : found.length ≤ 10) :
    ∃ t q4' q5' q6' q7' q8' q9' q10' q11' q12' q13' q14' M', tabB [some (.ref i), some (.lst names), some (.tup found), some x, q4, q5, q6, q7, q8, q9, q10, q11, q12, q13, q14] M = .nx [some (.ref i), some (.lst names), some (.tup (found ++ [t])), some x, q4', q5', q6', q7', q8', q9', q10', q11', q12', q13', q14'] M'
      ∧ isTable t = true ∧ head0 t = x ∧ (∀ l ∈ linksOf t, second l ∈ names) ∧ SrcAt M' i (b + 30) ∧ But i M M' := by
  obtain ⟨r, M1, e1, r0, r1, s1, k1⟩ := draw_ok M i b 3 hs (by omega) (by omega) (by omega)
  obtain ⟨n, rfl⟩ := Int.eq_ofNat_of_zero_le r0
  have n2 : n ≤ 2 := by omega
  have cf : ∀ M, cutD (.lst [.str [102], .str [103, 103]]) none (some (n : Nat)) M = some (.lst (F2.take n)) := cut_lst F2 n n2
  have fln : (F2.take n).length ≤ 2 := by rw [List.length_take]; exact Nat.le_trans (Nat.min_le_left _ _) n2
  obtain ⟨fs, q6', q7', M2, lf, f1, f2, s2, k2⟩ := fld_loop M1 M1 i (b + 1) s1 (by omega) (some (.lst names)) (some (.tup found)) (some x) (some (.tup [])) q6 q7 q8 q9 q10 q11 q12 q13 q14 (F2.take n) (fun y hy => F2_word y (List.mem_of_mem_take hy)) fln
  obtain ⟨c, M3, e3, m3, s3, k3⟩ := choice_ok M2 i (b + 1 + 4) [.int 0, .int 1, .int 1, .int 2, .int 2] s2 (by omega) (by simp) (by simp) _ (.inl rfl)
  obtain ⟨m, hm, m2⟩ : ∃ m : Nat, c = .int (m : Nat) ∧ m ≤ 2 := by
    simp only [List.mem_cons, List.not_mem_nil, or_false] at m3
    rcases m3 with rfl | rfl | rfl | rfl | rfl
    · exact ⟨0, rfl, by omega⟩
    · exact ⟨1, rfl, by omega⟩
    · exact ⟨1, rfl, by omega⟩
    · exact ⟨2, rfl, by omega⟩
    · exact ⟨2, rfl, by omega⟩
  subst hm
  have ck : ∀ M, cutD (.lst [.str [109], .str [110, 110]]) none (some (m : Nat)) M = some (.lst (K2.take m)) := cut_lst K2 m m2
  have kln : (K2.take m).length ≤ 2 := by rw [List.length_take]; exact Nat.le_trans (Nat.min_le_left _ _) m2
  obtain ⟨ls, q8', q9', q10', q11', q12', M4, lk, g1, g2, g3, s4, k4⟩ := lnk_loop M3 M3 i (b + 1 + 4 + 1) s3 (by omega) names hn hne hnl (some (.tup found)) (some x) (some (.tup fs)) q6' q7' q8 q9 q10 q11 q12 q13 q14 (K2.take m) (fun y hy => K2_word y (List.mem_of_mem_take hy)) kln
  have fsl : fs.length ≤ 2 := by rw [← List.length_map (f := head0), f2]; exact fln
  have lsl : ls.length ≤ 2 := by rw [← List.length_map (f := head0), g2]; exact kln
  have adc : ∀ M, addD (.tup fs) (.tup ls) M = some (.tup (fs ++ ls)) := fun M => add_tup (by omega) M
  have eqe : ∀ M, eqD (.tup (fs ++ ls)) (.tup []) M = some (.bl (fs ++ ls).isEmpty) := fun M => eq_empty (cols_pure f1 g1) M
  cases hem : (fs ++ ls).isEmpty with
  | false =>
    have nd : nodupB (namesOf fs ls) = true := by
      unfold namesOf
      rw [List.map_append, f2, g2]
      exact nodup_cols n m n2 m2
    obtain ⟨ks, q13', M5, e5, t5, s5, k5⟩ := rest_ok M4 i (b + 1 + 4 + 1 + 6) s4 (by omega) (some (.lst names)) q6' q7' q8' q9' q10' q11' q12' q13 q14 found fs ls x hx hfo f1 g1 fsl lsl hem nd
    refine ⟨_, some (.tup fs), some (.tup ls), q6', q7', q8', q9', q10', q11', q12', q13', q14, M5, ?_, t5, rfl, g3, s5.mono (by omega), (((k1.trans k2).trans k3).trans k4).trans k5⟩
    unfold tabB
    simp [e1, cf, lf, e3, ck, lk, adc, eqe, hem]
    exact e5
  | true =>
    have hfs : fs = [] := by cases fs with
      | nil => rfl
      | cons _ _ => cases hem
    have hls : ls = [] := by cases ls with
      | nil => rfl
      | cons _ _ => subst hfs; cases hem
    subst hfs hls
    have f1' : [D.tup [.str [102], .str [105, 110, 116], .bl true]].all isField = true := by
      show (isField (.tup [.str [102], .str tInt, .bl true]) && true) = true
      simp [isField, isWord, isSort, isBl, letters]
    have nd : nodupB (namesOf [.tup [.str [102], .str [105, 110, 116], .bl true]] []) = true := nodup_cols 1 0 (by omega) (by omega)
    obtain ⟨ks, q13', M5, e5, t5, s5, k5⟩ := rest_ok M4 i (b + 1 + 4 + 1 + 6) s4 (by omega) (some (.lst names)) q6' q7' q8' q9' q10' q11' q12' q13 q14 found [.tup [.str [102], .str [105, 110, 116], .bl true]] [] x hx hfo f1' rfl (by simp) (by simp) rfl nd
    refine ⟨_, some (.tup [.tup [.str [102], .str [105, 110, 116], .bl true]]), some (.tup []), q6', q7', q8', q9', q10', q11', q12', q13', q14, M5, ?_, t5, rfl, (fun l h => nomatch h), s5.mono (by omega), (((k1.trans k2).trans k3).trans k4).trans k5⟩
    unfold tabB
    simp [e1, cf, lf, e3, ck, lk, adc, eqe]
    exact e5
end Mk
end

section
set_option maxHeartbeats 4000000
/-! Pl10: the plain law of k01. -/
open PySem PySem.Spec PyProof.Rows L2
namespace Mk
noncomputable def scmB : EvS := (sCons (sLet 1 (eSl (eLst [eC (.str [97]), eC (.str [98, 98]), eC (.str [99, 97, 116]), eC (.str [100, 117, 110, 101])]) pNo (pSo (eB addD (eC (.int 1)) (eCall ev__law_draw [eV 0, eCall ev__law_choice [eV 0, eLst [eC (.int 2), eC (.int 3), eC (.int 4)]]])))))
    (sCons (sLet 2 (eTup []))
    (sCons (sFor (eIt (eV 1)) (.name 3) tabB)
    (sRet (eV 2)))))
theorem scmB_eq : b__law_schema = scmB := rfl
theorem N4_take (n : Nat) (h : n ≤ 4) (h1 : 1 ≤ n) : rising (N4.take n) = true ∧ (N4.take n).length = n ∧ N4.take n ≠ [] := by
  rcases n with _ | _ | _ | _ | _ | n
  · omega
  · simp [N4, rising]
  · simp [N4, rising, D.ltb] <;> decide
  · simp [N4, rising, D.ltb] <;> decide
  · simp [N4, rising, D.ltb] <;> decide
  · omega
theorem schema_ok2 (M : Mem) (i : Nat) (b : Int) (hs : SrcAt M i b) (hb : b + 300 ≤ 1000000000) :
    ∃ r M', ev__law_schema [.ref i] M = .ok r M' ∧ isSchema r = true ∧ SrcAt M' i (b + 200) ∧ But i M M' ∧ ∃ ts n, r = .tup ts ∧ 1 ≤ n ∧ n ≤ 4 ∧ ts.map head0 = N4.take n := by
  obtain ⟨c, M1, e1, m1, s1, k1⟩ := choice_ok M i b [.int 2, .int 3, .int 4] hs (by omega) (by simp) (by simp) _ (.inl rfl)
  obtain ⟨c, rfl, c0, c4⟩ : ∃ z : Int, c = .int z ∧ 0 < z ∧ z ≤ 4 := by
    simp only [List.mem_cons, List.not_mem_nil, or_false] at m1
    rcases m1 with rfl | rfl | rfl
    · exact ⟨2, rfl, by omega, by omega⟩
    · exact ⟨3, rfl, by omega, by omega⟩
    · exact ⟨4, rfl, by omega, by omega⟩
  obtain ⟨r, M2, e2, r0, r1, s2, k2⟩ := draw_ok M1 i (b + 1) c s1 (by omega) c0 (by omega)
  obtain ⟨n, hn⟩ := Int.eq_ofNat_of_zero_le (show 0 ≤ 1 + r by omega)
  have n1 : 1 ≤ n := by omega
  have n4 : n ≤ 4 := by omega
  obtain ⟨t1, t2, t3⟩ := N4_take n n4 n1
  have cn : ∀ M, cutD (.lst [.str [97], .str [98, 98], .str [99, 97, 116], .str [100, 117, 110, 101]]) none (some (1 + r)) M = some (.lst (N4.take n)) := fun M => by
    rw [hn]
    exact cut_lst N4 n n4 M
  have wn : ∀ x ∈ N4.take n, isWord x 1 = true := fun x hx => N4_word x (List.mem_of_mem_take hx)
  obtain ⟨ρ2, M3, hloop, found, q3, q4, q5, q6, q7, q8, q9, q10, q11, q12, q13, q14, rfl, f1, f2, f3, s3, k3⟩ := loop_inv (ok := Src.ok ⟨N4.take n, [], M2⟩) (t := .name 3) (body := tabB) (all := N4.take n)
    (fun k ρ M' => ∃ found q3 q4 q5 q6 q7 q8 q9 q10 q11 q12 q13 q14, ρ = [some (.ref i), some (.lst (N4.take n)), some (.tup found), q3, q4, q5, q6, q7, q8, q9, q10, q11, q12, q13, q14] ∧ found.all isTable = true ∧ found.map head0 = (N4.take n).take k ∧ (∀ t ∈ found, ∀ l ∈ linksOf t, second l ∈ N4.take n) ∧ SrcAt M' i (b + 2 + 30 * (k : Nat)) ∧ But i M2 M') (fun _ _ _ _ => src_ok _ _ _)
    (fun k d ρ M' hd ⟨found, q3, q4, q5, q6, q7, q8, q9, q10, q11, q12, q13, q14, hρ, f1, f2, f3, s, kk⟩ => by
      subst hρ
      have hk := at_lt hd
      have fl : found.length ≤ 10 := by
        have := congrArg List.length f2
        rw [List.length_map, List.length_take] at this
        omega
      obtain ⟨t, a4, a5, a6, a7, a8, a9, a10, a11, a12, a13, a14, M3, e3, g1, g2, g3, s3, k3⟩ := tab_step M' i (b + 2 + 30 * (k : Nat)) s (by omega) (N4.take n) wn t3 (by omega) q4 q5 q6 q7 q8 q9 q10 q11 q12 q13 q14 found d (wn d (List.mem_of_getElem? hd)) fl
      refine ⟨_, w_name _ _ _ _, _, M3, e3, found ++ [t], some d, a4, a5, a6, a7, a8, a9, a10, a11, a12, a13, a14, rfl, ?_, ?_, ?_, s3.mono (by omega), kk.trans k3⟩
      · rw [List.all_append, f1]
        simp [g1]
      · rw [List.map_append, f2, take_at hd]
        simp [g2]
      · intro t' ht
        rcases List.mem_append.mp ht with z | z
        · exact f3 t' z
        · rw [List.mem_singleton.mp z]; exact g3) (N4.take n).length 0
      [some (.ref i), some (.lst (N4.take n)), some (.tup []), none, none, none, none, none, none, none, none, none, none, none, none] M2 (Nat.add_zero _)
      ⟨[], none, none, none, none, none, none, none, none, none, none, none, none, rfl, rfl, rfl, (fun t h => nomatch h), s2.mono (by omega), But.refl i M2⟩
  rw [List.drop_zero] at hloop
  rw [List.take_length] at f2
  have fl : found.length = n := by rw [← List.length_map (f := head0), f2, t2]
  refine ⟨.tup found, M3, ?_, ?_, s3.mono (by omega), (k1.trans k2).trans k3, found, n, rfl, n1, n4, f2⟩
  · unfold ev__law_schema
    rw [w_fn, scmB_eq]
    unfold scmB
    simp [e1, e2, cn, hloop]
  · have c1 : (1 ≤ (found.length : Int)) := by omega
    have c2 : ((found.length : Int) ≤ 4) := by omega
    have c3 : (found.all fun t => (linksOf t).all fun l => (found.map head0).any fun z => z.beq (second l)) = true := List.all_eq_true.mpr fun t ht => List.all_eq_true.mpr fun l hl => by
      rw [f2]
      have m := f3 t ht l hl
      have kd : (second l).keyed = true := by
        have w := word_str (wn _ m)
        cases hq : second l with
        | str x => simp [D.keyed]
        | _ => rw [hq] at w; cases w
      exact List.any_eq_true.mpr ⟨_, m, beq_refl _ kd⟩
    simp only [isSchema, c1, c2, f1, f2, t1, decide_true, Bool.and_self, Bool.true_and]
    rw [f2] at c3
    exact c3
theorem schema_ok (M : Mem) (i : Nat) (b : Int) (hs : SrcAt M i b) (hb : b + 300 ≤ 1000000000) :
    ∃ r M', ev__law_schema [.ref i] M = .ok r M' ∧ isSchema r = true ∧ SrcAt M' i (b + 200) ∧ But i M M' := by
  obtain ⟨r, M', e, h, s, k, _⟩ := schema_ok2 M i b hs hb
  exact ⟨r, M', e, h, s, k⟩
theorem source_ok (z : Int) (M : Mem) : ∃ M', ev__law_source [.int z, .int 1] M = .ok (.ref M.length) M' ∧ SrcAt M' M.length 1 := by
  have p := pow_ok 10 18 (by omega) (by omega) (by omega)
  have p' : ∀ M : Mem, powD (.int 10) (.int 18) M = some (.int (10 ^ 18)) := p
  have q := mod_ok z 2147483579 (by omega)
  by_cases h : (10 : Int) ^ 18 ≤ z
  · refine ⟨M ++ [.lst [.int (z - 10 ^ 18), .int (z % 2147483579), .int 1]], ?_, ?_⟩
    · unfold ev__law_source
      rw [w_fn]
      unfold b__law_source
      have h' : decide ((10 : Int) ^ 18 ≤ z) = true := decide_eq_true h
      simp only [w_sCons, w_sIf, w_eT, w_eB, w_eV, w_eC, w_sRet, w_eNew, w_aL0, w_aL1, List.map_cons, List.map_nil, List.length_cons, List.length_nil, List.cons_append, List.nil_append, List.getElem?_cons_zero, List.getElem?_cons_succ, Res.bind_ok, p', q, ge_int, sub_int, w_asT, out_some, ofR_ok, h', ifK_true, fnR_rt, SR.then_rt]
    · exact ⟨z - 10 ^ 18, z % 2147483579, 1, by simp, by omega, Int.emod_nonneg _ (by omega), Int.emod_lt_of_pos _ (by omega), by omega, by omega⟩
  · refine ⟨M ++ [.lst [.int 0, .int (z % 2147483579), .int 1]], ?_, ?_⟩
    · unfold ev__law_source
      rw [w_fn]
      unfold b__law_source
      have h' : decide ((10 : Int) ^ 18 ≤ z) = false := decide_eq_false h
      simp [p', q, h', -Int.reducePow]
    · exact ⟨0, z % 2147483579, 1, by simp, by omega, Int.emod_nonneg _ (by omega), Int.emod_lt_of_pos _ (by omega), by omega, by omega⟩
/-! ### the law -/
theorem isnt_bl (a b : Bool) (M : Mem) : isNotD (.bl a) (.bl b) M = some (.bl (!(a == b))) := rfl
noncomputable def inB1 : EvS := (sCons (sLet 5 (eCall (ev__law_spoilt 12) [eV 2, eV 3]))
    (sCons (sIf (eT (eB eqD (eB modD (eV 4) (eC (.int 3))) (eC (.int 2)))) (sLet 5 (eCall (ev__law_spoilt 12) [eV 2, eV 5])) sNil)
    (sIf (tNot (eT (eCall (ev__law_equal 12) [eCall ev_is_schema [eV 5], eCall ev__law_is_schema [eV 5]]))) (sRet (eC (.bl false))) sNil)))
theorem same_ok (v : D) (M : Mem) (h : v.fit = true) : ev__law_equal 12 [.bl (isSchema v), .bl (isSchema v)] M = .ok (.bl true) M := by
  have := law_equal_ok 12 (.bl (isSchema v)) (.bl (isSchema v)) M (by simp) (by simp) (by simp [D.depth]) (by simp [D.depth])
  rw [eqb_refl] at this
  exact this
theorem inner_step (M : Mem) (i : Nat) (b : Int) (hs : SrcAt M i b) (hb : b + 100 ≤ 1000000000) (z : Int) (v : D) (hv : v.sane 4 = true) (hd : v.depth ≤ 4) (q0 q1 q5 q6 q7 q8 q9 q10 : Option D) :
    ∃ q5' M', inB1 [q0, q1, some (.ref i), some v, some (.int z), q5, q6, q7, q8, q9, q10] M = .nx [q0, q1, some (.ref i), some v, some (.int z), q5', q6, q7, q8, q9, q10] M' ∧ SrcAt M' i (b + 96) ∧ But i M M' := by
  obtain ⟨w, M1, e1, s1, d1, t1, k1⟩ := spoilt_ok 12 M i b v 4 hs (by omega) hv (by omega) (by omega) (by omega)
  have md := mod_ok z 3 (by omega)
  by_cases hz : z % 3 = 2
  · obtain ⟨u, M2, e2, s2, d2, t2, k2⟩ := spoilt_ok 12 M1 i (b + 48) w 5 (t1.mono (by omega)) (by omega) s1 (by omega) (by omega) (by omega)
    have fu := sane_fit (by omega) u s2
    refine ⟨some u, M2, ?_, t2.mono (by omega), k1.trans k2⟩
    unfold inB1
    simp [e1, md, hz, e2, is_schema_ok u M2 fu, law_is_schema_ok u M2 fu, same_ok u M2 fu]
  · have fw := sane_fit (by omega) w s1
    refine ⟨some w, M1, ?_, t1.mono (by omega), k1⟩
    unfold inB1
    simp [e1, md, hz, is_schema_ok w M1 fw, law_is_schema_ok w M1 fw, same_ok w M1 fw]
theorem inner_loop (M M0 : Mem) (i : Nat) (b : Int) (hs : SrcAt M i b) (hb : b + 2000 ≤ 1000000000) (v : D) (hv : v.sane 4 = true) (hd : v.depth ≤ 4) (q0 q1 q4 q5 q6 q7 q8 q9 q10 : Option D) :
    ∃ q4' q5' M', loop (Src.ok ⟨intsD 0 14, [], M0⟩) (.name 4) inB1 (intsD 0 14) [q0, q1, some (.ref i), some v, q4, q5, q6, q7, q8, q9, q10] M = .nx [q0, q1, some (.ref i), some v, q4', q5', q6, q7, q8, q9, q10] M' := by
  have hil : (intsD 0 14).length = 14 := by simp [intsD]
  obtain ⟨ρ2, M2, hloop, q4', q5', rfl, s2⟩ := loop_inv (ok := Src.ok ⟨intsD 0 14, [], M0⟩) (t := .name 4) (body := inB1) (all := intsD 0 14)
    (fun k ρ M' => ∃ q4' q5', ρ = [q0, q1, some (.ref i), some v, q4', q5', q6, q7, q8, q9, q10] ∧ SrcAt M' i (b + 96 * (k : Nat))) (fun _ _ _ _ => src_ok _ _ _)
    (fun k d ρ M' hd' ⟨q4', q5', hρ, s⟩ => by
      subst hρ
      have hk := at_lt hd'
      rw [hil] at hk
      obtain ⟨_, rfl⟩ := intsD_get hd'
      obtain ⟨q, M3, e3, s3, k3⟩ := inner_step M' i (b + 96 * (k : Nat)) s (by omega) (0 + (k : Nat)) v hv hd q0 q1 q5' q6 q7 q8 q9 q10
      exact ⟨_, w_name _ _ _ _, _, M3, e3, _, _, rfl, s3.mono (by omega)⟩) 14 0 [q0, q1, some (.ref i), some v, q4, q5, q6, q7, q8, q9, q10] M (by rw [hil])
    ⟨q4, q5, rfl, hs.mono (by omega)⟩
  rw [List.drop_zero] at hloop
  exact ⟨q4', q5', M2, hloop⟩
noncomputable def outB1 : EvS := (sCons (sLet 2 (eCall ev__law_source [eV 1, eC (.int 1)]))
    (sCons (sLet 3 (eCall ev__law_schema [eV 2]))
    (sCons (sIf (eT (eB isNotD (eCall ev_is_schema [eV 3]) (eC (.bl true)))) (sRet (eC (.bl false))) sNil)
    (sFor (eRng [eC (.int 14)]) (.name 4) inB1))))
theorem rng14 (ρ : Sl) (M : Mem) : eRng [eC (.int 14)] ρ M = .ok ⟨intsD 0 14, [], M⟩ M := by
  have f : fit62 ((14 : Nat) : Int) = true := by decide
  have r : rngS [.int ((14 : Nat) : Int)] M = some ⟨intsD 0 14, [], M⟩ := by
    simp only [rngS]
    rw [if_pos f]
    rfl
  exact rng_small (n := 14) (by simp) r
theorem outer_step (M : Mem) (z : Int) (q0 q2 q3 q4 q5 q6 q7 q8 q9 q10 : Option D) :
    ∃ q2' q3' q4' q5' M', outB1 [q0, some (.int z), q2, q3, q4, q5, q6, q7, q8, q9, q10] M = .nx [q0, some (.int z), q2', q3', q4', q5', q6, q7, q8, q9, q10] M' := by
  obtain ⟨M1, e1, s1⟩ := source_ok z M
  obtain ⟨v, M2, e2, v2, s2, k2⟩ := schema_ok M1 M.length 1 s1 (by omega)
  obtain ⟨v3, v4⟩ := schema_sane v2
  have fv := sane_fit (by omega) v v3
  obtain ⟨q4', q5', M3, e3⟩ := inner_loop M2 M2 M.length (1 + 200) s2 (by omega) v v3 v4 q0 (some (.int z)) q4 q5 q6 q7 q8 q9 q10
  refine ⟨some (.ref M.length), some v, q4', q5', M3, ?_⟩
  unfold outB1
  simp [e1, e2, is_schema_ok v M2 fv, v2, isnt_bl, rng14, e3, -w_eRng]
theorem cut12 (xs : List D) : cut xs none (some 12) = xs.take 12 := by
  by_cases h : 12 ≤ xs.length
  · exact cut_take xs 12 h
  · unfold cut
    simp only [HT.sIx, List.drop_zero]
    have e : xs.take 12 = xs := List.take_of_length_le (by omega)
    rw [e, if_neg (by omega)]
    apply List.take_of_length_le
    have : Int.toNat 12 = 12 := rfl
    omega
theorem outer_loop (ns : List Int) (M M0 : Mem) (h0 : ∀ d ∈ (ns.map D.int), ∃ z, d = .int z) (q0 q1 q2 q3 q4 q5 q6 q7 q8 q9 q10 : Option D) :
    ∃ q1' q2' q3' q4' q5' M', loop (Src.ok ⟨(ns.map D.int), [], M0⟩) (.name 1) outB1 (ns.map D.int) [q0, q1, q2, q3, q4, q5, q6, q7, q8, q9, q10] M = .nx [q0, q1', q2', q3', q4', q5', q6, q7, q8, q9, q10] M' := by
  obtain ⟨ρ2, M2, hloop, q1', q2', q3', q4', q5', rfl⟩ := loop_inv (ok := Src.ok ⟨ns.map D.int, [], M0⟩) (t := .name 1) (body := outB1) (all := ns.map D.int)
    (fun k ρ M' => ∃ q1' q2' q3' q4' q5', ρ = [q0, q1', q2', q3', q4', q5', q6, q7, q8, q9, q10]) (fun _ _ _ _ => src_ok _ _ _)
    (fun k d ρ M' hd' ⟨q1', q2', q3', q4', q5', hρ⟩ => by
      subst hρ
      obtain ⟨z, rfl⟩ := h0 d (List.mem_of_getElem? hd')
      obtain ⟨a, b, c, e, M3, e3⟩ := outer_step M' z q0 q2' q3' q4' q5' q6 q7 q8 q9 q10
      exact ⟨_, w_name _ _ _ _, _, M3, e3, _, _, _, _, _, rfl⟩) (ns.map D.int).length 0 [q0, q1, q2, q3, q4, q5, q6, q7, q8, q9, q10] M (Nat.add_zero _)
    ⟨q1, q2, q3, q4, q5, rfl⟩
  rw [List.drop_zero] at hloop
  exact ⟨q1', q2', q3', q4', q5', M2, hloop⟩
end Mk
end

section
set_option maxHeartbeats 4000000
/-! Pt0: comprehensions and walks over lists of typed things. -/
open PySem PySem.Spec PyProof.Rows L2
namespace Mk
theorem comp_T {α : Type} {ok : Mem → Prop} {t : Tg} {test : EvT} {elt : Ev} {ρw : Sl} {M : Mem} (enc : α → D) (p : α → Bool) (f : α → D) (hok : ok M) : ∀ {xs : List α},
    (∀ x ∈ xs, ∃ ρ1, t.set (enc x) ρw M = some ρ1 ∧ test ρ1 M = .ok (p x) M ∧ (p x = true → elt ρ1 M = .ok (f x) M)) → comp ok t test elt ρw (xs.map enc) M = .ok ((xs.filter p).map f) M
  | [], _ => by unfold comp; rw [List.map_nil]; simp only; rw [if_pos hok]; rfl
  | x :: xs, h => by
    obtain ⟨ρ1, h1, h2, h3⟩ := h x List.mem_cons_self
    have ih := comp_T enc p f hok (xs := xs) fun y hy => h y (List.mem_cons_of_mem _ hy)
    rw [List.map_cons]
    unfold comp
    rw [if_pos hok, h1]
    simp only [h2, noX_ok', Res.bind_ok]
    by_cases hp : p x = true
    · rw [if_pos hp, h3 hp, List.filter_cons_of_pos hp]
      simp only [noX_ok', Res.bind_ok, ih]
      rfl
    · rw [if_neg hp, ih, List.filter_cons_of_neg hp]
theorem comp2_T {α β : Type} {ok : Mem → Prop} {t t1 : Tg} {test test1 : EvT} {it1 : EvI} {elt : Ev} {ρw : Sl} {vs1 : List Nat} {M : Mem} (enc : α → D) (enc1 : β → D) (inner : α → List β) (p : α → β → Bool) (f : α → β → D) (hok : ok M) : ∀ {xs : List α},
    (∀ x ∈ xs, ∃ ρ1, t.set (enc x) ρw M = some ρ1 ∧ test ρ1 M = .ok true M ∧ it1 ρ1 M = .ok ⟨(inner x).map enc1, [], M⟩ M ∧ ∀ y ∈ inner x, ∃ ρ2, t1.set (enc1 y) (wipeE ρ1 vs1) M = some ρ2 ∧ test1 ρ2 M = .ok (p x y) M ∧ (p x y = true → elt ρ2 M = .ok (f x y) M)) →
      comp2 ok t test it1 t1 test1 elt ρw vs1 (xs.map enc) M = .ok (xs.flatMap fun x => ((inner x).filter (p x)).map (f x)) M
  | [], _ => by unfold comp2; rw [List.map_nil]; simp only; rw [if_pos hok]; rfl
  | x :: xs, h => by
    obtain ⟨ρ1, h1, h2, h3, h4⟩ := h x List.mem_cons_self
    have ih := comp2_T enc enc1 inner p f hok (xs := xs) fun y hy => h y (List.mem_cons_of_mem _ hy)
    have hin := comp_T (ok := Src.ok ⟨(inner x).map enc1, [], M⟩) (t := t1) (test := test1) (elt := elt) (ρw := wipeE ρ1 vs1) (M := M) enc1 (p x) (f x) (src_ok _ _ _) (xs := inner x) h4
    rw [List.map_cons]
    unfold comp2
    rw [if_pos hok, h1]
    simp only [h2, noX_ok', Res.bind_ok, if_true, h3, hin, ih, List.flatMap_cons]
section
variable {α β : Type} {it : EvI} {own : List Nat} {test : EvT} {elt : Ev} {ρ : Sl} {M M1 : Mem} {i j k : Nat}
theorem lcT {t : Tg} (enc : α → D) (p : α → Bool) (f : α → D) {xs : List α} {kp : List Nat} {M0 : Mem} (hi : it ρ M = .ok ⟨xs.map enc, kp, M0⟩ M1) (hok : Src.ok ⟨xs.map enc, kp, M0⟩ M1) (hl : xs.length ≤ 1000)
    (h : ∀ x ∈ xs, ∃ ρ1, t.set (enc x) (wipeE ρ own) M1 = some ρ1 ∧ test ρ1 M1 = .ok (p x) M1 ∧ (p x = true → elt ρ1 M1 = .ok (f x) M1)) : eLc it t own test elt ρ M = .ok (.lst ((xs.filter p).map f)) M1 := by
  have hl2 : (xs.map enc).length ≤ lim := by rw [List.length_map]; exact le_lim hl
  unfold eLc
  rw [hi]
  simp only [Res.bind_ok]
  rw [if_pos hl2, comp_T enc p f hok h]
/-- [f x for x in xs if p x] -/
theorem lcF (enc : α → D) (p : α → Bool) (f : α → D) {xs : List α} (hi : it ρ M = .ok ⟨xs.map enc, [], M⟩ M) (hl : xs.length ≤ 1000) (ht : ∀ x ∈ xs, test ((wipeE ρ own).set i (some (enc x))) M = .ok (p x) M)
    (he : ∀ x ∈ xs, p x = true → elt ((wipeE ρ own).set i (some (enc x))) M = .ok (f x) M) : eLc it (.name i) own test elt ρ M = .ok (.lst ((xs.filter p).map f)) M :=
  lcT enc p f hi (src_ok _ _ _) hl fun x hx => ⟨_, w_name i _ _ _, ht x hx, he x hx⟩
/-- [f x for x in xs] -/
theorem lcM (enc : α → D) (f : α → D) {xs : List α} (hi : it ρ M = .ok ⟨xs.map enc, [], M⟩ M) (hl : xs.length ≤ 1000) (he : ∀ x ∈ xs, elt ((wipeE ρ own).set i (some (enc x))) M = .ok (f x) M) : eLc it (.name i) own tYes elt ρ M = .ok (.lst (xs.map f)) M := by
  have := lcF (own := own) (test := tYes) (i := i) enc (fun _ => true) f hi hl (fun _ _ => rfl) fun x hx _ => he x hx
  rwa [List.filter_eq_self.mpr fun _ _ => rfl] at this
/-- [f x y for x in xs for y in inner x if p x y] -/
theorem lc2F {it1 : EvI} {vs1 : List Nat} {test1 : EvT} (enc : α → D) (enc1 : β → D) (inner : α → List β) (p : α → β → Bool) (f : α → β → D) {xs : List α} (hi : it ρ M = .ok ⟨xs.map enc, [], M⟩ M) (hl : (xs.flatMap fun x => ((inner x).filter (p x)).map (f x)).length ≤ 1000)
    (h1 : ∀ x ∈ xs, it1 ((wipeE ρ own).set i (some (enc x))) M = .ok ⟨(inner x).map enc1, [], M⟩ M)
    (h2 : ∀ x ∈ xs, ∀ y ∈ inner x, test1 ((wipeE ((wipeE ρ own).set i (some (enc x))) vs1).set j (some (enc1 y))) M = .ok (p x y) M)
    (h3 : ∀ x ∈ xs, ∀ y ∈ inner x, p x y = true → elt ((wipeE ((wipeE ρ own).set i (some (enc x))) vs1).set j (some (enc1 y))) M = .ok (f x y) M) :
    eLc2 it (.name i) own vs1 tYes it1 (.name j) test1 elt ρ M = .ok (.lst (xs.flatMap fun x => ((inner x).filter (p x)).map (f x))) M := by
  unfold eLc2
  rw [hi]
  simp only [Res.bind_ok]
  rw [comp2_T enc enc1 inner p f (src_ok _ _ _) fun x hx => ⟨_, w_name i _ _ _, rfl, h1 x hx, fun y hy => ⟨_, w_name j _ _ _, h2 x hx y hy, h3 x hx y hy⟩⟩]
  simp only [if_pos (le_lim hl)]
theorem w_tri (i j k : Nat) (a b c : D) (ρ : Sl) (M : Mem) : Tg.set (.tup [.name i, .name j, .name k]) (.tup [a, b, c]) ρ M = some (((ρ.set i (some a)).set j (some b)).set k (some c)) := by simp
/-- the mutable kind -/
theorem lcNT {t : Tg} (enc : α → D) (p : α → Bool) (f : α → D) {xs : List α} {kp : List Nat} {M0 : Mem} (hi : it ρ M = .ok ⟨xs.map enc, kp, M0⟩ M1) (hok : Src.ok ⟨xs.map enc, kp, M0⟩ M1) (hl : xs.length ≤ 1000)
    (h : ∀ x ∈ xs, ∃ ρ1, t.set (enc x) (wipeE ρ own) M1 = some ρ1 ∧ test ρ1 M1 = .ok (p x) M1 ∧ (p x = true → elt ρ1 M1 = .ok (f x) M1)) : eLcN it t own test elt ρ M = .ok (.ref M1.length) (M1 ++ [.lst ((xs.filter p).map f)]) := by
  have hl2 : (xs.map enc).length ≤ lim := by rw [List.length_map]; exact le_lim hl
  unfold eLcN eLcF
  rw [hi]
  simp only [Res.bind_ok]
  rw [if_pos hl2, comp_T enc p f hok h]
end
/-! ### the errors' names -/
theorem names_0 (M : Mem) : ev__law_names ⟨0, []⟩ M = .ok (.str [115, 99, 104, 101, 109, 97]) M := by rfl
theorem names_1 (M : Mem) : ev__law_names ⟨1, []⟩ M = .ok (.str [116, 97, 98, 108, 101]) M := by rfl
end Mk
end

section
set_option maxHeartbeats 4000000
/-! Pt1: schemas with types. -/
open PySem PySem.Spec PyProof.Rows L2
namespace Mk
abbrev Txt8 := List Nat
structure Fld where
  nm : Txt8
  txt : Bool
  opt : Bool
structure Lnk where
  nm : Txt8
  tg : Txt8
  opt : Bool
  rule : Txt8
structure Tbl where
  nm : Txt8
  fs : List Fld
  ls : List Lnk
  ks : List (List Txt8)
def kindD (t : Bool) : D := .str (if t then tText else tInt)
def Fld.d (f : Fld) : D := .tup [.str f.nm, kindD f.txt, .bl f.opt]
def Lnk.d (l : Lnk) : D := .tup [.str l.nm, .str l.tg, .bl l.opt, .str l.rule]
def keyD (k : List Txt8) : D := .tup (k.map D.str)
def Tbl.d (t : Tbl) : D := .tup [.str t.nm, .tup (t.fs.map Fld.d), .tup (t.ls.map Lnk.d), .tup (t.ks.map keyD)]
def Tbl.cols (t : Tbl) : List Txt8 := t.fs.map Fld.nm ++ t.ls.map Lnk.nm
abbrev Sch := List Tbl
def Sch.d (S : Sch) : D := .tup (S.map Tbl.d)
def tnames (S : Sch) : List Txt8 := S.map Tbl.nm
def wordP (n : Nat) (x : Txt8) : Prop := n ≤ x.length ∧ x.length ≤ 8 ∧ ∀ c ∈ x, c ∈ letters
def isRuleT (x : Txt8) : Prop := x = tHold ∨ x = tFollow ∨ x = tClear
structure TOk (S : Sch) (t : Tbl) : Prop where
  nm : wordP 1 t.nm
  fl : t.fs.length ≤ 4
  ll : t.ls.length ≤ 3
  fw : ∀ f ∈ t.fs, wordP 1 f.nm
  lw : ∀ l ∈ t.ls, wordP 1 l.nm ∧ wordP 1 l.tg ∧ isRuleT l.rule
  ne : t.cols ≠ []
  nd : t.cols.Nodup
  tg : ∀ l ∈ t.ls, l.tg ∈ tnames S
  kl : t.ks.length ≤ 2
  kk : ∀ k ∈ t.ks, 1 ≤ k.length ∧ k.length ≤ 3 ∧ ∀ n ∈ k, n ∈ t.cols
  kr : ∀ k ∈ t.ks, k.Pairwise (· < ·)
structure SOk (S : Sch) : Prop where
  l1 : 1 ≤ S.length
  l4 : S.length ≤ 4
  up : (tnames S).Pairwise (· < ·)
  t : ∀ t ∈ S, TOk S t
theorem lex_irrefl (x : Txt8) : ¬ x < x := List.lt_irrefl x
theorem lex_trans {x y z : Txt8} (h : x < y) (k : y < z) : x < z := List.lt_trans h k
theorem up_nodup {xs : List Txt8} (h : xs.Pairwise (· < ·)) : xs.Nodup := List.Pairwise.imp (S := fun a b => a ≠ b) (fun {a b} (h : a < b) (e : a = b) => lex_irrefl b (by rw [e] at h; exact h)) h
/-- adjacent ones rise: all do -/
theorem rise_up : ∀ {xs : List Txt8}, rising (xs.map D.str) = true → xs.Pairwise (· < ·)
  | [], _ => List.Pairwise.nil
  | [x], _ => by simp
  | x :: y :: r, h => by
    have h' : (D.ltb (.str x) (.str y) && rising ((y :: r).map D.str)) = true := by
      unfold rising at h ⊢
      simpa using h
    obtain ⟨h1, h2⟩ := Bool.and_eq_true_iff.mp h'
    have ih := rise_up h2
    have hxy : x < y := by simpa [D.ltb] using h1
    refine List.pairwise_cons.mpr ⟨fun z hz => ?_, ih⟩
    rcases List.mem_cons.mp hz with e | e
    · rw [e]; exact hxy
    · exact lex_trans hxy ((List.pairwise_cons.mp ih).1 z e)
theorem once_len' : ∀ xs : List D, (D.once xs).length ≤ xs.length
  | [] => by simp [D.once]
  | x :: xs => by
    have := once_len' xs
    unfold D.once
    split <;> simp <;> omega
theorem nodup_str : ∀ {xs : List Txt8}, nodupB (xs.map D.str) = true → xs.Nodup
  | [], _ => List.nodup_nil
  | x :: xs, h => by
    simp only [nodupB, decide_eq_true_eq, List.map_cons] at h
    have hl := once_len' (xs.map D.str)
    unfold D.once at h
    split at h
    · simp only [List.length_cons] at h
      omega
    · rename_i hc
      simp only [List.length_cons, Nat.add_right_cancel_iff] at h
      have ih := nodup_str (xs := xs) (by simp [nodupB, h])
      refine List.nodup_cons.mpr ⟨fun m => hc ?_, ih⟩
      have kd : D.keyeds (xs.map D.str) = true := mem_keyeds fun d hd => by
        obtain ⟨y, _, rfl⟩ := List.mem_map.mp hd
        simp [D.keyed]
      exact (any_beq (fun y hy => keyeds_mem kd y ((once_mem kd y).mp hy)) (by simp [D.keyed])).mpr ((once_mem kd _).mpr (List.mem_map.mpr ⟨x, m, rfl⟩))
theorem word_T {d : D} {n : Nat} (h : isWord d n = true) : ∃ x, d = .str x ∧ wordP n x := by
  cases d with
  | str x =>
    simp only [isWord, Bool.and_eq_true, decide_eq_true_eq, List.all_eq_true] at h
    exact ⟨x, rfl, by omega, by omega, h.2⟩
  | _ => simp [isWord] at h
theorem field_T {d : D} (h : isField d = true) : ∃ f : Fld, d = f.d ∧ wordP 1 f.nm := by
  unfold isField at h
  split at h
  · rename_i a b c
    simp only [Bool.and_eq_true] at h
    obtain ⟨⟨h1, h2⟩, h3⟩ := h
    obtain ⟨x, rfl, w⟩ := word_T (n := 1) h1
    cases b with
    | str y =>
      cases c with
      | bl o =>
        simp only [isSort, Bool.or_eq_true, decide_eq_true_eq] at h2
        rcases h2 with rfl | rfl
        · exact ⟨⟨x, false, o⟩, rfl, w⟩
        · exact ⟨⟨x, true, o⟩, rfl, w⟩
      | _ => simp [isBl] at h3
    | _ => simp [isSort] at h2
  · cases h
theorem link_T {d : D} (h : isLink d = true) : ∃ l : Lnk, d = l.d ∧ wordP 1 l.nm ∧ wordP 1 l.tg ∧ isRuleT l.rule := by
  unfold isLink at h
  split at h
  · rename_i a b c e
    simp only [Bool.and_eq_true] at h
    obtain ⟨⟨⟨⟨h1, h2⟩, h3⟩, h4⟩, _⟩ := h
    obtain ⟨x, rfl, w⟩ := word_T (n := 1) h1
    obtain ⟨y, rfl, w2⟩ := word_T (n := 1) h2
    cases c with
    | bl o =>
      cases e with
      | str r =>
        simp only [isRule, Bool.or_eq_true, decide_eq_true_eq] at h4
        exact ⟨⟨x, y, o, r⟩, rfl, w, w2, by rcases h4 with (h | h) | h <;> simp [isRuleT, h]⟩
      | _ => simp [isRule] at h4
    | _ => simp [isBl] at h3
  · cases h
theorem list_T {α : Type} {p : D → Bool} {enc : α → D} {q : α → Prop} (f : ∀ d, p d = true → ∃ a, d = enc a ∧ q a) : ∀ {ds : List D}, ds.all p = true → ∃ as : List α, ds = as.map enc ∧ ∀ a ∈ as, q a
  | [], _ => ⟨[], rfl, fun _ h => nomatch h⟩
  | d :: ds, h => by
    simp only [List.all_cons, Bool.and_eq_true] at h
    obtain ⟨a, rfl, ha⟩ := f d h.1
    obtain ⟨as, rfl, has⟩ := list_T f h.2
    exact ⟨a :: as, rfl, fun b hb => by
      rcases List.mem_cons.mp hb with e | e
      · rw [e]; exact ha
      · exact has b e⟩
theorem namesOf_T (fs : List Fld) (ls : List Lnk) : namesOf (fs.map Fld.d) (ls.map Lnk.d) = (fs.map Fld.nm ++ ls.map Lnk.nm).map D.str := by
  simp [namesOf, List.map_append, List.map_map, Function.comp_def, Fld.d, Lnk.d, head0]
theorem mem_strs {x : Txt8} {xs : List Txt8} (h : ((xs.map D.str).any fun z => z.beq (.str x)) = true) : x ∈ xs := by
  obtain ⟨z, hz, e⟩ := List.any_eq_true.mp h
  obtain ⟨y, hy, rfl⟩ := List.mem_map.mp hz
  have : y = x := by simpa [D.beq] using e
  rw [← this]; exact hy
theorem key_T {cs : List Txt8} {d : D} (h : isKey (cs.map D.str) d = true) : ∃ k : List Txt8, d = keyD k ∧ 1 ≤ k.length ∧ k.length ≤ 3 ∧ (∀ n ∈ k, n ∈ cs) ∧ k.Pairwise (· < ·) := by
  cases d with
  | tup ks =>
    simp only [isKey, Bool.and_eq_true, decide_eq_true_eq] at h
    obtain ⟨⟨⟨h1, h2⟩, h3⟩, h4⟩ := h
    obtain ⟨k, rfl, hk⟩ := list_T (p := fun k => isStr k && (cs.map D.str).any fun z => z.beq k) (enc := D.str) (q := fun x => x ∈ cs) (fun d hd => by
      obtain ⟨a, b⟩ := Bool.and_eq_true_iff.mp hd
      cases d with
      | str x => exact ⟨x, rfl, mem_strs b⟩
      | _ => cases a) h3
    rw [List.length_map] at h1 h2
    exact ⟨k, rfl, by omega, by omega, hk, rise_up h4⟩
  | _ => simp [isKey] at h
/-- a table, whatever its links lead to -/
theorem table_T {d : D} (h : isTable d = true) : ∃ t : Tbl, d = t.d ∧ wordP 1 t.nm ∧ t.fs.length ≤ 4 ∧ t.ls.length ≤ 3 ∧ (∀ f ∈ t.fs, wordP 1 f.nm) ∧ (∀ l ∈ t.ls, wordP 1 l.nm ∧ wordP 1 l.tg ∧ isRuleT l.rule) ∧ t.cols ≠ [] ∧ t.cols.Nodup ∧ t.ks.length ≤ 2 ∧
    (∀ k ∈ t.ks, 1 ≤ k.length ∧ k.length ≤ 3 ∧ (∀ n ∈ k, n ∈ t.cols) ∧ k.Pairwise (· < ·)) := by
  obtain ⟨n, fs, ls, ks, rfl, w, f1, f2, l1, l2, ne, nd, k1, k2, _⟩ := table_shape h
  obtain ⟨x, rfl, wx⟩ := word_T (n := 1) w
  obtain ⟨fs, rfl, hf⟩ := list_T (fun d => field_T) f2
  obtain ⟨ls, rfl, hl⟩ := list_T (fun d => link_T) l2
  rw [namesOf_T] at nd k2
  obtain ⟨ks, rfl, hk⟩ := list_T (fun d => key_T) k2
  rw [List.length_map] at f1 l1 k1
  refine ⟨⟨x, fs, ls, ks⟩, rfl, wx, f1, l1, hf, hl, fun e => ?_, nodup_str nd, k1, hk⟩
  have e : fs.map Fld.nm ++ ls.map Lnk.nm = [] := e
  obtain ⟨e1, e2⟩ := List.append_eq_nil_iff.mp e
  rw [List.map_eq_nil_iff] at e1 e2
  subst e1 e2
  simp at ne
theorem tables_T {ts : List D} (h : ts.all isTable = true) : ∃ S : Sch, ts = S.map Tbl.d ∧ ∀ t ∈ S, isTable t.d = true := by
  refine list_T (fun d hd => ?_) h
  obtain ⟨t, rfl, _⟩ := table_T hd
  exact ⟨t, rfl, hd⟩
@[simp] theorem Tbl.head (t : Tbl) : head0 t.d = .str t.nm := rfl
@[simp] theorem Tbl.links (t : Tbl) : linksOf t.d = t.ls.map Lnk.d := rfl
@[simp] theorem Lnk.sec (l : Lnk) : second l.d = .str l.tg := rfl
theorem Tbl.d_inj {s t : Tbl} (h : s.d = t.d) : s = t := by
  have finj : ∀ {a b : List Fld}, a.map Fld.d = b.map Fld.d → a = b := fun {a b} e => List.map_inj_right (f := Fld.d) (fun x y e => by
    cases x; cases y
    rename_i n1 t1 o1 n2 t2 o2
    simp only [Fld.d, D.tup.injEq, List.cons.injEq, D.str.injEq, D.bl.injEq, and_true, kindD] at e
    obtain ⟨e1, e2, e3⟩ := e
    subst e1 e3
    cases t1 <;> cases t2 <;> simp [tInt, tText] at e2 ⊢) |>.mp e
  have linj : ∀ {a b : List Lnk}, a.map Lnk.d = b.map Lnk.d → a = b := fun {a b} e => List.map_inj_right (f := Lnk.d) (fun x y e => by
    cases x; cases y
    simp only [Lnk.d, D.tup.injEq, List.cons.injEq, D.str.injEq, D.bl.injEq, and_true] at e
    obtain ⟨e1, e2, e3, e4⟩ := e
    subst e1 e2 e3 e4
    rfl) |>.mp e
  have sinj : ∀ {a b : List Txt8}, a.map D.str = b.map D.str → a = b := fun {a b} e => List.map_inj_right (f := D.str) (fun x y e => by simpa using e) |>.mp e
  have kinj : ∀ {a b : List (List Txt8)}, a.map keyD = b.map keyD → a = b := fun {a b} e => List.map_inj_right (f := keyD) (fun x y e => sinj (by simpa [keyD] using e)) |>.mp e
  cases s; cases t
  simp only [Tbl.d, D.tup.injEq, List.cons.injEq, D.str.injEq, and_true] at h
  obtain ⟨e1, e2, e3, e4⟩ := h
  rw [e1, finj e2, linj e3, kinj e4]
theorem schema_T {d : D} (h : isSchema d = true) : ∃ S : Sch, d = S.d ∧ SOk S := by
  cases d with
  | tup ts =>
    simp only [isSchema, Bool.and_eq_true, decide_eq_true_eq] at h
    obtain ⟨⟨⟨⟨h1, h2⟩, h3⟩, h4⟩, h5⟩ := h
    obtain ⟨S, rfl, hS⟩ := tables_T h3
    rw [List.length_map] at h1 h2
    have hn : (S.map Tbl.d).map head0 = (tnames S).map D.str := by simp [tnames, List.map_map, Function.comp_def]
    rw [hn] at h4 h5
    refine ⟨S, rfl, by omega, by omega, rise_up h4, fun t ht => ?_⟩
    obtain ⟨t', e, a1, a2, a3, a4, a5, a6, a7, a8, a9⟩ := table_T (hS t ht)
    obtain rfl := Tbl.d_inj e
    refine ⟨a1, a2, a3, a4, a5, a6, a7, fun l hl => ?_, a8, fun k hk => ⟨(a9 k hk).1, (a9 k hk).2.1, (a9 k hk).2.2.1⟩, fun k hk => (a9 k hk).2.2.2⟩
    have := List.all_eq_true.mp (List.all_eq_true.mp h5 t.d (List.mem_map.mpr ⟨t, ht, rfl⟩)) l.d (by rw [Tbl.links]; exact List.mem_map.mpr ⟨l, hl, rfl⟩)
    exact mem_strs (by simpa using this)
  | _ => simp [isSchema] at h
end Mk
end

section
set_option maxHeartbeats 4000000
/-! Pt2: what the program does with a schema. -/
open PySem PySem.Spec PyProof.Rows L2
namespace Mk
/-- a schema, as data too -/
structure Sc (S : Sch) : Prop where
  ok : SOk S
  is : isSchema S.d = true
theorem Sc.fit {S : Sch} (h : Sc S) : S.d.fit = true := sane_fit (by omega) _ (schema_sane h.is).1
theorem schema_Sc {d : D} (h : isSchema d = true) : ∃ S : Sch, d = S.d ∧ Sc S := by
  obtain ⟨S, rfl, hS⟩ := schema_T h
  exact ⟨S, rfl, hS, h⟩
@[simp] theorem eq_str (x y : List Nat) (M : Mem) : eqD (.str x) (.str y) M = some (.bl (decide (x = y))) := by
  have e : (x == y) = decide (x = y) := by rw [Bool.eq_iff_iff, beq_iff_eq, decide_eq_true_iff]
  simp [eqD, cmpOk, D.pure, D.depth, D.beq, e]
theorem any_mem (x : Txt8) (ys : List Txt8) : (ys.any fun y => decide (x = y)) = decide (x ∈ ys) := by
  rw [Bool.eq_iff_iff, List.any_eq_true, decide_eq_true_iff]
  constructor
  · rintro ⟨y, hy, e⟩
    rw [of_decide_eq_true e]; exact hy
  · intro h
    exact ⟨x, h, decide_eq_true rfl⟩
theorem strsOf_map : ∀ ys : List Txt8, strsOf (ys.map D.str) = some ys
  | [] => rfl
  | y :: ys => by
    simp only [List.map_cons, strsOf, strsOf_map ys]
    rfl
theorem check_schema_ok (d : D) (M : Mem) (h : d.fit = true) : ev_check_schema [d] M = ifK (isSchema d) (.ok .non M) (.exc ⟨0, []⟩ M) := by
  unfold ev_check_schema
  rw [w_fn]
  unfold b_check_schema
  cases e : isSchema d <;> simp [can_be_schema_ok d M h, e]
theorem check_schema_T {S : Sch} (h : Sc S) (M : Mem) : ev_check_schema [S.d] M = .ok .non M := by
  rw [check_schema_ok _ M h.fit, h.is]
  rfl
/-- the place of a table -/
def placeD (S : Sch) : D → D
  | .str y => if y ∈ tnames S then .int ((tnames S).idxOf y : Nat) else .non
  | _ => .non
theorem place_lc {S : Sch} (hl : S.length ≤ 400) (d : D) (M : Mem) : eLc (eIt (eV 0)) (.name 3) [3] tYes (eB ixD (eV 3) (eC (.int 0))) [some S.d, some d, none, none] M = .ok (.lst ((tnames S).map .str)) M := by
  have := lcM (own := [3]) (i := 3) (it := eIt (eV 0)) (elt := eB ixD (eV 3) (eC (.int 0))) (ρ := [some S.d, some d, none, none]) (M := M) Tbl.d (fun t => .str t.nm) (xs := S) (by simp [Sch.d]) (by omega) (fun t _ => by simp [Tbl.d])
  rw [this]
  simp [tnames]
theorem place_of_ok {S : Sch} (hl : S.length ≤ 400) (d : D) (fd : d.fit = true) (M : Mem) : ev_place_of [S.d, d] M = .ok (placeD S d) M := by
  unfold ev_place_of
  rw [w_fn]
  unfold b_place_of
  have lc := place_lc hl d M
  cases d with
  | ref i => simp [D.fit] at fd
  | nms xs => simp [D.fit] at fd
  | str y =>
    have hin := in_lst y (tnames S) M
    rw [any_mem] at hin
    by_cases hy : y ∈ tnames S
    · have hlt : (tnames S).idxOf y < (tnames S).length := List.idxOf_lt_length_iff.mpr hy
      have hk : kdLst (.lst ((tnames S).map .str)) M = true := rfl
      have hx : lixD (.lst ((tnames S).map .str)) (.str y) M = some (.int ((tnames S).idxOf y : Nat), M) := by
        simp [lixD, strsOf_map, placeOf, hlt]
      simp [lc, fd, isStr, hin, hy, hk, hx, placeD]
    · simp [lc, fd, isStr, hin, hy, placeD]
  | _ => simp [lc, fd, isStr, placeD]
theorem isnt_non (d : D) (M : Mem) : isD d .non M = some (.bl (isNon d)) := rfl
theorem check_table_ok {S : Sch} (hl : S.length ≤ 400) (d : D) (fd : d.fit = true) (M : Mem) : ev_check_table [S.d, d] M = ifK (isNon (placeD S d)) (.exc ⟨1, []⟩ M) (.ok .non M) := by
  unfold ev_check_table
  rw [w_fn]
  unfold b_check_table
  cases e : isNon (placeD S d) <;> simp [place_of_ok hl d fd M, isnt_non, e]
theorem place_in {S : Sch} {y : Txt8} (h : y ∈ tnames S) : placeD S (.str y) = .int ((tnames S).idxOf y : Nat) := by
  simp [placeD, h]
theorem check_table_in {S : Sch} (hl : S.length ≤ 400) {y : Txt8} (h : y ∈ tnames S) (hy : y.length ≤ 100) (M : Mem) : ev_check_table [S.d, .str y] M = .ok .non M := by
  rw [check_table_ok hl _ (by simp [D.fit]; omega) M, place_in h]
  rfl
theorem nodup_map_inj {α β : Type} {f : α → β} : ∀ {xs : List α}, (xs.map f).Nodup → ∀ a ∈ xs, ∀ b ∈ xs, f a = f b → a = b
  | [], _, a, ha, _, _, _ => nomatch ha
  | x :: xs, h, a, ha, b, hb, e => by
    rw [List.map_cons, List.nodup_cons] at h
    rcases List.mem_cons.mp ha with ea | ma <;> rcases List.mem_cons.mp hb with eb | mb
    · rw [ea, eb]
    · exact absurd (List.mem_map.mpr ⟨b, mb, by rw [← e, ea]⟩) h.1
    · exact absurd (List.mem_map.mpr ⟨a, ma, by rw [e, eb]⟩) h.1
    · exact nodup_map_inj h.2 a ma b mb e
theorem SOk.inj {S : Sch} (h : SOk S) {s t : Tbl} (hs : s ∈ S) (ht : t ∈ S) (e : s.nm = t.nm) : s = t := nodup_map_inj (up_nodup h.up) s hs t ht e
theorem SOk.mem {S : Sch} {t : Tbl} (ht : t ∈ S) : t.nm ∈ tnames S := List.mem_map.mpr ⟨t, ht, rfl⟩
theorem SOk.at {S : Sch} (h : SOk S) {t : Tbl} (ht : t ∈ S) : S[(tnames S).idxOf t.nm]? = some t := by
  have hlt : (tnames S).idxOf t.nm < (tnames S).length := List.idxOf_lt_length_iff.mpr (SOk.mem ht)
  have e1 : (tnames S)[(tnames S).idxOf t.nm]? = some t.nm := by rw [List.getElem?_eq_getElem hlt, List.getElem_idxOf hlt]
  generalize (tnames S).idxOf t.nm = i at e1
  unfold tnames at e1
  rw [List.getElem?_map] at e1
  obtain ⟨s, es, e2⟩ := Option.map_eq_some_iff.mp e1
  rw [es, h.inj (List.mem_of_getElem? es) ht e2]
theorem ixD_nat {d : D} {xs : List D} (hd : d = .lst xs ∨ d = .tup xs ∨ d = .nms xs) {i : Nat} {x : D} (h : xs[i]? = some x) (M : Mem) : ixD d (.int (i : Nat)) M = some x := by
  have := atI_nat (xs := xs) h
  rcases hd with rfl | rfl | rfl <;> exact this
theorem table_of_T {S : Sch} (h : Sc S) {t : Tbl} (ht : t ∈ S) (M : Mem) : ev_table_of [S.d, .str t.nm] M = .ok t.d M := by
  unfold ev_table_of
  rw [w_fn]
  unfold b_table_of
  have hw := (h.ok.t t ht).nm
  have fd : (D.str t.nm).fit = true := by simp [D.fit]; have := hw.2.1; omega
  have hl : S.length ≤ 400 := by have := h.ok.l4; omega
  have hx : ∀ M, ixD S.d (.int ((tnames S).idxOf t.nm : Nat)) M = some t.d := fun M => ixD_nat (.inr (.inl rfl)) (by rw [List.getElem?_map, h.ok.at ht]; rfl) M
  simp [place_of_ok hl _ fd, place_in (SOk.mem ht), hx]
theorem names_of_T {S : Sch} {t : Tbl} (h : TOk S t) (M : Mem) : ev_names_of [t.d] M = .ok (.nms (t.cols.map .str)) M := by
  unfold ev_names_of
  rw [w_fn]
  unfold b_names_of
  have hlim : t.fs.length + t.ls.length ≤ lim := le_lim (by have := h.fl; have := h.ll; omega)
  have lc : eLc (eIt (eB addD (eB ixD (eV 0) (eC (.int 1))) (eB ixD (eV 0) (eC (.int 2))))) (.name 1) [1] tYes (eB ixD (eV 1) (eC (.int 0))) [some t.d, none] M = .ok (.lst (t.cols.map .str)) M := by
    rw [lc_map (src := ⟨t.fs.map Fld.d ++ t.ls.map Lnk.d, [], M⟩) (M1 := M) head0 (by simp [addD, hlim, Tbl.d]) (by simpa using hlim) (by simp) fun d hd => ?_]
    · simp [Tbl.cols, List.map_append, List.map_map, Function.comp_def, Fld.d, Lnk.d, head0]
    · rcases List.mem_append.mp hd with z | z
      · obtain ⟨f, _, rfl⟩ := List.mem_map.mp z
        simp [Fld.d, head0]
      · obtain ⟨l, _, rfl⟩ := List.mem_map.mp z
        simp [Lnk.d, head0]
  simp [lc, nmsD]
theorem columns_T {S : Sch} (h : Sc S) {t : Tbl} (ht : t ∈ S) (M : Mem) : ev_columns [S.d, .str t.nm] M = .ok (.tup (t.cols.map .str)) M := by
  unfold ev_columns
  rw [w_fn]
  unfold b_columns
  have hw := (h.ok.t t ht).nm
  have hl : S.length ≤ 400 := by have := h.ok.l4; omega
  simp [check_schema_T h, check_table_in hl (SOk.mem ht) (by have := hw.2.1; omega), table_of_T h ht, names_of_T (h.ok.t t ht)]
/-- the links to a table -/
def triples (S : Sch) (nm : Txt8) : List (Txt8 × Txt8 × Txt8) := S.flatMap fun t => (t.ls.filter fun l => decide (l.tg = nm)).map fun l => (t.nm, l.nm, l.rule)
def pairs (S : Sch) (nm : Txt8) : List (Txt8 × Txt8) := S.flatMap fun t => (t.ls.filter fun l => decide (l.tg = nm)).map fun l => (t.nm, l.nm)
def triD (q : Txt8 × Txt8 × Txt8) : D := .tup [.str q.1, .str q.2.1, .str q.2.2]
def pairD (q : Txt8 × Txt8) : D := .tup [.str q.1, .str q.2]
theorem triples_len {S : Sch} (h : SOk S) (nm : Txt8) : (triples S nm).length ≤ 12 := by
  have := flatMap_len (f := fun t : Tbl => (t.ls.filter fun l => decide (l.tg = nm)).map fun l => (t.nm, l.nm, l.rule)) (n := 3) (xs := S) fun t ht => by
    rw [List.length_map]
    exact Nat.le_trans (List.length_filter_le _ _) (h.t t ht).ll
  have h4 := h.l4
  unfold triples
  omega
/-- tuples of texts can be sorted -/
theorem srt_texts {α : Type} (f : α → List Txt8) (n : Nat) (hn : 0 < n) {xs : List α} (hf : ∀ x ∈ xs, (f x).length = n) (hl : xs.length ≤ 1000) (M : Mem) : srtD [.lst (xs.map fun x => .tup ((f x).map .str))] M = some (.lst (D.sort (xs.map fun x => .tup ((f x).map .str)))) := by
  have kd : ∀ k ∈ xs.map (fun x => D.tup ((f x).map .str)), ∃ ys, k = .tup ys ∧ isStrs ys = true ∧ ys ≠ [] := fun k hk => by
    obtain ⟨x, hx, rfl⟩ := List.mem_map.mp hk
    refine ⟨_, rfl, List.all_eq_true.mpr fun d hd => ?_, fun e => ?_⟩
    · obtain ⟨y, _, rfl⟩ := List.mem_map.mp hd; rfl
    · have := hf x hx
      rw [List.map_eq_nil_iff] at e
      rw [e] at this
      simp at this
      omega
  have h1 : (xs.map fun x => D.tup ((f x).map .str)).length ≤ lim := by rw [List.length_map]; exact le_lim hl
  have al := keys_alike (ks := xs.map fun x => D.tup ((f x).map .str)) fun k hk => let ⟨ys, e, s, _⟩ := kd k hk; ⟨ys, e, s⟩
  have al2 : ((xs.map fun x => D.tup ((f x).map .str)).all fun x => (xs.map fun x => D.tup ((f x).map .str)).all fun y => x.alike y) = true := List.all_eq_true.mpr fun x hx => List.all_eq_true.mpr fun y hy => al x hx y hy
  have t1 : (xs.map fun x => D.tup ((f x).map .str)).all isTup = true := List.all_eq_true.mpr fun k hk => by
    obtain ⟨ys, rfl, _, ne⟩ := kd k hk
    cases ys with
    | nil => exact absurd rfl ne
    | cons y ys => rfl
  have pu : D.pures (xs.map fun x => D.tup ((f x).map .str)) = true := pures_mem'.mpr fun k hk => by
    obtain ⟨ys, rfl, s, _⟩ := kd k hk
    unfold D.pure
    exact strs_pure s
  have dp : D.depths (xs.map fun x => D.tup ((f x).map .str)) ≤ 100 := depths_le.mpr fun k hk => by
    obtain ⟨ys, rfl, s, _⟩ := kd k hk
    have := strs_depth s
    simp only [D.depth]
    omega
  have ok : srtOk (xs.map fun x => D.tup ((f x).map .str)) = true := by
    simp only [srtOk, h1, decide_true, pu, al2, t1, Bool.true_or, Bool.and_self, dp]
  simp only [srtD, d_lst]
  rw [if_pos ok]
theorem links_to_T {S : Sch} (h : SOk S) (nm : Txt8) (M : Mem) : ev_links_to [S.d, .str nm] M = .ok (.lst (D.sort ((triples S nm).map triD))) M := by
  unfold ev_links_to
  rw [w_fn]
  unfold b_links_to
  have hlen : (S.flatMap fun t => (t.ls.filter fun l => decide (l.tg = nm)).map fun l => triD (t.nm, l.nm, l.rule)).length ≤ 1000 := by
    have := triples_len h nm
    have e : (S.flatMap fun t => (t.ls.filter fun l => decide (l.tg = nm)).map fun l => triD (t.nm, l.nm, l.rule)) = (triples S nm).map triD := by simp [triples, List.map_flatMap, List.map_map, Function.comp_def]
    rw [e, List.length_map]
    omega
  have lc := lc2F (it := eIt (eV 0)) (own := [3, 4]) (i := 3) (j := 4) (vs1 := [4]) (it1 := eIt (eB ixD (eV 3) (eC (.int 2)))) (test1 := eT (eB eqD (eB ixD (eV 4) (eC (.int 1))) (eV 1))) (elt := eTup [eB ixD (eV 3) (eC (.int 0)), eB ixD (eV 4) (eC (.int 0)), eB ixD (eV 4) (eC (.int 3))])
    (ρ := [some S.d, some (.str nm), none, none, none]) (M := M) Tbl.d Lnk.d Tbl.ls (fun _ l => decide (l.tg = nm)) (fun t l => triD (t.nm, l.nm, l.rule)) (xs := S) (by simp [Sch.d]) hlen (fun t _ => by simp [Tbl.d]) (fun t _ l _ => by simp [Lnk.d]) (fun t _ l _ _ => by simp [Tbl.d, Lnk.d, triD])
  have e : (S.flatMap fun t => (t.ls.filter fun l => decide (l.tg = nm)).map fun l => triD (t.nm, l.nm, l.rule)) = (triples S nm).map triD := by simp [triples, List.map_flatMap, List.map_map, Function.comp_def]
  rw [e] at lc
  have st := srt_texts (fun q : Txt8 × Txt8 × Txt8 => [q.1, q.2.1, q.2.2]) 3 (by omega) (xs := triples S nm) (fun _ _ => rfl) (by have := triples_len h nm; omega) M
  have st' : srtD [.lst ((triples S nm).map triD)] M = some (.lst (D.sort ((triples S nm).map triD))) := st
  simp [lc, st']
end Mk
end

section
set_option maxHeartbeats 4000000
/-! Pt3: holders; what the laws do with a schema. -/
open PySem PySem.Spec PyProof.Rows L2
namespace Mk
/-- things sorted by their data -/
def sortBy {α : Type} (f : α → D) (xs : List α) : List α := xs.mergeSort fun a b => D.le (f a) (f b)
theorem sort_map {α : Type} (f : α → D) (xs : List α) : D.sort (xs.map f) = (sortBy f xs).map f := (List.map_mergeSort (r := fun a b => D.le (f a) (f b)) (s := D.le) (f := f) (l := xs) fun _ _ _ _ => rfl).symm
theorem sortBy_perm {α : Type} (f : α → D) (xs : List α) : (sortBy f xs).Perm xs := List.mergeSort_perm _ _
theorem sort_self {xs : List D} (h : xs.Pairwise fun a b => b.ltb a = false) : D.sort xs = xs := List.mergeSort_of_pairwise (h.imp fun {a b} (z : b.ltb a = false) => by show D.le a b = true; unfold D.le; rw [z]; rfl)
theorem texts_kd {α : Type} (f : α → List Txt8) (xs : List α) : D.keyeds (xs.map fun x => .tup ((f x).map .str)) = true ∧ ∀ x ∈ (xs.map fun x => D.tup ((f x).map .str)), ∀ y ∈ (xs.map fun x => D.tup ((f x).map .str)), x.alike y = true := by
  have kd : ∀ k ∈ xs.map (fun x => D.tup ((f x).map .str)), ∃ ys, k = .tup ys ∧ isStrs ys = true := fun k hk => by
    obtain ⟨x, hx, rfl⟩ := List.mem_map.mp hk
    refine ⟨_, rfl, List.all_eq_true.mpr fun d hd => ?_⟩
    obtain ⟨y, _, rfl⟩ := List.mem_map.mp hd; rfl
  refine ⟨mem_keyeds fun k hk => ?_, keys_alike kd⟩
  obtain ⟨ys, rfl, s⟩ := kd k hk
  exact strs_keyed_tup s
def holdD (S : Sch) (nm : Txt8) : List D := D.sort ((pairs S nm).map pairD)
theorem pairs_of (S : Sch) (nm : Txt8) : pairs S nm = (triples S nm).map fun q => (q.1, q.2.1) := by
  simp [pairs, triples, List.map_flatMap, List.map_map, Function.comp_def]
theorem lt_drop {a b : Txt8 × Txt8 × Txt8} (h : (triD b).ltb (triD a) = false) : (pairD (b.1, b.2.1)).ltb (pairD (a.1, a.2.1)) = false := by
  simp only [triD, pairD, D.ltb, D.ltbs, D.beq] at h ⊢
  by_cases h1 : (b.1 == a.1) = true
  · simp only [h1, if_true] at h ⊢
    by_cases h2 : (b.2.1 == a.2.1) = true
    · simp [h2]
    · simpa [h2] using h
  · simpa [h1] using h
theorem hold_eq (S : Sch) (nm : Txt8) : (sortBy triD (triples S nm)).map (fun q => pairD (q.1, q.2.1)) = holdD S nm := by
  have kt := texts_kd (fun q : Txt8 × Txt8 × Txt8 => [q.1, q.2.1, q.2.2]) (triples S nm)
  have kp := texts_kd (fun q : Txt8 × Txt8 => [q.1, q.2]) (pairs S nm)
  have hs := sort_le kt.1 kt.2
  have hs' : (D.sort ((triples S nm).map triD)).Pairwise fun a b => b.ltb a = false := hs
  rw [sort_map, List.pairwise_map] at hs'
  have hp : ((sortBy triD (triples S nm)).map (fun q => pairD (q.1, q.2.1))).Pairwise fun a b => b.ltb a = false := by
    rw [List.pairwise_map]
    exact hs'.imp fun {a b} h => lt_drop h
  rw [← sort_self hp]
  unfold holdD
  have pm : ((pairs S nm).map pairD).Perm ((sortBy triD (triples S nm)).map (fun q => pairD (q.1, q.2.1))) := by
    rw [pairs_of, List.map_map]
    exact ((sortBy_perm triD (triples S nm)).symm.map _)
  exact (sort_perm pm kp.1 kp.2).symm
theorem pairs_len {S : Sch} (h : SOk S) (nm : Txt8) : (pairs S nm).length ≤ 12 := by
  rw [pairs_of, List.length_map]
  exact triples_len h nm
theorem holders_T {S : Sch} (h : Sc S) {t : Tbl} (ht : t ∈ S) (M : Mem) : ev_holders [S.d, .str t.nm] M = .ok (.ref M.length) (M ++ [.lst (holdD S t.nm)]) := by
  unfold ev_holders
  rw [w_fn]
  unfold b_holders
  have hw := (h.ok.t t ht).nm
  have hl : S.length ≤ 400 := by have := h.ok.l4; omega
  have lt := links_to_T h.ok t.nm M
  rw [sort_map] at lt
  have hlen : (sortBy triD (triples S t.nm)).length ≤ 1000 := by
    rw [(sortBy_perm _ _).length_eq]
    have := triples_len h.ok t.nm
    omega
  have lc := lcNT (it := eIt (eCall ev_links_to [eV 0, eV 1])) (t := .tup [.name 2, .name 3, .name 4]) (own := [2, 3, 4]) (test := tYes) (elt := eTup [eV 2, eV 3]) (ρ := [some S.d, some (.str t.nm), none, none, none]) (M := M) (M1 := M) triD (fun _ => true) (fun q => pairD (q.1, q.2.1))
    (xs := sortBy triD (triples S t.nm)) (kp := []) (M0 := M) (by simp [lt]) (src_ok _ _ _) hlen (fun q _ => ⟨_, w_tri 2 3 4 _ _ _ _ _, rfl, fun _ => by simp [pairD]⟩)
  rw [List.filter_eq_self.mpr fun _ _ => rfl, hold_eq] at lc
  simp [check_schema_T h, check_table_in hl (SOk.mem ht) (by have := hw.2.1; omega), lc]
/-! ### the laws' own columns -/
inductive LCol where
  | f (x : Fld)
  | l (x : Lnk)
def LCol.d : LCol → D
  | .f x => .tup [.str x.nm, kindD x.txt, .bl x.opt, .bl false]
  | .l x => .tup [.str x.nm, .str x.tg, .bl x.opt, .bl true]
def LCol.nm : LCol → Txt8
  | .f x => x.nm
  | .l x => x.nm
def LCol.opt : LCol → Bool
  | .f x => x.opt
  | .l x => x.opt
def LCol.isL : LCol → Bool
  | .f _ => false
  | .l _ => true
def Tbl.lcols (t : Tbl) : List LCol := t.fs.map .f ++ t.ls.map .l
theorem lcols_nm (t : Tbl) : t.lcols.map LCol.nm = t.cols := by simp [Tbl.lcols, Tbl.cols, List.map_append, List.map_map, Function.comp_def, LCol.nm]
theorem law_columns_T {S : Sch} {t : Tbl} (h : TOk S t) (M : Mem) : ev__law_columns [t.d] M = .ok (.lst (t.lcols.map LCol.d)) M := by
  unfold ev__law_columns
  rw [w_fn]
  unfold b__law_columns
  have f4 := h.fl
  have l3 := h.ll
  have c1 := lcM (own := [2]) (i := 2) (it := eIt (eB ixD (eV 0) (eC (.int 1)))) (elt := eTup [eB ixD (eV 2) (eC (.int 0)), eB ixD (eV 2) (eC (.int 1)), eB ixD (eV 2) (eC (.int 2)), eC (.bl false)]) (ρ := [some t.d, none, none, none]) (M := M) Fld.d (fun f => (LCol.f f).d) (xs := t.fs)
    (by simp [Tbl.d]) (by omega) (fun f _ => by simp [Fld.d, LCol.d])
  have c2 : ∀ q, eLc (eIt (eB ixD (eV 0) (eC (.int 2)))) (.name 3) [3] tYes (eTup [eB ixD (eV 3) (eC (.int 0)), eB ixD (eV 3) (eC (.int 1)), eB ixD (eV 3) (eC (.int 2)), eC (.bl true)]) [some t.d, some q, none, none] M = .ok (.lst (t.ls.map fun l => (LCol.l l).d)) M := fun q =>
    lcM (own := [3]) (i := 3) Lnk.d (fun l => (LCol.l l).d) (xs := t.ls) (by simp [Tbl.d]) (by omega) (fun l _ => by simp [Lnk.d, LCol.d])
  have ad := add_lst (xs := t.fs.map fun f => (LCol.f f).d) (ys := t.ls.map fun l => (LCol.l l).d) (by rw [List.length_map, List.length_map]; omega) M
  simp [c1, c2, ad, Tbl.lcols, List.map_append, List.map_map, Function.comp_def]
/-! ### equal lists -/
theorem law_kind_ref {i : Nat} {xs : List D} {M : Mem} (h : M[i]? = some (.lst xs)) : ev__law_kind [.ref i] M = .ok (.int 4) M := by
  unfold ev__law_kind
  rw [w_fn]
  unfold b__law_kind
  simp [isiD, isiB, deref, h]
theorem seq_ref {i : Nat} {xs : List D} {M : Mem} (h : M[i]? = some (.lst xs)) : seqOf M (.ref i) = some xs := by simp [seqOf, deref, h]
theorem law_equal_ref {n i : Nat} {xs : List D} {M : Mem} (h : M[i]? = some (.lst xs)) (fx : D.fit (.lst xs) = true) (hn : D.depth (.lst xs) < n + 1) (h100 : D.depth (.lst xs) ≤ 100) : ev__law_equal (n + 1) [.ref i, .lst xs] M = .ok (.bl true) M := by
  unfold ev__law_equal
  rw [w_fn]
  unfold b__law_equal
  have kd := law_kind_ref h
  have ke := law_kind_ok (.lst xs) M fx
  obtain ⟨lx, fy⟩ := fit_seq (.inr rfl) fx
  have dx : ∀ x ∈ xs, x.depth < n ∧ x.depth ≤ 100 := by
    have : D.depths xs + 1 ≤ n ∧ D.depths xs ≤ 100 := by simp only [D.depth] at hn h100; omega
    intro x hx
    have := depths_mem (n := D.depths xs) (Nat.le_refl _) x hx
    omega
  have hi : eEnum (eV 0) [some (.ref i), some (.lst xs), none, none] M = .ok ⟨enumD xs, [i], M⟩ M := by simp [seq_ref h, keepOf]
  have lc := pair_filter (own := [2, 3]) (i := 2) (j := 3) (test := tNot (eT (eCall (ev__law_equal n) [eV 3, eB ixD (eV 1) (eV 2)]))) (elt := eV 2) (ρ := [some (.ref i), some (.lst xs), none, none]) (missAt xs) (fun a _ => a) hi (enumD_map xs) (le_lim (by simp; omega)) (fun _ _ => rfl)
    (fun q hq => by
      obtain ⟨h1, h2⟩ := List.of_mem_zip hq
      obtain ⟨j, hj, e1⟩ := List.mem_map.mp h1
      have hil := List.mem_range.mp hj
      obtain ⟨a, b⟩ := q
      simp only at e1
      subst e1
      have ix : ixD (.lst xs) (.int (j : Nat)) M = some xs[j] := ixD_nat (.inl rfl) (List.getElem?_eq_getElem hil) M
      have ih := law_equal_ok n b xs[j] M (fy b h2) (fy _ (List.getElem_mem hil)) (dx b h2).1 (dx b h2).2
      have gd : missAt xs (.int (j : Nat)) b = !b.eqb xs[j] := by simp [missAt, List.getElem?_eq_getElem hil]
      simp [ix, ih, gd])
    (fun q hq _ => by simp)
  have ev : ((((List.range xs.length).map fun (i : Nat) => D.int i).zip xs).filter fun q => missAt xs q.1 q.2) = [] := by
    have := enum_all xs xs 0 (by omega)
    rw [← List.range_eq_range', List.drop_zero, ← eqbs_all rfl, eqbs_refl] at this
    rw [List.filter_eq_nil_iff]
    intro q hq
    have := List.all_eq_true.mp this q hq
    simpa using this
  rw [ev] at lc
  have en := eq_nil (xs := []) rfl M
  have ln : lenD [.ref i] M = some (.int xs.length) := by simp [lenD, deref, seq_ref h, h]
  have ln2 : lenD [.lst xs] M = some (.int xs.length) := rfl
  rw [List.map_nil] at lc
  simp [kd, ke, kindOf, ln, ln2, lc, en]
end Mk
end

section
set_option maxHeartbeats 4000000
/-! Pt4: what the laws share: sources, drawn schemas, errors. -/
open PySem PySem.Spec PyProof.Rows L2
namespace Mk
theorem source_T (z t : Int) (ht : 0 ≤ t) (M : Mem) : ∃ o, ev__law_source [.int z, .int t] M = .ok (.ref M.length) (M ++ [o]) ∧ SrcAt (M ++ [o]) M.length t := by
  have p := pow_ok 10 18 (by omega) (by omega) (by omega)
  have p' : ∀ M : Mem, powD (.int 10) (.int 18) M = some (.int (10 ^ 18)) := p
  have q := mod_ok z 2147483579 (by omega)
  by_cases h : (10 : Int) ^ 18 ≤ z
  · refine ⟨.lst [.int (z - 10 ^ 18), .int (z % 2147483579), .int t], ?_, ?_⟩
    · unfold ev__law_source
      rw [w_fn]
      unfold b__law_source
      have h' : decide ((10 : Int) ^ 18 ≤ z) = true := decide_eq_true h
      simp only [w_sCons, w_sIf, w_eT, w_eB, w_eV, w_eC, w_sRet, w_eNew, w_aL0, w_aL1, List.map_cons, List.map_nil, List.length_cons, List.length_nil, List.cons_append, List.nil_append, List.getElem?_cons_zero, List.getElem?_cons_succ, Res.bind_ok, p', q, ge_int, sub_int, w_asT, out_some, ofR_ok, h', ifK_true, fnR_rt, SR.then_rt]
    · exact ⟨z - 10 ^ 18, z % 2147483579, t, by simp, by omega, Int.emod_nonneg _ (by omega), Int.emod_lt_of_pos _ (by omega), by omega, by omega⟩
  · refine ⟨.lst [.int 0, .int (z % 2147483579), .int t], ?_, ?_⟩
    · unfold ev__law_source
      rw [w_fn]
      unfold b__law_source
      have h' : decide ((10 : Int) ^ 18 ≤ z) = false := decide_eq_false h
      simp [p', q, h', -Int.reducePow]
    · exact ⟨0, z % 2147483579, t, by simp, by omega, Int.emod_nonneg _ (by omega), Int.emod_lt_of_pos _ (by omega), by omega, by omega⟩
/-- what stood stands, more behind it -/
def Pre (M M' : Mem) : Prop := ∀ (j : Nat) (o : O), M[j]? = some o → M'[j]? = some o
theorem Pre.refl (M : Mem) : Pre M M := fun _ _ h => h
theorem Pre.trans {M M1 M2 : Mem} (a : Pre M M1) (b : Pre M1 M2) : Pre M M2 := fun j o h => b j o (a j o h)
theorem Pre.app (M N : Mem) : Pre M (M ++ N) := fun j o h => by
  rw [List.getElem?_append_left (List.getElem?_eq_some_iff.mp h).1]; exact h
theorem SrcAt.pre {M M' : Mem} {i : Nat} {b : Int} (h : SrcAt M i b) (p : Pre M M') : SrcAt M' i b := by
  obtain ⟨c0, c1, c2, e, r⟩ := h
  exact ⟨c0, c1, c2, p _ _ e, r⟩
/-- the table of lambdas stands first -/
def Tab0 (M : Mem) : Prop := M[0]? = some (.tab 0)
theorem Tab0.ok {M : Mem} (h : Tab0 M) : tabsOk 1 M = true := by
  have : M[0]? = some (.tab 0) := h
  simp [tabsOk, isTab, this]
theorem Tab0.pre {M M' : Mem} (h : Tab0 M) (p : Pre M M') : Tab0 M' := p _ _ h
theorem Tab0.but {M M' : Mem} {i : Nat} (h : Tab0 M) (k : But i M M') (hi : 0 ≠ i) : Tab0 M' := (k.2 0 hi).trans h
@[simp] theorem w_eGive (n : Nat) (fe : Res D → Res D) (ev : Ev) (ρ : Sl) (M : Mem) : eGive n fe ev ρ M = ifK (tabsOk n M) (fe (ev ρ M)) .err := by simp only [← ifK_eq]; rfl
@[simp] theorem errR_ok (f : Ex → Mem → Res D) (d : D) (M : Mem) : errR f (.ok d M) = .ok (.str []) M := rfl
@[simp] theorem errR_exc (f : Ex → Mem → Res D) (x : Ex) (M : Mem) : errR f (.exc x M) = f x M := rfl
/-- a drawn schema, with types -/
theorem schema_draw (M : Mem) (i : Nat) (b : Int) (hs : SrcAt M i b) (hb : b + 300 ≤ 1000000000) :
    ∃ (S : Sch) (M' : Mem), ev__law_schema [.ref i] M = .ok S.d M' ∧ Sc S ∧ SrcAt M' i (b + 200) ∧ But i M M' ∧ ∀ n ∈ tnames S, n = [97] ∨ n = [98, 98] ∨ n = [99, 97, 116] ∨ n = [100, 117, 110, 101] := by
  obtain ⟨r, M', e, h, s, k, ts, n, rfl, n1, n4, hn⟩ := schema_ok2 M i b hs hb
  obtain ⟨S, eS, hS⟩ := schema_Sc h
  refine ⟨S, M', by rw [← eS]; exact e, hS, s, k, fun x hx => ?_⟩
  have e2 : ts = S.map Tbl.d := by simpa [Sch.d] using eS
  subst e2
  have e3 : (S.map Tbl.d).map head0 = (tnames S).map D.str := by simp [tnames, List.map_map, Function.comp_def]
  rw [e3] at hn
  have m : D.str x ∈ N4.take n := by rw [← hn]; exact List.mem_map.mpr ⟨x, hx, rfl⟩
  have m := List.mem_of_mem_take m
  simp only [N4, List.mem_cons, D.str.injEq, List.not_mem_nil, or_false] at m
  exact m
/-- not a schema, and small enough to be asked -/
def notSch (d : D) : Prop := d.fit = true ∧ isSchema d = false
theorem columns_noS {d e : D} (h : notSch d) (M : Mem) : ev_columns [d, e] M = .exc ⟨0, []⟩ M := by
  unfold ev_columns
  rw [w_fn]
  unfold b_columns
  simp [check_schema_ok d M h.1, h.2]
theorem holders_noS {d e : D} (h : notSch d) (M : Mem) : ev_holders [d, e] M = .exc ⟨0, []⟩ M := by
  unfold ev_holders
  rw [w_fn]
  unfold b_holders
  simp [check_schema_ok d M h.1, h.2]
theorem columns_noT {S : Sch} (h : Sc S) {e : D} (he : e.fit = true) (hn : placeD S e = .non) (M : Mem) : ev_columns [S.d, e] M = .exc ⟨1, []⟩ M := by
  unfold ev_columns
  rw [w_fn]
  unfold b_columns
  have := check_table_ok (S := S) (by have := h.ok.l4; omega) e he M
  rw [hn] at this
  simp [check_schema_T h, this, isNon]
theorem holders_noT {S : Sch} (h : Sc S) {e : D} (he : e.fit = true) (hn : placeD S e = .non) (M : Mem) : ev_holders [S.d, e] M = .exc ⟨1, []⟩ M := by
  unfold ev_holders
  rw [w_fn]
  unfold b_holders
  have := check_table_ok (S := S) (by have := h.ok.l4; omega) e he M
  rw [hn] at this
  simp [check_schema_T h, this, isNon]
/-- a schema twice is none -/
theorem twice_no {S : Sch} (h : Sc S) : notSch (.tup (S.map Tbl.d ++ S.map Tbl.d)) := by
  have f := h.fit
  have hl : S.length ≤ 4 := h.ok.l4
  refine ⟨?_, ?_⟩
  · have m := fit_tup (xs := S.map Tbl.d) f
    simp only [D.fit, Bool.and_eq_true, decide_eq_true_eq]
    refine ⟨by rw [List.length_append, List.length_map]; omega, fits_mem.mpr fun x hx => ?_⟩
    rcases List.mem_append.mp hx with z | z <;> exact m x z
  · cases e : isSchema (.tup (S.map Tbl.d ++ S.map Tbl.d)) with
    | false => rfl
    | true =>
      obtain ⟨S', e', h'⟩ := schema_T e
      have e2 : S.map Tbl.d ++ S.map Tbl.d = S'.map Tbl.d := by simpa [Sch.d] using e'
      have e3 : (tnames S ++ tnames S).map D.str = (tnames S').map D.str := by
        have := congrArg (List.map head0) e2
        simpa [tnames, List.map_append, List.map_map, Function.comp_def] using this
      have e4 : tnames S ++ tnames S = tnames S' := List.map_inj_right (f := D.str) (fun x y e => by simpa using e) |>.mp e3
      have nd := up_nodup h'.up
      rw [← e4] at nd
      obtain ⟨_, _, k⟩ := List.nodup_append.mp nd
      have h1 := h.ok.l1
      cases S with
      | nil => simp at h1
      | cons t r => exact absurd rfl (k t.nm (by simp [tnames]) t.nm (by simp [tnames]))
theorem lst_no {S : Sch} (h : Sc S) : notSch (.lst (S.map Tbl.d)) := by
  have f := h.fit
  refine ⟨?_, rfl⟩
  simp only [Sch.d, D.fit, Bool.and_eq_true] at f ⊢
  exact f
theorem odds_no : ∀ d ∈ odds ++ [D.int 6, D.int (-5), D.bl false, D.str [53]], notSch d := by
  have : ((odds ++ [D.int 6, D.int (-5), D.bl false, D.str [53]]).all fun d => d.fit && !isSchema d) = true := by decide +kernel
  intro d hd
  have := List.all_eq_true.mp this d hd
  simp only [Bool.and_eq_true, Bool.not_eq_true'] at this
  exact this
theorem spoilt5 (M : Mem) (i : Nat) (b : Int) (hs : SrcAt M i b) (hb : b + 2 ≤ 1000000000) : ∃ r M', ev__law_spoilt 12 [.ref i, .int 5] M = .ok r M' ∧ notSch r ∧ SrcAt M' i (b + 2) ∧ But i M M' := by
  obtain ⟨x, M1, e1, x0, x1, s1, k1⟩ := draw_ok M i b 3 hs (by omega) (by omega) (by omega)
  obtain ⟨r2, M2, e2, m2, s2, k2⟩ := odd_ok M1 i (b + 1) s1 (by omega)
  obtain ⟨r3, M3, e3, m3, s3, k3⟩ := choice_ok M1 i (b + 1) [.int 6, .int (-5), .bl false, .str [53]] s1 (by omega) (by simp) (by simp) _ (.inl rfl)
  have sg : ∀ M, strD [.int 5] M = some (.str [53]) := fun M => by
    have e : signs 5 = [53] := by decide
    simp [strD, e]
  cases hx : decide (x = 0) with
  | false =>
    refine ⟨r2, M2, ?_, odds_no r2 (List.mem_append_left _ m2), s2.mono (by omega), k1.trans k2⟩
    unfold ev__law_spoilt
    rw [w_fn]
    unfold b__law_spoilt
    simp [isTup0, e1, hx, e2]
  | true =>
    refine ⟨r3, M3, ?_, odds_no r3 (List.mem_append_right _ m3), s3.mono (by omega), k1.trans k3⟩
    unfold ev__law_spoilt
    rw [w_fn]
    unfold b__law_spoilt
    simp [isTup0, isInt, e1, hx, e3, sg]
end Mk
end

section
set_option maxHeartbeats 4000000
/-! Pt5: the plain law of k02. -/
open PySem PySem.Spec PyProof.Rows L2
namespace Mk
noncomputable def k2due : EvS := sCons (sLet 7 (eLc (eIt (eCall ev__law_columns [eV 6])) (.name 11) [11] (eT (eB ixD (eV 11) (eC (.int 3)))) (eV 11)))
    (sLet 5 (eB addD (eV 5) (eLc (eIt (eV 7)) (.name 11) [11] (eT (eB eqD (eB ixD (eV 11) (eC (.int 1))) (eB ixD (eV 3) (eC (.int 0))))) (eTup [eB ixD (eV 6) (eC (.int 0)), eB ixD (eV 11) (eC (.int 0))]))))
noncomputable def k2tab : EvS := (sCons (sLet 4 (eN tupD [eLc (eIt (eCall ev__law_columns [eV 3])) (.name 11) [11] tYes (eB ixD (eV 11) (eC (.int 0)))]))
    (sCons (sIf (tNot (eT (eCall (ev__law_equal 12) [eCall ev_columns [eV 10, eB ixD (eV 3) (eC (.int 0))], eV 4]))) (sRet (eC (.bl false))) sNil)
    (sCons (sLet 5 (eLst []))
    (sCons (sFor (eIt (eV 10)) (.name 6) k2due)
    (sCons (sLet 8 (eCall ev_holders [eV 10, eB ixD (eV 3) (eC (.int 0))]))
    (sCons (sIf (tNot (eT (eCall (ev__law_equal 12) [eV 8, eN srtD [eV 5]]))) (sRet (eC (.bl false))) sNil)
    (sCons (sDo (eM1 kdLst appD (eV 8) (eC .non)))
    (sIf (eT (eB neD (eCall ev_holders [eV 10, eB ixD (eV 3) (eC (.int 0))]) (eN srtD [eV 5]))) (sRet (eC (.bl false))) sNil))))))))
noncomputable def k2e1 : EvS := (sCons (sIf (eT (eB neD (eGive 1 (errR ev__law_names) (eCall ev_columns [eV 10, eV 9])) (eC (.str [116, 97, 98, 108, 101])))) (sRet (eC (.bl false))) sNil)
    (sIf (eT (eB neD (eGive 1 (errR ev__law_names) (eCall ev_holders [eV 10, eV 9])) (eC (.str [116, 97, 98, 108, 101])))) (sRet (eC (.bl false))) sNil))
noncomputable def k2e2 : EvS := (sCons (sIf (eT (eB neD (eGive 1 (errR ev__law_names) (eCall ev_columns [eV 9, eC (.str [122, 122])])) (eC (.str [115, 99, 104, 101, 109, 97])))) (sRet (eC (.bl false))) sNil)
    (sIf (eT (eB neD (eGive 1 (errR ev__law_names) (eCall ev_holders [eV 9, eC (.str [97])])) (eC (.str [115, 99, 104, 101, 109, 97])))) (sRet (eC (.bl false))) sNil))
noncomputable def k2out : EvS := (sCons (sLet 2 (eCall ev__law_source [eV 1, eC (.int 2)]))
    (sCons (sLet 10 (eCall ev__law_schema [eV 2]))
    (sCons (sFor (eIt (eV 10)) (.name 3) k2tab)
    (sCons (sFor (eIt (eLst [eC (.str [122, 122]), eC (.str []), eC .non, eC (.int 5), eTup [eC (.str [97])], eC (.str [102]), eLst [eC (.str [97])]])) (.name 9) k2e1)
    (sFor (eIt (eLst [eC .non, eTup [], eN lstD [eV 10], eB addD (eV 10) (eV 10), eCall (ev__law_spoilt 12) [eV 2, eC (.int 5)]])) (.name 9) k2e2)))))
noncomputable def k2end : EvS := (sCons (sLet 3 (eTup [eC (.str [97]), eTup [eTup [eC (.str [102]), eC (.str [105, 110, 116]), eC (.bl true)]], eTup [eTup [eC (.str [109]), eC (.str [97]), eC (.bl true), eC (.str [104, 111, 108, 100])], eTup [eC (.str [98]), eC (.str [97]), eC (.bl true), eC (.str [99, 108, 101, 97, 114])]], eTup []]))
    (sRet (eAnd (eB eqD (eCall ev_columns [eTup [eV 3], eC (.str [97])]) (eTup [eC (.str [102]), eC (.str [109]), eC (.str [98])])) (eB eqD (eCall ev_holders [eTup [eV 3], eC (.str [97])]) (eLst [eTup [eC (.str [97]), eC (.str [98])], eTup [eC (.str [97]), eC (.str [109])]])))))
noncomputable def k2law : EvS := sCons (sFor (eIt (eSl (eB addD (eLst [eC (.int 0)]) (eV 0)) pNo (pSo (eC (.int 10))))) (.name 1) k2out) k2end
theorem k2law_eq : b_law_2 = k2law := rfl
theorem lcols_links (t : Tbl) : t.lcols.filter LCol.isL = t.ls.map .l := by
  have e1 : t.fs.filter (fun _ => false) = [] := List.filter_eq_nil_iff.mpr (by simp)
  have e2 : t.ls.filter (fun _ => true) = t.ls := List.filter_eq_self.mpr (by simp)
  simp [Tbl.lcols, List.filter_append, List.filter_map, Function.comp_def, LCol.isL, e1, e2]
theorem lcols_len {S : Sch} {t : Tbl} (h : TOk S t) : t.lcols.length ≤ 7 := by
  have := h.fl; have := h.ll
  simp [Tbl.lcols]; omega
theorem lcol_3 (c : LCol) (M : Mem) : ixD c.d (.int 3) M = some (.bl c.isL) := by cases c <;> simp [LCol.d, LCol.isL]
theorem lcol_0 (c : LCol) (M : Mem) : ixD c.d (.int 0) M = some (.str c.nm) := by cases c <;> simp [LCol.d, LCol.nm]
theorem due_step {S : Sch} {one t : Tbl} (h1 : TOk S one) (D0 : List D) (hD : D0.length ≤ 100) (M : Mem) (q0 q1 q2 q4 q7 q8 q9 q11 : Option D) (sd : D) :
    ∃ q7', k2due [q0, q1, q2, some t.d, q4, some (.lst D0), some one.d, q7, q8, q9, some sd, q11] M =
      .nx [q0, q1, q2, some t.d, q4, some (.lst (D0 ++ (one.ls.filter fun l => decide (l.tg = t.nm)).map fun l => pairD (one.nm, l.nm))), some one.d, q7', q8, q9, some sd, q11] M := by
  have hl := lcols_len h1
  have l3 := h1.ll
  have c1 := lcF (own := [11]) (i := 11) (it := eIt (eCall ev__law_columns [eV 6])) (test := eT (eB ixD (eV 11) (eC (.int 3)))) (elt := eV 11) (ρ := [q0, q1, q2, some t.d, q4, some (.lst D0), some one.d, q7, q8, q9, some sd, q11]) (M := M) LCol.d LCol.isL LCol.d (xs := one.lcols)
    (by simp [law_columns_T h1]) (by omega) (fun c _ => by simp [lcol_3]) (fun c _ _ => by simp)
  rw [lcols_links, List.map_map] at c1
  have c2 := lcF (own := [11]) (i := 11) (it := eIt (eV 7)) (test := eT (eB eqD (eB ixD (eV 11) (eC (.int 1))) (eB ixD (eV 3) (eC (.int 0))))) (elt := eTup [eB ixD (eV 6) (eC (.int 0)), eB ixD (eV 11) (eC (.int 0))])
    (ρ := [q0, q1, q2, some t.d, q4, some (.lst D0), some one.d, some (.lst (one.ls.map (LCol.d ∘ LCol.l))), q8, q9, some sd, q11]) (M := M) (LCol.d ∘ LCol.l) (fun l => decide (l.tg = t.nm)) (fun l => pairD (one.nm, l.nm)) (xs := one.ls)
    (by simp) (by omega) (fun l _ => by simp [LCol.d, Tbl.d]) (fun l _ _ => by simp [LCol.d, Tbl.d, pairD])
  have ad := add_lst (xs := D0) (ys := (one.ls.filter fun l => decide (l.tg = t.nm)).map fun l => pairD (one.nm, l.nm)) (by
    rw [List.length_map]
    have := List.length_filter_le (fun l : Lnk => decide (l.tg = t.nm)) one.ls
    omega) M
  refine ⟨some (.lst (one.ls.map (LCol.d ∘ LCol.l))), ?_⟩
  unfold k2due
  simp [c1, c2, ad]
theorem due_loop {S : Sch} (h : Sc S) {t : Tbl} (M M0 : Mem) (q0 q1 q2 q4 q6 q7 q8 q9 q11 : Option D) :
    ∃ q6' q7', loop (Src.ok ⟨S.map Tbl.d, [], M0⟩) (.name 6) k2due (S.map Tbl.d) [q0, q1, q2, some t.d, q4, some (.lst []), q6, q7, q8, q9, some S.d, q11] M =
      .nx [q0, q1, q2, some t.d, q4, some (.lst ((pairs S t.nm).map pairD)), q6', q7', q8, q9, some S.d, q11] M := by
  have hS := h.ok.l4
  obtain ⟨ρ2, M2, hloop, ⟨q6', q7', rfl⟩, hM⟩ := loop_inv (ok := Src.ok ⟨S.map Tbl.d, [], M0⟩) (t := .name 6) (body := k2due) (all := S.map Tbl.d)
    (fun k ρ M' => (∃ q6' q7', ρ = [q0, q1, q2, some t.d, q4, some (.lst ((pairs (S.take k) t.nm).map pairD)), q6', q7', q8, q9, some S.d, q11]) ∧ M' = M) (fun _ _ _ _ => src_ok _ _ _)
    (fun k d ρ M' hd ⟨⟨q6', q7', hρ⟩, hM⟩ => by
      subst hρ hM
      rw [List.getElem?_map] at hd
      obtain ⟨one, ho, rfl⟩ := Option.map_eq_some_iff.mp hd
      have hk := at_lt ho
      have h1 := h.ok.t one (List.mem_of_getElem? ho)
      have e1 : S.take (k + 1) = S.take k ++ [one] := by rw [List.take_succ, ho]; rfl
      have pl : ((pairs (S.take k) t.nm).map pairD).length ≤ 100 := by
        rw [List.length_map]
        unfold pairs
        have := flatMap_len (f := fun t' : Tbl => (t'.ls.filter fun l => decide (l.tg = t.nm)).map fun l => (t'.nm, l.nm)) (n := 3) (xs := S.take k) fun t' ht' => by
          rw [List.length_map]
          exact Nat.le_trans (List.length_filter_le _ _) (h.ok.t t' (List.mem_of_mem_take ht')).ll
        have h3 : (S.take k).length ≤ 4 := by rw [List.length_take]; omega
        omega
      obtain ⟨q7'', e2⟩ := due_step (t := t) h1 ((pairs (S.take k) t.nm).map pairD) pl M' q0 q1 q2 q4 q7' q8 q9 q11 S.d
      refine ⟨_, w_name _ _ _ _, _, M', e2, ⟨some one.d, q7'', ?_⟩, rfl⟩
      rw [e1]
      simp [pairs, List.flatMap_append, List.map_append, List.map_map, Function.comp_def]) (S.map Tbl.d).length 0 [q0, q1, q2, some t.d, q4, some (.lst []), q6, q7, q8, q9, some S.d, q11] M (Nat.add_zero _)
    ⟨⟨q6, q7, by simp [pairs]⟩, rfl⟩
  rw [List.drop_zero] at hloop
  rw [hM, List.length_map, List.take_length] at hloop
  exact ⟨q6', q7', hloop⟩
theorem srt_pairs {S : Sch} (h : SOk S) (nm : Txt8) (M : Mem) : srtD [.lst ((pairs S nm).map pairD)] M = some (.lst (holdD S nm)) :=
  srt_texts (fun q : Txt8 × Txt8 => [q.1, q.2]) 2 (by omega) (xs := pairs S nm) (fun _ _ => rfl) (by have := pairs_len h nm; omega) M
end Mk
end

section
set_option maxHeartbeats 4000000
/-! Pt6: the plain law of k02, whole. -/
open PySem PySem.Spec PyProof.Rows L2
namespace Mk
theorem strs_fit {xs : List Txt8} (hl : xs.length ≤ 1000) (h : ∀ x ∈ xs, x.length ≤ 1000) : D.fits (xs.map .str) = true := fits_mem.mpr fun d hd => by
  obtain ⟨x, hx, rfl⟩ := List.mem_map.mp hd
  simp [D.fit, h x hx]
theorem strs_depth0 (xs : List Txt8) : D.depths (xs.map .str) = 0 := by
  have : D.depths (xs.map .str) ≤ 0 := depths_le.mpr fun d hd => by
    obtain ⟨x, hx, rfl⟩ := List.mem_map.mp hd
    simp [D.depth]
  omega
theorem cols_word {S : Sch} {t : Tbl} (h : TOk S t) : ∀ x ∈ t.cols, wordP 1 x := fun x hx => by
  rcases List.mem_append.mp hx with z | z
  · obtain ⟨f, hf, rfl⟩ := List.mem_map.mp z; exact h.fw f hf
  · obtain ⟨l, hl, rfl⟩ := List.mem_map.mp z; exact (h.lw l hl).1
theorem cols_len {S : Sch} {t : Tbl} (h : TOk S t) : t.cols.length ≤ 7 := by
  have := h.fl; have := h.ll
  simp [Tbl.cols]; omega
theorem hold_mem {S : Sch} {nm : Txt8} {d : D} (h : d ∈ holdD S nm) : ∃ a b, d = pairD (a, b) ∧ ∃ t ∈ S, a = t.nm ∧ ∃ l ∈ t.ls, b = l.nm := by
  have h := (sort_mem d).mp h
  obtain ⟨q, hq, rfl⟩ := List.mem_map.mp h
  obtain ⟨t, ht, hq⟩ := List.mem_flatMap.mp hq
  obtain ⟨l, hl, rfl⟩ := List.mem_map.mp hq
  exact ⟨_, _, rfl, t, ht, rfl, l, (List.mem_filter.mp hl).1, rfl⟩
theorem hold_len {S : Sch} (h : SOk S) (nm : Txt8) : (holdD S nm).length ≤ 12 := by
  unfold holdD
  rw [sort_len, List.length_map]
  exact pairs_len h nm
theorem hold_fit {S : Sch} (h : SOk S) (nm : Txt8) : D.fit (.lst (holdD S nm)) = true ∧ D.depth (.lst (holdD S nm)) ≤ 2 := by
  refine ⟨?_, depth_lst.mpr fun d hd => ?_⟩
  · simp only [D.fit, Bool.and_eq_true, decide_eq_true_eq]
    refine ⟨by have := hold_len h nm; omega, fits_mem.mpr fun d hd => ?_⟩
    obtain ⟨a, b, rfl, t, ht, rfl, l, hl, rfl⟩ := hold_mem hd
    have w1 := (h.t t ht).nm.2.1
    have w2 := ((h.t t ht).lw l hl).1.2.1
    simp [pairD, D.fit, D.fits]
    omega
  · obtain ⟨a, b, rfl, _⟩ := hold_mem hd
    simp [pairD, D.depth, D.depths]
theorem hold_pure {S : Sch} (nm : Txt8) : D.pures (holdD S nm) = true := pures_mem'.mpr fun d hd => by
  obtain ⟨a, b, rfl, _⟩ := hold_mem hd
  simp [pairD, D.pure, D.pures]
theorem beqs_same {xs : List D} (h : D.keyeds xs = true) : D.beqs xs xs = true := by
  have := beq_refl (.tup xs) (by simpa [D.keyed] using h)
  simpa [D.beq] using this
theorem hold_keyed {S : Sch} (nm : Txt8) : D.keyeds (holdD S nm) = true := mem_keyeds fun d hd => by
  obtain ⟨a, b, rfl, _⟩ := hold_mem hd
  simp [pairD, D.keyed, D.keyeds]
theorem ne_hold {S : Sch} (nm : Txt8) {M : Mem} {j : Nat} (h : M[j]? = some (.lst (holdD S nm))) (d2 : D.depth (.lst (holdD S nm)) ≤ 2) : neD (.ref j) (.lst (holdD S nm)) M = some (.bl false) := by
  have e : deref M (.ref j) = .lst (holdD S nm) := by simp [deref, h]
  have p : D.pure (.lst (holdD S nm)) = true := by unfold D.pure; exact hold_pure nm
  have c : cmpOk (.lst (holdD S nm)) (.lst (holdD S nm)) = true := by
    simp only [cmpOk, p, Bool.and_self, Bool.true_and, decide_eq_true_eq]
    omega
  simp only [neD, e, d_lst, c, if_true, D.beq, beqs_same (hold_keyed nm)]
  rfl
theorem eq_hold {S : Sch} (nm : Txt8) {M : Mem} {j : Nat} (h : M[j]? = some (.lst (holdD S nm))) (d2 : D.depth (.lst (holdD S nm)) ≤ 2) : eqD (.ref j) (.lst (holdD S nm)) M = some (.bl true) := by
  have e : deref M (.ref j) = .lst (holdD S nm) := by simp [deref, h]
  have p : D.pure (.lst (holdD S nm)) = true := by unfold D.pure; exact hold_pure nm
  have c : cmpOk (.lst (holdD S nm)) (.lst (holdD S nm)) = true := by
    simp only [cmpOk, p, Bool.and_self, Bool.true_and, decide_eq_true_eq]
    omega
  simp only [eqD, e, d_lst, c, if_true, D.beq, beqs_same (hold_keyed nm)]
theorem k2_step {S : Sch} (h : Sc S) {t : Tbl} (ht : t ∈ S) (M : Mem) (q0 q1 q2 q4 q5 q6 q7 q8 q9 q11 : Option D) :
    ∃ q4' q5' q6' q7' q8' N, k2tab [q0, q1, q2, some t.d, q4, q5, q6, q7, q8, q9, some S.d, q11] M = .nx [q0, q1, q2, some t.d, q4', q5', q6', q7', q8', q9, some S.d, q11] (M ++ N) := by
  have hT := h.ok.t t ht
  have hl := lcols_len hT
  have cl := cols_len hT
  have c1 : eLc (eIt (eCall ev__law_columns [eV 3])) (.name 11) [11] tYes (eB ixD (eV 11) (eC (.int 0))) [q0, q1, q2, some t.d, q4, q5, q6, q7, q8, q9, some S.d, q11] M = .ok (.lst (t.cols.map .str)) M := by
    have := lcM (own := [11]) (i := 11) (it := eIt (eCall ev__law_columns [eV 3])) (elt := eB ixD (eV 11) (eC (.int 0))) (ρ := [q0, q1, q2, some t.d, q4, q5, q6, q7, q8, q9, some S.d, q11]) (M := M) LCol.d (fun c => .str c.nm) (xs := t.lcols) (by simp [law_columns_T hT]) (by omega) (fun c _ => by simp [lcol_0])
    rw [this, ← lcols_nm, List.map_map]
    rfl
  have fc : D.fit (.tup (t.cols.map .str)) = true := by
    simp only [D.fit, Bool.and_eq_true, decide_eq_true_eq]
    exact ⟨by rw [List.length_map]; omega, strs_fit (by omega) fun x hx => by have := (cols_word hT x hx).2.1; omega⟩
  have dc : D.depth (.tup (t.cols.map .str)) = 1 := by simp only [D.depth, strs_depth0]
  have e1 := law_equal_ok 12 _ _ M fc fc (by omega) (by omega)
  rw [eqb_refl] at e1
  have ix : ixD t.d (.int 0) = fun _ => some (.str t.nm) := by funext M; simp [Tbl.d]
  have ix' : ∀ M, ixD t.d (.int 0) M = some (.str t.nm) := fun M => by rw [ix]
  obtain ⟨q6', q7', dl⟩ := due_loop h (t := t) M M q0 q1 q2 (some (.tup (t.cols.map .str))) q6 q7 q8 q9 q11
  obtain ⟨hf, hd⟩ := hold_fit h.ok t.nm
  have hlen := hold_len h.ok t.nm
  have m1 : (M ++ [O.lst (holdD S t.nm)])[M.length]? = some (.lst (holdD S t.nm)) := by simp
  have e2 := law_equal_ref (n := 11) m1 hf (by omega) (by omega)
  have kd : kdLst (.ref M.length) (M ++ [O.lst (holdD S t.nm)]) = true := by simp [kdLst, lstOf, deref]
  have ap : appD (.ref M.length) .non (M ++ [O.lst (holdD S t.nm)]) = some (.non, M ++ [O.lst (holdD S t.nm ++ [.non])]) := by
    have : (holdD S t.nm).length < lim := Nat.lt_of_lt_of_le (Nat.lt_succ_self _) (le_lim (by omega))
    simp [appD, this]
  have m2 : (M ++ [O.lst (holdD S t.nm ++ [.non])] ++ [O.lst (holdD S t.nm)])[(M ++ [O.lst (holdD S t.nm ++ [.non])]).length]? = some (.lst (holdD S t.nm)) := List.getElem?_concat_length
  have e3 := ne_hold t.nm m2 hd
  refine ⟨some (.tup (t.cols.map .str)), some (.lst ((pairs S t.nm).map pairD)), q6', q7', some (.ref M.length), [O.lst (holdD S t.nm ++ [.non]), O.lst (holdD S t.nm)], ?_⟩
  have ha : M ++ [O.lst (holdD S t.nm ++ [.non]), O.lst (holdD S t.nm)] = M ++ [O.lst (holdD S t.nm ++ [.non])] ++ [O.lst (holdD S t.nm)] := by simp
  rw [ha]
  have hs : eIt (eV 10) [q0, q1, q2, some t.d, some (.tup (t.cols.map .str)), some (.lst []), q6, q7, q8, q9, some S.d, q11] M = .ok ⟨S.map Tbl.d, [], M⟩ M := by simp [Sch.d]
  have tp : ∀ M, tupD [.lst (t.cols.map .str)] M = some (.tup (t.cols.map .str)) := fun M => rfl
  generalize hm1 : M ++ [O.lst (holdD S t.nm)] = M1 at *
  generalize hm2 : M ++ [O.lst (holdD S t.nm ++ [.non])] = M2 at *
  have hh1 := holders_T h ht M
  rw [hm1] at hh1
  unfold k2tab
  simp only [w_sCons, w_sLet, w_eN, w_aL1, w_aL0, c1, Res.bind_ok, tp, out_some, ofR_ok, SR.then_nx, List.set_cons_succ, List.set_cons_zero, w_sIf, w_tNot, w_eT, w_eCall, w_eV, List.getElem?_cons_succ, List.getElem?_cons_zero, w_eB, w_eC, ix', columns_T h ht, e1, w_asT, Bool.not_true, ifK_false, w_sNil, w_eLst, w_sFor, hs, dl, hh1,
    srt_pairs h.ok, e2, w_sDo, w_eM1, kd, ifK_true, ap, w_outM, holders_T h ht, e3]
theorem k2_loop {S : Sch} (h : Sc S) (M M0 : Mem) (q0 q1 q2 q3 q4 q5 q6 q7 q8 q9 q11 : Option D) :
    ∃ q3' q4' q5' q6' q7' q8' M', loop (Src.ok ⟨S.map Tbl.d, [], M0⟩) (.name 3) k2tab (S.map Tbl.d) [q0, q1, q2, q3, q4, q5, q6, q7, q8, q9, some S.d, q11] M = .nx [q0, q1, q2, q3', q4', q5', q6', q7', q8', q9, some S.d, q11] M' ∧ Pre M M' := by
  obtain ⟨ρ2, M2, hloop, q3', q4', q5', q6', q7', q8', rfl, hP⟩ := loop_inv (ok := Src.ok ⟨S.map Tbl.d, [], M0⟩) (t := .name 3) (body := k2tab) (all := S.map Tbl.d)
    (fun k ρ M' => ∃ q3' q4' q5' q6' q7' q8', ρ = [q0, q1, q2, q3', q4', q5', q6', q7', q8', q9, some S.d, q11] ∧ Pre M M') (fun _ _ _ _ => src_ok _ _ _)
    (fun k d ρ M' hd ⟨a3, a4, a5, a6, a7, a8, hρ, hP⟩ => by
      subst hρ
      rw [List.getElem?_map] at hd
      obtain ⟨t, ht, rfl⟩ := Option.map_eq_some_iff.mp hd
      obtain ⟨b4, b5, b6, b7, b8, N, e⟩ := k2_step h (List.mem_of_getElem? ht) M' q0 q1 q2 a4 a5 a6 a7 a8 q9 q11
      exact ⟨_, w_name _ _ _ _, _, _, e, _, _, _, _, _, _, rfl, hP.trans (Pre.app _ _)⟩) (S.map Tbl.d).length 0 [q0, q1, q2, q3, q4, q5, q6, q7, q8, q9, some S.d, q11] M (Nat.add_zero _)
    ⟨q3, q4, q5, q6, q7, q8, rfl, Pre.refl M⟩
  rw [List.drop_zero] at hloop
  exact ⟨q3', q4', q5', q6', q7', q8', M2, hloop, hP⟩
end Mk
end

section
set_option maxHeartbeats 4000000
/-! Pt7: the end of the plain law of k02. -/
open PySem PySem.Spec PyProof.Rows L2
namespace Mk
def odd7 : List D := [.str [122, 122], .str [], .non, .int 5, .tup [.str [97]], .str [102], .lst [.str [97]]]
theorem odd7_no {S : Sch} (hn : ∀ n ∈ tnames S, n = [97] ∨ n = [98, 98] ∨ n = [99, 97, 116] ∨ n = [100, 117, 110, 101]) : ∀ d ∈ odd7, d.fit = true ∧ placeD S d = .non := by
  have no : ∀ x : Txt8, x ≠ [97] → x ≠ [98, 98] → x ≠ [99, 97, 116] → x ≠ [100, 117, 110, 101] → placeD S (.str x) = .non := fun x a b c d => by
    have : x ∉ tnames S := fun m => by rcases hn x m with e | e | e | e <;> contradiction
    simp [placeD, this]
  intro d hd
  simp only [odd7, List.mem_cons, List.not_mem_nil, or_false] at hd
  rcases hd with rfl | rfl | rfl | rfl | rfl | rfl | rfl
  · exact ⟨by decide, no _ (by decide) (by decide) (by decide) (by decide)⟩
  · exact ⟨by decide, no _ (by decide) (by decide) (by decide) (by decide)⟩
  · exact ⟨by decide, rfl⟩
  · exact ⟨by decide, rfl⟩
  · exact ⟨by decide, rfl⟩
  · exact ⟨by decide, no _ (by decide) (by decide) (by decide) (by decide)⟩
  · exact ⟨by decide, rfl⟩
theorem e1_loop {S : Sch} (h : Sc S) (hn : ∀ d ∈ odd7, d.fit = true ∧ placeD S d = .non) (M M0 : Mem) (hT : Tab0 M) (q0 q1 q2 q3 q4 q5 q6 q7 q8 q9 q11 : Option D) :
    ∃ q9', loop (Src.ok ⟨odd7, [], M0⟩) (.name 9) k2e1 odd7 [q0, q1, q2, q3, q4, q5, q6, q7, q8, q9, some S.d, q11] M = .nx [q0, q1, q2, q3, q4, q5, q6, q7, q8, q9', some S.d, q11] M := by
  obtain ⟨ρ2, M2, hloop, q9', rfl, hM⟩ := loop_inv (ok := Src.ok ⟨odd7, [], M0⟩) (t := .name 9) (body := k2e1) (all := odd7)
    (fun k ρ M' => ∃ q9', ρ = [q0, q1, q2, q3, q4, q5, q6, q7, q8, q9', some S.d, q11] ∧ M' = M) (fun _ _ _ _ => src_ok _ _ _)
    (fun k d ρ M' hd ⟨q9', hρ, hM⟩ => by
      subst hρ hM
      obtain ⟨f, p⟩ := hn d (List.mem_of_getElem? hd)
      refine ⟨_, w_name _ _ _ _, _, M', ?_, some d, rfl, rfl⟩
      unfold k2e1
      simp [hT.ok, columns_noT h f p, holders_noT h f p, names_1]) odd7.length 0 [q0, q1, q2, q3, q4, q5, q6, q7, q8, q9, some S.d, q11] M (Nat.add_zero _)
    ⟨q9, rfl, rfl⟩
  rw [List.drop_zero, hM] at hloop
  exact ⟨q9', hloop⟩
theorem e2_loop {ds : List D} (hn : ∀ d ∈ ds, notSch d) (M M0 : Mem) (hT : Tab0 M) (q0 q1 q2 q3 q4 q5 q6 q7 q8 q9 q10 q11 : Option D) :
    ∃ q9', loop (Src.ok ⟨ds, [], M0⟩) (.name 9) k2e2 ds [q0, q1, q2, q3, q4, q5, q6, q7, q8, q9, q10, q11] M = .nx [q0, q1, q2, q3, q4, q5, q6, q7, q8, q9', q10, q11] M := by
  obtain ⟨ρ2, M2, hloop, q9', rfl, hM⟩ := loop_inv (ok := Src.ok ⟨ds, [], M0⟩) (t := .name 9) (body := k2e2) (all := ds)
    (fun k ρ M' => ∃ q9', ρ = [q0, q1, q2, q3, q4, q5, q6, q7, q8, q9', q10, q11] ∧ M' = M) (fun _ _ _ _ => src_ok _ _ _)
    (fun k d ρ M' hd ⟨q9', hρ, hM⟩ => by
      subst hρ hM
      have n := hn d (List.mem_of_getElem? hd)
      refine ⟨_, w_name _ _ _ _, _, M', ?_, some d, rfl, rfl⟩
      unfold k2e2
      simp [hT.ok, columns_noS n, holders_noS n, names_0]) ds.length 0 [q0, q1, q2, q3, q4, q5, q6, q7, q8, q9, q10, q11] M (Nat.add_zero _)
    ⟨q9, rfl, rfl⟩
  rw [List.drop_zero, hM] at hloop
  exact ⟨q9', hloop⟩
theorem k2_outer (M : Mem) (hT : Tab0 M) (z : Int) (q0 q2 q3 q4 q5 q6 q7 q8 q9 q10 q11 : Option D) :
    ∃ q2' q3' q4' q5' q6' q7' q8' q9' q10' M', k2out [q0, some (.int z), q2, q3, q4, q5, q6, q7, q8, q9, q10, q11] M = .nx [q0, some (.int z), q2', q3', q4', q5', q6', q7', q8', q9', q10', q11] M' ∧ Tab0 M' := by
  obtain ⟨o, e1, s1⟩ := source_T z 2 (by omega) M
  have hl : 0 ≠ M.length := fun e => by
    have := (List.getElem?_eq_some_iff.mp (show M[0]? = some (.tab 0) from hT)).1
    omega
  obtain ⟨S, M2, e2, hS, s2, k2, hn⟩ := schema_draw (M ++ [o]) M.length 2 s1 (by omega)
  have t2 : Tab0 M2 := (hT.pre (Pre.app M [o])).but k2 hl
  obtain ⟨a3, a4, a5, a6, a7, a8, M3, e3, p3⟩ := k2_loop hS M2 M2 q0 (some (.int z)) (some (.ref M.length)) q3 q4 q5 q6 q7 q8 q9 q11
  have t3 := t2.pre p3
  obtain ⟨a9, e4⟩ := e1_loop hS (odd7_no hn) M3 M3 t3 q0 (some (.int z)) (some (.ref M.length)) a3 a4 a5 a6 a7 a8 q9 q11
  obtain ⟨r, M4, e5, nr, s5, k5⟩ := spoilt5 M3 M.length (2 + 200) (s2.pre p3) (by omega)
  have t4 : Tab0 M4 := t3.but k5 hl
  have n5 : ∀ d ∈ [D.non, D.tup [], D.lst (S.map Tbl.d), D.tup (S.map Tbl.d ++ S.map Tbl.d), r], notSch d := fun d hd => by
    simp only [List.mem_cons, List.not_mem_nil, or_false] at hd
    rcases hd with rfl | rfl | rfl | rfl | rfl
    · exact ⟨by decide, rfl⟩
    · exact ⟨by decide, by decide⟩
    · exact lst_no hS
    · exact twice_no hS
    · exact nr
  obtain ⟨b9, e6⟩ := e2_loop n5 M4 M4 t4 q0 (some (.int z)) (some (.ref M.length)) a3 a4 a5 a6 a7 a8 a9 (some S.d) q11
  refine ⟨some (.ref M.length), a3, a4, a5, a6, a7, a8, b9, some S.d, M4, ?_, t4⟩
  have hs : ∀ q2 q3 q4 q5 q6 q7 q8 q9 q11 M, eIt (eV 10) [q0, some (.int z), q2, q3, q4, q5, q6, q7, q8, q9, some S.d, q11] M = .ok ⟨S.map Tbl.d, [], M⟩ M := fun _ _ _ _ _ _ _ _ _ M => by simp [Sch.d]
  have l7 : eIt (eLst [eC (.str [122, 122]), eC (.str []), eC .non, eC (.int 5), eTup [eC (.str [97])], eC (.str [102]), eLst [eC (.str [97])]]) [q0, some (.int z), some (.ref M.length), a3, a4, a5, a6, a7, a8, q9, some S.d, q11] M3 = .ok ⟨odd7, [], M3⟩ M3 := by simp [odd7]
  have ls : ∀ M, lstD [S.d] M = some (.lst (S.map Tbl.d)) := fun M => rfl
  have ad : ∀ M, addD S.d S.d M = some (.tup (S.map Tbl.d ++ S.map Tbl.d)) := fun M => add_tup (by rw [List.length_map]; have := hS.ok.l4; omega) M
  have l5 : eIt (eLst [eC .non, eTup [], eN lstD [eV 10], eB addD (eV 10) (eV 10), eCall (ev__law_spoilt 12) [eV 2, eC (.int 5)]]) [q0, some (.int z), some (.ref M.length), a3, a4, a5, a6, a7, a8, a9, some S.d, q11] M3 =
      .ok ⟨[D.non, D.tup [], D.lst (S.map Tbl.d), D.tup (S.map Tbl.d ++ S.map Tbl.d), r], [], M4⟩ M4 := by simp [ls, ad, e5]
  unfold k2out
  rw [w_sCons, w_sLet]
  simp only [w_eCall, w_aL1, w_aL0, w_eV, w_eC, List.getElem?_cons_succ, List.getElem?_cons_zero, Res.bind_ok, e1, ofR_ok, SR.then_nx, List.set_cons_succ, List.set_cons_zero, w_sCons, w_sLet, e2, w_sFor, hs, e3, l7, e4, l5, e6]
theorem k2_outers (ns : List Int) (M M0 : Mem) (hT : Tab0 M) (q0 q1 q2 q3 q4 q5 q6 q7 q8 q9 q10 q11 : Option D) :
    ∃ q1' q2' q3' q4' q5' q6' q7' q8' q9' q10' M', loop (Src.ok ⟨ns.map D.int, [], M0⟩) (.name 1) k2out (ns.map D.int) [q0, q1, q2, q3, q4, q5, q6, q7, q8, q9, q10, q11] M = .nx [q0, q1', q2', q3', q4', q5', q6', q7', q8', q9', q10', q11] M' := by
  obtain ⟨ρ2, M2, hloop, q1', q2', q3', q4', q5', q6', q7', q8', q9', q10', rfl, _⟩ := loop_inv (ok := Src.ok ⟨ns.map D.int, [], M0⟩) (t := .name 1) (body := k2out) (all := ns.map D.int)
    (fun k ρ M' => ∃ q1' q2' q3' q4' q5' q6' q7' q8' q9' q10', ρ = [q0, q1', q2', q3', q4', q5', q6', q7', q8', q9', q10', q11] ∧ Tab0 M') (fun _ _ _ _ => src_ok _ _ _)
    (fun k d ρ M' hd ⟨a1, a2, a3, a4, a5, a6, a7, a8, a9, a10, hρ, hT'⟩ => by
      subst hρ
      rw [List.getElem?_map] at hd
      obtain ⟨z, hz, rfl⟩ := Option.map_eq_some_iff.mp hd
      obtain ⟨b2, b3, b4, b5, b6, b7, b8, b9, b10, M3, e3, t3⟩ := k2_outer M' hT' z q0 a2 a3 a4 a5 a6 a7 a8 a9 a10 q11
      exact ⟨_, w_name _ _ _ _, _, M3, e3, _, _, _, _, _, _, _, _, _, _, rfl, t3⟩) (ns.map D.int).length 0 [q0, q1, q2, q3, q4, q5, q6, q7, q8, q9, q10, q11] M (Nat.add_zero _)
    ⟨q1, q2, q3, q4, q5, q6, q7, q8, q9, q10, rfl, hT⟩
  rw [List.drop_zero] at hloop
  exact ⟨q1', q2', q3', q4', q5', q6', q7', q8', q9', q10', M2, hloop⟩
/-! ### the last lines -/
def S0 : Sch := [⟨[97], [⟨[102], false, true⟩], [⟨[109], [97], true, tHold⟩, ⟨[98], [97], true, tClear⟩], []⟩]
theorem Sc_of {S : Sch} (h : isSchema S.d = true) : Sc S := by
  obtain ⟨S', e, h'⟩ := schema_T h
  have e2 : S.map Tbl.d = S'.map Tbl.d := by simpa [Sch.d] using e
  have e3 : S = S' := List.map_inj_right (f := Tbl.d) (fun x y e => Tbl.d_inj e) |>.mp e2
  exact ⟨by rw [e3]; exact h', h⟩
theorem S0_ok : Sc S0 := Sc_of (by decide +kernel)
theorem S0_hold : holdD S0 [97] = [.tup [.str [97], .str [98]], .tup [.str [97], .str [109]]] := by
  have kp := texts_kd (fun q : Txt8 × Txt8 => [q.1, q.2]) (pairs S0 [97])
  have pm : ((pairs S0 [97]).map pairD).Perm [.tup [.str [97], .str [98]], .tup [.str [97], .str [109]]] := List.Perm.swap _ _ _
  unfold holdD
  rw [sort_perm pm kp.1 kp.2]
  exact sort_self (by simp [D.ltb, D.ltbs, D.beq]; decide)
theorem k2_end (M : Mem) (q0 q1 q2 q3 q4 q5 q6 q7 q8 q9 q10 q11 : Option D) : ∃ M', k2end [q0, q1, q2, q3, q4, q5, q6, q7, q8, q9, q10, q11] M = .rt (.bl true) M' := by
  have ht : (⟨[97], [⟨[102], false, true⟩], [⟨[109], [97], true, tHold⟩, ⟨[98], [97], true, tClear⟩], []⟩ : Tbl) ∈ S0 := List.mem_cons_self
  have c1 := columns_T S0_ok ht M
  have c2 := holders_T S0_ok ht M
  have e0 : S0.d = .tup [.tup [.str [97], .tup [.tup [.str [102], .str [105, 110, 116], .bl true]], .tup [.tup [.str [109], .str [97], .bl true, .str [104, 111, 108, 100]], .tup [.str [98], .str [97], .bl true, .str [99, 108, 101, 97, 114]]], .tup []]] := rfl
  have h2 := eq_hold [97] (M := M ++ [O.lst (holdD S0 [97])]) (j := M.length) (by simp) (hold_fit S0_ok.ok [97]).2
  rw [S0_hold] at h2 c2
  rw [e0] at c1 c2
  have c1' : ev_columns [.tup [.tup [.str [97], .tup [.tup [.str [102], .str [105, 110, 116], .bl true]], .tup [.tup [.str [109], .str [97], .bl true, .str [104, 111, 108, 100]], .tup [.str [98], .str [97], .bl true, .str [99, 108, 101, 97, 114]]], .tup []]], .str [97]] M = .ok (.tup [.str [102], .str [109], .str [98]]) M := c1
  have q3 : eqD (.tup [.str [102], .str [109], .str [98]]) (.tup [.str [102], .str [109], .str [98]]) M = some (.bl true) := rfl
  have c2' : ev_holders [.tup [.tup [.str [97], .tup [.tup [.str [102], .str [105, 110, 116], .bl true]], .tup [.tup [.str [109], .str [97], .bl true, .str [104, 111, 108, 100]], .tup [.str [98], .str [97], .bl true, .str [99, 108, 101, 97, 114]]], .tup []]], .str [97]] M = .ok (.ref M.length) (M ++ [O.lst [.tup [.str [97], .str [98]], .tup [.str [97], .str [109]]]]) := c2
  refine ⟨M ++ [O.lst [.tup [.str [97], .str [98]], .tup [.str [97], .str [109]]]], ?_⟩
  unfold k2end
  simp only [w_sCons, w_sLet, w_eTup, w_aL1, w_aL0, w_eC, Res.bind_ok, ofR_ok, SR.then_nx, List.set_cons_succ, List.set_cons_zero, w_sRet, w_eAnd, w_eB, w_eCall, w_eV, List.getElem?_cons_succ, List.getElem?_cons_zero, c1', q3, out_some, andK_bl, ifK_true, c2', w_eLst, h2]
theorem cut10 (xs : List D) : cut xs none (some 10) = xs.take 10 := by
  by_cases h : 10 ≤ xs.length
  · exact cut_take xs 10 h
  · unfold cut
    simp only [HT.sIx, List.drop_zero]
    have e : xs.take 10 = xs := List.take_of_length_le (by omega)
    rw [e, if_neg (by omega)]
    apply List.take_of_length_le
    have : Int.toNat 10 = 10 := rfl
    omega
theorem law_ok (ns : List Int) (h : ns.length ≤ 63) : ∃ M', ev_law_2 [.lst (ns.map D.int)] (tabs0 1) = .ok (.bl true) M' := by
  have e : ∀ M, addD (.lst [.int 0]) (.lst (ns.map D.int)) M = some (.lst ((0 :: ns).map D.int)) := fun M => add_lst (by simp; omega) M
  have c : ∀ M, cutD (.lst ((0 :: ns).map D.int)) none (some 10) M = some (.lst (((0 :: ns).take 10).map D.int)) := fun M => by
    simp only [cutD, d_lst]
    rw [cut10, List.map_take]
  obtain ⟨a1, a2, a3, a4, a5, a6, a7, a8, a9, a10, M1, hl⟩ := k2_outers ((0 :: ns).take 10) (tabs0 1) (tabs0 1) rfl (some (.lst (ns.map D.int))) none none none none none none none none none none none
  obtain ⟨M2, e2⟩ := k2_end M1 (some (.lst (ns.map D.int))) a1 a2 a3 a4 a5 a6 a7 a8 a9 a10 none
  refine ⟨M2, ?_⟩
  unfold ev_law_2
  rw [w_fn, k2law_eq]
  unfold k2law
  have it : eIt (eSl (eB addD (eLst [eC (.int 0)]) (eV 0)) pNo (pSo (eC (.int 10)))) [some (.lst (ns.map D.int)), none, none, none, none, none, none, none, none, none, none, none] (tabs0 1) = .ok ⟨((0 :: ns).take 10).map D.int, [], tabs0 1⟩ (tabs0 1) := by
    simp only [w_eIt, w_eSl, w_eB, w_eLst, w_aL0, w_aL1, w_eC, w_eV, w_pNo, w_pSo, Res.bind_ok, List.getElem?_cons_zero, e, c, out_some, src_lst, w_outS]
  show fnR (sCons (sFor _ _ _) _ [some (.lst (ns.map D.int)), none, none, none, none, none, none, none, none, none, none, none] (tabs0 1)) = _
  rw [w_sCons, w_sFor, it]
  simp only [ofR_ok, hl, SR.then_nx, e2, fnR_rt]
end Mk
end
theorem PySem.Challenge.cw_mapkeep_k02_columns_and_links_holds : PySem.Challenge.rw_mapkeep_k02_columns_and_links.Holds :=
  holds_of Mk.law_ok
