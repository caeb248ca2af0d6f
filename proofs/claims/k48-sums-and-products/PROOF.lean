import PyProof.Rows.All
import Wide.All
import OpenK.AllK
import Wide.FinOn
import KE.KStateDown
import KE.DataEq
import KE.DataCmp
import KE.DataMinMax
import KE.DataIsa
import KE.DataAny
import KE.SortData
import HandS.ForMost
import HandS.Exc
import HandS.WordsExc
import HandS.CallSlots
import HandS.HotCalls
import HandS.ExcCtx
import HandS.ExcIs
import HandS.Walk
import HandS.Conv
import HandS.Deep
import HandS.Wide
import HandS.Flow
import HandS.Gcd
import HandS.Defaults
import HandS.TryMany
import HandS.IsInst
import HandS.TupAny
import HandS.TupMul
import HandS.Style
import HandS.Text
import HandS.RaiseMore
import KE.KDictSum
import PyProof.TupleOfSeq
import HandS.CallLocal
import HandS.Zip
import KE.GoesEnum
import KE.GoesMore
import HandS.DictTup
import HandS.Iter
import HandS.Small
import HandS.DictComp
import KE.KRevSl
import PyProof.ListRange
import HandS.HeadEnd
import HandS.HeadHook1
import HandS.HeadHook2
import HandS.Head0
import HandS.Head1
import HandS.Head2
import HandS.Head3
import Lean
import PySem.Challenge.RW_turnedseeds_k48_sums_and_products
section PartRvA
set_option Elab.async false
set_option linter.all false
set_option maxRecDepth 100000
set_option autoImplicit false
/-! Rv, part A: values of the plain reading, how they stand in the abstract heap. -/
namespace Rv
open PySem PySem.Spec PyProof.Rows L2

/-- plain values: tuples, lists and dicts inline (never changed); rd: a list that is only read -/
inductive PV where
  | non | bl (b : Bool) | int (i : Int) | str (x : Str) | ty (n : String)
  | tup (xs : List PV) | lst (xs : List PV) | rd (xs : List PV) | dct (ks : List Key) (vs : List PV) | dtt (ks : List (List Key)) (vs : List PV)
  | fn (i : Nat) | cls (i : Nat) | exn (c : Nat)
/-- an expression's value: a plain one, or an object of the reading's own store -/
inductive EV where
  | p (v : PV) | ref (i : Nat)
/-- objects of the store: a list of plain values, a list of objects, dicts; lck, lct: a dict that is walked -/
inductive PO where
  | lst (xs : List PV) | rows (is : List Nat) | dct (ks : List Key) (vs : List PV) | dtt (ks : List (List Key)) (vs : List PV)
  | lck (ks : List Key) (vs : List PV) | lct (ks : List (List Key)) (vs : List PV)
/-- where functions and classes stand -/
structure Adr where
  fn : Nat → Addr
  cls : Nat → Addr

/-- the written part's own list, tuple -/
def KLst (K : PySem.W.Frag) (a : Addr) (xs : List V) : Prop :=
  ∃ (o : Obj) (its : Array Value) (n : Nat), K.lookup a = some o ∧ o.cls = .type "list" ∧ o.dict = none ∧ o.data = .seq its n ∧ its.size ≤ sizeLine ∧ Vals xs its.toList
structure St0 where
  K : PySem.W.Frag
  ad : Adr
  F : Addr → Prop
  /-- the exception that is handled -/
  hx : Option (Addr × Obj)
variable (Z : St0)
/-- an address that is neither the callers' nor in the store -/
def Fre (m : List Addr) (a : Addr) : Prop := ¬ Z.F a ∧ a ∉ m
def SqI (m : List Addr) (H : Hp) (a : Addr) (xs : List V) : Prop := (Rd H a (.lst xs) ∧ Fre Z m a) ∨ KLst Z.K a xs
mutual
inductive Rp (Z : St0) (m : List Addr) (H : Hp) : PV → V → Prop
  | non : Rp Z m H .non .non
  | bl (b : Bool) : Rp Z m H (.bl b) (.bl b)
  | int (i : Int) : Rp Z m H (.int i) (.int i)
  | str (x : Str) : Rp Z m H (.str x) (.str x)
  | ty (n : String) : Rp Z m H (.ty n) (.ty n)
  | tup {a : Addr} {us : List V} {xs : List PV} : H a = some (.tup us) → RpA Z m H xs us → Rp Z m H (.tup xs) (.ref a)
  | lst {a : Addr} {us : List V} {xs : List PV} : H a = some (.lst us) → Fre Z m a → RpA Z m H xs us → Rp Z m H (.lst xs) (.ref a)
  | rd {a : Addr} {us : List V} {xs : List PV} : SqI Z m H a us → RpA Z m H xs us → Rp Z m H (.rd xs) (.ref a)
  | dct {a : Addr} {us : List V} {ks : List Key} {xs : List PV} : Rd H a (.dK (ks.zip us)) → Fre Z m a → ks.length = us.length → RpA Z m H xs us → Rp Z m H (.dct ks xs) (.ref a)
  | dtt {a : Addr} {us : List V} {ks : List (List Key)} {xs : List PV} : Rd H a (.dT (ks.zip us)) → Fre Z m a → ks.length = us.length → RpA Z m H xs us → Rp Z m H (.dtt ks xs) (.ref a)
  | fn (i : Nat) : Rp Z m H (.fn i) (.ref (Z.ad.fn i))
  | cls (i : Nat) : Rp Z m H (.cls i) (.ref (Z.ad.cls i))
  | exn {c : Nat} {q : Addr × Obj} : Z.hx = some q → q.2.cls = .ref (Z.ad.cls c) → q.2.dict = none → (∃ vs, q.2.data = .fields vs) → Rp Z m H (.exn c) (.ref q.1)
inductive RpA (Z : St0) (m : List Addr) (H : Hp) : List PV → List V → Prop
  | nil : RpA Z m H [] []
  | cons {v : PV} {u : V} {vs : List PV} {us : List V} : Rp Z m H v u → RpA Z m H vs us → RpA Z m H (v :: vs) (u :: us)
end
inductive Re (Z : St0) (m : List Addr) (H : Hp) : EV → V → Prop
  | p {v : PV} {u : V} : Rp Z m H v u → Re Z m H (.p v) u
  | ref {i : Nat} {a : Addr} : m[i]? = some a → Re Z m H (.ref i) (.ref a)
inductive ReA (Z : St0) (m : List Addr) (H : Hp) : List EV → List V → Prop
  | nil : ReA Z m H [] []
  | cons {v : EV} {u : V} {vs : List EV} {us : List V} : Re Z m H v u → ReA Z m H vs us → ReA Z m H (v :: vs) (u :: us)
/-- an object of the store at its address -/
def RpO (m : List Addr) (H : Hp) (a : Addr) : PO → Prop
  | .lst xs => ∃ us, H a = some (.lst us) ∧ RpA Z m H xs us
  | .rows is => ∃ us, H a = some (.lst us) ∧ ReA Z m H (is.map .ref) us
  | .dct ks vs => ∃ us, H a = some (.dK (ks.zip us)) ∧ ks.length = us.length ∧ RpA Z m H vs us
  | .dtt ks vs => ∃ us, H a = some (.dT (ks.zip us)) ∧ ks.length = us.length ∧ RpA Z m H vs us
  | .lck ks vs => ∃ us o, H a = some (.frz o (.dK (ks.zip us))) ∧ ks.length = us.length ∧ RpA Z m H vs us
  | .lct ks vs => ∃ us o, H a = some (.frz o (.dT (ks.zip us))) ∧ ks.length = us.length ∧ RpA Z m H vs us
structure Rel (m : List Addr) (S : List PO) (H : Hp) : Prop where
  len : m.length = S.length
  nd : m.Nodup
  ob : ∀ (i : Nat) (a : Addr) (o : PO), m[i]? = some a → S[i]? = some o → RpO Z m H a o
  fr : ∀ a, Z.F a → H a ≠ none
  dj : ∀ a, a ∈ m → ¬ Z.F a
/-- what may have come: the store's addresses grow by new ones, what is not the store's stays -/
structure Ext (m : List Addr) (H : Hp) (m' : List Addr) (H' : Hp) : Prop where
  pre : ∃ q, m' = m ++ q
  keep : ∀ a o, H a = some o → a ∉ m → H' a = some o
  alive : ∀ a, H a ≠ none → H' a ≠ none
  new : ∀ a, a ∈ m' → a ∈ m ∨ H a = none
  tp : ∀ a xs, H a = some (.tup xs) → H' a = some (.tup xs)
variable {Z : St0} {m m1 m2 : List Addr} {H H1 H2 : Hp} {S S1 S2 : List PO}
theorem Ext.refl : Ext m H m H := ⟨⟨[], by simp⟩, fun _ _ h _ => h, fun _ h => h, fun _ h => .inl h, fun _ _ h => h⟩
theorem Ext.trans (a : Ext m H m1 H1) (b : Ext m1 H1 m2 H2) : Ext m H m2 H2 := by
  have nn : ∀ x, H x ≠ none → x ∉ m → x ∉ m1 := fun x h n q => by
    rcases a.new x q with z | z
    · exact n z
    · exact h z
  refine ⟨?_, fun x o h n => b.keep x o (a.keep x o h n) (nn x (by rw [h]; simp) n), fun x h => b.alive x (a.alive x h), fun x h => ?_, fun x xs h => b.tp x xs (a.tp x xs h)⟩
  · obtain ⟨q, rfl⟩ := a.pre
    obtain ⟨r, rfl⟩ := b.pre
    exact ⟨q ++ r, by simp⟩
  · rcases b.new x h with z | z
    · exact a.new x z
    · refine .inr ?_
      cases q : H x with
      | none => rfl
      | some o => exact absurd z (a.alive x (by rw [q]; simp))
theorem Ext.get (e : Ext m H m1 H1) {i : Nat} {a : Addr} (h : m[i]? = some a) : m1[i]? = some a := by
  obtain ⟨q, rfl⟩ := e.pre
  obtain ⟨h1, h2⟩ := List.getElem?_eq_some_iff.mp h
  rw [List.getElem?_append_left h1]; exact h
theorem Ext.sub (e : Ext m H m1 H1) {a : Addr} (h : a ∈ m) : a ∈ m1 := by
  obtain ⟨q, rfl⟩ := e.pre
  exact List.mem_append_left _ h
theorem Ext.rd (e : Ext m H m1 H1) {a : Addr} {o : HO} (h : Rd H a o) (n : a ∉ m) : Rd H1 a o := by
  rcases h with h | ⟨b, h⟩
  · exact .inl (e.keep a _ h n)
  · exact .inr ⟨b, e.keep a _ h n⟩
theorem Rd.ne {a : Addr} {o : HO} (h : Rd H a o) : H a ≠ none := by
  rcases h with h | ⟨b, h⟩ <;> rw [h] <;> simp
theorem Ext.fre (e : Ext m H m1 H1) {a : Addr} (h : Fre Z m a) (n : H a ≠ none) : Fre Z m1 a := ⟨h.1, fun q => by
  rcases e.new a q with z | z
  · exact h.2 z
  · exact n z⟩
theorem Ext.sqI (e : Ext m H m1 H1) {a : Addr} {xs : List V} (h : SqI Z m H a xs) : SqI Z m1 H1 a xs := by
  rcases h with ⟨h, f⟩ | h
  · exact .inl ⟨e.rd h f.2, e.fre f (Rd.ne h)⟩
  · exact .inr h
theorem SqI.sqL {a : Addr} {xs : List V} (h : SqI Z m H a xs) : SqL Z.K H a xs := by
  rcases h with ⟨h, _⟩ | h
  · exact .inl h
  · exact .inr h
mutual
theorem Rp.ext (e : Ext m H m1 H1) : ∀ {v : PV} {u : V}, Rp Z m H v u → Rp Z m1 H1 v u
  | _, _, .non => .non
  | _, _, .bl b => .bl b
  | _, _, .int b => .int b
  | _, _, .str b => .str b
  | _, _, .ty b => .ty b
  | _, _, .tup h r => .tup (e.tp _ _ h) (RpA.ext e r)
  | _, _, .lst h f r => .lst (e.keep _ _ h f.2) (e.fre f (by rw [h]; simp)) (RpA.ext e r)
  | _, _, .rd h r => .rd (e.sqI h) (RpA.ext e r)
  | _, _, .dct h f l r => .dct (e.rd h f.2) (e.fre f (Rd.ne h)) l (RpA.ext e r)
  | _, _, .dtt h f l r => .dtt (e.rd h f.2) (e.fre f (Rd.ne h)) l (RpA.ext e r)
  | _, _, .fn i => .fn i
  | _, _, .cls i => .cls i
  | _, _, .exn h1 h2 h3 h4 => .exn h1 h2 h3 h4
theorem RpA.ext (e : Ext m H m1 H1) : ∀ {v : List PV} {u : List V}, RpA Z m H v u → RpA Z m1 H1 v u
  | _, _, .nil => .nil
  | _, _, .cons h r => .cons (Rp.ext e h) (RpA.ext e r)
end
theorem Re.ext (e : Ext m H m1 H1) {v : EV} {u : V} (h : Re Z m H v u) : Re Z m1 H1 v u := by
  cases h with
  | p h => exact .p (h.ext e)
  | ref h => exact .ref (e.get h)
theorem ReA.ext (e : Ext m H m1 H1) : ∀ {v : List EV} {u : List V}, ReA Z m H v u → ReA Z m1 H1 v u
  | _, _, .nil => .nil
  | _, _, .cons h r => .cons (h.ext e) (ReA.ext e r)
theorem ReA.length : ∀ {v : List EV} {u : List V}, ReA Z m H v u → v.length = u.length
  | _, _, .nil => rfl
  | _, _, .cons _ r => congrArg Nat.succ (ReA.length r)
theorem ReA.get : ∀ {v : List EV} {u : List V} {i : Nat} {x : EV}, ReA Z m H v u → v[i]? = some x → ∃ y, u[i]? = some y ∧ Re Z m H x y
  | _, _, _, _, .nil, h => by simp at h
  | _, _, 0, _, .cons h _, e => by simp at e; subst e; exact ⟨_, rfl, h⟩
  | _, _, i + 1, x, .cons _ r, e => by
    obtain ⟨y, h1, h2⟩ := ReA.get (i := i) (x := x) r (by simpa using e)
    exact ⟨y, by simpa using h1, h2⟩
theorem ReA.getV : ∀ {v : List EV} {u : List V} {i : Nat} {y : V}, ReA Z m H v u → u[i]? = some y → ∃ x, v[i]? = some x ∧ Re Z m H x y
  | _, _, _, _, .nil, h => by simp at h
  | _, _, 0, _, .cons h _, e => by simp at e; subst e; exact ⟨_, rfl, h⟩
  | _, _, i + 1, x, .cons _ r, e => by
    obtain ⟨y, h1, h2⟩ := ReA.getV (i := i) (y := x) r (by simpa using e)
    exact ⟨y, by simpa using h1, h2⟩
theorem ReA.of : ∀ {v : List PV} {u : List V}, RpA Z m H v u → ReA Z m H (v.map .p) u
  | _, _, .nil => .nil
  | _, _, .cons h r => .cons (.p h) (ReA.of r)
theorem ReA.append : ∀ {v v2 : List EV} {u u2 : List V}, ReA Z m H v u → ReA Z m H v2 u2 → ReA Z m H (v ++ v2) (u ++ u2)
  | _, _, _, _, .nil, q => q
  | _, _, _, _, .cons h r, q => .cons h (ReA.append r q)
theorem RpA.length : ∀ {v : List PV} {u : List V}, RpA Z m H v u → v.length = u.length
  | _, _, .nil => rfl
  | _, _, .cons _ r => congrArg Nat.succ (RpA.length r)
theorem RpA.append : ∀ {v v2 : List PV} {u u2 : List V}, RpA Z m H v u → RpA Z m H v2 u2 → RpA Z m H (v ++ v2) (u ++ u2)
  | _, _, _, _, .nil, q => q
  | _, _, _, _, .cons h r, q => .cons h (RpA.append r q)
theorem RpA.get : ∀ {v : List PV} {u : List V} {i : Nat} {x : PV}, RpA Z m H v u → v[i]? = some x → ∃ y, u[i]? = some y ∧ Rp Z m H x y
  | _, _, _, _, .nil, h => by simp at h
  | _, _, 0, _, .cons h _, e => by simp at e; subst e; exact ⟨_, rfl, h⟩
  | _, _, i + 1, x, .cons _ r, e => by
    obtain ⟨y, h1, h2⟩ := RpA.get (i := i) (x := x) r (by simpa using e)
    exact ⟨y, by simpa using h1, h2⟩
theorem RpA.getV : ∀ {v : List PV} {u : List V} {i : Nat} {y : V}, RpA Z m H v u → u[i]? = some y → ∃ x, v[i]? = some x ∧ Rp Z m H x y
  | _, _, _, _, .nil, h => by simp at h
  | _, _, 0, _, .cons h _, e => by simp at e; subst e; exact ⟨_, rfl, h⟩
  | _, _, i + 1, x, .cons _ r, e => by
    obtain ⟨y, h1, h2⟩ := RpA.getV (i := i) (y := x) r (by simpa using e)
    exact ⟨y, by simpa using h1, h2⟩
theorem RpA.set {x : PV} {y : V} (h : Rp Z m H x y) : ∀ {v : List PV} {u : List V} (i : Nat), RpA Z m H v u → RpA Z m H (v.set i x) (u.set i y)
  | _, _, _, .nil => .nil
  | _, _, 0, .cons _ r => .cons h r
  | _, _, i + 1, .cons q r => .cons q (RpA.set h i r)
theorem RpA.take : ∀ {v : List PV} {u : List V} (n : Nat), RpA Z m H v u → RpA Z m H (v.take n) (u.take n)
  | _, _, 0, _ => .nil
  | _, _, _ + 1, .nil => .nil
  | _, _, n + 1, .cons h r => .cons h (RpA.take n r)
theorem RpA.drop : ∀ {v : List PV} {u : List V} (n : Nat), RpA Z m H v u → RpA Z m H (v.drop n) (u.drop n)
  | _, _, 0, r => r
  | _, _, _ + 1, .nil => .nil
  | _, _, n + 1, .cons _ r => RpA.drop n r
theorem RpA.reverse : ∀ {v : List PV} {u : List V}, RpA Z m H v u → RpA Z m H v.reverse u.reverse
  | _, _, .nil => .nil
  | _, _, .cons h r => by
    rw [List.reverse_cons, List.reverse_cons]
    exact RpA.append (RpA.reverse r) (.cons h .nil)
/-- the store's objects are lists and dicts -/
def Sto : Option HO → Prop
  | some (.lst _) => True
  | some (.dK _) => True
  | some (.dT _) => True
  | some (.frz _ (.dK _)) => True
  | some (.frz _ (.dT _)) => True
  | _ => False
theorem RpO.mut {a : Addr} {o : PO} (h : RpO Z m H a o) : Sto (H a) := by
  cases o with
  | lst xs => obtain ⟨us, e, _⟩ := h; rw [e]; trivial
  | rows xs => obtain ⟨us, e, _⟩ := h; rw [e]; trivial
  | dct ks vs => obtain ⟨us, e, _⟩ := h; rw [e]; trivial
  | dtt ks vs => obtain ⟨us, e, _⟩ := h; rw [e]; trivial
  | lck ks vs => obtain ⟨us, o, e, _⟩ := h; rw [e]; trivial
  | lct ks vs => obtain ⟨us, o, e, _⟩ := h; rw [e]; trivial
theorem Rel.obj (R : Rel Z m S H) {a : Addr} (h : a ∈ m) : Sto (H a) := by
  obtain ⟨i, hi⟩ := List.mem_iff_getElem?.mp h
  obtain ⟨h1, _⟩ := List.getElem?_eq_some_iff.mp hi
  have h2 : i < S.length := by rw [← R.len]; exact h1
  exact (R.ob i a _ hi (List.getElem?_eq_getElem h2)).mut
theorem Rel.ne (R : Rel Z m S H) {a : Addr} (h : a ∈ m) : H a ≠ none := fun e => by
  have := R.obj h
  rw [e] at this; exact this
theorem RpO.ext {a : Addr} {o : PO} (e : Ext m H m1 H1) (he : H1 a = H a) (h : RpO Z m H a o) : RpO Z m1 H1 a o := by
  cases o with
  | lst xs => obtain ⟨us, q, r⟩ := h; exact ⟨us, he.trans q, r.ext e⟩
  | rows xs => obtain ⟨us, q, r⟩ := h; exact ⟨us, he.trans q, r.ext e⟩
  | dct ks vs => obtain ⟨us, q, l, r⟩ := h; exact ⟨us, he.trans q, l, r.ext e⟩
  | dtt ks vs => obtain ⟨us, q, l, r⟩ := h; exact ⟨us, he.trans q, l, r.ext e⟩
  | lck ks vs => obtain ⟨us, o, q, l, r⟩ := h; exact ⟨us, o, he.trans q, l, r.ext e⟩
  | lct ks vs => obtain ⟨us, o, q, l, r⟩ := h; exact ⟨us, o, he.trans q, l, r.ext e⟩
/-- a new object that is not the store's -/
theorem Ext.alloc {p : Addr} {o : HO} (h : H p = none) : Ext m H m (upd H p o) :=
  ⟨⟨[], by simp⟩, fun a u e _ => by rw [upd_ne (ne_of_none e h)]; exact e, fun a e => by
    by_cases q : a = p
    · rw [q, upd_same]; simp
    · rw [upd_ne q]; exact e, fun _ h => .inl h, fun a xs e => by rw [upd_ne (ne_of_none e h)]; exact e⟩
theorem Rel.alloc {p : Addr} {o : HO} (R : Rel Z m S H) (h : H p = none) : Rel Z m S (upd H p o) :=
  ⟨R.len, R.nd, fun i a u h1 h2 => (R.ob i a u h1 h2).ext (Ext.alloc h) (by
    rw [upd_ne]; rintro rfl; exact R.ne (List.mem_of_getElem? h1) h), fun a f => (Ext.alloc (m := m) h).alive a (R.fr a f), R.dj⟩
/-- a new object of the store -/
theorem Ext.allocM {p : Addr} {o : HO} (h : H p = none) : Ext m H (m ++ [p]) (upd H p o) :=
  have e := Ext.alloc (m := m) (o := o) h
  ⟨⟨[p], rfl⟩, e.keep, e.alive, fun a q => by
    rcases List.mem_append.mp q with q | q
    · exact .inl q
    · rw [List.mem_singleton.mp q]; exact .inr h, e.tp⟩
theorem Rel.allocM {p : Addr} {o : PO} {u : HO} (R : Rel Z m S H) (h : H p = none) (ho : RpO Z (m ++ [p]) (upd H p u) p o) : Rel Z (m ++ [p]) (S ++ [o]) (upd H p u) := by
  have hp : p ∉ m := fun q => R.ne q h
  refine ⟨by simp [R.len], ?_, fun i a u' h1 h2 => ?_, fun a f => (Ext.alloc (m := m) h).alive a (R.fr a f), fun a q => ?_⟩
  · rw [List.nodup_append]
    refine ⟨R.nd, by simp, fun a ha b hb => ?_⟩
    rw [List.mem_singleton.mp hb]; rintro rfl; exact hp ha
  · by_cases hi : i < m.length
    · rw [List.getElem?_append_left hi] at h1
      rw [List.getElem?_append_left (by rw [← R.len]; exact hi)] at h2
      exact (R.ob i a u' h1 h2).ext (Ext.allocM h) (by rw [upd_ne]; rintro rfl; exact hp (List.mem_of_getElem? h1))
    · have e : i = m.length := by
        obtain ⟨q, _⟩ := List.getElem?_eq_some_iff.mp h1
        rw [List.length_append, List.length_singleton] at q
        omega
      subst e
      rw [List.getElem?_append_right (Nat.le_refl _), Nat.sub_self] at h1
      rw [R.len, List.getElem?_append_right (Nat.le_refl _), Nat.sub_self] at h2
      cases h1
      cases h2
      exact ho
  · rcases List.mem_append.mp q with q | q
    · exact R.dj a q
    · rw [List.mem_singleton.mp q]; exact fun f => R.fr p f h
/-- an object of the store is changed -/
theorem Ext.write {a : Addr} {o : HO} (R : Rel Z m S H) (h : a ∈ m) : Ext m H m (upd H a o) :=
  ⟨⟨[], by simp⟩, fun b u e n => by rw [upd_ne]; exact e; rintro rfl; exact n h, fun b e => by
    by_cases q : b = a
    · rw [q, upd_same]; simp
    · rw [upd_ne q]; exact e, fun _ h => .inl h, fun b xs e => by
    have nb : b ≠ a := by
      rintro rfl
      have := R.obj h
      rw [e] at this; exact this
    rw [upd_ne nb]; exact e⟩
theorem Rel.write {i : Nat} {a : Addr} {o : PO} {u : HO} (R : Rel Z m S H) (h : m[i]? = some a) (ho : RpO Z m (upd H a u) a o) : Rel Z m (S.set i o) (upd H a u) := by
  have ha := List.mem_of_getElem? h
  refine ⟨by rw [List.length_set]; exact R.len, R.nd, fun j b u' h1 h2 => ?_, fun b f => (Ext.write (o := u) R ha).alive b (R.fr b f), R.dj⟩
  by_cases hj : j = i
  · subst hj
    rw [h] at h1; cases h1
    have hl : j < S.length := by rw [← R.len]; exact (List.getElem?_eq_some_iff.mp h).1
    rw [List.getElem?_set_self hl] at h2
    cases h2
    exact ho
  · rw [List.getElem?_set_ne (Ne.symm hj)] at h2
    refine (R.ob j b u' h1 h2).ext (Ext.write R ha) (by
      rw [upd_ne]; rintro rfl
      obtain ⟨q1, e1⟩ := List.getElem?_eq_some_iff.mp h
      obtain ⟨q2, e2⟩ := List.getElem?_eq_some_iff.mp h1
      exact hj ((List.getElem_inj R.nd).mp (e2.trans e1.symm)))

/-! ### what comes of a reading -/
inductive Out (α : Type) where
  | ok (a : α) (S : List PO)
  | exc (c : Nat) (fs : List PV) (S : List PO)
  | stuck
def Out.bind {α β : Type} (o : Out α) (f : α → List PO → Out β) : Out β := match o with
  | .ok a S => f a S
  | .exc c fs S => .exc c fs S
  | .stuck => .stuck
/-- an exception's own dict -/
def RpX (Z : St0) (m : List Addr) (H : Hp) (nm : List Str) (fs : List PV) (d : Option Addr) : Prop :=
  match nm with
  | [] => fs = [] ∧ d = none
  | nm => ∃ a us, d = some a ∧ H a = some (.xd (nm.zip us)) ∧ nm.length = us.length ∧ RpA Z m H fs us
end Rv
end PartRvA
section PartRvB
set_option Elab.async false
set_option linter.all false
set_option maxRecDepth 100000
set_option autoImplicit false
/-! Rv, part B: the judgements. -/
namespace Rv
open PySem PySem.Spec PyProof.Rows L2

/-! ### the universal readings -/
section
variable {X : Cx}
def jE (X : Cx) (e : Expr) : TE := fun σ H Q => ∀ (pins : List (Addr × Obj)) (s : Shared), Inv X pins σ H s → wpAny (model X.prog X.w) X.A (eval e X.env) (EP X pins σ Q) X.xe s
theorem pe_j {e : Expr} : PE X e (jE X e) := ⟨fun pins s _ _ _ I h => h pins s I⟩
theorem PE.j {e : Expr} {t : TE} {σ : L2.St} {H : Hp} {Q : VK} (h : PE X e t) (q : t σ H Q) : jE X e σ H Q := fun pins s I => h.run pins s σ H Q I q
theorem jE.inv {e : Expr} {σ : L2.St} {H : Hp} {Q : VK} (h : ∀ (pins : List (Addr × Obj)) (s : Shared), Inv X pins σ H s → jE X e σ H Q) : jE X e σ H Q := fun pins s I => h pins s I pins s I
theorem jE.mono {e : Expr} {σ : L2.St} {H : Hp} {Q Q' : VK} (h : jE X e σ H Q) (hq : ∀ v H', Q v H' → Q' v H') : jE X e σ H Q' := fun pins s I => thn (h pins s I) fun _ _ ⟨v, H', I', r, q⟩ => ⟨v, H', I', r, hq v H' q⟩
def jT (X : Cx) (e : Expr) : TT := fun σ H Q => ∀ (pins : List (Addr × Obj)) (s : Shared), Inv X pins σ H s → wpAny (model X.prog X.w) X.A (isTrue e X.env (eval e X.env)) (TP X pins σ Q) X.xe s
theorem pt_j {e : Expr} : PT X e (jT X e) := ⟨fun pins s _ _ _ I h => h pins s I⟩
theorem PT.j {e : Expr} {t : TT} {σ : L2.St} {H : Hp} {Q : Bool → Hp → Prop} (h : PT X e t) (q : t σ H Q) : jT X e σ H Q := fun pins s I => h.run pins s σ H Q I q
def jW (X : Cx) (e : Expr) : TT := fun σ H Q => ∀ (whole : Sem Value) (pins : List (Addr × Obj)) (s : Shared), Inv X pins σ H s → wpAny (model X.prog X.w) X.A (isTrue e X.env whole) (TP X pins σ Q) X.xe s
theorem pw_j {e : Expr} : PW X e (jW X e) := ⟨fun wh pins s _ _ _ I h => h wh pins s I⟩
theorem PW.j {e : Expr} {t : TT} {σ : L2.St} {H : Hp} {Q : Bool → Hp → Prop} (h : PW X e t) (q : t σ H Q) : jW X e σ H Q := fun wh pins s I => h.run wh pins s σ H Q I q
def jA (X : Cx) (es : List Expr) : TA := fun σ H Q => ∀ (pos : Pos) (pins : List (Addr × Obj)) (s : Shared), Inv X pins σ H s → wpAny (model X.prog X.w) X.A (spliced (backTo pos (starEach es X.env))) (AP X pins σ Q) X.xe s
theorem pa_j {es : List Expr} : PA X es (jA X es) := ⟨fun pos pins s _ _ _ I h => h pos pins s I⟩
theorem PA.j {es : List Expr} {t : TA} {σ : L2.St} {H : Hp} {Q : List V → Hp → Prop} (h : PA X es t) (q : t σ H Q) : jA X es σ H Q := fun pos pins s I => h.run pos pins s σ H Q I q
def jS (X : Cx) (st : Stmt) : TS := fun D σ H => ∀ (pins : List (Addr × Obj)) (s : Shared), Inv X pins σ H s → wpAny (model X.prog X.w) X.A (exec st X.env) (SP X pins D) X.xe s
theorem ps_j {st : Stmt} : PS X st (jS X st) := ⟨fun pins s _ _ _ I h => h pins s I⟩
theorem PS.j {st : Stmt} {t : TS} {D : Ends} {σ : L2.St} {H : Hp} (h : PS X st t) (q : t D σ H) : jS X st D σ H := fun pins s I => h.run pins s σ H D I q
def jSs (X : Cx) (st : List Stmt) : TS := fun D σ H => ∀ (pins : List (Addr × Obj)) (s : Shared), Inv X pins σ H s → wpAny (model X.prog X.w) X.A (execs st X.env) (SP X pins D) X.xe s
theorem pss_j {st : List Stmt} : PSs X st (jSs X st) := ⟨fun pins s _ _ _ I h => h pins s I⟩
theorem PSs.j {st : List Stmt} {t : TS} {D : Ends} {σ : L2.St} {H : Hp} (h : PSs X st t) (q : t D σ H) : jSs X st D σ H := fun pins s I => h.run pins s σ H D I q
def jI (X : Cx) (tg iter : Expr) : TI := fun σ H R => ∀ (pins : List (Addr × Obj)) (s : Shared), Inv X pins σ H s → wpAny (model X.prog X.w) X.A (eval iter X.env) (fun v s1 => wpAny (model X.prog X.w) X.A (pyIter v) (PIE X pins σ tg R) X.xe s1) X.xe s
theorem pi_j {tg it : Expr} : PI X tg it (jI X tg it) := ⟨fun pins s _ _ _ I h => h pins s I⟩
theorem PI.j {tg it : Expr} {t : TI} {σ : L2.St} {H : Hp} {R : It → Hp → Prop} (h : PI X tg it t) (q : t σ H R) : jI X tg it σ H R := fun pins s I => h.run pins s σ H R I q
def jG (X : Cx) (tg : Expr) : TG := fun v σ H Q => ∀ (pins : List (Addr × Obj)) (s : Shared) (u : Value), Inv X pins σ H s → RelV v u → wpAny (model X.prog X.w) X.A (assign tg X.env u) (fun _ s' => ∃ σ' H', Inv X pins σ' H' s' ∧ Q σ' H') X.xe s
theorem pg_j {tg : Expr} : PG X tg (jG X tg) := ⟨fun pins s _ _ _ u _ I r h => h pins s u I r⟩
theorem PG.j {tg : Expr} {t : TG} {v : V} {σ : L2.St} {H : Hp} {Q : L2.St → Hp → Prop} (h : PG X tg t) (q : t v σ H Q) : jG X tg v σ H Q := fun pins s u I r => h.run pins s σ H v u Q I r q
end

/-- what a def hands back: a value, or a tuple of values just made -/
inductive RV where
  | e (v : EV) | t (vs : List EV)
inductive RpR (Z : St0) (m : List Addr) (H : Hp) : RV → V → Prop
  | e {v : EV} {u : V} : Re Z m H v u → RpR Z m H (.e v) u
  | t {vs : List EV} {us : List V} {a : Addr} : H a = some (.tup us) → ReA Z m H vs us → RpR Z m H (.t vs) (.ref a)
/-! ### the program's tables -/
/-- a def: its name, parameters, all names by slot -/
structure FnI where
  name : Str
  ps : List Str
  N : List Str
/-- an exception class: its name, its fields' names -/
structure ClI where
  name : Str
  nm : List Str
/-- the tables: defs, classes, names that are free (built-in), module constants; call: what a def does -/
structure Gm where
  fns : List FnI
  cls : List ClI
  free : List Str
  csts : List (Str × PV)
  sub : Nat → Nat → Bool
  call : Nat → List EV → List PO → Out RV
  hot : Nat → Bool
  bfs : List (Str × String)
def Gm.nm (G : Gm) (c : Nat) : List Str := match G.cls[c]? with
  | some i => i.nm
  | none => []

/-! ### slots -/
abbrev Sl := List (Option EV)
def RpE (Z : St0) (m : List Addr) (H : Hp) (ρ : Sl) (σ : L2.St) : Prop := ρ.length = σ.length ∧ ∀ (i : Nat) (v : EV), ρ[i]? = some (some v) → ∃ u, σ[i]? = some (some u) ∧ Re Z m H v u
section
variable {Z : St0} {m m1 : List Addr} {H H1 : Hp} {S S1 : List PO} {ρ : Sl} {σ : L2.St} {W : WX} {G : Gm}
theorem RpE.ext (e : Ext m H m1 H1) (h : RpE Z m H ρ σ) : RpE Z m1 H1 ρ σ := ⟨h.1, fun i v q => let ⟨u, a, b⟩ := h.2 i v q; ⟨u, a, b.ext e⟩⟩
theorem RpE.set {i : Nat} {v : EV} {u : V} (h : RpE Z m H ρ σ) (r : Re Z m H v u) : RpE Z m H (ρ.set i (some v)) (σ.set i (some u)) := by
  refine ⟨by simp [h.1], fun j w q => ?_⟩
  by_cases hj : j = i
  · subst hj
    obtain ⟨hl, _⟩ := List.getElem?_eq_some_iff.mp q
    rw [List.length_set] at hl
    rw [List.getElem?_set_self hl] at q
    cases q
    exact ⟨u, List.getElem?_set_self (by rw [← h.1]; exact hl), r⟩
  · rw [List.getElem?_set_ne (Ne.symm hj)] at q
    rw [List.getElem?_set_ne (Ne.symm hj)]
    exact h.2 j w q
theorem RpE.clear {i : Nat} {o : Option V} (h : RpE Z m H ρ σ) : RpE Z m H (ρ.set i none) (σ.set i o) := by
  refine ⟨by simp [h.1], fun j w q => ?_⟩
  by_cases hj : j = i
  · subst hj
    obtain ⟨hl, _⟩ := List.getElem?_eq_some_iff.mp q
    rw [List.length_set] at hl
    rw [List.getElem?_set_self hl] at q
    cases q
  · rw [List.getElem?_set_ne (Ne.symm hj)] at q
    rw [List.getElem?_set_ne (Ne.symm hj)]
    exact h.2 j w q
/-- the comprehension's own slots forgotten -/
def wipeP (ρ : Sl) : List Nat → Sl
  | [] => ρ
  | v :: vs => (wipeP ρ vs).set v none
theorem RpE.wipe (h : RpE Z m H ρ σ) : ∀ vs : List Nat, RpE Z m H (wipeP ρ vs) (wipe σ vs)
  | [] => h
  | v :: vs => (RpE.wipe h vs).clear

/-! ### what is wanted behind a reading -/
/-- an exception: class number c, its fields -/
def ExW (Z : St0) (G : Gm) (W : WX) (m : List Addr) (H : Hp) (σ : L2.St) (c : Nat) (fs : List PV) (S : List PO) : Prop :=
  ∀ (m' : List Addr) (H' : Hp) (d : Option Addr), Ext m H m' H' → Rel Z m' S H' → RpX Z m' H' (G.nm c) fs d → W (.ref (Z.ad.cls c)) d σ H'
theorem ExW.ext {c : Nat} {fs : List PV} (h : ExW Z G W m H σ c fs S) (e : Ext m H m1 H1) : ExW Z G W m1 H1 σ c fs S := fun m' H' d e' => h m' H' d (e.trans e')
def Post {α β : Type} (Z : St0) (G : Gm) (W : WX) (R : List Addr → Hp → α → β → Prop) (m : List Addr) (H : Hp) (σ : L2.St) (o : Out α) (Q : β → Hp → Prop) : Prop := match o with
  | .ok v S => ∀ (m' : List Addr) (H' : Hp) (u : β), Ext m H m' H' → Rel Z m' S H' → R m' H' v u → Q u H'
  | .exc c fs S => ExW Z G W m H σ c fs S
  | .stuck => False
variable {α β α' β' : Type} {R : List Addr → Hp → α → β → Prop} {R' : List Addr → Hp → α' → β' → Prop}
theorem Post.ext {o : Out α} {Q : β → Hp → Prop} (h : Post Z G W R m H σ o Q) (e : Ext m H m1 H1) : Post Z G W R m1 H1 σ o Q := by
  cases o with
  | ok v S => exact fun m' H' u e' => h m' H' u (e.trans e')
  | exc c fs S => exact ExW.ext h e
  | stuck => exact h
theorem Post.bind {o : Out α} {f : α → List PO → Out α'} {Q : β' → Hp → Prop} {Q1 : β → Hp → Prop} (h : Post Z G W R' m H σ (o.bind f) Q)
    (k : ∀ v S m' H' u, o = .ok v S → Ext m H m' H' → Rel Z m' S H' → R m' H' v u → Post Z G W R' m' H' σ (f v S) Q → Q1 u H') : Post Z G W R m H σ o Q1 := by
  cases o with
  | ok v S => exact fun m' H' u e r q => k v S m' H' u rfl e r q (Post.ext (o := f v S) h e)
  | exc c fs S => exact h
  | stuck => exact h
theorem Post.mono {o : Out α} {Q Q' : β → Hp → Prop} (h : Post Z G W R m H σ o Q) (k : ∀ u H', Q u H' → Q' u H') : Post Z G W R m H σ o Q' := by
  cases o with
  | ok v S => exact fun m' H' u e r q => k u H' (h m' H' u e r q)
  | exc c fs S => exact h
  | stuck => exact h
/-- at once -/
theorem Post.now {v : α} {u : β} {Q : β → Hp → Prop} (h : Post Z G W R m H σ (.ok v S) Q) (r : Rel Z m S H) (q : R m H v u) : Q u H := h m H u Ext.refl r q
end
/-- for bools -/
abbrev RB : List Addr → Hp → Bool → Bool → Prop := fun _ _ a b => a = b

/-! ### defs -/
/-- what a def promises -/
def spOf (K : PySem.W.Frag) (ad : Adr) (hx : Option (Addr × Obj)) (G : Gm) (i : Nat) (n : Nat) : Sp := fun vs H Q E =>
  ∃ (F : Addr → Prop) (m : List Addr) (S : List PO) (args : List EV), args.length = n ∧ Rel ⟨K, ad, F, hx⟩ m S H ∧ ReA ⟨K, ad, F, hx⟩ m H args vs ∧
    Post ⟨K, ad, F, hx⟩ G (fun c d _ H' => E c d H') (RpR ⟨K, ad, F, hx⟩) m H [] (G.call i args S) Q
/-- the static context: names by slot, the scope, which names are cells of this frame's own -/
structure Sx where
  N : List Str
  sc : Scope
  fnc : Str → Bool
  hot : Bool
  top : Bool
/-- a def called while the exception p is handled -/
structure FnQ (P : Program) (w : World) (K : PySem.W.Frag) (mg : Str → Option Value) (base : Heap) (CX : CXT) (p : Addr × Obj) (k : Nat) (f : Addr) (fd : FuncData) (ps : List Str) (sp : Sp) : Prop where
  len : ∀ vs H Q E, sp vs H Q E → vs.length = ps.length
  run : ∀ (A : Around) (outer : List Env) (s : Shared) (H : Hp) (args : Args) (us : List Value) (vs : List V) (Q : VK) (E : XK), L2H.RoomH k A → L2H.Hot1 A p → L2H.PinOk outer H s p → Env0 P w K mg base A outer s H → BindsTo s fd args (ps.zip us) → Vals vs us → sp vs H Q E →
    codeAny (model P w) A (.call (.ref f) args) (CR CX outer P w H s Q E) s
structure XOk (Z : St0) (G : Gm) (d : Nat) (x : Sx) (X : Cx) : Prop where
  hK : X.K = Z.K
  hN : X.N = x.N
  hs : X.env.scope = x.sc
  hf : X.fn = x.fnc
  calm : x.hot = false → X.calm = true ∧ Room d X.A ∧ Z.hx = none
  room : L2H.RoomH d X.A
  hotc : x.hot = true → ∃ p, Z.hx = some p ∧ L2H.Hot1 X.A p ∧ p ∈ X.pn
  nd : X.N.Nodup
  stk : x.top = true → X.stack = X.env :: X.outer ∧ X.env.frame = some X.env.locals
  fns : ∀ (i : Nat) (f : FnI), G.fns[i]? = some f → ∃ fd, X.mg f.name = some (.ref (Z.ad.fn i)) ∧ PySem.W.keepIn X.K (.ref (Z.ad.fn i)) = true ∧ Binds X.K fd f.ps [] ∧
    FnOk X.prog X.w X.K X.mg X.base (L2N.CX X.prog X.w) d (Z.ad.fn i) fd f.ps (spOf X.K Z.ad none G i f.ps.length) ∧
    (G.hot i = true → ∀ p, FnQ X.prog X.w X.K X.mg X.base (L2N.CX X.prog X.w) p d (Z.ad.fn i) fd f.ps (spOf X.K Z.ad (some p) G i f.ps.length))
  cls : ∀ (i : Nat) (c : ClI), G.cls[i]? = some c → X.mg c.name = some (.ref (Z.ad.cls i)) ∧ PySem.W.keepIn X.K (.ref (Z.ad.cls i)) = true ∧ Raises X (.ref (Z.ad.cls i)) ∧
    (c.nm = [] → PySem.W.excIn X.K (Z.ad.cls i) PySem.HandSPX.veTail "ValueError.__new__" = true) ∧ ExcC X.K (Z.ad.cls i) ∧ PySem.W.kitOne X.K (.ref (Z.ad.cls i)) (.type "ValueError") = some true ∧
    ∀ (j : Nat) (c2 : ClI), G.cls[j]? = some c2 → PySem.W.kitOne X.K (.ref (Z.ad.cls i)) (.ref (Z.ad.cls j)) = some (G.sub i j) ∧ PySem.W.exmOne X.K (.ref (Z.ad.cls i)) (.ref (Z.ad.cls j)) = some (G.sub i j)
  free : ∀ y, y ∈ G.free → X.mg y = none
  bfs : ∀ y id, (y, id) ∈ G.bfs → X.mg y = some (.builtin id)
  csts : ∀ y v, (y, v) ∈ G.csts → ∃ u w, X.mg y = some u ∧ RelV w u ∧ ∀ F hx m H, Rp ⟨Z.K, Z.ad, F, hx⟩ m H v w
structure Now (Z : St0) (G : Gm) (d : Nat) (x : Sx) (X : Cx) (W : WX) (m : List Addr) (H : Hp) (S : List PO) (ρ : Sl) (σ : L2.St) : Prop where
  ok : XOk Z G d x X
  tk : L2N.Takes X W
  po : PassesOwn (model X.prog X.w) X.A X.env X.xe
  rel : Rel Z m S H
  env : RpE Z m H ρ σ
theorem Now.step {Z : St0} {G : Gm} {d : Nat} {x : Sx} {X : Cx} {W : WX} {m m' : List Addr} {H H' : Hp} {S S' : List PO} {ρ : Sl} {σ : L2.St} (n : Now Z G d x X W m H S ρ σ) (e : Ext m H m' H') (r : Rel Z m' S' H') : Now Z G d x X W m' H' S' ρ σ :=
  ⟨n.ok, n.tk, n.po, r, n.env.ext e⟩
/-- e is read as f -/
def SE (G : Gm) (d : Nat) (x : Sx) (e : Expr) (f : Sl → List PO → Out EV) : Prop :=
  ∀ (Z : St0) (X : Cx) (W : WX) (m : List Addr) (H : Hp) (S : List PO) (ρ : Sl) (σ : L2.St) (Q : VK), Now Z G d x X W m H S ρ σ → Post Z G W (Re Z) m H σ (f ρ S) Q → jE X e σ H Q
def ST (G : Gm) (d : Nat) (x : Sx) (e : Expr) (f : Sl → List PO → Out Bool) : Prop :=
  ∀ (Z : St0) (X : Cx) (W : WX) (m : List Addr) (H : Hp) (S : List PO) (ρ : Sl) (σ : L2.St) (Q : Bool → Hp → Prop), Now Z G d x X W m H S ρ σ → Post Z G W RB m H σ (f ρ S) Q → jT X e σ H Q
def SW (G : Gm) (d : Nat) (x : Sx) (e : Expr) (f : Sl → List PO → Out Bool) : Prop :=
  ∀ (Z : St0) (X : Cx) (W : WX) (m : List Addr) (H : Hp) (S : List PO) (ρ : Sl) (σ : L2.St) (Q : Bool → Hp → Prop), Now Z G d x X W m H S ρ σ → Post Z G W RB m H σ (f ρ S) Q → jW X e σ H Q
def SA (G : Gm) (d : Nat) (x : Sx) (es : List Expr) (f : Sl → List PO → Out (List EV)) : Prop :=
  ∀ (Z : St0) (X : Cx) (W : WX) (m : List Addr) (H : Hp) (S : List PO) (ρ : Sl) (σ : L2.St) (Q : List V → Hp → Prop), Now Z G d x X W m H S ρ σ → Post Z G W (ReA Z) m H σ (f ρ S) Q → jA X es σ H Q
/-- e makes a new list of these items -/
def SL (G : Gm) (d : Nat) (x : Sx) (e : Expr) (f : Sl → List PO → Out (List EV)) : Prop :=
  ∀ (Z : St0) (X : Cx) (W : WX) (m : List Addr) (H : Hp) (S : List PO) (ρ : Sl) (σ : L2.St) (Q : VK), Now Z G d x X W m H S ρ σ →
    Post Z G W (ReA Z) m H σ (f ρ S) (fun us H' => ∀ p, H' p = none → Q (.ref p) (upd H' p (.lst us))) → jE X e σ H Q
end Rv
end PartRvB
section PartRvX
set_option Elab.async false
set_option linter.all false
set_option maxRecDepth 100000
set_option autoImplicit false
/-! Rv, part X: the plain reading: its terms and what they do. -/
namespace Rv
open PySem PySem.Spec PyProof.Rows L2

/-! ### data -/
/-- a plain value as data, of depth at most n -/
def toD : Nat → PV → Option PyData
  | _, .non => some .none
  | _, .bl b => some (.bool b)
  | _, .int i => some (.int i)
  | _, .str x => some (.str x)
  | n + 1, .tup xs => (xs.mapM (toD n)).map .tuple
  | n + 1, .lst xs => (xs.mapM (toD n)).map .list
  | n + 1, .rd xs => (xs.mapM (toD n)).map .list
  | _, _ => none
def eqP (x y : PV) : Option Bool := match toD 9 x with
  | some d => match toD 9 y with
    | some e => some (PyData.eqv d e)
    | none => none
  | none => none
def ltP (x y : PV) : Option Bool := match toD 9 x with
  | some d => match toD 9 y with
    | some e => match d with
      | .none => none
      | d => if PySem.W.alike d e then some (PySem.W.dataLt d e) else none
    | none => none
  | none => none
/-- x in xs -/
def inP (x : PV) (xs : List PV) : Option Bool := match toD 9 x with
  | some d => (xs.mapM (toD 9)).map fun es => es.any fun e => PyData.eqv e d
  | none => none

/-! ### operators -/
inductive BOp where
  | add | sub | mul | fdiv | mod | pow
inductive COp where
  | eq | ne | lt | le | gt | ge | isin | notin | is_ | isnot
def ob {α : Type} (o : Option α) (S : List PO) : Out α := match o with
  | some v => .ok v S
  | none => .stuck
def lim : Nat := 1000000
def mulOk (i j : Int) : Bool := decide (i.natAbs < 2 ^ 64) || (decide (j.natAbs < 2 ^ 64) || decide (i.natAbs.log2 + j.natAbs.log2 < 1000000))
def repL (k : Int) (xs : List PV) : Option (List PV) := if (decide (0 ≤ k) && decide (k ≤ 1000) && decide (xs.length ≤ 1000)) = true then some (List.replicate k.toNat xs).flatten else none
def binop : BOp → PV → PV → Option PV
  | .add, .int i, .int j => some (.int (i + j))
  | .add, .tup xs, .tup ys => if xs.length + ys.length ≤ lim then some (.tup (xs ++ ys)) else none
  | .add, .str x, .str y => if x.length + y.length ≤ lim then some (.str (x ++ y)) else none
  | .sub, .int i, .int j => some (.int (i - j))
  | .mul, .int i, .int j => if mulOk i j = true then some (.int (i * j)) else none
  | .mul, .tup xs, .int k => (repL k xs).map .tup
  | .fdiv, .int i, .int j => if (decide (0 < j) && decide (j.natAbs.log2 < 9000)) = true then some (.int (i / j)) else if (decide (j < 0) && decide (j.natAbs < 1073741824)) = true then some (.int (i.fdiv j)) else none
  | .mod, .int i, .int j => if 0 < j then some (.int (i % j)) else none
  | .pow, .int i, .int j => if (decide (0 ≤ j) && (decide (j ≤ 1000000) && decide (i.natAbs < 2 ^ 64))) = true then some (.int (i ^ j.toNat)) else none
  | _, _, _ => none
/-- the binary operators that make a list -/
def binL : BOp → PV → PV → Option (List PV)
  | .add, .lst xs, .lst ys => if xs.length + ys.length ≤ lim then some (xs ++ ys) else none
  | .mul, .lst xs, .int k => repL k xs
  | _, _, _ => none
def keyOf : PV → Option Key
  | .int i => some (.inl i)
  | .str x => some (.inr x)
  | _ => none
def lookP {κ : Type} [DecidableEq κ] : List κ → List PV → κ → Option PV
  | k :: ks, v :: vs, j => if k = j then some v else lookP ks vs j
  | _, _, _ => none
def putP {κ : Type} [DecidableEq κ] (ks : List κ) (vs : List PV) (k : κ) (v : PV) : List κ × List PV :=
  match lookP ks vs k with
  | some _ => (ks, List.zipWith (fun j u => if j = k then v else u) ks vs)
  | none => (ks ++ [k], vs ++ [v])
def keysOf : List PV → Option (List Key)
  | [] => some []
  | x :: xs => match keyOf x with
    | some k => (keysOf xs).map (k :: ·)
    | none => none
def strIn (x y : Str) : Bool := !(Builtin.Str.occurrences y x 0 y.length 1).isEmpty
def inAny (x y : PV) : Option Bool := match y with
  | .tup ys => inP x ys
  | .lst ys => inP x ys
  | .rd ys => inP x ys
  | .str z => match x with
    | .str w => some (strIn w z)
    | _ => none
  | .dct ks vs => (keyOf x).map fun k => (lookP ks vs k).isSome
  | .dtt ks vs => match x with
    | .tup xs => (keysOf xs).map fun k => (lookP ks vs k).isSome
    | _ => none
  | _ => none
/-- a value looked at: an object of the store as what it holds -/
def see (S : List PO) : EV → Option PV
  | .p v => some v
  | .ref i => match S[i]? with
    | some (.lst xs) => some (.lst xs)
    | some (.dct ks vs) => some (.dct ks vs)
    | some (.dtt ks vs) => some (.dtt ks vs)
    | some (.lck ks vs) => some (.dct ks vs)
    | some (.lct ks vs) => some (.dtt ks vs)
    | _ => none
def see1 {α : Type} (S : List PO) (a : EV) (f : PV → Option α) : Option α := match see S a with
  | some v => f v
  | none => none
def see2 {α : Type} (S : List PO) (a b : EV) (f : PV → PV → Option α) : Option α := see1 S a fun v => see1 S b fun w => f v w
def isP (x y : PV) : Option Bool := match y with
  | .non => match x with
    | .non => some true
    | _ => some false
  | .bl b => match x with
    | .bl c => some (decide (c = b))
    | _ => none
  | _ => none
def cmpop : COp → PV → PV → Option Bool
  | .eq, x, y => eqP x y
  | .ne, x, y => (eqP x y).map (!·)
  | .lt, x, y => ltP x y
  | .gt, x, y => ltP y x
  | .le, x, y => (ltP y x).map (!·)
  | .ge, x, y => (ltP x y).map (!·)
  | .isin, x, y => inAny x y
  | .notin, x, y => (inAny x y).map (!·)
  | .is_, x, y => isP x y
  | .isnot, x, y => (isP x y).map (!·)
def truth : PV → Option Bool
  | .non => some false
  | .bl b => some b
  | .int i => some (i != 0)
  | .str y => if y.length ≤ lim then some ((y.length : Int) != 0) else none
  | .tup xs => some (!xs.isEmpty)
  | .lst xs => some (!xs.isEmpty)
  | .rd xs => some (!xs.isEmpty)
  | .dct ks _ => some (!ks.isEmpty)
  | _ => none
/-! ### built-in functions -/
inductive BI where
  | len | abs | int | str | all | any | sum | min1 | max1 | min2 | max2 | isa | gcd | tuple
inductive BL where
  | list | sorted | listd
def tyOf : PV → Option String
  | .non => some "NoneType"
  | .bl _ => some "bool"
  | .int _ => some "int"
  | .str _ => some "str"
  | .tup _ => some "tuple"
  | .lst _ => some "list"
  | .rd _ => some "list"
  | .dct _ _ => some "dict"
  | _ => none
def isaT (a b : String) : Bool := a == b || (a == "bool" && b == "int")
def isaP (x t : PV) : Option Bool := match t with
  | .ty n => if ["int", "bool", "str", "tuple", "list", "dict"].contains n then (tyOf x).map fun a => isaT a n else none
  | _ => none
/-- the truth of a flag, an integer, None -/
def tb : PV → Option Bool
  | .bl b => some b
  | .int i => some (i != 0)
  | .non => some false
  | _ => none
def allB : List PV → Option Bool
  | [] => some true
  | x :: xs => match tb x with
    | some b => match allB xs with
      | some c => some (b && c)
      | none => none
    | none => none
def anyB : List PV → Option Bool
  | [] => some false
  | x :: xs => match tb x with
    | some b => match anyB xs with
      | some c => some (b || c)
      | none => none
    | none => none
def intsOf : List PV → Option (List Int)
  | [] => some []
  | x :: xs => match x with
    | .int i => match intsOf xs with
      | some l => some (i :: l)
      | none => none
    | _ => none
def seqOf : PV → Option (List PV)
  | .tup xs => some xs
  | .lst xs => some xs
  | .rd xs => some xs
  | _ => none
/-- tables: tuples of tuples of integers -/
def intsOfT : List PV → Option (List Int)
  | [] => some []
  | x :: xs => match x with
    | .int i => match intsOfT xs with
      | some l => some (i :: l)
      | none => none
    | _ => none
def rowI : PV → Option (List Int)
  | .tup xs => intsOfT xs
  | _ => none
def tabI : PV → Option (List (List Int))
  | .tup rs => rs.mapM rowI
  | _ => none
def ttP (T : List (List Int)) : PV := .tup (T.map fun r => .tup (r.map .int))
def ttD (T : List (List Int)) : PyData := .tuple (T.map fun r => .tuple (r.map .int))
/-- the least one of tables -/
def minT (T : List (List Int)) (Ts : List (List (List Int))) : List (List Int) := Ts.foldl (fun a y => if PySem.W.dataLt (ttD y) (ttD a) then y else a) T
def minTP (xs : List PV) : Option PV := match xs.mapM tabI with
  | some (T :: Ts) => some (ttP (minT T Ts))
  | _ => none
def minI : List Int → Option Int
  | [] => none
  | x :: xs => some (xs.foldl (fun a b => if b < a then b else a) x)
def maxI : List Int → Option Int
  | [] => none
  | x :: xs => some (xs.foldl (fun a b => if b > a then b else a) x)
/-- the texts of a list -/
def strsOf : List PV → Option (List Str)
  | [] => some []
  | .str z :: xs => match strsOf xs with
    | some zs => some (z :: zs)
    | none => none
  | _ :: _ => none
def bi : BI → List PV → Option PV
  | .len, [x] => match x with
    | .tup xs => some (.int xs.length)
    | .lst xs => some (.int xs.length)
    | .rd xs => some (.int xs.length)
    | .dct ks _ => some (.int ks.length)
    | .str y => if y.length ≤ lim then some (.int y.length) else none
    | _ => none
  | .abs, [.int i] => some (.int (if i < 0 then -i else i))
  | .int, [.int i] => some (.int i)
  | .int, [.bl b] => some (.int (if b then 1 else 0))
  | .int, [.str a] => if a.length ≤ 640 then (PySem.intText? a).map .int else none
  | .str, [.int i] => if i.natAbs.log2 < 1920 then some (.str (toString i)) else none
  | .str, [.str a] => some (.str a)
  | .all, [x] => (seqOf x).bind fun xs => (allB xs).map .bl
  | .any, [x] => (seqOf x).bind fun xs => (anyB xs).map .bl
  | .sum, [x] => (seqOf x).bind fun xs => (intsOf xs).map fun l => .int l.sum
  | .min1, [x] => (seqOf x).bind fun xs => match intsOf xs with
    | some l => (minI l).map .int
    | none => minTP xs
  | .max1, [x] => (seqOf x).bind fun xs => (intsOf xs).bind fun l => (maxI l).map .int
  | .min2, [.int i, .int j] => some (.int (if j < i then j else i))
  | .max2, [.int i, .int j] => some (.int (if j > i then j else i))
  | .isa, [x, t] => (isaP x t).map .bl
  | .gcd, [.int i, .int j] => some (.int (Nat.gcd i.natAbs j.natAbs))
  | .tuple, [x] => match x with
    | .tup xs => some (.tup xs)
    | .lst xs => some (.tup xs)
    | .rd xs => some (.tup xs)
    | _ => none
  | _, _ => none
/-- a put into a sorted list, ahead of what is not below it -/
def insB {α : Type} (le : α → α → Bool) (a : α) : List α → List α
  | [] => [a]
  | b :: r => if le a b = true then a :: b :: r else b :: insB le a r
def isortB {α : Type} (le : α → α → Bool) : List α → List α
  | [] => []
  | a :: r => insB le a (isortB le r)
def leD (p q : PV × PyData) : Bool := !(PySem.W.dataLt q.2 p.2)
def intD : PyData → Bool
  | .int _ => true
  | _ => false
def tup1D : PyData → Bool
  | .tuple (_ :: _) => true
  | _ => false
def nontD : PyData → Bool
  | .none => false
  | .tuple _ => false
  | _ => true
def sortOk (ds : List PyData) : Bool := ds.all intD || (ds.all (fun d => ds.all fun e => PySem.W.alike d e) && (ds.all tup1D || ds.all nontD))
def sortPV (xs : List PV) : Option (List PV) := match xs.mapM (toD 9) with
  | some ds => if sortOk ds = true then some ((isortB leD (xs.zip ds)).map (·.1)) else none
  | none => none
def kP : Key → PV
  | .inl i => .int i
  | .inr x => .str x
/-- what is sorted -/
def srcOf : PV → Option (List PV)
  | .tup xs => some xs
  | .lst xs => some xs
  | .rd xs => some xs
  | .dct ks _ => some (ks.map kP)
  | .dtt ks _ => some (ks.map fun k => .tup (k.map kP))
  | _ => none
def biL : BL → List PV → Option (List PV)
  | .list, [x] => seqOf x
  | .sorted, [x] => match srcOf x with
    | some xs => if xs.length ≤ lim then sortPV xs else none
    | none => none
  | .listd, [x] => match x with
    | .dtt ks _ => some (ks.map fun k => .tup (k.map kP))
    | _ => none
  | _, _ => none
/-- x[i] -/
def ixP : PV → PV → Option PV
  | .tup xs, .int i => atI xs i
  | .lst xs, .int i => atI xs i
  | .rd xs, .int i => atI xs i
  | .str z, .int i => if z.length ≤ lim then (atI z.cps.toList i).map fun c => .str ⟨#[c]⟩ else none
  | .dct ks vs, k => (keyOf k).bind fun k => lookP ks vs k
  | .dtt ks vs, .tup xs => (keysOf xs).bind fun k => lookP ks vs k
  | _, _ => none
/-- a list of objects at an index -/
def ixE (S : List PO) : EV → EV → Option EV
  | .ref i, b => match S[i]? with
    | some (.rows is) => match b with
      | .p (.int k) => (atI is k).map .ref
      | _ => none
    | _ => (see2 S (.ref i) b ixP).map .p
  | a, b => (see2 S a b ixP).map .p
def cutP (xs : List PV) (lo hi : Option Int) : List PV := (xs.drop (HT.sIx xs.length 0 lo)).take (HT.sIx xs.length xs.length hi - HT.sIx xs.length 0 lo)

end Rv
end PartRvX
section PartRvO
set_option Elab.async false
set_option linter.all false
set_option maxRecDepth 100000
set_option autoImplicit false
/-! Rv, part O: operators. -/
namespace Rv
open PySem PySem.Spec PyProof.Rows L2

section
variable {Z : St0} {m : List Addr} {H : Hp} {S : List PO}
/-- the mapped list, item by item -/
theorem mapM_cons {α β : Type} {f : α → Option β} {x : α} {xs : List α} {l : List β} (h : (x :: xs).mapM f = some l) : ∃ y ys, f x = some y ∧ xs.mapM f = some ys ∧ l = y :: ys := by
  rw [List.mapM_cons] at h
  cases e : f x with
  | none => rw [e] at h; exact absurd h (by simp)
  | some y =>
    rw [e] at h
    cases e2 : xs.mapM f with
    | none => rw [e2] at h; exact absurd h (by simp)
    | some ys =>
      rw [e2] at h
      have h' : some (y :: ys) = some l := h
      cases h'
      exact ⟨y, ys, rfl, rfl, rfl⟩
theorem mapM_nil {α β : Type} {f : α → Option β} {l : List β} (h : ([] : List α).mapM f = some l) : l = [] := by
  rw [List.mapM_nil] at h
  have h' : some [] = some l := h
  cases h'; rfl
theorem dpAll_of {f : PV → Option PyData} : ∀ {xs : List PV} {us : List V} {ds : List PyData}, (∀ v u d, v ∈ xs → Rp Z m H v u → f v = some d → Dp Z.K H u d) → RpA Z m H xs us → xs.mapM f = some ds → DpAll Z.K H us ds
  | _, _, _, _, .nil, h => by rw [mapM_nil h]; exact .nil
  | _, _, _, k, .cons r rs, h => by
    obtain ⟨y, ys, e1, e2, rfl⟩ := mapM_cons h
    exact .cons (k _ _ _ (List.mem_cons_self ..) r e1) (dpAll_of (fun v u d hv => k v u d (List.mem_cons_of_mem _ hv)) rs e2)
theorem toD_dp : ∀ (n : Nat) (v : PV) (u : V) (d : PyData), Rp Z m H v u → toD n v = some d → Dp Z.K H u d := by
  intro n
  induction n with
  | zero =>
    intro v u d r h
    cases r <;> simp only [toD] at h <;> cases h
    · exact .non
    · exact .bl _
    · exact .int _
    · exact .str _
  | succ n ih =>
    intro v u d r h
    cases r with
    | non => simp only [toD] at h; cases h; exact .non
    | bl b => simp only [toD] at h; cases h; exact .bl _
    | int b => simp only [toD] at h; cases h; exact .int _
    | str b => simp only [toD] at h; cases h; exact .str _
    | tup ht ra =>
      simp only [toD] at h
      obtain ⟨ds, e, rfl⟩ := Option.map_eq_some_iff.mp h
      exact .tup (SqT.of ht) (dpAll_of (fun v u d _ => ih v u d) ra e)
    | lst ht _ ra =>
      simp only [toD] at h
      obtain ⟨ds, e, rfl⟩ := Option.map_eq_some_iff.mp h
      exact .lst (SqL.of ht) (dpAll_of (fun v u d _ => ih v u d) ra e)
    | rd ht ra =>
      simp only [toD] at h
      obtain ⟨ds, e, rfl⟩ := Option.map_eq_some_iff.mp h
      exact .lst ht.sqL (dpAll_of (fun v u d _ => ih v u d) ra e)
    | _ => simp only [toD] at h; cases h
theorem plainAll_of {n : Nat} {f : PV → Option PyData} : ∀ {xs : List PV} {ds : List PyData}, (∀ v d, f v = some d → d.plain = true ∧ d.depth ≤ n) → xs.mapM f = some ds → PyData.plainAll ds = true ∧ PyData.depthAll ds ≤ n
  | [], _, _, h => by rw [mapM_nil h]; exact ⟨rfl, Nat.zero_le _⟩
  | x :: xs, _, k, h => by
    obtain ⟨y, ys, e1, e2, rfl⟩ := mapM_cons h
    have a := k _ _ e1
    have b := plainAll_of k e2
    simp only [PyData.plainAll, PyData.depthAll, a.1, b.1, Bool.and_true]
    exact ⟨trivial, Nat.max_le.mpr ⟨a.2, b.2⟩⟩
theorem toD_plain : ∀ (n : Nat) (v : PV) (d : PyData), toD n v = some d → d.plain = true ∧ d.depth ≤ n := by
  intro n
  induction n with
  | zero =>
    intro v d h
    cases v <;> simp only [toD] at h <;> cases h <;> exact ⟨rfl, Nat.le_refl _⟩
  | succ n ih =>
    intro v d h
    cases v with
    | tup xs =>
      simp only [toD] at h
      obtain ⟨ds, e, rfl⟩ := Option.map_eq_some_iff.mp h
      have q := plainAll_of ih e
      simp only [PyData.plain, PyData.depth]
      exact ⟨q.1, by omega⟩
    | lst xs =>
      simp only [toD] at h
      obtain ⟨ds, e, rfl⟩ := Option.map_eq_some_iff.mp h
      have q := plainAll_of ih e
      simp only [PyData.plain, PyData.depth]
      exact ⟨q.1, by omega⟩
    | rd xs =>
      simp only [toD] at h
      obtain ⟨ds, e, rfl⟩ := Option.map_eq_some_iff.mp h
      have q := plainAll_of ih e
      simp only [PyData.plain, PyData.depth]
      exact ⟨q.1, by omega⟩
    | _ => simp only [toD] at h <;> cases h <;> exact ⟨rfl, Nat.zero_le _⟩
/-- a value as it is read: a plain one, or what an object of the store holds -/
inductive Rs (Z : St0) (m : List Addr) (H : Hp) : PV → V → Prop
  | p {v : PV} {u : V} : Rp Z m H v u → Rs Z m H v u
  | lst {xs : List PV} {us : List V} {a : Addr} : H a = some (.lst us) → RpA Z m H xs us → Rs Z m H (.lst xs) (.ref a)
  | dct {ks : List Key} {xs : List PV} {us : List V} {a : Addr} : Rd H a (.dK (ks.zip us)) → ks.length = us.length → RpA Z m H xs us → Rs Z m H (.dct ks xs) (.ref a)
  | dtt {ks : List (List Key)} {xs : List PV} {us : List V} {a : Addr} : Rd H a (.dT (ks.zip us)) → ks.length = us.length → RpA Z m H xs us → Rs Z m H (.dtt ks xs) (.ref a)
theorem see_rs (R : Rel Z m S H) {e : EV} {u : V} {v : PV} (r : Re Z m H e u) (h : see S e = some v) : Rs Z m H v u := by
  cases r with
  | p r => cases h; exact .p r
  | ref hi =>
    rename_i i a
    simp only [see] at h
    cases e : S[i]? with
    | none => rw [e] at h; cases h
    | some o =>
      rw [e] at h
      have q := R.ob i a o hi e
      cases o with
      | lst xs => cases h; obtain ⟨us, hl, ra⟩ := q; exact .lst hl ra
      | rows xs => cases h
      | dct ks vs => cases h; obtain ⟨us, hl, hz, ra⟩ := q; exact .dct (.inl hl) hz ra
      | dtt ks vs => cases h; obtain ⟨us, hl, hz, ra⟩ := q; exact .dtt (.inl hl) hz ra
      | lck ks vs => cases h; obtain ⟨us, o, hl, hz, ra⟩ := q; exact .dct (.inr ⟨o, hl⟩) hz ra
      | lct ks vs => cases h; obtain ⟨us, o, hl, hz, ra⟩ := q; exact .dtt (.inr ⟨o, hl⟩) hz ra
theorem rs_dp {n : Nat} {v : PV} {u : V} {d : PyData} (r : Rs Z m H v u) (h : toD n v = some d) : Dp Z.K H u d := by
  cases r with
  | p r => exact toD_dp n v u d r h
  | lst hl ra =>
    cases n with
    | zero => simp only [toD] at h; cases h
    | succ n =>
      simp only [toD] at h
      obtain ⟨ds, e2, rfl⟩ := Option.map_eq_some_iff.mp h
      exact .lst (SqL.of hl) (dpAll_of (fun v u d _ => toD_dp n v u d) ra e2)
  | dct => cases n <;> simp only [toD] at h <;> cases h
  | dtt => cases n <;> simp only [toD] at h <;> cases h
theorem Rs.tup {u : V} {xs : List PV} (r : Rs Z m H (.tup xs) u) : ∃ a us, u = .ref a ∧ H a = some (.tup us) ∧ RpA Z m H xs us := by
  cases r with
  | p r => cases r with
    | tup h r => exact ⟨_, _, rfl, h, r⟩
theorem Rs.lst_ {u : V} {xs : List PV} (r : Rs Z m H (.lst xs) u) : ∃ a us, u = .ref a ∧ H a = some (.lst us) ∧ RpA Z m H xs us := by
  cases r with
  | p r => cases r with
    | lst h _ r => exact ⟨_, _, rfl, h, r⟩
  | lst h r => exact ⟨_, _, rfl, h, r⟩
theorem Rs.rd_ {u : V} {xs : List PV} (r : Rs Z m H (.rd xs) u) : ∃ a us, u = .ref a ∧ SqI Z m H a us ∧ RpA Z m H xs us := by
  cases r with
  | p r => cases r with
    | rd h r => exact ⟨_, _, rfl, h, r⟩
theorem Rs.dct_ {u : V} {ks : List Key} {xs : List PV} (r : Rs Z m H (.dct ks xs) u) : ∃ a us, u = .ref a ∧ Rd H a (.dK (ks.zip us)) ∧ ks.length = us.length ∧ RpA Z m H xs us := by
  cases r with
  | p r => cases r with
    | dct h _ l r => exact ⟨_, _, rfl, h, l, r⟩
  | dct h l r => exact ⟨_, _, rfl, h, l, r⟩
theorem Rs.dtt_ {u : V} {ks : List (List Key)} {xs : List PV} (r : Rs Z m H (.dtt ks xs) u) : ∃ a us, u = .ref a ∧ Rd H a (.dT (ks.zip us)) ∧ ks.length = us.length ∧ RpA Z m H xs us := by
  cases r with
  | p r => cases r with
    | dtt h _ l r => exact ⟨_, _, rfl, h, l, r⟩
  | dtt h l r => exact ⟨_, _, rfl, h, l, r⟩
theorem Rs.int_ {u : V} {i : Int} (r : Rs Z m H (.int i) u) : u = .int i := by
  cases r with
  | p r => cases r; rfl
theorem Rs.str_ {u : V} {i : Str} (r : Rs Z m H (.str i) u) : u = .str i := by
  cases r with
  | p r => cases r; rfl
theorem Rs.bl_ {u : V} {i : Bool} (r : Rs Z m H (.bl i) u) : u = .bl i := by
  cases r with
  | p r => cases r; rfl
theorem Rs.non_ {u : V} (r : Rs Z m H .non u) : u = .non := by
  cases r with
  | p r => cases r; rfl
theorem rs_seq {u : V} {v : PV} {xs : List PV} (r : Rs Z m H v u) (h : seqOf v = some xs) : ∃ a us, u = .ref a ∧ (SqL Z.K H a us ∨ SqT Z.K H a us) ∧ RpA Z m H xs us := by
  cases v with
  | tup ys => cases h; obtain ⟨a, us, e, h1, r⟩ := r.tup; exact ⟨a, us, e, .inr (SqT.of h1), r⟩
  | lst ys => cases h; obtain ⟨a, us, e, h1, r⟩ := r.lst_; exact ⟨a, us, e, .inl (SqL.of h1), r⟩
  | rd ys => cases h; obtain ⟨a, us, e, h1, r⟩ := r.rd_; exact ⟨a, us, e, .inl h1.sqL, r⟩
  | _ => cases h
theorem lim_le : lim ≤ sizeLine := by rw [sizeLine_eq]; decide
end

/-! ### two values -/
/-- what an operator gives by the plain reading -/
def rV (Z : St0) (f : PV → PV → Option PV) : R2 := fun x y H Q => ∃ (m : List Addr) (S : List PO) (a b v : PV), Rel Z m S H ∧ Rs Z m H a x ∧ Rs Z m H b y ∧ f a b = some v ∧
  ∀ H' u, Ext m H m H' → Rel Z m S H' → Rp Z m H' v u → Q u H'
/-- a list -/
def rVL (Z : St0) (f : PV → PV → Option (List PV)) : R2 := fun x y H Q => ∃ (m : List Addr) (a b : PV) (v : List PV), Rs Z m H a x ∧ Rs Z m H b y ∧ f a b = some v ∧
  ∀ us, RpA Z m H v us → ∀ p, H p = none → Q (.ref p) (upd H p (.lst us))
theorem OpR.run1 {X : Cx} {f : Value → Value → Sem Value} {r : R2} (h : OpR X f r) {pins : List (Addr × Obj)} {s : Shared} {σ : L2.St} {H : Hp} {x y : V} {v u : Value} {Q : VK} (I : Inv X pins σ H s) (rx : RelV x v) (ry : RelV y u) (q : r x y H Q) :
    wpAny (model X.prog X.w) X.A (f v u) (EP X pins σ Q) X.xe s := h pins s σ H x y v u Q I rx ry q
def bopOf : BOp → Operator
  | .add => .Add | .sub => .Sub | .mul => .Mult | .fdiv => .FloorDiv | .mod => .Mod | .pow => .Pow
def copOf : COp → CmpOp
  | .eq => .Eq | .ne => .NotEq | .lt => .Lt | .le => .LtE | .gt => .Gt | .ge => .GtE | .isin => .In | .notin => .NotIn | .is_ => .Is | .isnot => .IsNot
theorem RpA.rep {Z : St0} {m : List Addr} {H : Hp} {xs : List PV} {us : List V} (r : RpA Z m H xs us) : ∀ k : Nat, RpA Z m H (List.replicate k xs).flatten (List.replicate k us).flatten
  | 0 => .nil
  | k + 1 => by
    rw [List.replicate_succ, List.replicate_succ, List.flatten_cons, List.flatten_cons]
    exact RpA.append r (RpA.rep r k)
theorem mul_ok {i j : Int} (h : mulOk i j = true) : IntMulOk i j := by
  unfold mulOk at h
  simp only [Bool.or_eq_true, decide_eq_true_eq] at h
  rcases h with h | h | h
  · exact CMul.ok (.inl ⟨by omega, by omega⟩)
  · exact CMul.ok (.inr ⟨by omega, by omega⟩)
  · exact CMulW.ok h
theorem op_mulA {X : Cx} : OpR X (binaryOp .Mult) (rI (fun i j => mulOk i j = true) fun i j => .int (i * j)) := opI fun _ _ _ _ _ _ _ hc q => mul_int q (mul_ok hc)
set_option maxHeartbeats 4000000
theorem tuple_mul_same (l : Addr) (items : Array Value) (n : Nat) (dd : Option Addr) (sl : Array (Option Value)) (x : Int) (u : Tok) (c0 : (decide (x < -(2 ^ 63)) || decide (x ≥ 2 ^ 63)) = false) (c1 : (items.isEmpty || x == 1) = true) :
    Meets (Builtin.«tuple.__mul__» ⟨[.ref l, .int x u], []⟩) (fun _ R s => s.heap.get? l = some { cls := .type "tuple", dict := dd, data := .seq items n, slots := sl } ∧
      R (.ok (.ret (Value.ref l))) s) :=
  .of_wp fun prog w A R s h => by
    obtain ⟨hp, g, d, tk, os⟩ := s
    obtain ⟨hl, h⟩ := h
    have f1 := AutoSeq1.idx_int
    wp_walk using wpAny_loadPart' hl
    repeat (first
      | (refine wpAny_ite_false (decide_eq_false (by rw [c0]; exact Bool.false_ne_true)) ?_; wp_walk using wpAny_loadPart' hl)
      | (refine wpAny_ite_true (decide_eq_true c1) ?_; wp_walk using wpAny_loadPart' hl))
    exact ⟨_, rfl, h⟩
theorem tuple_mul_none (l : Addr) (items : Array Value) (n : Nat) (dd : Option Addr) (sl : Array (Option Value)) (x : Int) (u : Tok) (c0 : (decide (x < -(2 ^ 63)) || decide (x ≥ 2 ^ 63)) = false) (c1 : (items.isEmpty || x == 1) = false)
    (c2 : (decide (x ≤ 0) || items.isEmpty) = true) :
    Meets (Builtin.«tuple.__mul__» ⟨[.ref l, .int x u], []⟩) (fun _ R s => s.heap.get? l = some { cls := .type "tuple", dict := dd, data := .seq items n, slots := sl } ∧
      R (.ok (.ret (Value.ref s.heap.objs.size))) { s with heap := s.heap.push { cls := Value.type "tuple", data := Data.seq #[] }, toks := s.toks }) :=
  .of_wp fun prog w A R s h => by
    obtain ⟨hp, g, d, tk, os⟩ := s
    obtain ⟨hl, h⟩ := h
    have f1 := AutoSeq1.idx_int
    wp_walk using wpAny_loadPart' hl
    repeat (first
      | (refine wpAny_ite_false (decide_eq_false (by rw [c0]; exact Bool.false_ne_true)) ?_; wp_walk using wpAny_loadPart' hl)
      | (refine wpAny_ite_false (decide_eq_false (by rw [c1]; exact Bool.false_ne_true)) ?_; wp_walk using wpAny_loadPart' hl)
      | (refine wpAny_ite_true (decide_eq_true c2) ?_; wp_walk using wpAny_loadPart' hl))
    exact ⟨_, rfl, h⟩

/-- t * k, 0 to 1000 times -/
def rRepA (K : PySem.W.Frag) : R2 := fun x y H Q => ∃ l k xs, x = .ref l ∧ y = .int k ∧ SqT K H l xs ∧ 0 ≤ k ∧ k ≤ 1000 ∧ xs.length ≤ 1000 ∧
  (xs = [] ∨ k = 1 → Q (.ref l) H) ∧ (¬ (xs = [] ∨ k = 1) → ∀ p, H p = none → Q (.ref p) (upd H p (.tup (List.replicate k.toNat xs).flatten)))
theorem op_repA {X : Cx} : OpR X (binaryOp .Mult) (rRepA X.K) := by
  intro pins s σ H x y v u Q I rx ry h
  obtain ⟨l, k, xs, rfl, rfl, hT, h0, h1, hz, q1, q2⟩ := h
  by_cases hc : xs = [] ∨ k = 1
  · cases rx
    obtain ⟨t, rfl⟩ := ry
    obtain ⟨its, r, ⟨⟨cls, dd, data, sl⟩, ho, hc', n, hd⟩, hs⟩ := I.tuple hT
    simp only at hc' hd
    subst hc' hd
    have c0 : (decide (k < -(2 ^ 63)) || decide (k ≥ 2 ^ 63)) = false := by
      rw [decide_eq_false (by omega), decide_eq_false (by omega)] <;> rfl
    have c1 : (its.toArray.isEmpty || k == 1) = true := by
      rcases hc with e | e
      · subst e; cases r; rfl
      · subst e; simp
    exact wpAny_binaryOp_repeat_ref (T := "tuple") (U := "int") (by decide) ⟨_, ho, rfl⟩ (fun s' => typeIs_int s' k t) noFill_tuple_mul F.fills_int_mul F.slot_int_rmul repeat_tuple F.slot_int_index.lookup
      (call_meets F.slot_int_rmul (typeIs_int s k t) F.entry_int_rmul (F.args_int_rmul_2 _ _) (int_rmul_tuple k t l its.toArray n dd sl)
        ⟨ho, rfl, ⟨_, ho, rfl⟩, call_meets F.slot_tuple_mul ⟨_, ho, rfl⟩ F.entry_tuple_mul (F.args_tuple_mul_2 _ _) (tuple_mul_same l its.toArray n dd sl k t c0 c1) ⟨ho, ⟨.ref l, H, I, rfl, q1 hc⟩⟩⟩)
  · have q2 := q2 hc
    by_cases hk : k = 0
    · subst hk
      cases rx
      obtain ⟨t, rfl⟩ := ry
      obtain ⟨its, r, ⟨⟨cls, dd, data, sl⟩, ho, hc', n, hd⟩, hs⟩ := I.tuple hT
      simp only at hc' hd
      subst hc' hd
      have c1 : (its.toArray.isEmpty || (0 : Int) == 1) = false := by
        cases r with
        | nil => exact absurd (.inl rfl) hc
        | cons _ _ => rfl
      refine wpAny_binaryOp_repeat_ref (T := "tuple") (U := "int") (by decide) ⟨_, ho, rfl⟩ (fun s' => typeIs_int s' 0 t) noFill_tuple_mul F.fills_int_mul F.slot_int_rmul repeat_tuple F.slot_int_index.lookup
        (call_meets F.slot_int_rmul (typeIs_int s 0 t) F.entry_int_rmul (F.args_int_rmul_2 _ _) (int_rmul_tuple 0 t l its.toArray n dd sl)
          ⟨ho, rfl, ⟨_, ho, rfl⟩, call_meets F.slot_tuple_mul ⟨_, ho, rfl⟩ F.entry_tuple_mul (F.args_tuple_mul_2 _ _) (tuple_mul_none l its.toArray n dd sl 0 t rfl c1 rfl) ⟨ho, ?_⟩⟩)
      refine ⟨.ref s.heap.objs.size, _, I.laid (t' := s.toks) (o := .tup []) (fun b ob q => Heap.get?_push_of_some _ q) (Nat.le_refl _) ?_, rfl, q2 _ (I.hok.fresh (Nat.le_refl _))⟩
      exact ⟨Nat.zero_le _, [], .nil, IsTup.new _ _⟩
    · refine op_repT pins s σ H _ _ v u Q I rx ry ⟨l, k, xs, rfl, rfl, hT, fun e => hc (.inl e), ?_, h1, hz, q2⟩
      have : k ≠ 1 := fun e => hc (.inr e)
      omega
section
variable {X : Cx} {Z : St0}
theorem op_bin (hK : X.K = Z.K) (o : BOp) : OpR X (binaryOp (bopOf o)) (rV Z (binop o)) := by
  intro pins s σ H x y v u Q I rx ry h
  obtain ⟨m, S, a, b, w, R, ra, rb, hv, q⟩ := h
  have tupK : ∀ {a xs}, H a = some (.tup xs) → SqT X.K H a xs := fun e => SqT.of e
  unfold binop at hv
  split at hv
  all_goals first | (cases hv; done) | skip
  · cases hv
    cases ra.int_; cases rb.int_
    exact OpR.run1 op_add I rx ry ⟨_, _, rfl, rfl, q _ _ Ext.refl R (.int _)⟩
  · rename_i xs ys
    split at hv
    · rename_i hz
      cases hv
      obtain ⟨a1, us, rfl, ta, ra⟩ := ra.tup
      obtain ⟨b1, us2, rfl, tb, rb⟩ := rb.tup
      have l1 := ra.length
      have l2 := rb.length
      refine OpR.run1 op_catA I rx ry ⟨_, _, _, _, rfl, rfl, tupK ta, tupK tb, by rw [← l1, ← l2]; exact Nat.le_trans hz lim_le, fun e => ?_, fun _ e => ?_, fun _ _ p hp => ?_⟩
      · refine q _ _ Ext.refl R (.tup tb ?_)
        subst e
        cases ra
        exact rb
      · refine q _ _ Ext.refl R (.tup ta ?_)
        subst e
        cases rb
        rw [List.append_nil]; exact ra
      · exact q _ _ (Ext.alloc hp) (R.alloc hp) (.tup upd_same ((ra.append rb).ext (Ext.alloc hp)))
    · cases hv
  · cases ra.str_; cases rb.str_
    split at hv
    · rename_i hz
      cases hv
      exact OpR.run1 op_add_str I rx ry ⟨_, _, rfl, rfl, Nat.le_trans hz lim_le, q _ _ Ext.refl R (.str _)⟩
    · cases hv
  · cases hv
    cases ra.int_; cases rb.int_
    exact OpR.run1 op_sub I rx ry ⟨_, _, rfl, rfl, q _ _ Ext.refl R (.int _)⟩
  · cases ra.int_; cases rb.int_
    split at hv
    · rename_i hc
      cases hv
      exact OpR.run1 op_mulA I rx ry ⟨_, _, rfl, rfl, hc, q _ _ Ext.refl R (.int _)⟩
    · cases hv
  · rename_i xs k
    cases rb.int_
    obtain ⟨ys, hr, rfl⟩ := Option.map_eq_some_iff.mp hv
    unfold repL at hr
    split at hr
    · rename_i hc
      cases hr
      simp only [Bool.and_eq_true, decide_eq_true_eq] at hc
      obtain ⟨⟨c1, c2⟩, c3⟩ := hc
      obtain ⟨a1, us, rfl, ta, ra⟩ := ra.tup
      have l1 := ra.length
      refine OpR.run1 op_repA I rx ry ⟨_, k, _, rfl, rfl, tupK ta, c1, c2, by omega, fun e => ?_, fun _ p hp => ?_⟩
      · rcases e with e | e
        · subst e
          have e2 : xs = [] := by cases ra; rfl
          subst e2
          refine q _ _ Ext.refl R (.tup ta ?_)
          have e3 : (List.replicate k.toNat ([] : List PV)).flatten = [] := by simp
          rw [e3]; exact .nil
        · subst e
          refine q _ _ Ext.refl R (.tup ta ?_)
          have e3 : (List.replicate (1 : Int).toNat xs).flatten = xs := by simp
          rw [e3]; exact ra
      · exact q _ _ (Ext.alloc hp) (R.alloc hp) (.tup upd_same ((ra.rep _).ext (Ext.alloc hp)))
    · cases hr
  · cases ra.int_; cases rb.int_
    split at hv
    · rename_i hc
      cases hv
      simp only [Bool.and_eq_true, decide_eq_true_eq] at hc
      exact OpR.run1 op_fdivW I rx ry ⟨_, _, rfl, rfl, hc, q _ _ Ext.refl R (.int _)⟩
    · split at hv
      · rename_i hc
        cases hv
        simp only [Bool.and_eq_true, decide_eq_true_eq] at hc
        exact OpR.run1 op_fdivN I rx ry ⟨_, _, rfl, rfl, ⟨by omega, hc.2⟩, q _ _ Ext.refl R (.int _)⟩
      · cases hv
  · cases ra.int_; cases rb.int_
    split at hv
    · rename_i hc
      cases hv
      exact OpR.run1 op_mod I rx ry ⟨_, _, rfl, rfl, hc, q _ _ Ext.refl R (.int _)⟩
    · cases hv
  · cases ra.int_; cases rb.int_
    split at hv
    · rename_i hc
      cases hv
      simp only [Bool.and_eq_true, decide_eq_true_eq] at hc
      exact OpR.run1 op_pow I rx ry ⟨_, _, rfl, rfl, hc, q _ _ Ext.refl R (.int _)⟩
    · cases hv
end
end Rv
end PartRvO
section PartRvP
set_option Elab.async false
set_option linter.all false
set_option maxRecDepth 100000
set_option autoImplicit false
/-! Rv, part P: comparisons, truth, subscripts, slices. -/
namespace Rv
open PySem PySem.Spec PyProof.Rows L2

/-- a bool -/
def rVB (Z : St0) (f : PV → PV → Option Bool) : R2 := fun x y H Q => ∃ (m : List Addr) (a b : PV) (v : Bool), Rs Z m H a x ∧ Rs Z m H b y ∧ f a b = some v ∧ Q (.bl v) H
theorem look_rel {κ : Type} [DecidableEq κ] {Z : St0} {m : List Addr} {H : Hp} (k : κ) : ∀ {ks : List κ} {vs : List PV} {us : List V}, RpA Z m H vs us → ks.length = us.length →
    (∃ v u, lookP ks vs k = some v ∧ valV (ks.zip us) k = some u ∧ Rp Z m H v u) ∨ (lookP ks vs k = none ∧ valV (ks.zip us) k = none)
  | [], _, _, .nil, _ => .inr ⟨rfl, rfl⟩
  | [], _, _, .cons _ _, h => by simp at h
  | _ :: _, _, _, .nil, h => by simp at h
  | j :: ks, _, _, .cons (v := v) (u := u) r rs, h => by
    by_cases e : j = k
    · refine .inl ⟨v, u, ?_, ?_, r⟩
      · simp [lookP, e]
      · exact valV_pos (p := (j, u)) e
    · rcases look_rel k rs (by simpa using h) with ⟨a, b, h1, h2, h3⟩ | ⟨h1, h2⟩
      · exact .inl ⟨a, b, by simp [lookP, e, h1], (valV_neg (p := (j, u)) e).trans h2, h3⟩
      · exact .inr ⟨by simp [lookP, e, h1], (valV_neg (p := (j, u)) e).trans h2⟩
theorem keyOf_rel {Z : St0} {m : List Addr} {H : Hp} {v : PV} {u : V} {k : Key} (r : Rs Z m H v u) (h : keyOf v = some k) : u = kV k := by
  cases v <;> simp only [keyOf] at h <;> cases h
  · exact r.int_
  · exact r.str_
theorem keysOf_rel {Z : St0} {m : List Addr} {H : Hp} : ∀ {vs : List PV} {us : List V} {k : List Key}, RpA Z m H vs us → keysOf vs = some k → us = k.map kV
  | _, _, _, .nil, h => by simp only [keysOf] at h; cases h; rfl
  | _, _, _, .cons r rs, h => by
    simp only [keysOf] at h
    split at h
    · rename_i k0 e
      obtain ⟨ks, h1, rfl⟩ := Option.map_eq_some_iff.mp h
      rw [List.map_cons, keyOf_rel (.p r) e, keysOf_rel rs h1]
    · cases h
section
variable {X : Cx} {Z : St0}
theorem inP_some {x : PV} {ys : List PV} {b : Bool} (h : inP x ys = some b) : ∃ d es, toD 9 x = some d ∧ ys.mapM (toD 9) = some es ∧ b = es.any fun e => PyData.eqv e d := by
  unfold inP at h
  split at h
  · rename_i d e1
    obtain ⟨es, e2, rfl⟩ := Option.map_eq_some_iff.mp h
    exact ⟨d, es, e1, e2, rfl⟩
  · cases h
theorem eqP_some {x y : PV} {b : Bool} (h : eqP x y = some b) : ∃ d e, toD 9 x = some d ∧ toD 9 y = some e ∧ b = PyData.eqv d e := by
  unfold eqP at h
  split at h
  · rename_i d e1
    split at h
    · rename_i e e2
      cases h
      exact ⟨d, e, e1, e2, rfl⟩
    · cases h
  · cases h
theorem ltP_some {x y : PV} {b : Bool} (h : ltP x y = some b) : ∃ d e, toD 9 x = some d ∧ toD 9 y = some e ∧ d ≠ .none ∧ PySem.W.alike d e = true ∧ b = PySem.W.dataLt d e := by
  unfold ltP at h
  split at h
  · rename_i d e1
    split at h
    · rename_i e e2
      split at h
      · cases h
      · rename_i hn
        split at h
        · rename_i ha
          cases h
          exact ⟨d, e, e1, e2, hn, ha, rfl⟩
        · cases h
    · cases h
  · cases h
theorem room9 {d : Nat} {A : Around} (hr : L2H.RoomH d A) (a b : PyData) (h : a.depth ≤ 9) : A.units + min a.depth b.depth < cLine := by
  have h1 := hr.un
  have h2 : min a.depth b.depth ≤ a.depth := Nat.min_le_left _ _
  omega
theorem run_cmp {d : Nat} (hK : X.K = Z.K) (hr : L2H.RoomH d X.A) (o : COp) : OpR X (compareOp (copOf o)) (rVB Z (cmpop o)) := by
  intro pins s σ H x y v u Q I rx ry h
  obtain ⟨m, a, b, w, ra, rb, hv, q⟩ := h
  have rd : ∀ {a : PV} {x : V} {v : Value} {da : PyData}, Rs Z m H a x → RelV x v → toD 9 a = some da → ∃ as, Reads s.heap v da as := fun ra rx e => by
    have := rs_dp ra e
    rw [← hK] at this
    exact Dp.reads I _ _ _ this rx
  have bl : ∀ k, EP X pins σ Q (.bool k) s ∨ True := fun _ => .inr trivial
  have fin : Q (.bl w) H → EP X pins σ Q (.bool w) s := fun q => ⟨.bl w, H, I, rfl, q⟩
  have hu := hr.un
  cases o with
  | eq =>
    obtain ⟨da, db, e1, e2, rfl⟩ := eqP_some hv
    obtain ⟨as, r1⟩ := rd ra rx e1
    obtain ⟨bs, r2⟩ := rd rb ry e2
    exact SeqAt.eq_plain r1 r2 (toD_plain 9 _ _ e1).1 (toD_plain 9 _ _ e2).1 (room9 hr _ _ (toD_plain 9 _ _ e1).2) (fin q)
  | ne =>
    obtain ⟨c, hc, rfl⟩ := Option.map_eq_some_iff.mp hv
    obtain ⟨da, db, e1, e2, rfl⟩ := eqP_some hc
    obtain ⟨as, r1⟩ := rd ra rx e1
    obtain ⟨bs, r2⟩ := rd rb ry e2
    exact SeqAt.ne_plain r1 r2 (toD_plain 9 _ _ e1).1 (toD_plain 9 _ _ e2).1 (room9 hr _ _ (toD_plain 9 _ _ e1).2) (fin q)
  | lt =>
    obtain ⟨da, db, e1, e2, hn, ha, rfl⟩ := ltP_some hv
    obtain ⟨as, r1⟩ := rd ra rx e1
    obtain ⟨bs, r2⟩ := rd rb ry e2
    exact PySem.W.lt_data r1 r2 ha hn (room9 hr _ _ (toD_plain 9 _ _ e1).2) (fin q)
  | gt =>
    obtain ⟨da, db, e1, e2, hn, ha, rfl⟩ := ltP_some hv
    obtain ⟨as, r1⟩ := rd ra rx e2
    obtain ⟨bs, r2⟩ := rd rb ry e1
    exact PySem.W.gt_data r1 r2 (by rw [PySem.W.alike_comm]; exact ha) (PySem.W.ne_none_both ha hn) (room9 hr _ _ (toD_plain 9 _ _ e2).2) (fin q)
  | le =>
    obtain ⟨c, hc, rfl⟩ := Option.map_eq_some_iff.mp hv
    obtain ⟨da, db, e1, e2, hn, ha, rfl⟩ := ltP_some hc
    obtain ⟨as, r1⟩ := rd ra rx e2
    obtain ⟨bs, r2⟩ := rd rb ry e1
    exact PySem.W.le_data r1 r2 (by rw [PySem.W.alike_comm]; exact ha) (PySem.W.ne_none_both ha hn) (room9 hr _ _ (toD_plain 9 _ _ e2).2) (fin q)
  | ge =>
    obtain ⟨c, hc, rfl⟩ := Option.map_eq_some_iff.mp hv
    obtain ⟨da, db, e1, e2, hn, ha, rfl⟩ := ltP_some hc
    obtain ⟨as, r1⟩ := rd ra rx e1
    obtain ⟨bs, r2⟩ := rd rb ry e2
    exact PySem.W.ge_data r1 r2 ha hn (room9 hr _ _ (toD_plain 9 _ _ e1).2) (fin q)
  | isin =>
    have hc : inAny a b = some w := hv
    unfold inAny at hc
    have rdT : ∀ {es : List PyData}, toD 10 b = some (.tuple es) → ∃ as, Reads s.heap u (.tuple es) as := fun e => by
      have := rs_dp rb e
      rw [← hK] at this
      exact Dp.reads I _ _ _ this ry
    have rdL : ∀ {es : List PyData}, toD 10 b = some (.list es) → ∃ as, Reads s.heap u (.list es) as := fun e => by
      have := rs_dp rb e
      rw [← hK] at this
      exact Dp.reads I _ _ _ this ry
    have hz : ∀ {da : PyData} {es : List PyData}, da.depth ≤ 9 → X.A.units + 1 + min (PyData.depthAll es) da.depth < cLine := fun {da es} h => by
      have h2 : min (PyData.depthAll es) da.depth ≤ da.depth := Nat.min_le_right _ _
      omega
    split at hc
    · rename_i ys
      obtain ⟨da, es, e1, e2, rfl⟩ := inP_some hc
      obtain ⟨as, r1⟩ := rd ra rx e1
      obtain ⟨bs, r2⟩ := rdT (es := es) (by simp only [toD, e2, Option.map_some])
      exact SeqAt.in_tuple_data r2 r1 (plainAll_of (toD_plain 9) e2).1 (toD_plain 9 _ _ e1).1 (hz (toD_plain 9 _ _ e1).2) (fin q)
    · rename_i ys
      obtain ⟨da, es, e1, e2, rfl⟩ := inP_some hc
      obtain ⟨as, r1⟩ := rd ra rx e1
      obtain ⟨bs, r2⟩ := rdL (es := es) (by simp only [toD, e2, Option.map_some])
      exact SeqAt.in_list_data r2 r1 (plainAll_of (toD_plain 9) e2).1 (toD_plain 9 _ _ e1).1 (hz (toD_plain 9 _ _ e1).2) (fin q)
    · rename_i ys
      obtain ⟨da, es, e1, e2, rfl⟩ := inP_some hc
      obtain ⟨as, r1⟩ := rd ra rx e1
      obtain ⟨bs, r2⟩ := rdL (es := es) (by simp only [toD, e2, Option.map_some])
      exact SeqAt.in_list_data r2 r1 (plainAll_of (toD_plain 9) e2).1 (toD_plain 9 _ _ e1).1 (hz (toD_plain 9 _ _ e1).2) (fin q)
    · rename_i z
      split at hc
      · cases hc
        cases rb.str_
        cases ra.str_
        exact OpR.run1 op_in_str I rx ry ⟨_, _, rfl, rfl, q⟩
      · cases hc
    · rename_i ks vs
      obtain ⟨k, hk, rfl⟩ := Option.map_eq_some_iff.mp hc
      obtain ⟨p, us, rfl, hd, hl, rr⟩ := rb.dct_
      cases (show u = Value.ref p from ry)
      have ea : x = kV k := keyOf_rel ra hk
      refine d_in (o := valV (ks.zip us) k) (by omega) I (.inl ⟨_, k, hd, ea, rfl⟩) rx fun s' I' => ⟨.bl _, H, I', rfl, ?_⟩
      rcases look_rel k rr hl with ⟨a1, b1, h1, h2, _⟩ | ⟨h1, h2⟩
      · rw [h1] at q; rw [h2]; exact q
      · rw [h1] at q; rw [h2]; exact q
    · rename_i ks vs
      split at hc
      · rename_i xs
        obtain ⟨k, hk, rfl⟩ := Option.map_eq_some_iff.mp hc
        obtain ⟨p, us, rfl, hd, hl, rr⟩ := rb.dtt_
        cases (show u = Value.ref p from ry)
        obtain ⟨a1, us2, rfl, ta, ra⟩ := ra.tup
        · have ek := keysOf_rel ra hk
          subst ek
          refine d_in (o := valV (ks.zip us) k) (by omega) I (.inr ⟨_, k, _, hd, rfl, ta, rfl⟩) rx fun s' I' => ⟨.bl _, H, I', rfl, ?_⟩
          rcases look_rel k rr hl with ⟨a1, b1, h1, h2, _⟩ | ⟨h1, h2⟩
          · rw [h1] at q; rw [h2]; exact q
          · rw [h1] at q; rw [h2]; exact q
      · cases hc
    · cases hc
  | notin =>
    obtain ⟨c, hc, rfl⟩ := Option.map_eq_some_iff.mp hv
    unfold inAny at hc
    have rdT : ∀ {es : List PyData}, toD 10 b = some (.tuple es) → ∃ as, Reads s.heap u (.tuple es) as := fun e => by
      have := rs_dp rb e
      rw [← hK] at this
      exact Dp.reads I _ _ _ this ry
    have rdL : ∀ {es : List PyData}, toD 10 b = some (.list es) → ∃ as, Reads s.heap u (.list es) as := fun e => by
      have := rs_dp rb e
      rw [← hK] at this
      exact Dp.reads I _ _ _ this ry
    have hz : ∀ {da : PyData} {es : List PyData}, da.depth ≤ 9 → X.A.units + 1 + min (PyData.depthAll es) da.depth < cLine := fun {da es} h => by
      have h2 : min (PyData.depthAll es) da.depth ≤ da.depth := Nat.min_le_right _ _
      omega
    split at hc
    · rename_i ys
      obtain ⟨da, es, e1, e2, rfl⟩ := inP_some hc
      obtain ⟨as, r1⟩ := rd ra rx e1
      obtain ⟨bs, r2⟩ := rdT (es := es) (by simp only [toD, e2, Option.map_some])
      exact SeqAt.notIn_tuple_data r2 r1 (plainAll_of (toD_plain 9) e2).1 (toD_plain 9 _ _ e1).1 (hz (toD_plain 9 _ _ e1).2) (fin q)
    · rename_i ys
      obtain ⟨da, es, e1, e2, rfl⟩ := inP_some hc
      obtain ⟨as, r1⟩ := rd ra rx e1
      obtain ⟨bs, r2⟩ := rdL (es := es) (by simp only [toD, e2, Option.map_some])
      exact SeqAt.notIn_list_data r2 r1 (plainAll_of (toD_plain 9) e2).1 (toD_plain 9 _ _ e1).1 (hz (toD_plain 9 _ _ e1).2) (fin q)
    · rename_i ys
      obtain ⟨da, es, e1, e2, rfl⟩ := inP_some hc
      obtain ⟨as, r1⟩ := rd ra rx e1
      obtain ⟨bs, r2⟩ := rdL (es := es) (by simp only [toD, e2, Option.map_some])
      exact SeqAt.notIn_list_data r2 r1 (plainAll_of (toD_plain 9) e2).1 (toD_plain 9 _ _ e1).1 (hz (toD_plain 9 _ _ e1).2) (fin q)
    · rename_i z
      split at hc
      · cases hc
        cases rb.str_
        cases ra.str_
        exact OpR.run1 L2.op_notin_str I rx ry ⟨_, _, rfl, rfl, q⟩
      · cases hc
    · rename_i ks vs
      obtain ⟨k, hk, rfl⟩ := Option.map_eq_some_iff.mp hc
      obtain ⟨p, us, rfl, hd, hl, rr⟩ := rb.dct_
      cases (show u = Value.ref p from ry)
      have ea : x = kV k := keyOf_rel ra hk
      refine d_notIn (o := valV (ks.zip us) k) (by omega) I (.inl ⟨_, k, hd, ea, rfl⟩) rx fun s' I' => ⟨.bl _, H, I', rfl, ?_⟩
      rcases look_rel k rr hl with ⟨a1, b1, h1, h2, _⟩ | ⟨h1, h2⟩
      · rw [h1] at q; rw [h2]; exact q
      · rw [h1] at q; rw [h2]; exact q
    · rename_i ks vs
      split at hc
      · rename_i xs
        obtain ⟨k, hk, rfl⟩ := Option.map_eq_some_iff.mp hc
        obtain ⟨p, us, rfl, hd, hl, rr⟩ := rb.dtt_
        cases (show u = Value.ref p from ry)
        obtain ⟨a1, us2, rfl, ta, ra⟩ := ra.tup
        · have ek := keysOf_rel ra hk
          subst ek
          refine d_notIn (o := valV (ks.zip us) k) (by omega) I (.inr ⟨_, k, _, hd, rfl, ta, rfl⟩) rx fun s' I' => ⟨.bl _, H, I', rfl, ?_⟩
          rcases look_rel k rr hl with ⟨a1, b1, h1, h2, _⟩ | ⟨h1, h2⟩
          · rw [h1] at q; rw [h2]; exact q
          · rw [h1] at q; rw [h2]; exact q
      · cases hc
    · cases hc
  | is_ =>
    have hc : isP a b = some w := hv
    unfold isP at hc
    split at hc
    · cases rb.non_
      split at hc
      · cases hc
        cases ra.non_
        exact OpR.run1 op_isN I rx ry ⟨rfl, q⟩
      · rename_i ha
        cases hc
        have hx : x ≠ .non := by
          rintro rfl
          cases ra with
          | p ra => cases ra; exact ha rfl
        refine OpR.run1 op_isN I rx ry ⟨rfl, ?_⟩
        rw [decide_eq_false hx]; exact q
    · cases rb.bl_
      split at hc
      · cases hc
        cases ra.bl_
        exact OpR.run1 op_isBl I rx ry ⟨_, _, rfl, rfl, q⟩
      · cases hc
    · cases hc
  | isnot =>
    obtain ⟨c, hc, rfl⟩ := Option.map_eq_some_iff.mp hv
    unfold isP at hc
    split at hc
    · cases rb.non_
      split at hc
      · cases hc
        cases ra.non_
        exact OpR.run1 op_notN I rx ry ⟨rfl, q⟩
      · rename_i ha
        cases hc
        have hx : x ≠ .non := by
          rintro rfl
          cases ra with
          | p ra => cases ra; exact ha rfl
        refine OpR.run1 op_notN I rx ry ⟨rfl, ?_⟩
        rw [decide_eq_false hx]; exact q
    · cases rb.bl_
      split at hc
      · cases hc
        cases ra.bl_
        exact OpR.run1 op_notBl I rx ry ⟨_, _, rfl, rfl, q⟩
      · cases hc
    · cases hc
end
end Rv
end PartRvP
section PartRvQ
set_option Elab.async false
set_option linter.all false
set_option maxRecDepth 100000
set_option autoImplicit false
/-! Rv, part Q: lists made by operators, truth, subscripts, slices, built-in functions. -/
namespace Rv
open PySem PySem.Spec PyProof.Rows L2

section
variable {X : Cx} {Z : St0}
theorem op_binL (hK : X.K = Z.K) (o : BOp) : OpR X (binaryOp (bopOf o)) (rVL Z (binL o)) := by
  intro pins s σ H x y v u Q I rx ry h
  obtain ⟨m, a, b, w, ra, rb, hv, q⟩ := h
  unfold binL at hv
  split at hv
  · rename_i xs ys
    split at hv
    · rename_i hz
      cases hv
      obtain ⟨p, us, rfl, h1, r1⟩ := ra.lst_
      obtain ⟨p2, us2, rfl, h2, r2⟩ := rb.lst_
      have l1 := r1.length
      have l2 := r2.length
      exact OpR.run1 op_cat I rx ry ⟨_, _, _, _, rfl, rfl, h1, h2, by rw [← l1, ← l2]; exact Nat.le_trans hz lim_le, fun p hp => q _ (r1.append r2) p hp⟩
    · cases hv
  · rename_i xs k
    unfold repL at hv
    split at hv
    · rename_i hc
      cases hv
      simp only [Bool.and_eq_true, decide_eq_true_eq] at hc
      obtain ⟨⟨c1, c2⟩, c3⟩ := hc
      obtain ⟨p, us, rfl, h1, r1⟩ := ra.lst_
      cases rb.int_
      have l1 := r1.length
      have hs := sizeLine_eq
      have hm : us.length * k.toNat ≤ 1000 * 1000 := Nat.mul_le_mul (by omega) (by omega)
      exact OpR.run1 op_rep I rx ry ⟨_, k, _, rfl, rfl, h1, by omega, by omega, by omega, fun p hp => q _ (r1.rep _) p hp⟩
    · cases hv
  · cases hv
/-- a value's truth -/
def rTru (Z : St0) : V → Hp → (Bool → Hp → Prop) → Prop := fun x H Q => ∃ (m : List Addr) (a : PV) (b : Bool), Rs Z m H a x ∧ truth a = some b ∧ Q b H
theorem tru_run (hK : X.K = Z.K) : TruR X (rTru Z) := by
  intro pins s σ H x v Q I rx h
  obtain ⟨m, a, b, ra, hb, q⟩ := h
  have go : ∀ k, TruV X.K x H k → k = b → wpAny (model X.prog X.w) X.A (truthy v) (TP X pins σ Q) X.xe s := fun k hk e => tru_ok pins s σ H x v Q I rx ⟨k, hk, e ▸ q⟩
  cases a with
  | non => cases hb; cases ra.non_; exact go false rfl rfl
  | bl c => cases hb; cases ra.bl_; exact go _ rfl rfl
  | int c => cases hb; cases ra.int_; exact go _ rfl rfl
  | str y =>
    simp only [truth] at hb
    split at hb
    · rename_i hz
      cases hb
      cases ra.str_
      exact go _ ⟨Nat.le_trans hz lim_le, rfl⟩ rfl
    · cases hb
  | tup xs =>
    cases hb
    obtain ⟨p, us, rfl, h1, r1⟩ := ra.tup
    exact go _ (.inr (.inl ⟨_, SqT.of h1, rfl⟩)) (by cases r1 <;> rfl)
  | lst xs =>
    cases hb
    obtain ⟨p, us, rfl, h1, r1⟩ := ra.lst_
    exact go _ (.inl ⟨_, SqL.of h1, rfl⟩) (by cases r1 <;> rfl)
  | rd xs =>
    cases hb
    obtain ⟨p, us, rfl, h1, r1⟩ := ra.rd_
    have h1 := h1.sqL
    rw [← hK] at h1
    exact go _ (.inl ⟨_, h1, rfl⟩) (by cases r1 <;> rfl)
  | dct ks vs =>
    cases hb
    obtain ⟨p, us, rfl, h1, hl, r1⟩ := ra.dct_
    cases (show v = Value.ref p from rx)
    refine d_truth I h1 fun s' I' => ⟨H, I', ?_⟩
    have : (ks.zip us).isEmpty = ks.isEmpty := by
      cases ks with
      | nil => rfl
      | cons k ks => cases us with
        | nil => simp at hl
        | cons u us => rfl
    rw [this]; exact q
  | _ => cases hb
theorem atI_rel {m : List Addr} {H : Hp} {xs : List PV} {us : List V} {i : Int} {v : PV} (r : RpA Z m H xs us) (h : atI xs i = some v) : ∃ u, atI us i = some u ∧ Rp Z m H v u := by
  unfold atI at h ⊢
  rw [← r.length]
  cases e : ixN xs.length i with
  | none => rw [e] at h; cases h
  | some j =>
    rw [e] at h
    exact r.get h
/-- x[i] -/
theorem ix_dict (hu : X.A.units + 1 < cLine) : IxR X (fun x y H Q => ∃ a v, x = .ref a ∧ DGet H a y (some v) ∧ Q v H) := by
  intro value slice pins s σ H x y v u Q I rx ry h hs
  obtain ⟨a, z, rfl, g, q⟩ := h
  obtain rfl : v = Value.ref a := rx
  exact tail_any (dict_typeIs I g) PySem.F.slot_dict_getitem.lookup (d_getItem hu I g ry fun w' s' I' r => ⟨z, H, I', r, q⟩) hs
theorem ix_run {d : Nat} (hK : X.K = Z.K) (hr : L2H.RoomH d X.A) : IxR X (rV Z ixP) := by
  intro value slice pins s σ H x y v u Q I rx ry h hs
  obtain ⟨m, S, a, b, w, R, ra, rb, hv, q⟩ := h
  have hu := hr.un
  unfold ixP at hv
  split at hv
  · cases rb.int_
    obtain ⟨p, us, rfl, h1, r1⟩ := ra.tup
    obtain ⟨z, h2, r2⟩ := atI_rel r1 hv
    exact ix_tup value slice pins s σ H _ _ v u Q I rx ry ⟨_, _, _, z, rfl, rfl, SqT.of h1, h2, q _ _ Ext.refl R r2⟩ hs
  · cases rb.int_
    obtain ⟨p, us, rfl, h1, r1⟩ := ra.lst_
    obtain ⟨z, h2, r2⟩ := atI_rel r1 hv
    exact ix_list value slice pins s σ H _ _ v u Q I rx ry ⟨_, _, _, z, rfl, rfl, SqL.of h1, h2, q _ _ Ext.refl R r2⟩ hs
  · cases rb.int_
    obtain ⟨p, us, rfl, h1, r1⟩ := ra.rd_
    have h1 := h1.sqL
    rw [← hK] at h1
    obtain ⟨z, h2, r2⟩ := atI_rel r1 hv
    exact ix_list value slice pins s σ H _ _ v u Q I rx ry ⟨_, _, _, z, rfl, rfl, h1, h2, q _ _ Ext.refl R r2⟩ hs
  · split at hv
    · rename_i hz
      obtain ⟨c, hc, rfl⟩ := Option.map_eq_some_iff.mp hv
      cases ra.str_
      cases rb.int_
      exact ix_str value slice pins s σ H _ _ v u Q I rx ry ⟨_, _, c, rfl, rfl, Nat.le_trans hz lim_le, hc, q _ _ Ext.refl R (.str _)⟩ hs
    · cases hv
  · rename_i ks vs
    obtain ⟨k, hk, hv⟩ := Option.bind_eq_some_iff.mp hv
    obtain ⟨p, us, rfl, h1, hl, r1⟩ := ra.dct_
    rcases look_rel k r1 hl with ⟨a1, b1, h2, h3, h4⟩ | ⟨h2, h3⟩
    · rw [h2] at hv; cases hv
      exact ix_dict (by omega) value slice pins s σ H _ _ v u Q I rx ry ⟨_, b1, rfl, .inl ⟨_, k, h1, keyOf_rel rb hk, h3.symm⟩, q _ _ Ext.refl R h4⟩ hs
    · rw [h2] at hv; cases hv
  · rename_i ks vs xs
    obtain ⟨k, hk, hv⟩ := Option.bind_eq_some_iff.mp hv
    obtain ⟨p, us, rfl, h1, hl, r1⟩ := ra.dtt_
    obtain ⟨p2, us2, rfl, tb, rb⟩ := rb.tup
    have ek := keysOf_rel rb hk
    subst ek
    rcases look_rel k r1 hl with ⟨a1, b1, h2, h3, h4⟩ | ⟨h2, h3⟩
    · rw [h2] at hv; cases hv
      exact ix_dict (by omega) value slice pins s σ H _ _ v u Q I rx ry ⟨_, b1, rfl, .inr ⟨_, k, _, h1, rfl, tb, h3.symm⟩, q _ _ Ext.refl R h4⟩ hs
    · rw [h2] at hv; cases hv
  · cases hv
/-- an index into a list of objects -/
theorem ix_rows (hK : X.K = Z.K) : IxR X (fun x y H Q => ∃ (m : List Addr) (a : Addr) (is : List Nat) (us : List V) (k : Int) (i : Nat), x = .ref a ∧ y = .int k ∧ H a = some (.lst us) ∧ ReA Z m H (is.map .ref) us ∧ atI is k = some i ∧ ∀ u, Re Z m H (.ref i) u → Q u H) := by
  intro value slice pins s σ H x y v u Q I rx ry h hs
  obtain ⟨m, a, is, us, k, i, rfl, rfl, h1, h2, h3, q⟩ := h
  have hl := h2.length
  rw [List.length_map] at hl
  unfold atI at h3
  cases e : ixN is.length k with
  | none => rw [e] at h3; cases h3
  | some j =>
    rw [e] at h3
    have h3 : is[j]? = some i := h3
    obtain ⟨z, g1, g2⟩ := h2.get (i := j) (x := .ref i) (by rw [List.getElem?_map, h3]; rfl)
    refine ix_list value slice pins s σ H _ _ v u Q I rx ry ⟨_, _, _, z, rfl, rfl, SqL.of h1, ?_, q z g2⟩ hs
    unfold atI
    rw [← hl, e]
    exact g1
/-- x[lo:hi] of a tuple, a text -/
def slP (lo hi : Option Int) : PV → Option PV
  | .tup xs => some (.tup (cutP xs lo hi))
  | .str z => if z.length ≤ lim then some (.str (cutS z lo hi)) else none
  | _ => none
/-- of a list -/
def slPL (lo hi : Option Int) : PV → Option (List PV)
  | .lst xs => some (cutP xs lo hi)
  | .rd xs => some (cutP xs lo hi)
  | _ => none
theorem cut_rel {m : List Addr} {H : Hp} {xs : List PV} {us : List V} (r : RpA Z m H xs us) (lo hi : Option Int) : RpA Z m H (cutP xs lo hi) (cutV us lo hi) := by
  unfold cutP cutV
  rw [← r.length]
  exact (r.drop _).take _
theorem cut_whole {α : Type} (xs : List α) (lo hi : Option Int) (h : HT.sIx xs.length 0 lo = 0 ∧ HT.sIx xs.length xs.length hi = xs.length) :
    (xs.drop (HT.sIx xs.length 0 lo)).take (HT.sIx xs.length xs.length hi - HT.sIx xs.length 0 lo) = xs := by
  rw [h.1, h.2, List.drop_zero, Nat.sub_zero, List.take_length]
theorem sl_run (hK : X.K = Z.K) : SlR X (fun x lo hi H Q => ∃ (m : List Addr) (S : List PO) (a v : PV), Rel Z m S H ∧ Rs Z m H a x ∧ slP lo hi a = some v ∧ ∀ H' u, Ext m H m H' → Rel Z m S H' → Rp Z m H' v u → Q u H') := by
  intro pins s σ H x v vl vu lo hi sl Q I rx hs pl pu h
  obtain ⟨m, S, a, w, R, ra, hv, q⟩ := h
  unfold slP at hv
  split at hv
  · cases hv
    obtain ⟨p, us, rfl, h1, r1⟩ := ra.tup
    refine sl_tupA pins s σ H _ v vl vu lo hi sl Q I rx hs pl pu ⟨_, _, rfl, SqT.of h1, fun hw => ?_, fun _ p hp => ?_⟩
    · refine q _ _ Ext.refl R (.tup h1 ?_)
      rw [← r1.length] at hw
      unfold cutP
      rw [cut_whole _ _ _ hw]
      exact r1
    · exact q _ _ (Ext.alloc hp) (R.alloc hp) (.tup upd_same ((cut_rel r1 lo hi).ext (Ext.alloc hp)))
  · split at hv
    · rename_i hz
      cases hv
      cases ra.str_
      exact sl_str pins s σ H _ v vl vu lo hi sl Q I rx hs pl pu ⟨_, rfl, Nat.le_trans hz lim_le, q _ _ Ext.refl R (.str _)⟩
    · cases hv
  · cases hv
theorem sl_runL (hK : X.K = Z.K) : SlR X (fun x lo hi H Q => ∃ (m : List Addr) (a : PV) (v : List PV), Rs Z m H a x ∧ slPL lo hi a = some v ∧ ∀ us, RpA Z m H v us → ∀ p, H p = none → Q (.ref p) (upd H p (.lst us))) := by
  intro pins s σ H x v vl vu lo hi sl Q I rx hs pl pu h
  obtain ⟨m, a, w, ra, hv, q⟩ := h
  unfold slPL at hv
  split at hv
  · cases hv
    obtain ⟨p, us, rfl, h1, r1⟩ := ra.lst_
    exact sl_list pins s σ H _ v vl vu lo hi sl Q I rx hs pl pu ⟨_, _, rfl, SqL.of h1, fun p hp => q _ (cut_rel r1 lo hi) p hp⟩
  · cases hv
    obtain ⟨p, us, rfl, h1, r1⟩ := ra.rd_
    have h1 := h1.sqL
    rw [← hK] at h1
    exact sl_list pins s σ H _ v vl vu lo hi sl Q I rx hs pl pu ⟨_, _, rfl, h1, fun p hp => q _ (cut_rel r1 lo hi) p hp⟩
  · cases hv
end
end Rv
end PartRvQ
section PartRvR
set_option Elab.async false
set_option linter.all false
set_option maxRecDepth 100000
set_option autoImplicit false
/-! Rv, part R: built-in functions. -/
namespace Rv
open PySem PySem.Spec PyProof.Rows L2
inductive RsA (Z : St0) (m : List Addr) (H : Hp) : List PV → List V → Prop
  | nil : RsA Z m H [] []
  | cons {v : PV} {u : V} {vs : List PV} {us : List V} : Rs Z m H v u → RsA Z m H vs us → RsA Z m H (v :: vs) (u :: us)
/-- what a built-in function gives -/
def rC (Z : St0) (f : List PV → Option PV) : List V → Hp → VK → Prop := fun xs H Q => ∃ (m : List Addr) (S : List PO) (as : List PV) (v : PV), Rel Z m S H ∧ RsA Z m H as xs ∧ f as = some v ∧
  ∀ H' u, Ext m H m H' → Rel Z m S H' → Rp Z m H' v u → Q u H'
def rCL (Z : St0) (f : List PV → Option (List PV)) : List V → Hp → VK → Prop := fun xs H Q => ∃ (m : List Addr) (S : List PO) (as : List PV) (v : List PV), Rel Z m S H ∧ RsA Z m H as xs ∧ f as = some v ∧
  ∀ us, RpA Z m H v us → ∀ p, H p = none → Q (.ref p) (upd H p (.lst us))
theorem bi_one {o : BI} {as : List PV} {v : PV} (h : bi o as = some v) (ho : o = .len ∨ o = .all ∨ o = .any ∨ o = .sum ∨ o = .min1 ∨ o = .max1 ∨ o = .tuple) : ∃ a, as = [a] := by
  cases as with
  | nil => rcases ho with rfl | rfl | rfl | rfl | rfl | rfl | rfl <;> cases h
  | cons a as => cases as with
    | nil => exact ⟨a, rfl⟩
    | cons b as => rcases ho with rfl | rfl | rfl | rfl | rfl | rfl | rfl <;> (cases a <;> cases b <;> cases as <;> cases h)
theorem bi_two {as : List PV} {v : PV} (h : bi .isa as = some v) : ∃ a b, as = [a, b] := by
  cases as with
  | nil => cases h
  | cons a as => cases as with
    | nil => cases a <;> cases h
    | cons b as => cases as with
      | nil => exact ⟨a, b, rfl⟩
      | cons c as => cases a <;> cases b <;> cases h
theorem biL_one {as : List PV} {v : List PV} (h : biL .list as = some v) : ∃ a, as = [a] := by
  cases as with
  | nil => cases h
  | cons a as => cases as with
    | nil => exact ⟨a, rfl⟩
    | cons b as => cases h
section
variable {X : Cx} {Z : St0}
theorem CallR.run1 {f : Value} {r : List V → Hp → VK → Prop} (h : CallR X f r) {pins : List (Addr × Obj)} {s : Shared} {σ : L2.St} {H : Hp} {xs : List V} {us : List Value} {Q : VK} (I : Inv X pins σ H s) (rx : Vals xs us) (q : r xs H Q) :
    wpAny (model X.prog X.w) X.A (call f us) (EP X pins σ Q) X.xe s := h pins s σ H xs us Q I rx q
theorem intsOf_rel {m : List Addr} {H : Hp} : ∀ {xs : List PV} {us : List V} {l : List Int}, RpA Z m H xs us → intsOf xs = some l → us = l.map V.int
  | _, _, _, .nil, h => by simp only [intsOf] at h; cases h; rfl
  | _, _, _, .cons r rs, h => by
    simp only [intsOf] at h
    split at h
    · split at h
      · rename_i e
        cases h
        cases r
        rw [List.map_cons, intsOf_rel rs e]
      · cases h
    · cases h
theorem tb_rel {m : List Addr} {H : Hp} {v : PV} {u : V} {b : Bool} (r : Rp Z m H v u) (h : tb v = some b) {hp : Heap} {w : Value} (ru : RelV u w) : ∃ d, Reads hp w d [] ∧ d.plain = true ∧ PySem.PyData.fits63 d ∧ PySem.PyData.truthy d = b := by
  cases r with
  | bl c => cases h; cases ru; exact ⟨_, .bool _, rfl, trivial, rfl⟩
  | int c => cases h; obtain ⟨t, rfl⟩ := ru; exact ⟨_, .int _ _, rfl, trivial, rfl⟩
  | non => cases h; cases ru; exact ⟨_, .none, rfl, trivial, rfl⟩
  | _ => cases h
theorem allB_rel {m : List Addr} {H : Hp} {hp : Heap} : ∀ {xs : List PV} {us : List V} {ws : List Value} {b : Bool}, RpA Z m H xs us → Vals us ws → allB xs = some b → ∃ ds, ReadsAll hp ws ds [] ∧ PyData.plainAll ds = true ∧ (∀ d ∈ ds, PySem.PyData.fits63 d) ∧ b = ds.all PySem.PyData.truthy
  | _, _, _, _, .nil, .nil, h => by simp only [allB] at h; cases h; exact ⟨[], .nil, rfl, (fun d hd => by cases hd), rfl⟩
  | _, _, _, _, .cons r rs, .cons q qs, h => by
    simp only [allB] at h
    split at h
    · rename_i e1
      split at h
      · rename_i e
        cases h
        obtain ⟨ds, h1, h2, h3, rfl⟩ := allB_rel rs qs e
        obtain ⟨d, g1, g2, g3, rfl⟩ := tb_rel (hp := hp) r e1 q
        refine ⟨d :: ds, .cons (as := []) (bs := []) g1 h1, by simp [PyData.plainAll, g2, h2], fun d' hd => ?_, rfl⟩
        rcases List.mem_cons.mp hd with rfl | hd
        · exact g3
        · exact h3 d' hd
      · cases h
    · cases h
theorem anyB_rel {m : List Addr} {H : Hp} {hp : Heap} : ∀ {xs : List PV} {us : List V} {ws : List Value} {b : Bool}, RpA Z m H xs us → Vals us ws → anyB xs = some b → ∃ ds, ReadsAll hp ws ds [] ∧ PyData.plainAll ds = true ∧ (∀ d ∈ ds, PySem.PyData.fits63 d) ∧ b = ds.any PySem.PyData.truthy
  | _, _, _, _, .nil, .nil, h => by simp only [anyB] at h; cases h; exact ⟨[], .nil, rfl, (fun d hd => by cases hd), rfl⟩
  | _, _, _, _, .cons r rs, .cons q qs, h => by
    simp only [anyB] at h
    split at h
    · rename_i e1
      split at h
      · rename_i e
        cases h
        obtain ⟨ds, h1, h2, h3, rfl⟩ := anyB_rel rs qs e
        obtain ⟨d, g1, g2, g3, rfl⟩ := tb_rel (hp := hp) r e1 q
        refine ⟨d :: ds, .cons (as := []) (bs := []) g1 h1, by simp [PyData.plainAll, g2, h2], fun d' hd => ?_, rfl⟩
        rcases List.mem_cons.mp hd with rfl | hd
        · exact g3
        · exact h3 d' hd
      · cases h
    · cases h
theorem fold_min (x : Int) : ∀ xs : List Int, xs.foldl (fun a b => if b < a then b else a) x ∈ x :: xs ∧ ∀ y, y ∈ x :: xs → xs.foldl (fun a b => if b < a then b else a) x ≤ y := fun xs => by
  induction xs generalizing x with
  | nil => exact ⟨List.mem_cons_self .., fun y hy => by rw [List.mem_singleton.mp hy]; exact Int.le_refl _⟩
  | cons z zs ih =>
    rw [List.foldl_cons]
    obtain ⟨h1, h2⟩ := ih (if z < x then z else x)
    refine ⟨?_, fun y hy => ?_⟩
    · rcases List.mem_cons.mp h1 with h | h
      · rw [h]; split
        · simp
        · simp
      · exact List.mem_cons_of_mem _ (List.mem_cons_of_mem _ h)
    · have h0 := h2 _ (List.mem_cons_self ..)
      rcases List.mem_cons.mp hy with h | h
      · subst h; split at h0 <;> split <;> omega
      · rcases List.mem_cons.mp h with h | h
        · subst h; split at h0 <;> split <;> omega
        · exact h2 y (List.mem_cons_of_mem _ h)
theorem fold_max (x : Int) : ∀ xs : List Int, xs.foldl (fun a b => if b > a then b else a) x ∈ x :: xs ∧ ∀ y, y ∈ x :: xs → y ≤ xs.foldl (fun a b => if b > a then b else a) x := fun xs => by
  induction xs generalizing x with
  | nil => exact ⟨List.mem_cons_self .., fun y hy => by rw [List.mem_singleton.mp hy]; exact Int.le_refl _⟩
  | cons z zs ih =>
    rw [List.foldl_cons]
    obtain ⟨h1, h2⟩ := ih (if z > x then z else x)
    refine ⟨?_, fun y hy => ?_⟩
    · rcases List.mem_cons.mp h1 with h | h
      · rw [h]; split
        · simp
        · simp
      · exact List.mem_cons_of_mem _ (List.mem_cons_of_mem _ h)
    · have h0 := h2 _ (List.mem_cons_self ..)
      rcases List.mem_cons.mp hy with h | h
      · subst h; split at h0 <;> split <;> omega
      · rcases List.mem_cons.mp h with h | h
        · subst h; split at h0 <;> split <;> omega
        · exact h2 y (List.mem_cons_of_mem _ h)
theorem minI_is {l : List Int} {m n : Int} (h : minI l = some m) (h1 : n ∈ l) (h2 : ∀ y, y ∈ l → n ≤ y) : n = m := by
  cases l with
  | nil => cases h
  | cons x xs =>
    cases h
    obtain ⟨a, b⟩ := fold_min x xs
    have c1 := h2 _ a
    have c2 := b _ h1
    omega
theorem maxI_is {l : List Int} {m n : Int} (h : maxI l = some m) (h1 : n ∈ l) (h2 : ∀ y, y ∈ l → y ≤ n) : n = m := by
  cases l with
  | nil => cases h
  | cons x xs =>
    cases h
    obtain ⟨a, b⟩ := fold_max x xs
    have c1 := h2 _ a
    have c2 := b _ h1
    omega
theorem readsAll_ints {h : Heap} : ∀ {us : List Value} {l : List Int}, Vals (l.map V.int) us → ReadsAll h us (l.map PyData.int) []
  | _, [], r => by cases r; exact .nil
  | _, x :: l, r => by
    cases r with
    | cons r rs =>
      obtain ⟨t, rfl⟩ := r
      exact .cons (as := []) (bs := []) (.int x t) (readsAll_ints rs)
theorem alike_ints {l : List Int} : PySem.W.AlikeAll (l.map PyData.int) := by
  refine ⟨fun x hx y hy => ?_, fun x hx => ?_⟩
  · obtain ⟨i, _, rfl⟩ := List.mem_map.mp hx
    obtain ⟨j, _, rfl⟩ := List.mem_map.mp hy
    rfl
  · obtain ⟨i, _, rfl⟩ := List.mem_map.mp hx
    intro e; cases e
theorem foldMin_eq (n : Int) : ∀ ns : List Int, ns.foldl min n = ns.foldl (fun a b => if b < a then b else a) n := fun ns => by
  induction ns generalizing n with
  | nil => rfl
  | cons x xs ih =>
    rw [List.foldl_cons, List.foldl_cons, ih]
    congr 1
    split <;> omega
theorem foldMax_eq (n : Int) : ∀ ns : List Int, ns.foldl max n = ns.foldl (fun a b => if b > a then b else a) n := fun ns => by
  induction ns generalizing n with
  | nil => rfl
  | cons x xs ih =>
    rw [List.foldl_cons, List.foldl_cons, ih]
    congr 1
    split <;> omega
theorem reads_int {h : Heap} {v : Value} {n : Int} {bs : List Addr} (r : Reads h v (.int n) bs) : ∃ t, v = .int n t := by
  cases r with
  | int _ t => exact ⟨t, rfl⟩
theorem vals1_ref {a : Addr} {us : List Value} (r : Vals [V.ref a] us) : us = [.ref a] := by
  cases r with
  | cons r rs => cases rs; cases r; rfl
theorem intsOfT_eq : ∀ {xs : List PV} {l : List Int}, intsOfT xs = some l → xs = l.map .int
  | [], l, h => by cases h; rfl
  | x :: xs, l, h => by
    simp only [intsOfT] at h
    split at h
    · split at h
      · rename_i e
        cases h
        rw [intsOfT_eq e]
        rfl
      · cases h
    · cases h
theorem rowI_eq {y : PV} {l : List Int} (h : rowI y = some l) : y = .tup (l.map .int) := by
  unfold rowI at h
  split at h
  · rw [intsOfT_eq h]
  · cases h
theorem mapM_row : ∀ {ys : List PV} {T : List (List Int)}, ys.mapM rowI = some T → ys = T.map fun r => .tup (r.map .int)
  | [], T, h => by
    have := mapM_nil h
    subst this
    rfl
  | y :: ys, T, h => by
    obtain ⟨l, L, h1, h2, rfl⟩ := mapM_cons h
    rw [List.map_cons, ← rowI_eq h1, ← mapM_row h2]
theorem tabI_eq {y : PV} {T : List (List Int)} (h : tabI y = some T) : y = ttP T := by
  unfold tabI at h
  split at h
  · rw [mapM_row h]; rfl
  · cases h
theorem toD_row (m : Nat) : ∀ r : List Int, (r.map PV.int).mapM (toD m) = some (r.map .int)
  | [] => rfl
  | x :: r => by
    rw [List.map_cons, List.mapM_cons, toD_row m r]
    cases m <;> rfl
theorem toD_rows (m : Nat) : ∀ A : List (List Int), (A.map fun r => PV.tup (r.map .int)).mapM (toD (m + 1)) = some (A.map fun r => .tuple (r.map .int))
  | [] => rfl
  | x :: A => by
    have e1 : toD (m + 1) (.tup (x.map .int)) = some (.tuple (x.map .int)) := by simp only [toD, toD_row, Option.map_some]
    rw [List.map_cons, List.mapM_cons, toD_rows m A, e1]
    rfl
theorem toD_tt (T : List (List Int)) : toD 9 (ttP T) = some (ttD T) := by
  unfold ttP ttD
  simp only [toD, toD_rows, Option.map_some]
theorem ints_inj : ∀ {a b : List Int}, a.map PyData.int = b.map .int → a = b
  | [], [], _ => rfl
  | [], _ :: _, h => by cases h
  | _ :: _, [], h => by cases h
  | x :: a, y :: b, h => by
    rw [List.map_cons, List.map_cons] at h
    injection h with h1 h2
    injection h1 with h1
    rw [h1, ints_inj h2]
theorem rows_inj : ∀ {a b : List (List Int)}, (a.map fun r => PyData.tuple (r.map .int)) = (b.map fun r => .tuple (r.map .int)) → a = b
  | [], [], _ => rfl
  | [], _ :: _, h => by cases h
  | _ :: _, [], h => by cases h
  | x :: a, y :: b, h => by
    rw [List.map_cons, List.map_cons] at h
    injection h with h1 h2
    injection h1 with h1
    rw [ints_inj h1, rows_inj h2]
theorem ttD_inj {a b : List (List Int)} (h : ttD a = ttD b) : a = b := by
  unfold ttD at h
  injection h with h
  exact rows_inj h
theorem minD_tt (T : List (List Int)) : ∀ Ts : List (List (List Int)), PySem.W.minD (ttD T) (Ts.map ttD) = ttD (minT T Ts) := fun Ts => by
  unfold PySem.W.minD minT
  induction Ts generalizing T with
  | nil => rfl
  | cons y Ts ih =>
    rw [List.map_cons, List.foldl_cons, List.foldl_cons]
    by_cases h : PySem.W.dataLt (ttD y) (ttD T) = true
    · rw [if_pos h, if_pos h]; exact ih y
    · rw [if_neg h, if_neg h]; exact ih T
theorem alike_row : ∀ a b : List Int, PySem.W.alikeAll (a.map .int) (b.map .int) = true
  | [], [] => rfl
  | [], _ :: _ => rfl
  | _ :: _, [] => rfl
  | x :: a, y :: b => by
    rw [List.map_cons, List.map_cons]
    simp only [PySem.W.alikeAll, PySem.W.alike, alike_row a b, Bool.and_self]
theorem alike_rows : ∀ a b : List (List Int), PySem.W.alikeAll (a.map fun r => .tuple (r.map .int)) (b.map fun r => .tuple (r.map .int)) = true
  | [], [] => rfl
  | [], _ :: _ => rfl
  | _ :: _, [] => rfl
  | x :: a, y :: b => by
    rw [List.map_cons, List.map_cons]
    simp only [PySem.W.alikeAll, PySem.W.alike, alike_row, alike_rows a b, Bool.and_self]
theorem alike_tts (L : List (List (List Int))) : PySem.W.AlikeAll (L.map ttD) := by
  refine ⟨fun x hx y hy => ?_, fun x hx => ?_⟩
  · obtain ⟨i, _, rfl⟩ := List.mem_map.mp hx
    obtain ⟨j, _, rfl⟩ := List.mem_map.mp hy
    unfold ttD
    simp only [PySem.W.alike, alike_rows]
  · obtain ⟨i, _, rfl⟩ := List.mem_map.mp hx
    intro e; cases e
theorem depth_tts : ∀ L : List (List (List Int)), PyData.depthAll (L.map ttD) ≤ 9
  | [] => by simp [PyData.depthAll]
  | T :: L => by
    rw [List.map_cons]
    have h1 := depth_tts L
    have h2 := (toD_plain 9 _ _ (toD_tt T)).2
    simp only [PyData.depthAll]
    omega
theorem reads_tts {m : List Addr} {H : Hp} {pins : List (Addr × Obj)} {σ : L2.St} {s : Shared} (I : L2.Inv X pins σ H s) (hK : X.K = Z.K) : ∀ {ys : List PV} {us : List V} {vs : List Value} {L : List (List (List Int))}, RpA Z m H ys us → Vals us vs → ys.mapM tabI = some L → ∃ as, ReadsAll s.heap vs (L.map ttD) as
  | _, _, _, _, .nil, r, h => by
    have e := mapM_nil h
    subst e
    cases r
    exact ⟨[], .nil⟩
  | _, _, _, _, .cons r rs, rv, h => by
    obtain ⟨T, L, h1, h2, rfl⟩ := mapM_cons h
    cases rv with
    | cons rv rvs =>
      obtain ⟨as, ha⟩ := reads_tts I hK rs rvs h2
      have e := tabI_eq h1
      subst e
      obtain ⟨bs, hb⟩ := Dp.reads I _ _ _ (by rw [hK]; exact toD_dp 9 _ _ _ r (toD_tt T)) rv
      exact ⟨bs ++ as, .cons hb ha⟩
theorem pick_tt {m : List Addr} {H : Hp} {pins : List (Addr × Obj)} {σ : L2.St} {s : Shared} (I : L2.Inv X pins σ H s) (hK : X.K = Z.K) : ∀ {ys : List PV} {us : List V} {vs : List Value} {L : List (List (List Int))}, RpA Z m H ys us → Vals us vs → ys.mapM tabI = some L → ∀ {i : Nat} {v : Value}, vs[i]? = some v → ∃ u T, L[i]? = some T ∧ RelV u v ∧ Rp Z m H (ttP T) u ∧ us[i]? = some u ∧ ∃ bs, Reads s.heap v (ttD T) bs
  | _, _, _, _, .nil, r, h, i, v, hi => by
    cases r
    simp at hi
  | _, _, _, _, .cons r rs, rv, h, i, v, hi => by
    obtain ⟨T, L, h1, h2, rfl⟩ := mapM_cons h
    cases rv with
    | cons rv rvs =>
      cases i with
      | zero =>
        simp only [List.getElem?_cons_zero, Option.some.injEq] at hi
        subst hi
        have e := tabI_eq h1
        subst e
        exact ⟨_, T, rfl, rv, r, rfl, Dp.reads I _ _ _ (by rw [hK]; exact toD_dp 9 _ _ _ r (toD_tt T)) rv⟩
      | succ i =>
        rw [List.getElem?_cons_succ] at hi
        obtain ⟨u, T', e1, e2, e3, e4, e5⟩ := pick_tt I hK rs rvs h2 hi
        exact ⟨u, T', by rw [List.getElem?_cons_succ]; exact e1, e2, e3, by rw [List.getElem?_cons_succ]; exact e4, e5⟩
theorem run_min1 {d : Nat} (hK : X.K = Z.K) (hc : X.calm = true) (hr : L2H.RoomH d X.A) : CallR X (.builtin "min") (rC Z (bi .min1)) := by
  intro pins s σ H xs us Q I r h
  obtain ⟨m, S, as, w, R, ra, hv, q⟩ := h
  have hun := hr.un
  obtain ⟨a, rfl⟩ := bi_one hv (by simp)
  cases ra with
  | cons r1 rs =>
    cases rs
    simp only [bi] at hv
    obtain ⟨ys, h1, hv⟩ := Option.bind_eq_some_iff.mp hv
    cases h2 : intsOf ys with
    | some l =>
      rw [h2] at hv
      simp only at hv
      obtain ⟨mn, h3, rfl⟩ := Option.map_eq_some_iff.mp hv
      obtain ⟨p, vs, rfl, hs, rr⟩ := rs_seq r1 h1
      have e := intsOf_rel rr h2
      subst e
      rw [← hK] at hs
      rcases hs with hs | hs
      · refine CallR.run1 (cr_min hc) I r ⟨p, l, rfl, hs, ?_, fun n h4 h5 => ?_⟩
        · cases l with
          | nil => cases h3
          | cons _ _ => exact Nat.succ_pos _
        · rw [minI_is h3 h4 h5]
          exact q _ _ Ext.refl R (.int _)
      · rw [vals1_ref r]
        obtain ⟨its, rv, ht, _⟩ := I.tuple hs
        cases l with
        | nil => cases h3
        | cons x l =>
          cases h3
          refine PySem.W.min_tuple_data (x := .int x) (xs := l.map .int) (I.ok.hd hc) ht (readsAll_ints (l := x :: l) rv) (alike_ints (l := x :: l)) ?_ fun i v h' tk bs _ hrd hk => ?_
          · have := PySem.W.depth_ints (x :: l)
            rw [List.map_cons] at this
            rw [this]; omega
          · rw [PySem.W.minD_ints, foldMin_eq] at hrd
            obtain ⟨t, rfl⟩ := reads_int hrd
            exact ⟨.int _, H, I.kept hk, ⟨t, rfl⟩, q _ _ Ext.refl R (.int _)⟩
    | none =>
      rw [h2] at hv
      simp only at hv
      unfold minTP at hv
      cases h3 : ys.mapM tabI with
      | none => rw [h3] at hv; cases hv
      | some L =>
        rw [h3] at hv
        cases L with
        | nil => cases hv
        | cons T Ts =>
          cases hv
          obtain ⟨p, vs, rfl, hs, rr⟩ := rs_seq r1 h1
          rw [← hK] at hs
          rw [vals1_ref r]
          have fin : ∀ (its : List Value), Vals vs its → ∀ (i : Nat) (v : Value) (h' : Heap) (tk : Nat) (bs : List Addr), its.toArray[i]? = some v → Reads h' v (PySem.W.minD (ttD T) (Ts.map ttD)) bs → (∀ b o, s.heap.get? b = some o → h'.get? b = some o) → EP X pins σ Q v { s with heap := h', toks := tk } := fun its rv i v h' tk bs hi hrd hk => by
            obtain ⟨as, ha⟩ := reads_tts I hK rr rv h3
            rw [minD_tt] at hrd
            have hi' : its[i]? = some v := by simpa using hi
            obtain ⟨u, T', e1, e2, e3, e4, bs2, e5⟩ := pick_tt I hK rr rv h3 hi'
            have e6 := (PyProof.Rows.Reads.keeps hk e5).unique _ _ hrd
            have e7 := ttD_inj e6.1
            subst e7
            exact ⟨u, H, I.kept hk, e2, q _ _ Ext.refl R e3⟩
          rcases hs with hs | hs
          · obtain ⟨its, rv, hl, _⟩ := I.list hs
            obtain ⟨as, ha⟩ := reads_tts I hK rr rv h3
            exact PySem.W.min_list_data (x := ttD T) (xs := Ts.map ttD) (I.ok.hd hc) hl.isList ha (alike_tts (T :: Ts)) (by have := depth_tts (T :: Ts); rw [List.map_cons] at this; omega) (fin its rv)
          · obtain ⟨its, rv, ht, _⟩ := I.tuple hs
            obtain ⟨as, ha⟩ := reads_tts I hK rr rv h3
            exact PySem.W.min_tuple_data (x := ttD T) (xs := Ts.map ttD) (I.ok.hd hc) ht ha (alike_tts (T :: Ts)) (by have := depth_tts (T :: Ts); rw [List.map_cons] at this; omega) (fin its rv)
theorem run_max1 {d : Nat} (hK : X.K = Z.K) (hc : X.calm = true) (hr : L2H.RoomH d X.A) : CallR X (.builtin "max") (rC Z (bi .max1)) := by
  intro pins s σ H xs us Q I r h
  obtain ⟨m, S, as, w, R, ra, hv, q⟩ := h
  have hun := hr.un
  obtain ⟨a, rfl⟩ := bi_one hv (by simp)
  cases ra with
  | cons r1 rs =>
    cases rs
    simp only [bi] at hv
    obtain ⟨ys, h1, hv⟩ := Option.bind_eq_some_iff.mp hv
    obtain ⟨l, h2, hv⟩ := Option.bind_eq_some_iff.mp hv
    obtain ⟨mn, h3, rfl⟩ := Option.map_eq_some_iff.mp hv
    obtain ⟨p, vs, rfl, hs, rr⟩ := rs_seq r1 h1
    have e := intsOf_rel rr h2
    subst e
    rw [← hK] at hs
    rcases hs with hs | hs
    · refine CallR.run1 (cr_max hc) I r ⟨p, l, rfl, hs, ?_, fun n h4 h5 => ?_⟩
      · cases l with
        | nil => cases h3
        | cons _ _ => exact Nat.succ_pos _
      · rw [maxI_is h3 h4 h5]
        exact q _ _ Ext.refl R (.int _)
    · rw [vals1_ref r]
      obtain ⟨its, rv, ht, _⟩ := I.tuple hs
      cases l with
      | nil => cases h3
      | cons x l =>
        cases h3
        refine PySem.W.max_tuple_data (x := .int x) (xs := l.map .int) (I.ok.hd hc) ht (readsAll_ints (l := x :: l) rv) (alike_ints (l := x :: l)) ?_ fun i v h' tk bs _ hrd hk => ?_
        · have := PySem.W.depth_ints (x :: l)
          rw [List.map_cons] at this
          rw [this]; omega
        · rw [PySem.W.maxD_ints, foldMax_eq] at hrd
          obtain ⟨t, rfl⟩ := reads_int hrd
          exact ⟨.int _, H, I.kept hk, ⟨t, rfl⟩, q _ _ Ext.refl R (.int _)⟩
theorem run_all (hK : X.K = Z.K) (hc : X.calm = true) : CallR X (.builtin "all") (rC Z (bi .all)) := by
  intro pins s σ H xs us Q I r h
  obtain ⟨m, S, as, w, R, ra, hv, q⟩ := h
  obtain ⟨a, rfl⟩ := bi_one hv (by simp)
  cases ra with
  | cons r1 rs =>
    cases rs
    simp only [bi] at hv
    obtain ⟨ys, h1, hv⟩ := Option.bind_eq_some_iff.mp hv
    obtain ⟨b, h2, rfl⟩ := Option.map_eq_some_iff.mp hv
    obtain ⟨p, vs, rfl, hs, rr⟩ := rs_seq r1 h1
    rw [← hK] at hs
    rw [vals1_ref r]
    rcases hs with hs | hs
    · obtain ⟨its, rv, ht, _⟩ := I.list hs
      obtain ⟨ds, g1, g2, g3, rfl⟩ := allB_rel (hp := s.heap) rr rv h2
      exact PySem.W.all_list_data (I.ok.hd hc) ht.isList g1 g2 g3 fun h' tk hk => ⟨.bl _, H, I.kept hk, rfl, q _ _ Ext.refl R (.bl _)⟩
    · obtain ⟨its, rv, ht, _⟩ := I.tuple hs
      obtain ⟨ds, g1, g2, g3, rfl⟩ := allB_rel (hp := s.heap) rr rv h2
      exact PySem.W.all_tuple_data (I.ok.hd hc) ht g1 g2 g3 fun h' tk hk => ⟨.bl _, H, I.kept hk, rfl, q _ _ Ext.refl R (.bl _)⟩
theorem run_any (hK : X.K = Z.K) (hc : X.calm = true) : CallR X (.builtin "any") (rC Z (bi .any)) := by
  intro pins s σ H xs us Q I r h
  obtain ⟨m, S, as, w, R, ra, hv, q⟩ := h
  obtain ⟨a, rfl⟩ := bi_one hv (by simp)
  cases ra with
  | cons r1 rs =>
    cases rs
    simp only [bi] at hv
    obtain ⟨ys, h1, hv⟩ := Option.bind_eq_some_iff.mp hv
    obtain ⟨b, h2, rfl⟩ := Option.map_eq_some_iff.mp hv
    obtain ⟨p, vs, rfl, hs, rr⟩ := rs_seq r1 h1
    rw [← hK] at hs
    rw [vals1_ref r]
    rcases hs with hs | hs
    · obtain ⟨its, rv, ht, _⟩ := I.list hs
      obtain ⟨ds, g1, g2, g3, rfl⟩ := anyB_rel (hp := s.heap) rr rv h2
      exact PySem.W.any_list_data (I.ok.hd hc) ht.isList g1 g2 g3 fun h' tk hk => ⟨.bl _, H, I.kept hk, rfl, q _ _ Ext.refl R (.bl _)⟩
    · obtain ⟨its, rv, ht, _⟩ := I.tuple hs
      obtain ⟨ds, g1, g2, g3, rfl⟩ := anyB_rel (hp := s.heap) rr rv h2
      exact PySem.W.any_tuple_data (I.ok.hd hc) ht g1 g2 g3 fun h' tk hk => ⟨.bl _, H, I.kept hk, rfl, q _ _ Ext.refl R (.bl _)⟩
theorem run_len (hK : X.K = Z.K) : CallR X (.builtin "len") (rC Z (bi .len)) := by
  intro pins s σ H xs us Q I r h
  obtain ⟨m, S, as, w, R, ra, hv, q⟩ := h
  obtain ⟨a, rfl⟩ := bi_one hv (by simp)
  cases ra with
  | cons r1 rs =>
    cases rs
    simp only [bi] at hv
    split at hv
    · cases hv
      obtain ⟨p, us, rfl, h1, rr⟩ := r1.tup
      refine CallR.run1 call_len_seq I r ⟨_, _, rfl, .inr (SqT.of h1), ?_⟩
      rw [← rr.length]; exact q _ _ Ext.refl R (.int _)
    · cases hv
      obtain ⟨p, vs, rfl, h1, rr⟩ := r1.lst_
      refine CallR.run1 call_len_seq I r ⟨_, _, rfl, .inl (SqL.of h1), ?_⟩
      rw [← rr.length]; exact q _ _ Ext.refl R (.int _)
    · cases hv
      obtain ⟨p, vs, rfl, h1, rr⟩ := r1.rd_
      have h1 := h1.sqL
      rw [← hK] at h1
      refine CallR.run1 call_len_seq I r ⟨_, _, rfl, .inl h1, ?_⟩
      rw [← rr.length]; exact q _ _ Ext.refl R (.int _)
    · cases hv
      obtain ⟨p, vs, rfl, h1, hl, rr⟩ := r1.dct_
      rw [vals1_ref r]
      rename_i ks _
      refine d_len I h1 fun t s' I' => ⟨.int _, H, I', ⟨t, rfl⟩, ?_⟩
      have : ((ks.zip vs).length : Int) = ks.length := by rw [List.length_zip, ← hl, Nat.min_self]
      rw [this]; exact q _ _ Ext.refl R (.int _)
    · split at hv
      · rename_i hz
        cases hv
        cases r1.str_
        exact CallR.run1 call_len_str I r ⟨_, rfl, Nat.le_trans hz lim_le, q _ _ Ext.refl R (.int _)⟩
      · cases hv
    · cases hv
theorem sum_rawT {prog : Program} {w : World} {A : Around} {E : Value → Shared → Prop} {s : Shared} {l : Addr} {its : List Value} {ns : List Int} {Q : Value → Shared → Prop} (hh : A.handled = none) (hl : s.heap.IsTuple l its.toArray) (hi : IntsAre its ns)
    (h : ∀ h' tk t', (∀ b o, s.heap.get? b = some o → h'.get? b = some o) → Q (.int ns.sum t') { s with heap := h', toks := tk }) : wpAny (model prog w) A (call (.builtin "sum") [.ref l]) Q E s := by
  obtain ⟨xs, e⟩ := hi.allInts.items
  have hn : numsOf (intItems xs).toList = ns := by rw [← e]; exact hi.numsOf
  rw [nums_intItems] at hn
  rw [e] at hl
  have hlt : l < s.heap.objs.size := by obtain ⟨_, e, _⟩ := hl; exact Heap.lt_size e
  refine call_sum_walkG (wpAny_pyIter_tuple hl ?_)
  refine ⟨_, _, _, _, _, _, numAt xs, rfl, Walks.tuple (A := A.in1) hh _ l (Nat.ne_of_lt hlt) (intItems xs), ⟨⟨_, Heap.get?_push_size _ rfl, rfl, rfl⟩, hl.push _⟩, fun b hb => ?_, (fun _ _ => intItems_at), fun h' tk t' hk => ?_⟩
  · show b < (s.heap.push _).objs.size
    rw [Heap.size_push]
    rcases List.mem_cons.mp hb with rfl | hb
    · exact Nat.lt_succ_self _
    · rcases List.mem_cons.mp hb with rfl | hb
      · exact Nat.lt_succ_of_lt hlt
      · cases hb
  · have := h h' tk t' fun b o eb => hk b o (fun hb => absurd (Heap.lt_size eb) ((List.mem_singleton.mp hb) ▸ Nat.lt_irrefl _)) (Heap.get?_push_of_some _ eb)
    have e2 : preSum (numAt xs) (intItems xs).size = ns.sum := by
      rw [show (intItems xs).size = xs.size by simp [intItems], preSum_eq, List.take_of_length_le (by simp), hn]
    rw [e2]
    exact this
theorem run_sum (hK : X.K = Z.K) (hc : X.calm = true) : CallR X (.builtin "sum") (rC Z (bi .sum)) := by
  intro pins s σ H xs us Q I r h
  obtain ⟨m, S, as, w, R, ra, hv, q⟩ := h
  obtain ⟨a, rfl⟩ := bi_one hv (by simp)
  cases ra with
  | cons r1 rs =>
    cases rs
    simp only [bi] at hv
    obtain ⟨ys, h1, hv⟩ := Option.bind_eq_some_iff.mp hv
    obtain ⟨l, h2, rfl⟩ := Option.map_eq_some_iff.mp hv
    obtain ⟨p, vs, rfl, hs, rr⟩ := rs_seq r1 h1
    have e := intsOf_rel rr h2
    subst e
    rw [← hK] at hs
    rcases hs with hs | hs
    · exact CallR.run1 (cr_sum hc) I r ⟨p, l, rfl, hs, q _ _ Ext.refl R (.int _)⟩
    · rw [vals1_ref r]
      obtain ⟨its, rv, ht, _⟩ := I.tuple hs
      exact sum_rawT (I.ok.hd hc) ht rv.ints fun h' tk t' hk => ⟨.int _, H, I.kept hk, ⟨t', rfl⟩, q _ _ Ext.refl R (.int _)⟩
theorem run_tuple (hK : X.K = Z.K) : CallR X (.type "tuple") (rC Z (bi .tuple)) := by
  intro pins s σ H xs us Q I r h
  obtain ⟨m, S, as, w, R, ra, hv, q⟩ := h
  obtain ⟨a, rfl⟩ := bi_one hv (by simp)
  cases ra with
  | cons r1 rs =>
    cases rs
    simp only [bi] at hv
    split at hv
    · cases hv
      obtain ⟨p, vs, rfl, h1, rr⟩ := r1.tup
      exact CallR.run1 call_tuple_of I r ⟨_, _, rfl, .inr ⟨SqT.of h1, q _ _ Ext.refl R (.tup h1 rr)⟩⟩
    · cases hv
      obtain ⟨p, vs, rfl, h1, rr⟩ := r1.lst_
      exact CallR.run1 call_tuple_of I r ⟨_, _, rfl, .inl ⟨SqL.of h1, fun l hl => q _ _ (Ext.alloc hl) (R.alloc hl) (.tup upd_same (rr.ext (Ext.alloc hl)))⟩⟩
    · cases hv
      obtain ⟨p, vs, rfl, h1, rr⟩ := r1.rd_
      have h1 := h1.sqL
      rw [← hK] at h1
      exact CallR.run1 call_tuple_of I r ⟨_, _, rfl, .inl ⟨h1, fun l hl => q _ _ (Ext.alloc hl) (R.alloc hl) (.tup upd_same (rr.ext (Ext.alloc hl)))⟩⟩
    · cases hv
theorem run_list (hK : X.K = Z.K) : CallR X (.type "list") (rCL Z (biL .list)) := by
  intro pins s σ H xs us Q I r h
  obtain ⟨m, S, as, w, R, ra, hv, q⟩ := h
  obtain ⟨a, rfl⟩ := biL_one hv
  cases ra with
  | cons r1 rs =>
    cases rs
    simp only [biL] at hv
    obtain ⟨p, vs, rfl, hs, rr⟩ := rs_seq r1 hv
    rw [← hK] at hs
    exact CallR.run1 call_list_of I r ⟨p, vs, rfl, hs, fun l hl => q _ rr l hl⟩
theorem run_abs : CallR X (.builtin "abs") (rC Z (bi .abs)) := by
  intro pins s σ H xs us Q I r h
  obtain ⟨m, S, as, w, R, ra, hv, q⟩ := h
  simp only [bi] at hv
  split at hv
  all_goals first | contradiction | skip
  cases hv
  cases ra with
  | cons r1 rs => cases rs; cases r1.int_; exact CallR.run1 call_abs I r ⟨_, rfl, q _ _ Ext.refl R (.int _)⟩
theorem run_int : CallR X (.type "int") (rC Z (bi .int)) := by
  intro pins s σ H xs us Q I r h
  obtain ⟨m, S, as, w, R, ra, hv, q⟩ := h
  simp only [bi] at hv
  split at hv
  all_goals first | contradiction | skip
  · cases hv
    cases ra with
    | cons r1 rs => cases rs; cases r1.int_; exact CallR.run1 call_int1 I r (.inl ⟨_, rfl, q _ _ Ext.refl R (.int _)⟩)
  · cases hv
    cases ra with
    | cons r1 rs => cases rs; cases r1.bl_; exact CallR.run1 call_int1 I r (.inr ⟨_, rfl, q _ _ Ext.refl R (.int _)⟩)
  · split at hv
    · rename_i hl
      obtain ⟨n, e1, e2⟩ := Option.map_eq_some_iff.mp hv
      subst e2
      cases ra with
      | cons r1 rs => cases rs; cases r1.str_; exact CallR.run1 call_int_str I r ⟨_, n, rfl, e1, hl, q _ _ Ext.refl R (.int _)⟩
    · cases hv
theorem run_str : CallR X (.type "str") (rC Z (bi .str)) := by
  intro pins s σ H xs us Q I r h
  obtain ⟨m, S, as, w, R, ra, hv, q⟩ := h
  simp only [bi] at hv
  split at hv
  all_goals first | contradiction | skip
  · split at hv
    · rename_i hl
      cases hv
      cases ra with
      | cons r1 rs => cases rs; cases r1.int_; exact CallR.run1 call_str_int I r ⟨_, rfl, hl, q _ _ Ext.refl R (.str _)⟩
    · cases hv
  · cases hv
    cases ra with
    | cons r1 rs => cases rs; cases r1.str_; exact CallR.run1 SkE.call_str_str I r ⟨_, rfl, q _ _ Ext.refl R (.str _)⟩
theorem run_min2 (hc : X.calm = true) : CallR X (.builtin "min") (rC Z (bi .min2)) := by
  intro pins s σ H xs us Q I r h
  obtain ⟨m, S, as, w, R, ra, hv, q⟩ := h
  simp only [bi] at hv
  split at hv
  all_goals first | contradiction | skip
  cases hv
  cases ra with
  | cons r1 rs => cases rs with
    | cons r2 rs => cases rs; cases r1.int_; cases r2.int_; exact CallR.run1 (call_min2 hc) I r ⟨_, _, rfl, q _ _ Ext.refl R (.int _)⟩
theorem run_max2 (hc : X.calm = true) : CallR X (.builtin "max") (rC Z (bi .max2)) := by
  intro pins s σ H xs us Q I r h
  obtain ⟨m, S, as, w, R, ra, hv, q⟩ := h
  simp only [bi] at hv
  split at hv
  all_goals first | contradiction | skip
  cases hv
  cases ra with
  | cons r1 rs => cases rs with
    | cons r2 rs => cases rs; cases r1.int_; cases r2.int_; exact CallR.run1 (call_max2 hc) I r ⟨_, _, rfl, q _ _ Ext.refl R (.int _)⟩
theorem run_gcd : CallR X (.builtin "math.gcd") (rC Z (bi .gcd)) := by
  intro pins s σ H xs us Q I r h
  obtain ⟨m, S, as, w, R, ra, hv, q⟩ := h
  simp only [bi] at hv
  split at hv
  all_goals first | contradiction | skip
  cases hv
  cases ra with
  | cons r1 rs => cases rs with
    | cons r2 rs => cases rs; cases r1.int_; cases r2.int_; exact CallR.run1 cr_gcd I r ⟨_, _, rfl, q _ _ Ext.refl R (.int _)⟩
theorem isa_kit : ∀ a ∈ ["NoneType", "bool", "int", "str", "tuple", "list", "dict"], ∀ n ∈ ["int", "bool", "str", "tuple", "list", "dict"], kitB a n = some (isaT a n) := by decide +kernel
theorem tyOf_is {m : List Addr} {H : Hp} {v : PV} {u : V} {a : String} (r : Rs Z m H v u) (h : tyOf v = some a) : TyX Z.K H u (.type a) ∧ a ∈ ["NoneType", "bool", "int", "str", "tuple", "list", "dict"] := by
  cases v with
  | lst xs =>
    cases h
    obtain ⟨p, us, rfl, h1, _⟩ := r.lst_
    exact ⟨.base (.lst h1), by decide⟩
  | rd xs =>
    cases h
    obtain ⟨p, us, rfl, q, _⟩ := r.rd_
    refine ⟨?_, by decide⟩
    rcases q with ⟨q | ⟨o, q⟩, _⟩ | ⟨o, its, n, q, c, _⟩
    · exact .base (.lst q)
    · exact .base (.frz q)
    · exact .kList q c
  | tup xs =>
    cases h
    obtain ⟨p, us, rfl, q, _⟩ := r.tup
    exact ⟨.base (.tup q), by decide⟩
  | dct ks vs =>
    cases h
    obtain ⟨p, us, rfl, h1, _⟩ := r.dct_
    refine ⟨?_, by decide⟩
    rcases h1 with h1 | ⟨o, h1⟩
    · exact .base (.dK h1)
    · exact .fDict h1
  | str x => cases h; cases r.str_; exact ⟨.base (.str x), by decide⟩
  | int x => cases h; cases r.int_; exact ⟨.base (.int x), by decide⟩
  | non => cases h; cases r.non_; exact ⟨.base .non, by decide⟩
  | bl b => cases h; cases r.bl_; exact ⟨.base (.bl _), by decide⟩
  | _ => cases h
theorem run_isa (hK : X.K = Z.K) : CallR X (.builtin "isinstance") (rC Z (bi .isa)) := by
  intro pins s σ H xs us Q I r h
  obtain ⟨m, S, as, w, R, ra, hv, q⟩ := h
  obtain ⟨a, t, rfl⟩ := bi_two hv
  cases ra with
  | cons r1 rs =>
    cases rs with
    | cons r2 rs =>
    cases rs
    simp only [bi] at hv
    obtain ⟨b, h1, rfl⟩ := Option.map_eq_some_iff.mp hv
    unfold isaP at h1
    split at h1
    · rename_i n
      split at h1
      · rename_i hn
        obtain ⟨ty, h2, rfl⟩ := Option.map_eq_some_iff.mp h1
        cases r2 with
        | p r2 =>
        cases r2
        obtain ⟨g1, g2⟩ := tyOf_is r1 h2
        rw [← hK] at g1
        exact CallR.run1 call_isi I r ⟨_, _, .type ty, .type n, isaT ty n, rfl, .ty n, g1, kit_ty (isa_kit ty g2 n (by simpa using hn)), q _ _ Ext.refl R (.bl _)⟩
      · cases h1
    · cases h1
end
end Rv
end PartRvR
section PartRvRa
set_option Elab.async false
set_option linter.all false
set_option maxRecDepth 100000
set_option autoImplicit false
/-! Rv, part Ra: sorted. -/
namespace Rv
open PySem PySem.Spec PyProof.Rows L2
section
variable {α : Type} {le : α → α → Bool}
theorem ins_app {a : α} {l2 : List α} (h2 : ∀ b ∈ l2, le a b = true) : ∀ {l1 : List α}, (∀ b ∈ l1, le a b = false) → insB le a (l1 ++ l2) = l1 ++ a :: l2
  | [], _ => by
    cases l2 with
    | nil => rfl
    | cons b r => simp only [List.nil_append, insB]; rw [if_pos (h2 b (List.mem_cons_self ..))]
  | b :: r, h => by
    simp only [List.cons_append, insB]
    rw [if_neg (by rw [h b (List.mem_cons_self ..)]; decide), ins_app h2 fun c hc => h c (List.mem_cons_of_mem _ hc)]
theorem isort_eq (tr : ∀ a b c : α, le a b = true → le b c = true → le a c = true) (tt : ∀ a b : α, (le a b || le b a) = true) : ∀ l : List α, isortB le l = l.mergeSort le
  | [] => by simp [isortB]
  | a :: l => by
    obtain ⟨l1, l2, e1, e2, h1⟩ := List.mergeSort_cons tr tt a l
    have hp : (l1 ++ a :: l2).Pairwise fun x y => le x y = true := by
      rw [← e1]; exact List.pairwise_mergeSort tr tt _
    rw [isortB, isort_eq tr tt l, e1, e2]
    refine ins_app (fun b hb => ?_) fun b hb => by simpa using h1 b hb
    exact (List.pairwise_cons.mp (List.pairwise_append.mp hp).2.1).1 b hb
end
theorem insB_map {α β : Type} (f : α → β) {le : α → α → Bool} {le' : β → β → Bool} (h : ∀ a b, le a b = le' (f a) (f b)) (a : α) : ∀ l : List α, (insB le a l).map f = insB le' (f a) (l.map f)
  | [] => rfl
  | b :: r => by
    simp only [insB, List.map_cons, h]
    split
    · rfl
    · rw [List.map_cons, insB_map f h a r]
theorem isortB_map {α β : Type} (f : α → β) {le : α → α → Bool} {le' : β → β → Bool} (h : ∀ a b, le a b = le' (f a) (f b)) : ∀ l : List α, (isortB le l).map f = isortB le' (l.map f)
  | [] => rfl
  | a :: l => by simp only [isortB, List.map_cons]; rw [insB_map f h, isortB_map f h l]
abbrev Tri := V × PV × PyData
def encT (t : Tri) : PyData := t.2.2
theorem sorted_tri (bs : List Tri) : (bs.mergeSort (PySem.W.dataLe false encT)).map (·.2.1) = (isortB leD (bs.map (·.2))).map (·.1) := by
  have T := PySem.W.sortLe_total (PyProof.Rows.listOrd PyProof.Rows.itemOrd) false fun b : Tri => PySem.W.keyToks (encT b)
  rw [← isort_eq (le := PySem.W.dataLe false encT) T.trans (fun a b => by rw [Bool.or_eq_true]; exact T.total a b) bs]
  rw [← isortB_map (f := fun t : Tri => t.2) (le := PySem.W.dataLe false encT) (le' := leD) (fun a b => by rw [PySem.W.dataLe_eq]; rfl), List.map_map]
  rfl
theorem zip3 {Z : St0} {m : List Addr} {H : Hp} : ∀ {xs : List PV} {us : List V} {ds : List PyData}, RpA Z m H xs us → xs.mapM (toD 9) = some ds → ∃ bs : List Tri, bs.map (·.1) = us ∧ bs.map (·.2) = xs.zip ds ∧ bs.map encT = ds ∧ ∀ b ∈ bs, Rp Z m H b.2.1 b.1
  | _, _, _, .nil, h => by
    have e := mapM_nil h
    subst e
    exact ⟨[], rfl, rfl, rfl, fun b hb => absurd hb (by simp)⟩
  | _, _, _, .cons (v := v) (u := u) r rs, h => by
    obtain ⟨y, ys, h1, h2, rfl⟩ := mapM_cons h
    obtain ⟨bs, e1, e2, e3, e4⟩ := zip3 rs h2
    refine ⟨(u, v, y) :: bs, by simp [e1], by simp [e2], by rw [List.map_cons, e3]; rfl, fun b hb => ?_⟩
    rcases List.mem_cons.mp hb with rfl | hb
    · exact r
    · exact e4 b hb
theorem each_rel : ∀ {bs : List Tri} {vs : List Value}, Vals (bs.map (·.1)) vs → PySem.W.EachIs (fun (v : Value) (b : Tri) => RelV b.1 v) vs bs
  | [], _, r => by cases r; exact .nil
  | b :: bs, _, r => by
    rw [List.map_cons] at r
    cases r with
    | cons h t => exact .cons h (each_rel t)
theorem rel_each : ∀ {bs : List Tri} {vs : List Value}, PySem.W.EachIs (fun (v : Value) (b : Tri) => RelV b.1 v) vs bs → Vals (bs.map (·.1)) vs
  | _, _, .nil => .nil
  | _, _, .cons h t => .cons h (rel_each t)
theorem rpA_tri {Z : St0} {m : List Addr} {H : Hp} : ∀ {bs : List Tri}, (∀ b ∈ bs, Rp Z m H b.2.1 b.1) → RpA Z m H (bs.map (·.2.1)) (bs.map (·.1))
  | [], _ => .nil
  | b :: bs, h => .cons (h b (List.mem_cons_self ..)) (rpA_tri fun c hc => h c (List.mem_cons_of_mem _ hc))
mutual
theorem reads_low {h : Heap} : ∀ {v : Value} {d : PyData} {as : List Addr}, Reads h v d as → ∀ a ∈ as, a < h.objs.size
  | _, _, _, .none, _, z => by cases z
  | _, _, _, .bool _, _, z => by cases z
  | _, _, _, .int _ _, _, z => by cases z
  | _, _, _, .str _ _, _, z => by cases z
  | _, _, _, .list h1 _ _ h4, a, z => by
    rcases List.mem_cons.mp z with rfl | z
    · exact Heap.lt_size h1
    · exact readsAll_low h4 a z
  | _, _, _, .tuple _ _ _ h4, a, z => readsAll_low h4 a z
  | _, _, _, .dict h1 _ _ h4 h5, a, z => by
    rcases List.mem_cons.mp z with rfl | z
    · exact Heap.lt_size h1
    · rcases List.mem_append.mp z with z | z
      · exact readsAll_low h4 a z
      · exact readsAll_low h5 a z
theorem readsAll_low {h : Heap} : ∀ {v : List Value} {d : List PyData} {as : List Addr}, ReadsAll h v d as → ∀ a ∈ as, a < h.objs.size
  | _, _, _, .nil, _, z => by cases z
  | _, _, _, .cons h1 h2, a, z => by
    rcases List.mem_append.mp z with z | z
    · exact reads_low h1 a z
    · exact readsAll_low h2 a z
end
theorem intD_of {d : PyData} (h : intD d = true) : ∃ i, d = .int i := by
  cases d <;> first | exact ⟨_, rfl⟩ | (cases h)
theorem sortOk_al {ds : List PyData} (h : sortOk ds = true) : PySem.W.AllAlike ds ∧ PySem.W.Sortable ds := by
  unfold sortOk at h
  rw [Bool.or_eq_true] at h
  rcases h with h | h
  · have hi : ∀ d ∈ ds, ∃ i, d = .int i := fun d hd => intD_of (List.all_eq_true.mp h d hd)
    refine ⟨fun d hd e he => ?_, .inr fun d hd => ?_⟩
    · obtain ⟨i, rfl⟩ := hi d hd
      obtain ⟨j, rfl⟩ := hi e he
      simp [PySem.W.alike]
    · obtain ⟨i, rfl⟩ := hi d hd
      exact ⟨by simp, by simp⟩
  · rw [Bool.and_eq_true, Bool.or_eq_true] at h
    refine ⟨fun d hd e he => List.all_eq_true.mp (List.all_eq_true.mp h.1 d hd) e he, ?_⟩
    rcases h.2 with h | h
    · refine .inl fun d hd => ?_
      have := List.all_eq_true.mp h d hd
      cases d with
      | tuple xs =>
        cases xs with
        | nil => cases this
        | cons x r => exact ⟨x, r, rfl⟩
      | _ => cases this
    · refine .inr fun d hd => ?_
      have := List.all_eq_true.mp h d hd
      cases d <;> first | (cases this; done) | exact ⟨by simp, by simp⟩
section
variable {Z : St0} {X : Cx}
theorem rsL {m : List Addr} {H : Hp} {u : V} {v : PV} {ys : List PV} (r : Rs Z m H v u) (h : srcOf v = some ys) : (∃ a us, u = .ref a ∧ (SqL Z.K H a us ∨ SqT Z.K H a us) ∧ RpA Z m H ys us) ∨ (∃ (a : Addr) (ks : List Key) (us : List V), u = .ref a ∧ Rd H a (.dK (ks.zip us)) ∧ ks.length = us.length ∧ ys = ks.map kP) ∨ (∃ (a : Addr) (ks : List (List Key)) (us : List V), u = .ref a ∧ Rd H a (.dT (ks.zip us)) ∧ ks.length = us.length ∧ ys = ks.map fun k => .tup (k.map kP)) := by
  cases v with
  | tup xs => exact .inl (rs_seq r h)
  | lst xs => exact .inl (rs_seq r h)
  | rd xs => exact .inl (rs_seq r h)
  | dct ks vs =>
    cases h
    obtain ⟨a, us, e, hd, l, _⟩ := r.dct_
    exact .inr (.inl ⟨a, ks, us, e, hd, l, rfl⟩)
  | dtt ks vs =>
    cases h
    obtain ⟨a, us, e, hd, l, _⟩ := r.dtt_
    exact .inr (.inr ⟨a, ks, us, e, hd, l, rfl⟩)
  | _ => cases h
theorem kPs_rp {m : List Addr} {H : Hp} : ∀ ks : List Key, RpA Z m H (ks.map kP) (ks.map kV)
  | [] => .nil
  | .inl i :: ks => .cons (.int i) (kPs_rp ks)
  | .inr z :: ks => .cons (.str z) (kPs_rp ks)
theorem keys_vals {P : Program} {w : World} : ∀ {kvs : List (Key × V)} {xs : List (Key × Value)} {vs : List Value}, KV kvs xs → vs.length = xs.length → (∀ (j : Nat) (v : Value), vs[j]? = some v → ∃ k x, xs[j]? = some (k, x) ∧ (mixKind P w).is k v = true) → Vals ((kvs.map (·.1)).map kV) vs
  | [], _, [], .nil, _, _ => .nil
  | [], _, _ :: _, .nil, h, _ => by simp at h
  | kv :: kvs, _, [], .cons _ _, h, _ => by simp at h
  | kv :: kvs, _, v :: vs, .cons (b := x) h1 t, h, q => by
    obtain ⟨k, y, e, hk⟩ := q 0 v rfl
    simp only [List.getElem?_cons_zero, Option.some.injEq] at e
    subst e
    have e1 : kv.1 = k := h1.1
    rw [List.map_cons, List.map_cons, e1]
    exact .cons (relV_key hk) (keys_vals t (by simpa using h) fun j u hj => by
      obtain ⟨k2, y2, e2, hk2⟩ := q (j + 1) u (by simpa using hj)
      exact ⟨k2, y2, by simpa using e2, hk2⟩)
theorem keysT_rp {Z : St0} {m : List Addr} {H : Hp} : ∀ {ks : List (List Key)} {us : List V} {bs : List Addr}, ks.length = us.length → IsKeys H (ks.zip us) bs → RpA Z m H (ks.map fun k => .tup (k.map kP)) (bs.map V.ref)
  | [], _, _, _, h => by
    unfold IsKeys at h
    cases h
    exact .nil
  | _ :: _, [], _, hl, _ => by simp at hl
  | k :: ks, u :: us, bs, hl, h => by
    unfold IsKeys at h
    rw [List.zip_cons_cons] at h
    cases h with
    | cons h1 t => exact .cons (.tup h1 (kPs_rp k)) (keysT_rp (by simpa using hl) t)
theorem run_listd (hc : X.calm = true) : CallR X (.type "list") (rCL Z (biL .listd)) := by
  intro pins s σ H xs us Q I r h
  obtain ⟨m, S, as, w, R, ra, hv, q⟩ := h
  have one : ∃ a, as = [a] := by
    cases as with
    | nil => cases hv
    | cons a as =>
      cases as with
      | nil => exact ⟨a, rfl⟩
      | cons b as => cases hv
  obtain ⟨a, rfl⟩ := one
  cases ra with
  | cons r1 rs =>
    cases rs
    cases a <;> try (cases hv; done)
    rename_i ks vs
    cases hv
    obtain ⟨p, us0, rfl, hd, hl, _⟩ := r1.dtt_
    exact CallR.run1 (call_list_dT hc) I r ⟨p, _, rfl, hd, fun l bs hn hk => q _ (keysT_rp hl hk) l hn⟩
/-- the tuples that a walk over a dict finds -/
theorem walked_keys {P : Program} {w : World} {H : Hp} {kvs : List (List Key × V)} {xs : List (List Key × Addr × Value)} {es : Array DictEntry} {acc : Array Value} (pr : KT H kvs xs) (he : es.toList = xs.map (entryOfKey (tupleKind (mixKind P w)))) (hn : acc.size = es.size)
    (hi : ∀ (j : Nat) (v : Value), acc[j]? = some v → ∃ en : DictEntry, es[j]? = some en ∧ v = en.key) : acc.toList = (xs.map fun x => x.2.1).map Value.ref := by
  have hl : acc.toList.length = xs.length := by rw [Array.length_toList, hn]; exact size_of_entries he
  refine List.ext_getElem? fun j => ?_
  rw [List.map_map, List.getElem?_map]
  by_cases hj : j < xs.length
  · have hja : j < acc.toList.length := by omega
    rw [List.getElem?_eq_getElem hja, List.getElem?_eq_getElem hj]
    obtain ⟨en, e1, e2⟩ := hi j acc.toList[j] (by rw [← Array.getElem?_toList]; exact List.getElem?_eq_getElem hja)
    have e3 := entry_at he j
    rw [e1, List.getElem?_eq_getElem hj] at e3
    have e4 : en = entryOfKey (tupleKind (mixKind P w)) xs[j] := Option.some.inj e3
    rw [e2, e4]
    rfl
  · rw [List.getElem?_eq_none (by omega), List.getElem?_eq_none (by omega)]
    rfl
theorem run_sorted {d : Nat} (hK : X.K = Z.K) (hc : X.calm = true) (hr : L2H.RoomH d X.A) : CallR X (.builtin "sorted") (rCL Z (biL .sorted)) := by
  intro pins s σ H xs us Q I r h
  obtain ⟨m, S, as, w, R, ra, hv, q⟩ := h
  have one : ∃ a, as = [a] := by
    cases as with
    | nil => cases hv
    | cons a as =>
      cases as with
      | nil => exact ⟨a, rfl⟩
      | cons b as => cases hv
  obtain ⟨a, rfl⟩ := one
  cases ra with
  | cons r1 rs =>
    cases rs
    rename_i u
    cases r with
    | cons ru rr =>
      cases rr
      rename_i uv
      simp only [biL] at hv
      cases es : srcOf a with
      | none => rw [es] at hv; cases hv
      | some ys =>
        rw [es] at hv
        simp only at hv
        split at hv
        · rename_i hlen
          unfold sortPV at hv
          cases ed : ys.mapM (toD 9) with
          | none => rw [ed] at hv; cases hv
          | some ds =>
            rw [ed] at hv
            simp only at hv
            split at hv
            · rename_i hok
              cases hv
              obtain ⟨al, so⟩ := sortOk_al hok
              have sortit : ∀ (us0 : List V) (h' : Heap) (tk : Nat) (vs : List Value), RpA Z m H ys us0 → Vals us0 vs → (∀ b o, s.heap.get? b = some o → h'.get? b = some o) →
                  wpAny (model X.prog X.w) X.A.in1 (call (.builtin "list.sort") [.ref h'.objs.size]) (fun _ s' => EP X pins σ Q (.ref h'.objs.size) s') X.xe { s with heap := h'.push { cls := .type "list", data := .seq vs.toArray }, toks := tk } := by
                intro us0 h' tk vs rp rv hk
                obtain ⟨bs, b1, b2, b3, b4⟩ := zip3 rp ed
                have I1 : Inv X pins σ H { s with heap := h', toks := tk } := I.kept hk
                have I2 : Inv X pins σ H { s with heap := h'.push { cls := .type "list", data := .seq vs.toArray }, toks := tk } := I1.kept (t' := tk) fun b o e => Heap.get?_push_of_some _ e
                subst b1
                have lvs : bs.length = vs.length := by have := rv.length; rw [List.length_map] at this; exact this
                have lys : bs.length = ys.length := by
                  have := rp.length
                  rw [List.length_map] at this
                  exact this.symm
                have hlim : lim = 1000000 := rfl
                have hsz : bs.length ≤ sizeLine := by rw [sizeLine_eq]; omega
                have hD : (h'.push { cls := .type "list", data := .seq vs.toArray }).get? h'.objs.size = some (seqObj "list" vs.toArray 0) := Heap.get?_push_size _ rfl
                have hdp : ∀ b ∈ bs, Dp X.K H b.1 (encT b) ∧ (encT b).depth ≤ 9 := fun b hb => by
                  have hz : b.2 ∈ ys.zip ds := by rw [← b2]; exact List.mem_map_of_mem hb
                  have hm : ∀ {xs : List PV} {es : List PyData} {p : PV × PyData}, xs.mapM (toD 9) = some es → p ∈ xs.zip es → toD 9 p.1 = some p.2 := by
                    intro xs
                    induction xs with
                    | nil => intro es p h1 h2; simp at h2
                    | cons x xs ih =>
                      intro es p h1 h2
                      obtain ⟨y, ys, e1, e2, rfl⟩ := mapM_cons h1
                      rw [List.zip_cons_cons] at h2
                      rcases List.mem_cons.mp h2 with rfl | h2
                      · exact e1
                      · exact ih e2 h2
                  have e1 := hm ed hz
                  exact ⟨by rw [hK]; exact toD_dp 9 _ _ _ (b4 b hb) e1, (toD_plain 9 _ _ e1).2⟩
                have hun := hr.un
                -- the items read as data, off objects that stood already
                have er : PySem.W.EachIs (fun v b => ∃ as, Reads (h'.push { cls := .type "list", data := .seq vs.toArray }) v (encT b) as ∧ h'.objs.size ∉ as) vs bs := by
                  have e0 := each_rel (bs := bs) rv
                  refine (PySem.W.each_mem e0).mono fun v b ⟨hv, hb⟩ => ?_
                  obtain ⟨as, ha⟩ := Dp.reads I1 _ _ _ (hdp b hb).1 hv
                  exact ⟨as, PyProof.Rows.Reads.keeps (fun c o e => Heap.get?_push_of_some _ e) ha, fun z => Nat.lt_irrefl _ (reads_low ha _ z)⟩
                refine PySem.W.list_sort_data (β := Tri) (enc := encT) (R := fun v b => RelV b.1 v) hD (each_rel rv) er (by rw [b3]; exact al) (by rw [b3]; exact so) hsz (fun b hb => ?_) fun out ho eo => ?_
                · have := (hdp b hb).2
                  have : (X.A.in1).units = X.A.units + 1 := Around.in1_units _
                  omega
                · obtain ⟨ep, he'⟩ := PyProof.Rows.sortedHeap_at (vs := vs) (out := out.toArray) hD
                  have ho2 := rel_each eo
                  have hmem : ∀ b ∈ bs.mergeSort (PySem.W.dataLe false encT), Rp Z m H b.2.1 b.1 := fun b hb => b4 b (List.mem_mergeSort.mp hb)
                  have rw' := rpA_tri hmem
                  rw [sorted_tri, b2] at rw'
                  refine ⟨.ref h'.objs.size, upd H h'.objs.size (.lst ((bs.mergeSort (PySem.W.dataLe false encT)).map (·.1))), ?_, rfl, q _ rw' _ (I1.hok.fresh (Nat.le_refl _))⟩
                  exact I1.laid (t' := tk) (a := h'.objs.size) (fun b o e => by
                    have hlt := Heap.lt_size e
                    rw [PyProof.Rows.sortedHeap_old (Nat.ne_of_lt hlt) (by rw [PyProof.Rows.size_push']; exact Nat.lt_succ_of_lt hlt)]
                    exact Heap.get?_push_of_some _ e) (Nat.le_refl _) ⟨by rw [List.length_map, List.length_mergeSort]; exact hsz, out, ep, ho2, he'⟩
              refine PySem.Calls.call_function_entry kind_sorted plain_sorted entry_sorted (args_sorted1 _) ?_
              unfold Builtin.«sorted»
              refine wpAny_bind (m := checkCount "sorted" 1 1 _) (wpAny_pure ?_)
              have tail : ∀ (us0 : List V) (h' : Heap) (tk : Nat) (vs : List Value), RpA Z m H ys us0 → Vals us0 vs → (∀ b o, s.heap.get? b = some o → h'.get? b = some o) →
                  wpAny (model X.prog X.w) X.A.in1 (newList vs >>= fun l => holding [l] (call (.builtin "list.sort") [l]) >>= fun _ => ret l) (fun f s' => ∃ v, f = .done (.ret v) ∧ EP X pins σ Q v s') X.xe { s with heap := h', toks := tk } := by
                intro us0 h' tk vs rp rv hk
                have hz : vs.length ≤ sizeLine := by
                  have e1 := rp.length
                  have e2 := rv.length
                  have hlim : lim = 1000000 := rfl
                  rw [sizeLine_eq]; omega
                refine wpAny_bind (wpAny_newList ?_ hz)
                refine wpAny_bind (wpAny_holding (wpAny_mono (sortit us0 h' tk vs rp rv hk) (fun _ s' x => ?_) fun _ _ e => e))
                exact wpAny_pure ⟨_, rfl, x⟩
              rcases rsL r1 es with ⟨p, us0, rfl, hs, rr⟩ | ⟨p, ks, us0, rfl, hd, hl, rfl⟩ | ⟨p, ks, us0, rfl, hd, hl, rfl⟩
              · cases ru
                rw [← hK] at hs
                have key : ∃ (T : String) (o : Obj) (vs : List Value) (n : Nat), (T = "list" ∨ T = "tuple") ∧ s.heap.get? p = some o ∧ o.cls = .type T ∧ o.data = .seq vs.toArray n ∧ Vals us0 vs ∧ vs.length ≤ sizeLine := by
                  rcases hs with hs | hs
                  · obtain ⟨its, rv, hl, hz⟩ := I.list hs
                    obtain ⟨o, ho, hc, n, hd⟩ := hl.isList
                    exact ⟨_, o, its, n, .inl rfl, ho, hc, hd, rv, by rw [← rv.length]; exact hz⟩
                  · obtain ⟨its, rv, hl, hz⟩ := I.tuple hs
                    obtain ⟨o, ho, hc, n, hd⟩ := hl
                    exact ⟨_, o, its, n, .inr rfl, ho, hc, hd, rv, by rw [← rv.length]; exact hz⟩
                obtain ⟨T, o, vs, n, hT, ho, hcl, hdt, rv, hz⟩ := key
                refine wpAny_bind (wpAny_collect_seq p hT ho hcl hdt (fun h' hk => ?_) (by simpa using hz))
                exact tail us0 h' s.toks vs rr rv hk
              · cases ru
                obtain ⟨z, lo, kxs, kv, hD⟩ := dk_rd I.hok hd
                obtain ⟨ep, hat⟩ := hD.dictAt
                have hkl : kxs.length = (ks.zip us0).length := (Paired.length kv).symm
                refine wpAny_bind (PySem.W.kdu_collect (A := X.A.in1) (PySem.W.kdl_dict (knd := mixKind X.prog X.w) (kvs := kxs) (ep := ep) lo) (by have := I.ok.hd hc; exact this) hat (by rw [hkl]; exact z) fun h' tk acc hk hacc => ?_)
                have e1 : (ks.zip us0).map (·.1) = ks := by rw [List.map_fst_zip]; omega
                refine tail (ks.map kV) h' tk acc.toList (kPs_rp ks) ?_ hk
                have := keys_vals (P := X.prog) (w := X.w) (vs := acc.toList) kv (by rw [Array.length_toList]; exact hacc.1) fun j v e => hacc.2 j v (by rw [← Array.getElem?_toList]; exact e)
                rw [e1] at this
                exact this
              · cases ru
                obtain ⟨z, lo, kxs, pr, o, es, ep, ho, hx, hdt, he, hn⟩ := (show ObjOk X.prog X.w H s.heap p (.dT (ks.zip us0)) from hd.ok I.hok)
                have l1 : es.size = kxs.length := size_of_entries he
                have l2 : (ks.zip us0).length = kxs.length := Paired.length pr
                refine wpAny_bind (PySem.W.kdu_collect (A := X.A.in1) (kdl_raw lo hx hdt) (by have := I.ok.hd hc; exact this) ho (by omega) fun h' tk acc hk hacc => ?_)
                rw [walked_keys pr he hacc.1 fun j v e => hacc.2 j v e]
                refine tail ((kxs.map fun x => x.2.1).map V.ref) h' tk _ (keysT_rp hl (isKeys_of pr)) (vals_refs _) hk
            · cases hv
        · cases hv
end
end Rv
end PartRvRa
section PartRvE
set_option Elab.async false
set_option linter.all false
set_option maxRecDepth 100000
set_option autoImplicit false
/-! Rv, part E: the terms and their plain reading. -/
namespace Rv
open PySem PySem.Spec PyProof.Rows L2

inductive PT where
  | nm (i : Nat) | tup (ts : List PT)
/-- methods -/
inductive M where
  | append | extend | pop0 | popAt | index | count | get1 | get2 | dpop2 | update | setd | join | split
/-- how a dict is walked -/
inductive DK where
  | ks | vs | its
mutual
inductive PX where
  | var (i : Nat)
  | const (v : PV)
  | tup (es : List PX)
  | lst (l : PL)
  | mut (l : PL)
  | bin (op : BOp) (a b : PX)
  | neg (a : PX)
  | not (a : PX)
  | and (a b : PX)
  | or (a b : PX)
  | cmp (op : COp) (a b : PX)
  | chain (o1 o2 : COp) (a b c : PX)
  | ife (c : PB) (a b : PX)
  | call (f : Nat) (es : List PX)
  | callv (i : Nat) (es : List PX)
  | bi (b : BI) (es : List PX)
  | ix (a b : PX)
  | sl (a : PX) (lo hi : Option PX)
  | isx (e : PX) (k : Nat)
  | ist (e : PX)
  | meth (k : M) (o : PX) (es : List PX)
  | cst (k : Nat)
  | dnew (t : Bool)
  | disp1 (a b : PX)
  | get1 (a b : PX)
  | get2 (a b c : PX)
  | dcomp (m : Bool) (own : List Nat) (k v : PX) (tg : PT) (it : PIt) (ifs : List PB)
  | dcompT (m : Bool) (own : List Nat) (k v : PX) (tg : PT) (it : PIt) (ifs : List PB)
  | rev (a : PX)
  | trng (a : PX)
  | dpop (a b c : PX)
  | never
inductive PB where
  | and (a b : PB)
  | or (a b : PB)
  | not (a : PB)
  | cmp (op : COp) (a b : PX)
  | chain (o1 o2 : COp) (a b c : PX)
  | val (e : PX)
inductive PL where
  | disp (es : List PX)
  | bin (op : BOp) (a b : PX)
  | bi (b : BL) (es : List PX)
  | sl (a : PX) (lo hi : Option PX)
  | rev (a : PX)
  | rng1 (a : PX)
  | rng2 (a b : PX)
  | comp (own : List Nat) (elt : PX) (tg : PT) (it : PIt) (ifs : List PB)
  | comp2 (own : List Nat) (elt : PX) (tg : PT) (it : PIt) (ifs : List PB) (own2 : List Nat) (tg2 : PT) (it2 : PIt) (ifs2 : List PB)
inductive PIt where
  | val (e : PX)
  | range1 (a : PX)
  | range2 (a b : PX)
  | enum (a : PX)
  | zip (es : List PX)
  | dit (k : DK) (i : Nat)
end
/-- what is walked: given items, or an object of the store -/
inductive Itm where
  | l (xs : List EV) | o (i : Nat) | en (i : Nat) | zp (a b : EV)
def asP : EV → Option PV
  | .p v => some v
  | .ref _ => none
def asR : EV → Option Nat
  | .p _ => none
  | .ref i => some i
def asPs : List EV → Option (List PV)
  | [] => some []
  | x :: xs => match asP x with
    | some v => match asPs xs with
      | some vs => some (v :: vs)
      | none => none
    | none => none
def asRs : List EV → Option (List Nat)
  | [] => some []
  | x :: xs => match asR x with
    | some v => match asRs xs with
      | some vs => some (v :: vs)
      | none => none
    | none => none
def sees (S : List PO) : List EV → Option (List PV)
  | [] => some []
  | x :: xs => match see S x with
    | some v => match sees S xs with
      | some vs => some (v :: vs)
      | none => none
    | none => none
mutual
def bindT : PT → Sl → EV → Option Sl
  | .nm i, ρ, v => some (ρ.set i (some v))
  | .tup ts, ρ, v => match v with
    | .p (.tup xs) => bindTs ts ρ xs
    | _ => none
def bindTs : List PT → Sl → List PV → Option Sl
  | [], ρ, xs => match xs with
    | [] => some ρ
    | _ => none
  | t :: ts, ρ, xs => match xs with
    | [] => none
    | x :: xs => match bindT t ρ (.p x) with
      | some ρ1 => bindTs ts ρ1 xs
      | none => none
end
def rangeV (i j : Int) : List PV := (List.range (j - i).toNat).map fun (k : Nat) => PV.int (i + (k : Int))
def rng (i j : Int) : Option (List PV) := if (decide (-(2 ^ 62) ≤ i) && (decide (i < 2 ^ 62) && (decide (-(2 ^ 62) ≤ j) && (decide (j < 2 ^ 62) && decide ((j - i).toNat ≤ lim))))) = true then some (rangeV i j) else none
/-- the items of a value -/
def itemsOf (S : List PO) : EV → Option Itm
  | .p v => match seqOf v with
    | some xs => some (.l (xs.map .p))
    | none => match v with
      | .str z => if z.length ≤ lim then some (.l (z.cps.toList.map fun c => .p (.str ⟨#[c]⟩))) else none
      | _ => none
  | .ref i => match S[i]? with
    | some (.lst _) => some (.o i)
    | some (.rows _) => some (.o i)
    | _ => none
/-- the items of a list of the store or of a plain one -/
def seqAt (S : List PO) : EV → Option (List PV)
  | .p v => seqOf v
  | .ref i => match S[i]? with
    | some (.lst xs) => some xs
    | _ => none
def tupP : PV → Bool
  | .tup _ => true
  | _ => false
def tupE : EV → Bool
  | .p v => tupP v
  | .ref _ => false
/-- the k-th item, none: it is through -/
def itAt (S : List PO) : Itm → Nat → Option (Option EV)
  | .l xs, k => some xs[k]?
  | .o i, k => match S[i]? with
    | some (.lst xs) => some ((xs[k]?).map .p)
    | some (.rows is) => some ((is[k]?).map .ref)
    | _ => none
  | .en i, k => match S[i]? with
    | some (.lst xs) => some ((xs[k]?).map fun v => .p (.tup [.int (k : Nat), v]))
    | _ => none
  | .zp a b, k => match seqAt S a with
    | some xs => match seqAt S b with
      | some ys => some (match xs[k]? with
        | some x => (ys[k]?).map fun y => .p (.tup [x, y])
        | none => none)
      | none => none
    | none => none
def enumV : Nat → List PV → List PV
  | _, [] => []
  | k, x :: xs => .tup [.int k, x] :: enumV (k + 1) xs
def zipV : List PV → List PV → List PV
  | x :: xs, y :: ys => .tup [x, y] :: zipV xs ys
  | _, _ => []
/-- a comprehension's turns -/
def compL (f : EV → List PO → Out (List EV)) : List EV → List PO → Out (List EV)
  | [], S => .ok [] S
  | x :: xs, S => match f x S with
    | .ok ys S1 => match compL f xs S1 with
      | .ok zs S2 => .ok (ys ++ zs) S2
      | _ => .stuck
    | _ => .stuck
def compO (f : EV → List PO → Out (List EV)) (its : Itm) : Nat → Nat → List PO → Out (List EV)
  | 0, _, _ => .stuck
  | n + 1, k, S => match itAt S its k with
    | some none => .ok [] S
    | some (some x) => match f x S with
      | .ok ys S1 => match compO f its n (k + 1) S1 with
        | .ok zs S2 => .ok (ys ++ zs) S2
        | _ => .stuck
      | _ => .stuck
    | none => .stuck
def compI (f : EV → List PO → Out (List EV)) : Itm → List PO → Out (List EV)
  | .l xs, S => compL f xs S
  | its, S => compO f its lim 0 S
def lenOk : Out (List EV) → Out (List EV)
  | .ok zs S => if zs.length ≤ lim then .ok zs S else .stuck
  | .exc _ _ _ => .stuck
  | .stuck => .stuck
/-- what a def's hands back, looked at as a plain value -/
def frzE (S : List PO) : EV → Option PV
  | .p v => some v
  | .ref i => match S[i]? with
    | some (.lst xs) => some (.lst xs)
    | some (.dct ks vs) => some (.dct ks vs)
    | some (.dtt ks vs) => some (.dtt ks vs)
    | some (.rows is) => match is.mapM (fun j => match S[j]? with
      | some (PO.lst xs) => some (PV.lst xs)
      | _ => none) with
      | some l => some (.lst l)
      | none => none
    | _ => none
def frzR (S : List PO) : RV → Option PV
  | .e v => frzE S v
  | .t vs => (vs.mapM (frzE S)).map PV.tup
/-- no list, no dict within -/
def flatP : PV → Bool
  | .non => true
  | .bl _ => true
  | .int _ => true
  | .str _ => true
  | _ => false
def flatN : Nat → PV → Bool
  | 0, v => flatP v
  | n + 1, v => match v with
    | .tup xs => xs.all (flatN n)
    | v => flatP v
def flatR : PV → Bool
  | .tup xs => xs.all (flatN 3)
  | v => flatP v
/-- a call that changes nothing: the callee has a store of its own -/
def pcall (G : Gm) (i : Nat) (args : List EV) (S : List PO) : Out EV := match asPs args with
  | some vs => match G.call i (vs.map .p) [] with
    | .ok r S' => match frzR S' r with
      | some v => .ok (.p v) S
      | none => .stuck
    | .exc c fs _ => .exc c fs S
    | .stuck => .stuck
  | none => match sees S args with
    | some vs => match G.call i (vs.map .p) [] with
      | .ok r S' => match frzR S' r with
        | some v => if flatR v = true then .ok (.p v) S else .stuck
        | none => .stuck
      | _ => .stuck
    | none => .stuck
/-- the index that a place means -/
def ixAt (n : Nat) (i : Int) : Option Nat := ixN n i
def tyM : M → String
  | .update => "dict"
  | .join => "str"
  | .split => "str"
  | _ => "list"
/-- a method of a list or a text, its receiver fits -/
def recvOk (k : M) (S : List PO) (x : EV) : Bool := match x with
  | .ref i => match S[i]? with
    | some (.lst _) => tyM k == "list"
    | some (.rows _) => tyM k == "list"
    | some (.dct _ _) => tyM k == "dict"
    | _ => false
  | .p (.lst _) => tyM k == "list"
  | .p (.rd _) => tyM k == "list"
  | .p (.str _) => tyM k == "str"
  | _ => false
def mergeP {κ : Type} [DecidableEq κ] (ks : List κ) (vs : List PV) : List κ → List PV → List κ × List PV
  | k :: ks2, v :: vs2 => mergeP (putP ks vs k v).1 (putP ks vs k v).2 ks2 vs2
  | _, _ => (ks, vs)
/-- what a method does -/
def methV (k : M) (S : List PO) (x : EV) (vs : List EV) : Option (EV × List PO) := match k with
  | .append => match x with
    | .ref i => match vs with
      | [.p v] => match S[i]? with
        | some (.lst xs) => if xs.length < lim then some (.p .non, S.set i (.lst (xs ++ [v]))) else none
        | _ => none
      | [.ref j] => match S[i]? with
        | some (.rows is) => if is.length < lim then some (.p .non, S.set i (.rows (is ++ [j]))) else none
        | some (.lst []) => some (.p .non, S.set i (.rows [j]))
        | _ => none
      | _ => none
    | .p _ => none
  | .extend => match x with
    | .ref i => match vs with
      | [.p (.lst ys)] => match S[i]? with
        | some (.lst xs) => if xs.length + ys.length ≤ lim then some (.p .non, S.set i (.lst (xs ++ ys))) else none
        | _ => none
      | [.ref j] => match S[i]? with
        | some (.lst xs) => match S[j]? with
          | some (.lst ys) => if xs.length + ys.length ≤ lim then some (.p .non, S.set i (.lst (xs ++ ys))) else none
          | _ => none
        | _ => none
      | _ => none
    | .p _ => none
  | .pop0 => match x with
    | .ref i => match vs with
      | [] => match S[i]? with
        | some (.lst xs) => match xs[xs.length - 1]? with
          | some v => some (.p v, S.set i (.lst xs.dropLast))
          | none => none
        | _ => none
      | _ => none
    | .p _ => none
  | .popAt => match x with
    | .ref i => match vs with
      | [.p (.int k)] => match S[i]? with
        | some (.lst xs) => match ixN xs.length k with
          | some j => match xs[j]? with
            | some v => if xs.length ≤ lim then some (.p v, S.set i (.lst (xs.eraseIdx j))) else none
            | none => none
          | none => none
        | _ => none
      | _ => none
    | .p _ => none
  | .update => match x with
    | .ref i => match vs with
      | [.p (.dct ks2 vs2)] => match S[i]? with
        | some (.dct ks vs) => if ks.length + ks2.length ≤ lim then (if ks2.length = vs2.length then some (.p .non, S.set i (.dct (mergeP ks vs ks2 vs2).1 (mergeP ks vs ks2 vs2).2)) else none) else none
        | _ => none
      | _ => none
    | .p _ => none
  | .index => match vs with
    | [v] => match (see S x).bind (toD 9) with
      | some (.list ds) => match (see S v).bind (toD 9) with
        | some d => if (SeqAt.shaped (.list ds) && SeqAt.shaped d) = true then (match ds.findIdx? fun z => PyData.eqv z d with
          | some j => some (.p (.int (j : Nat)), S)
          | none => none) else none
        | none => none
      | _ => none
    | _ => none
  | .count => match see S x with
    | some (.lst xs) => match vs with
      | [.p (.int j)] => match intsOf xs with
        | some l => some (.p (.int (l.count j : Nat)), S)
        | none => none
      | _ => none
    | _ => none
  | .join => match x with
    | .p (.str a) => match vs with
      | [v] => match (see S v).bind seqOf with
        | some xs => match strsOf xs with
          | some zs => if (zs.map (·.length)).sum + zs.length * a.length ≤ lim then some (.p (.str (Txt.join a zs)), S) else none
          | none => none
        | none => none
      | _ => none
    | _ => none
  | .split => match x with
    | .p (.str a) => match vs with
      | [.p (.str b)] => if (b.length == 0) = false then (if a.length ≤ lim then some (.p (.lst ((Txt.split a b).map .str)), S) else none) else none
      | _ => none
    | _ => none
  | _ => none
/-- it is a dict -/
def dctS (S : List PO) (x : EV) : Bool := match see S x with
  | some (.dct _ _) => true
  | some (.dtt _ _) => true
  | _ => false
/-- what stands at a key -/
def getV (S : List PO) (x y : EV) : Option (Option PV) := match see S x with
  | some (.dct ks vs) => match (see S y).bind keyOf with
    | some k => some (lookP ks vs k)
    | none => none
  | some (.dtt ks vs) => match see S y with
    | some (.tup l) => match keysOf l with
      | some k => some (lookP ks vs k)
      | none => none
    | _ => none
  | _ => none
/-- what a walk over a dict yields -/
def ditems (k : DK) : PV → Option (List PV)
  | .dct ks vs => match k with
    | .ks => some (ks.map kP)
    | .vs => some vs
    | .its => some (zipV (ks.map kP) vs)
  | .dtt ks vs => match k with
    | .ks => some (ks.map fun k => .tup (k.map kP))
    | .its => some (zipV (ks.map fun k => .tup (k.map kP)) vs)
    | _ => none
  | _ => none
/-- pairs one behind another, stored -/
def dstore : List Key → List PV → List EV → Option (List Key × List PV)
  | ks, vs, [] => some (ks, vs)
  | ks, vs, [_] => none
  | ks, vs, a :: b :: r => match (asP a).bind keyOf with
    | some k => match asP b with
      | some w => dstore (putP ks vs k w).1 (putP ks vs k w).2 r
      | none => none
    | none => none
/-- a tuple as a key -/
def tkOf : PV → Option (List Key)
  | .tup xs => keysOf xs
  | _ => none
def dstoreT : List (List Key) → List PV → List EV → Option (List (List Key) × List PV)
  | ks, vs, [] => some (ks, vs)
  | ks, vs, [_] => none
  | ks, vs, a :: b :: r => match (asP a).bind tkOf with
    | some k => match asP b with
      | some w => dstoreT (putP ks vs k w).1 (putP ks vs k w).2 r
      | none => none
    | none => none
def revP : PV → Option PV
  | .tup xs => some (.tup xs.reverse)
  | _ => none
def revL : PV → Option (List PV)
  | .lst xs => some xs.reverse
  | .rd xs => some xs.reverse
  | _ => none
def dropP {κ : Type} [DecidableEq κ] : List κ → List PV → κ → List κ × List PV
  | k :: ks, v :: vs, j => if k = j then dropP ks vs j else (k :: (dropP ks vs j).1, v :: (dropP ks vs j).2)
  | _, _, _ => ([], [])
mutual
def evE (G : Gm) : PX → Sl → List PO → Out EV
  | .var i, ρ, S => match ρ[i]? with
    | some (some v) => .ok v S
    | _ => .stuck
  | .const v, _, S => .ok (.p v) S
  | .tup es, ρ, S => match evEs G es ρ S with
    | .ok vs S1 => match asPs vs with
      | some xs => .ok (.p (.tup xs)) S1
      | none => .stuck
    | .exc c fs S1 => .exc c fs S1
    | .stuck => .stuck
  | .lst l, ρ, S => match evL G l ρ S with
    | .ok vs S1 => match asPs vs with
      | some xs => .ok (.p (.lst xs)) S1
      | none => .stuck
    | .exc c fs S1 => .exc c fs S1
    | .stuck => .stuck
  | .mut l, ρ, S => match evL G l ρ S with
    | .ok vs S1 => match asPs vs with
      | some xs => .ok (.ref S1.length) (S1 ++ [.lst xs])
      | none => match asRs vs with
        | some is => .ok (.ref S1.length) (S1 ++ [.rows is])
        | none => .stuck
    | .exc c fs S1 => .exc c fs S1
    | .stuck => .stuck
  | .bin op a b, ρ, S => (evE G a ρ S).bind fun x S1 => (evE G b ρ S1).bind fun y S2 => match see2 S2 x y (binop op) with
    | some v => .ok (.p v) S2
    | none => .stuck
  | .neg a, ρ, S => (evE G a ρ S).bind fun x S1 => match x with
    | .p (.int i) => .ok (.p (.int (-i))) S1
    | _ => .stuck
  | .not a, ρ, S => (evE G a ρ S).bind fun x S1 => match see1 S1 x truth with
    | some b => .ok (.p (.bl (!b))) S1
    | none => .stuck
  | .and a b, ρ, S => (evE G a ρ S).bind fun x S1 => match see1 S1 x truth with
    | some true => evE G b ρ S1
    | some false => .ok x S1
    | none => .stuck
  | .or a b, ρ, S => (evE G a ρ S).bind fun x S1 => match see1 S1 x truth with
    | some true => .ok x S1
    | some false => evE G b ρ S1
    | none => .stuck
  | .cmp op a b, ρ, S => (evE G a ρ S).bind fun x S1 => (evE G b ρ S1).bind fun y S2 => match see2 S2 x y (cmpop op) with
    | some v => .ok (.p (.bl v)) S2
    | none => .stuck
  | .chain o1 o2 a b c, ρ, S => (evE G a ρ S).bind fun x S1 => (evE G b ρ S1).bind fun y S2 => match see2 S2 x y (cmpop o1) with
    | some true => (evE G c ρ S2).bind fun z S3 => match see2 S3 y z (cmpop o2) with
      | some v => .ok (.p (.bl v)) S3
      | none => .stuck
    | some false => .ok (.p (.bl false)) S2
    | none => .stuck
  | .ife c a b, ρ, S => (evT G c ρ S).bind fun t S1 => match t with
    | true => evE G a ρ S1
    | false => evE G b ρ S1
  | .call f es, ρ, S => (evEs G es ρ S).bind fun vs S1 => pcall G f vs S1
  | .callv i es, ρ, S => match ρ[i]? with
    | some (some (.p (.fn f))) => match G.fns[f]? with
      | some fi => if es.length = fi.ps.length then (evEs G es ρ S).bind fun vs S1 => pcall G f vs S1 else .stuck
      | none => .stuck
    | _ => .stuck
  | .bi b es, ρ, S => (evEs G es ρ S).bind fun vs S1 => match sees S1 vs with
    | some xs => match bi b xs with
      | some v => .ok (.p v) S1
      | none => .stuck
    | none => .stuck
  | .ix a b, ρ, S => (evE G a ρ S).bind fun x S1 => (evE G b ρ S1).bind fun y S2 => match ixE S2 x y with
    | some v => .ok v S2
    | none => .stuck
  | .sl a lo hi, ρ, S => (evE G a ρ S).bind fun x S1 => (evO G lo ρ S1).bind fun l S2 => (evO G hi ρ S2).bind fun h S3 => match see1 S3 x (slP l h) with
    | some v => .ok (.p v) S3
    | none => .stuck
  | .isx e k, ρ, S => (evE G e ρ S).bind fun x S1 => match x with
    | .p (.exn c) => match G.cls[c]? with
      | some _ => .ok (.p (.bl (G.sub c k))) S1
      | none => .stuck
    | _ => .stuck
  | .ist e, ρ, S => (evE G e ρ S).bind fun x S1 => match x with
    | .p (.exn c) => match G.cls[c]? with
      | some _ => .ok (.p (.bl true)) S1
      | none => .stuck
    | _ => .stuck
  | .never, _, _ => .stuck
  | .dnew t, _, S => match t with
    | false => .ok (.ref S.length) (S ++ [.dct [] []])
    | true => .ok (.ref S.length) (S ++ [.dtt [] []])
  | .disp1 a b, ρ, S => (evE G a ρ (S ++ [.dct [] []])).bind fun x S1 => (evE G b ρ S1).bind fun y S2 => match (asP x).bind keyOf with
    | some k => match asP y with
      | some v => match S2[S.length]? with
        | some (.dct [] []) => .ok (.ref S.length) (S2.set S.length (.dct [k] [v]))
        | _ => .stuck
      | none => .stuck
    | none => .stuck
  | .get1 a b, ρ, S => (evE G a ρ S).bind fun x S1 => if dctS S1 x = true then (evE G b ρ S1).bind (fun y S2 => match getV S2 x y with
    | some o => .ok (.p (o.getD .non)) S2
    | none => .stuck) else .stuck
  | .get2 a b c, ρ, S => (evE G a ρ S).bind fun x S1 => if dctS S1 x = true then (evE G b ρ S1).bind (fun y S2 => (evE G c ρ S2).bind fun z S3 => match getV S3 x y with
    | some o => match asP z with
      | some w => .ok (.p (o.getD w)) S3
      | none => .stuck
    | none => .stuck) else .stuck
  | .dcomp m own k v tg it ifs, ρ, S => (evIt G it ρ S).bind fun its S1 => match lenOk (compI (fun x S => match bindT tg (wipeP ρ own) x with
    | some ρ1 => match evTs G ifs ρ1 S with
      | .ok true S1 => (evE G k ρ1 S1).bind fun y S2 => (evE G v ρ1 S2).bind fun z S3 => match (asP y).bind keyOf with
        | some _ => match asP z with
          | some _ => .ok [y, z] S3
          | none => .stuck
        | none => .stuck
      | .ok false S1 => .ok [] S1
      | _ => .stuck
    | none => .stuck) its S1) with
    | .ok zs S2 => match dstore [] [] zs with
      | some q => match m with
        | false => .ok (.p (.dct q.1 q.2)) S2
        | true => .ok (.ref S2.length) (S2 ++ [.dct q.1 q.2])
      | none => .stuck
    | _ => .stuck
  | .dcompT m own k v tg it ifs, ρ, S => (evIt G it ρ S).bind fun its S1 => match lenOk (compI (fun x S => match bindT tg (wipeP ρ own) x with
    | some ρ1 => match evTs G ifs ρ1 S with
      | .ok true S1 => (evE G k ρ1 S1).bind fun y S2 => (evE G v ρ1 S2).bind fun z S3 => match (asP y).bind tkOf with
        | some _ => match asP z with
          | some _ => .ok [y, z] S3
          | none => .stuck
        | none => .stuck
      | .ok false S1 => .ok [] S1
      | _ => .stuck
    | none => .stuck) its S1) with
    | .ok zs S2 => match dstoreT [] [] zs with
      | some q => match m with
        | false => .ok (.p (.dtt q.1 q.2)) S2
        | true => .ok (.ref S2.length) (S2 ++ [.dtt q.1 q.2])
      | none => .stuck
    | _ => .stuck
  | .rev a, ρ, S => (evE G a ρ S).bind fun x S1 => match see1 S1 x revP with
    | some v => .ok (.p v) S1
    | none => .stuck
  | .trng a, ρ, S => (evE G a ρ S).bind fun x S1 => match x with
    | .p (.int j) => match rng 0 j with
      | some l => .ok (.p (.tup l)) S1
      | none => .stuck
    | _ => .stuck
  | .dpop a b c, ρ, S => (evE G a ρ S).bind fun x S1 => if dctS S1 x = true then (evE G b ρ S1).bind (fun y S2 => (evE G c ρ S2).bind fun z S3 => match x with
    | .ref i => match S3[i]? with
      | some (.dct ks vs) => match (see S3 y).bind keyOf with
        | some k => match asP z with
          | some w => match lookP ks vs k with
            | some v => .ok (.p v) (S3.set i (.dct (dropP ks vs k).1 (dropP ks vs k).2))
            | none => .ok (.p w) S3
          | none => .stuck
        | none => .stuck
      | _ => .stuck
    | _ => .stuck) else .stuck
  | .cst k, _, S => match G.csts[k]? with
    | some q => .ok (.p q.2) S
    | none => .stuck
  | .meth k o es, ρ, S => (evE G o ρ S).bind fun x S1 => match recvOk k S1 x with
    | true => (evEs G es ρ S1).bind fun vs S2 => match methV k S2 x vs with
      | some (v, S3) => .ok v S3
      | none => .stuck
    | false => .stuck
def evT (G : Gm) : PB → Sl → List PO → Out Bool
  | .and a b, ρ, S => (evT G a ρ S).bind fun t S1 => match t with
    | true => evT G b ρ S1
    | false => .ok false S1
  | .or a b, ρ, S => (evT G a ρ S).bind fun t S1 => match t with
    | true => .ok true S1
    | false => evT G b ρ S1
  | .not a, ρ, S => (evT G a ρ S).bind fun t S1 => .ok (!t) S1
  | .cmp op a b, ρ, S => (evE G a ρ S).bind fun x S1 => (evE G b ρ S1).bind fun y S2 => match see2 S2 x y (cmpop op) with
    | some v => .ok v S2
    | none => .stuck
  | .chain o1 o2 a b c, ρ, S => (evE G a ρ S).bind fun x S1 => (evE G b ρ S1).bind fun y S2 => match see2 S2 x y (cmpop o1) with
    | some true => (evE G c ρ S2).bind fun z S3 => match see2 S3 y z (cmpop o2) with
      | some v => .ok v S3
      | none => .stuck
    | some false => .ok false S2
    | none => .stuck
  | .val e, ρ, S => (evE G e ρ S).bind fun x S1 => match see1 S1 x truth with
    | some b => .ok b S1
    | none => .stuck
def evO (G : Gm) : Option PX → Sl → List PO → Out (Option Int)
  | none, _, S => .ok none S
  | some e, ρ, S => (evE G e ρ S).bind fun x S1 => match x with
    | .p (.int i) => .ok (some i) S1
    | _ => .stuck
def evEs (G : Gm) : List PX → Sl → List PO → Out (List EV)
  | [], _, S => .ok [] S
  | e :: es, ρ, S => (evE G e ρ S).bind fun v S1 => (evEs G es ρ S1).bind fun vs S2 => .ok (v :: vs) S2
def evTs (G : Gm) : List PB → Sl → List PO → Out Bool
  | [], _, S => .ok true S
  | e :: es, ρ, S => (evT G e ρ S).bind fun t S1 => match t with
    | true => evTs G es ρ S1
    | false => .ok false S1
def evL (G : Gm) : PL → Sl → List PO → Out (List EV)
  | .disp es, ρ, S => evEs G es ρ S
  | .bin op a b, ρ, S => (evE G a ρ S).bind fun x S1 => (evE G b ρ S1).bind fun y S2 => match see2 S2 x y (binL op) with
    | some v => .ok (v.map .p) S2
    | none => .stuck
  | .bi b es, ρ, S => (evEs G es ρ S).bind fun vs S1 => match sees S1 vs with
    | some xs => match biL b xs with
      | some v => .ok (v.map .p) S1
      | none => .stuck
    | none => .stuck
  | .sl a lo hi, ρ, S => (evE G a ρ S).bind fun x S1 => (evO G lo ρ S1).bind fun l S2 => (evO G hi ρ S2).bind fun h S3 => match see1 S3 x (slPL l h) with
    | some v => .ok (v.map .p) S3
    | none => .stuck
  | .rev a, ρ, S => (evE G a ρ S).bind fun x S1 => match see1 S1 x revL with
    | some v => .ok (v.map .p) S1
    | none => .stuck
  | .rng1 a, ρ, S => (evE G a ρ S).bind fun x S1 => match x with
    | .p (.int j) => match rng 0 j with
      | some l => .ok (l.map .p) S1
      | none => .stuck
    | _ => .stuck
  | .rng2 a b, ρ, S => (evE G a ρ S).bind fun x S1 => (evE G b ρ S1).bind fun y S2 => match x, y with
    | .p (.int i), .p (.int j) => match rng i j with
      | some l => .ok (l.map .p) S2
      | none => .stuck
    | _, _ => .stuck
  | .comp own elt tg it ifs, ρ, S => (evIt G it ρ S).bind fun its S1 => lenOk <| compI (fun x S => match bindT tg (wipeP ρ own) x with
    | some ρ1 => match evTs G ifs ρ1 S with
      | .ok true S1 => (evE G elt ρ1 S1).bind fun v S2 => .ok [v] S2
      | .ok false S1 => .ok [] S1
      | _ => .stuck
    | none => .stuck) its S1
  | .comp2 own elt tg it ifs own2 tg2 it2 ifs2, ρ, S => (evIt G it ρ S).bind fun its S1 => lenOk <| compI (fun x S => match bindT tg (wipeP ρ own) x with
    | some ρ1 => match evTs G ifs ρ1 S with
      | .ok true S1 => (evIt G it2 ρ1 S1).bind fun its2 S2 => compI (fun x S => match bindT tg2 (wipeP ρ1 own2) x with
        | some ρ2 => match evTs G ifs2 ρ2 S with
          | .ok true S1 => (evE G elt ρ2 S1).bind fun v S2 => .ok [v] S2
          | .ok false S1 => .ok [] S1
          | _ => .stuck
        | none => .stuck) its2 S2
      | .ok false S1 => .ok [] S1
      | _ => .stuck
    | none => .stuck) its S1
def evIt (G : Gm) : PIt → Sl → List PO → Out Itm
  | .val e, ρ, S => (evE G e ρ S).bind fun v S1 => match itemsOf S1 v with
    | some its => .ok its S1
    | none => .stuck
  | .range1 a, ρ, S => (evE G a ρ S).bind fun x S1 => match x with
    | .p (.int j) => match rng 0 j with
      | some l => .ok (.l (l.map .p)) S1
      | none => .stuck
    | _ => .stuck
  | .range2 a b, ρ, S => (evE G a ρ S).bind fun x S1 => (evE G b ρ S1).bind fun y S2 => match x, y with
    | .p (.int i), .p (.int j) => match rng i j with
      | some l => .ok (.l (l.map .p)) S2
      | none => .stuck
    | _, _ => .stuck
  | .enum a, ρ, S => (evE G a ρ S).bind fun x S1 => match x with
    | .p v => match seqOf v with
      | some xs => .ok (.l ((enumV 0 xs).map .p)) S1
      | none => .stuck
    | .ref i => match S1[i]? with
      | some (.lst _) => .ok (.en i) S1
      | _ => .stuck
  | .zip es, ρ, S => (evEs G es ρ S).bind fun vs S1 => match vs with
    | [.p v, .p w] => match seqOf v with
      | some xs => match seqOf w with
        | some ys => .ok (.l ((zipV xs ys).map .p)) S1
        | none => .stuck
      | none => .stuck
    | [v, w] => if tupE v = true then .stuck else if tupE w = true then .stuck else match seqAt S1 v with
      | some _ => match seqAt S1 w with
        | some _ => .ok (.zp v w) S1
        | none => .stuck
      | none => .stuck
    | _ => .stuck
  | .dit k i, ρ, S => match ρ[i]? with
    | some (some (.p v)) => match ditems k v with
      | some xs => .ok (.l (xs.map .p)) S
      | none => .stuck
    | _ => .stuck
end
end Rv
end PartRvE
section PartRvF
set_option Elab.async false
set_option linter.all false
set_option maxRecDepth 100000
set_option autoImplicit false
/-! Rv, part F: expressions are read as their terms say. -/
namespace Rv
open PySem PySem.Spec PyProof.Rows L2

def visB (sc : Scope) (x : Str) : Bool := match sc.names.lookup x with
  | some .local => true
  | some .cell => true
  | some .free => true
  | _ => false
def glB (sc : Scope) (x : Str) : Bool := match sc.names.lookup x with
  | some .globalImplicit => true
  | _ => false
theorem vis_of {sc : Scope} {x : Str} (h : visB sc x = true) : Vis sc x := by
  unfold visB at h
  split at h
  · rename_i e; exact .inl e
  · rename_i e; exact .inr (.inl e)
  · rename_i e; exact .inr (.inr e)
  · cases h
theorem gl_of {X : Cx} {sc : Scope} {x : Str} (hs : X.env.scope = sc) (h : glB sc x = true) : Gl X x := by
  unfold glB at h
  split at h
  · rename_i e
    show X.env.scope.names.lookup x = some .globalImplicit
    rw [hs]; exact e
  · cases h
def starB : Expr → Bool
  | .Starred _ _ => true
  | _ => false
theorem star_cons {e : Expr} {es : List Expr} {env : Env} (h : starB e = false) : starEach (e :: es) env = (false, eval e env) :: starEach es env := by
  cases e <;> first | rfl | (cases h)
theorem star_none : ∀ {es : List Expr} {env : Env} {pos : Pos}, es.all (fun e => !starB e) = true → (backTo pos (starEach es env)).any (·.1) = false
  | [], _, _, _ => rfl
  | e :: es, env, pos, h => by
    rw [List.all_cons, Bool.and_eq_true] at h
    have h1 : starB e = false := by simpa using h.1
    rw [star_cons h1]
    show ((false, _) :: backTo pos (starEach es env)).any (·.1) = false
    rw [List.any_cons, star_none h.2]
    rfl
section
variable {G : Gm} {d : Nat} {x : Sx}
theorem see2_some {α : Type} {S : List PO} {a b : EV} {f : PV → PV → Option α} {v : α} (h : see2 S a b f = some v) : ∃ p q, see S a = some p ∧ see S b = some q ∧ f p q = some v := by
  unfold see2 see1 at h
  split at h
  · rename_i p e1
    split at h
    · rename_i q e2
      exact ⟨p, q, e1, e2, h⟩
    · cases h
  · cases h
theorem see1_some {α : Type} {S : List PO} {a : EV} {f : PV → Option α} {v : α} (h : see1 S a f = some v) : ∃ p, see S a = some p ∧ f p = some v := by
  unfold see1 at h
  split at h
  · rename_i p e1
    exact ⟨p, e1, h⟩
  · cases h
theorem se_var {i : Nat} {nm : Str} {pos : Pos} (hN : x.N[i]? = some nm) (hv : visB x.sc nm = true) (hd : (nm == ("__debug__" : Str)) = false) (hc : (nm == ("__classdict__" : Str)) = false) : SE G d x (.Name nm pos) (evE G (.var i)) := by
  intro Z X W m H S ρ σ Q n h
  simp only [evE] at h
  split at h
  · rename_i v e
    obtain ⟨u, hu, r⟩ := n.env.2 i v e
    exact PE.j (pe_var (by rw [n.ok.hN]; exact hN) (by rw [n.ok.hs]; exact vis_of hv) hd hc) ⟨u, hu, Post.now h n.rel r⟩
  · exact h.elim
theorem se_cst {e : Expr} {v : PV} {u : V} (hp : ∀ X : Cx, PE X e (tC u)) (hr : ∀ Z m H, Rp Z m H v u) : SE G d x e (evE G (.const v)) := by
  intro Z X W m H S ρ σ Q n h
  simp only [evE] at h
  exact PE.j (hp X) (Post.now h n.rel (.p (hr _ _ _)))
theorem se_int {i : Int} {j : Nat} {pos : Pos} : SE G d x (.Constant (.int i) j pos) (evE G (.const (.int i))) := se_cst (fun _ => pe_int) fun _ _ _ => .int i
theorem se_str {i : Str} {j : Nat} {pos : Pos} : SE G d x (.Constant (.str i) j pos) (evE G (.const (.str i))) := se_cst (fun _ => pe_str) fun _ _ _ => .str i
theorem se_bl {i : Bool} {j : Nat} {pos : Pos} : SE G d x (.Constant (.bool i) j pos) (evE G (.const (.bl i))) := se_cst (fun _ => pe_bl) fun _ _ _ => .bl i
theorem se_non {j : Nat} {pos : Pos} : SE G d x (.Constant .none j pos) (evE G (.const .non)) := se_cst (fun _ => pe_non) fun _ _ _ => .non
/-- a def as a value -/
theorem se_fn {i : Nat} {f : FnI} {pos : Pos} (hi : G.fns[i]? = some f) (hg : glB x.sc f.name = true) (hd : (f.name == ("__debug__" : Str)) = false) : SE G d x (.Name f.name pos) (evE G (.const (.fn i))) := by
  intro Z X W m H S ρ σ Q n h
  simp only [evE] at h
  obtain ⟨fd, hm, _⟩ := n.ok.fns i f hi
  exact PE.j (pe_glob (v := .ref (Z.ad.fn i)) (gl_of n.ok.hs hg) hm rfl hd) (Post.now h n.rel (.p (.fn i)))
theorem se_cls {i : Nat} {f : ClI} {pos : Pos} (hi : G.cls[i]? = some f) (hg : glB x.sc f.name = true) (hd : (f.name == ("__debug__" : Str)) = false) : SE G d x (.Name f.name pos) (evE G (.const (.cls i))) := by
  intro Z X W m H S ρ σ Q n h
  simp only [evE] at h
  obtain ⟨hm, _⟩ := n.ok.cls i f hi
  exact PE.j (pe_glob (v := .ref (Z.ad.cls i)) (gl_of n.ok.hs hg) hm rfl hd) (Post.now h n.rel (.p (.cls i)))
/-- a module's constant -/
theorem se_glob {y : Str} {v : PV} {pos : Pos} (hi : (y, v) ∈ G.csts) (hg : glB x.sc y = true) (hd : (y == ("__debug__" : Str)) = false) : SE G d x (.Name y pos) (evE G (.const v)) := by
  intro Z X W m H S ρ σ Q n h
  simp only [evE] at h
  obtain ⟨u, w, hm, hr, hp⟩ := n.ok.csts y v hi
  exact PE.j (pe_glob (gl_of n.ok.hs hg) hm hr hd) (Post.now h n.rel (.p (hp _ _ _ _)))
theorem se_cst2 {y : Str} {v : PV} {k : Nat} {pos : Pos} (hi : G.csts[k]? = some (y, v)) (hg : glB x.sc y = true) (hd : (y == ("__debug__" : Str)) = false) : SE G d x (.Name y pos) (evE G (.cst k)) := by
  have h := se_glob (G := G) (d := d) (x := x) (pos := pos) (List.mem_of_getElem? hi) hg hd
  intro Z X W m H S ρ σ Q n q
  refine h Z X W m H S ρ σ Q n ?_
  simp only [evE, hi] at q ⊢
  exact q
/-- a built-in class as a value -/
theorem se_ty {y : Str} {t : String} {pos : Pos} (hi : y ∈ G.free) (hg : glB x.sc y = true) (hv : bootBuiltins y = some (.type t)) (hn : y ≠ "__name__") (hd : (y == ("__debug__" : Str)) = false) : SE G d x (.Name y pos) (evE G (.const (.ty t))) := by
  intro Z X W m H S ρ σ Q n h
  simp only [evE] at h
  exact PE.j (pe_bltn (v := .ty t) (gl_of n.ok.hs hg) (n.ok.free y hi) hv rfl hn hd) (Post.now h n.rel (.p (.ty t)))
/-! ### arguments -/
theorem sa_nil : SA G d x [] (evEs G []) := by
  intro Z X W m H S ρ σ Q n h
  simp only [evEs] at h
  exact PA.j pa_nil (Post.now h n.rel .nil)
theorem sa_cons {e : Expr} {es : List Expr} {p : PX} {ps : List PX} (ha : SE G d x e (evE G p)) (hb : SA G d x es (evEs G ps)) (hs : starB e = false) : SA G d x (e :: es) (evEs G (p :: ps)) := by
  intro Z X W m H S ρ σ Q n h
  simp only [evEs] at h
  refine PA.j (pa_cons pe_j pa_j (star_cons hs)) (ha Z X W m H S ρ σ _ n (Post.bind h fun v S1 m1 H1 u e1 x1 R1 r1 q1 => hb Z X W m1 H1 S1 ρ σ _ (n.step x1 R1) (Post.bind q1 fun vs S2 m2 H2 us e2 x2 R2 r2 q2 => ?_)))
  exact Post.now q2 R2 (.cons (r1.ext x2) r2)
/-! ### operators -/
theorem se_bin {a b : Expr} {p q : PX} {o : BOp} {pos : Pos} (ha : SE G d x a (evE G p)) (hb : SE G d x b (evE G q)) : SE G d x (.BinOp a (bopOf o) b pos) (evE G (.bin o p q)) := by
  intro Z X W m H S ρ σ Q n h
  simp only [evE] at h
  refine PE.j (pe_op (op_bin n.ok.hK o) pe_j pe_j) (ha Z X W m H S ρ σ _ n (Post.bind h fun v S1 m1 H1 u e1 x1 R1 r1 q1 => hb Z X W m1 H1 S1 ρ σ _ (n.step x1 R1) (Post.bind q1 fun w S2 m2 H2 u2 e2 x2 R2 r2 q2 => ?_)))
  split at q2
  · rename_i z ez
    obtain ⟨a1, b1, g1, g2, g3⟩ := see2_some ez
    exact ⟨m2, S2, a1, b1, z, R2, see_rs R2 (r1.ext x2) g1, see_rs R2 r2 g2, g3, fun H' u' xe R' r' => q2 m2 H' u' xe R' (.p r')⟩
  · exact q2.elim
theorem sl_bin {a b : Expr} {p q : PX} {o : BOp} {pos : Pos} (ha : SE G d x a (evE G p)) (hb : SE G d x b (evE G q)) : SL G d x (.BinOp a (bopOf o) b pos) (evL G (.bin o p q)) := by
  intro Z X W m H S ρ σ Q n h
  simp only [evL] at h
  refine PE.j (pe_op (op_binL n.ok.hK o) pe_j pe_j) (ha Z X W m H S ρ σ _ n (Post.bind h fun v S1 m1 H1 u e1 x1 R1 r1 q1 => hb Z X W m1 H1 S1 ρ σ _ (n.step x1 R1) (Post.bind q1 fun w S2 m2 H2 u2 e2 x2 R2 r2 q2 => ?_)))
  split at q2
  · rename_i z ez
    obtain ⟨a1, b1, g1, g2, g3⟩ := see2_some ez
    exact ⟨m2, a1, b1, z, see_rs R2 (r1.ext x2) g1, see_rs R2 r2 g2, g3, fun us r' p hp => Post.now q2 R2 (ReA.of r') p hp⟩
  · exact q2.elim
theorem se_neg {a : Expr} {p : PX} {pos : Pos} (ha : SE G d x a (evE G p)) : SE G d x (.UnaryOp .USub a pos) (evE G (.neg p)) := by
  intro Z X W m H S ρ σ Q n h
  simp only [evE] at h
  refine PE.j (pe_un un_neg pe_j) (ha Z X W m H S ρ σ _ n (Post.bind h fun v S1 m1 H1 u e1 x1 R1 r1 q1 => ?_))
  split at q1
  · cases r1 with
    | p r1 => cases r1; exact ⟨_, rfl, Post.now q1 R1 (.p (.int _))⟩
  · exact q1.elim
theorem truV_of {Z : St0} {X : Cx} {m : List Addr} {H : Hp} {v : PV} {u : V} {b : Bool} (hK : X.K = Z.K) (r : Rs Z m H v u) (h : truth v = some b) (hd : ∀ ks vs, v ≠ .dct ks vs) : TruV X.K u H b := by
  cases v with
  | non => cases h; cases r.non_; rfl
  | bl c => cases h; cases r.bl_; rfl
  | int c => cases h; cases r.int_; rfl
  | str y =>
    simp only [truth] at h
    split at h
    · rename_i hz
      cases h; cases r.str_
      exact ⟨Nat.le_trans hz lim_le, rfl⟩
    · cases h
  | tup xs => cases h; obtain ⟨p, us, rfl, h1, r1⟩ := r.tup; exact .inr (.inl ⟨_, SqT.of h1, by cases r1 <;> rfl⟩)
  | lst xs => cases h; obtain ⟨p, us, rfl, h1, r1⟩ := r.lst_; exact .inl ⟨_, SqL.of h1, by cases r1 <;> rfl⟩
  | rd xs =>
    cases h
    obtain ⟨p, us, rfl, h1, r1⟩ := r.rd_
    have h1 := h1.sqL
    rw [← hK] at h1
    exact .inl ⟨_, h1, by cases r1 <;> rfl⟩
  | dct ks vs => exact absurd rfl (hd ks vs)
  | _ => cases h
/-- not e, by truth -/
theorem pe_notR {X : Cx} {Z : St0} {a : Expr} {ta : TE} {pos : Pos} (hK : X.K = Z.K) (ha : PE X a ta) : PE X (.UnaryOp .Not a pos) (fun σ H Q => ta σ H fun y H1 => rTru Z y H1 fun k H2 => Q (.bl (!k)) H2) := by
  refine ⟨fun pins s σ H Q I h => ?_⟩
  refine UnaryOp_ (thn (ha.run pins s σ H _ I h) fun v s1 ⟨y, H1, I1, r1, q1⟩ => ?_)
  exact not_of (thn (tru_run hK pins s1 σ H1 y v _ I1 r1 q1) fun k s2 ⟨H2, I2, q2⟩ => ⟨.bl (!k), H2, I2, rfl, q2⟩)
theorem pe_andR {X : Cx} {Z : St0} {a b : Expr} {rest : List Expr} {ta tb : TE} {pos : Pos} (hK : X.K = Z.K) (ha : PE X a ta) (hb : PE X (.BoolOp .And (b :: rest) pos) tb) :
    PE X (.BoolOp .And (a :: b :: rest) pos) (fun σ H Q => ta σ H fun y H1 => rTru Z y H1 fun k H2 => if k = true then tb σ H2 Q else Q y H2) := by
  refine ⟨fun pins s σ H Q I h => ?_⟩
  refine BoolOp_and (thn (ha.run pins s σ H _ I h) fun v s1 ⟨y, H1, I1, r1, q1⟩ => ?_)
  refine thn (tru_run hK pins s1 σ H1 y v _ I1 r1 q1) fun k s2 ⟨H2, I2, q2⟩ => ?_
  cases k with
  | true => exact hb.run pins s2 σ H2 Q I2 q2
  | false => exact ⟨y, H2, I2, r1, q2⟩
theorem pe_orR {X : Cx} {Z : St0} {a b : Expr} {rest : List Expr} {ta tb : TE} {pos : Pos} (hK : X.K = Z.K) (ha : PE X a ta) (hb : PE X (.BoolOp .Or (b :: rest) pos) tb) :
    PE X (.BoolOp .Or (a :: b :: rest) pos) (fun σ H Q => ta σ H fun y H1 => rTru Z y H1 fun k H2 => if k = true then Q y H2 else tb σ H2 Q) := by
  refine ⟨fun pins s σ H Q I h => ?_⟩
  refine BoolOp_or (thn (ha.run pins s σ H _ I h) fun v s1 ⟨y, H1, I1, r1, q1⟩ => ?_)
  refine thn (tru_run hK pins s1 σ H1 y v _ I1 r1 q1) fun k s2 ⟨H2, I2, q2⟩ => ?_
  cases k with
  | false => exact hb.run pins s2 σ H2 Q I2 q2
  | true => exact ⟨y, H2, I2, r1, q2⟩
theorem se_not {a : Expr} {p : PX} {pos : Pos} (ha : SE G d x a (evE G p)) : SE G d x (.UnaryOp .Not a pos) (evE G (.not p)) := by
  intro Z X W m H S ρ σ Q n h
  simp only [evE] at h
  refine PE.j (pe_notR n.ok.hK pe_j) (ha Z X W m H S ρ σ _ n (Post.bind h fun v S1 m1 H1 u e1 x1 R1 r1 q1 => ?_))
  split at q1
  · rename_i b eb
    obtain ⟨a1, g1, g2⟩ := see1_some eb
    exact ⟨m1, a1, b, see_rs R1 r1 g1, g2, Post.now q1 R1 (.p (.bl _))⟩
  · exact q1.elim
theorem se_and {a b : Expr} {rest : List Expr} {p q : PX} {pos : Pos} (ha : SE G d x a (evE G p)) (hb : SE G d x (.BoolOp .And (b :: rest) pos) (evE G q)) : SE G d x (.BoolOp .And (a :: b :: rest) pos) (evE G (.and p q)) := by
  intro Z X W m H S ρ σ Q n h
  simp only [evE] at h
  refine PE.j (pe_andR n.ok.hK pe_j pe_j) (ha Z X W m H S ρ σ _ n (Post.bind h fun v S1 m1 H1 u e1 x1 R1 r1 q1 => ?_))
  split at q1
  · rename_i eb
    obtain ⟨a1, g1, g2⟩ := see1_some eb
    exact ⟨m1, a1, true, see_rs R1 r1 g1, g2, hb Z X W m1 H1 S1 ρ σ _ (n.step x1 R1) q1⟩
  · rename_i eb
    obtain ⟨a1, g1, g2⟩ := see1_some eb
    exact ⟨m1, a1, false, see_rs R1 r1 g1, g2, iteF (Post.now q1 R1 r1)⟩
  · exact q1.elim
theorem se_or {a b : Expr} {rest : List Expr} {p q : PX} {pos : Pos} (ha : SE G d x a (evE G p)) (hb : SE G d x (.BoolOp .Or (b :: rest) pos) (evE G q)) : SE G d x (.BoolOp .Or (a :: b :: rest) pos) (evE G (.or p q)) := by
  intro Z X W m H S ρ σ Q n h
  simp only [evE] at h
  refine PE.j (pe_orR n.ok.hK pe_j pe_j) (ha Z X W m H S ρ σ _ n (Post.bind h fun v S1 m1 H1 u e1 x1 R1 r1 q1 => ?_))
  split at q1
  · rename_i eb
    obtain ⟨a1, g1, g2⟩ := see1_some eb
    exact ⟨m1, a1, true, see_rs R1 r1 g1, g2, Post.now q1 R1 r1⟩
  · rename_i eb
    obtain ⟨a1, g1, g2⟩ := see1_some eb
    exact ⟨m1, a1, false, see_rs R1 r1 g1, g2, iteF (hb Z X W m1 H1 S1 ρ σ _ (n.step x1 R1) q1)⟩
  · exact q1.elim
theorem se_one {a : Expr} {op : BoolOp} {f : Sl → List PO → Out EV} {pos : Pos} (ha : SE G d x a f) : SE G d x (.BoolOp op [a] pos) f := fun Z X W m H S ρ σ Q n h => PE.j (pe_one pe_j) (ha Z X W m H S ρ σ Q n h)
theorem se_cmp {a b : Expr} {p q : PX} {o : COp} {pos : Pos} (ha : SE G d x a (evE G p)) (hb : SE G d x b (evE G q)) (hm : behindInMarks (copOf o) b = false) : SE G d x (.Compare a [copOf o] [b] pos) (evE G (.cmp o p q)) := by
  intro Z X W m H S ρ σ Q n h
  simp only [evE] at h
  refine PE.j (pe_cmpR (run_cmp n.ok.hK n.ok.room o) pe_j pe_j hm) (ha Z X W m H S ρ σ _ n (Post.bind h fun v S1 m1 H1 u e1 x1 R1 r1 q1 => hb Z X W m1 H1 S1 ρ σ _ (n.step x1 R1) (Post.bind q1 fun w S2 m2 H2 u2 e2 x2 R2 r2 q2 => ?_)))
  split at q2
  · rename_i z ez
    obtain ⟨a1, b1, g1, g2, g3⟩ := see2_some ez
    exact ⟨m2, a1, b1, z, see_rs R2 (r1.ext x2) g1, see_rs R2 r2 g2, g3, Post.now q2 R2 (.p (.bl _))⟩
  · exact q2.elim
theorem se_ix {a b : Expr} {p q : PX} {pos : Pos} (ha : SE G d x a (evE G p)) (hb : SE G d x b (evE G q)) (hs : PlainIx b) : SE G d x (.Subscript a b pos) (evE G (.ix p q)) := by
  intro Z X W m H S ρ σ Q n h
  simp only [evE] at h
  refine PE.j (pe_ix ((ix_run n.ok.hK n.ok.room).or (ix_rows n.ok.hK)) pe_j pe_j hs) (ha Z X W m H S ρ σ _ n (Post.bind h fun v S1 m1 H1 u e1 x1 R1 r1 q1 => hb Z X W m1 H1 S1 ρ σ _ (n.step x1 R1) (Post.bind q1 fun w S2 m2 H2 u2 e2 x2 R2 r2 q2 => ?_)))
  split at q2
  · rename_i z ez
    have plain : (see2 S2 v w ixP).map EV.p = some z → (rV Z ixP u u2 H2 Q ∨ ∃ (m : List Addr) (a : Addr) (is : List Nat) (us : List V) (k : Int) (i : Nat), u = .ref a ∧ u2 = .int k ∧ H2 a = some (.lst us) ∧ ReA Z m H2 (is.map .ref) us ∧ atI is k = some i ∧ ∀ u, Re Z m H2 (.ref i) u → Q u H2) := fun e => by
      obtain ⟨z1, e3, rfl⟩ := Option.map_eq_some_iff.mp e
      obtain ⟨a1, b1, g1, g2, g3⟩ := see2_some e3
      exact .inl ⟨m2, S2, a1, b1, z1, R2, see_rs R2 (r1.ext x2) g1, see_rs R2 r2 g2, g3, fun H' u' xe R' r' => q2 m2 H' u' xe R' (.p r')⟩
    cases v with
    | p v => exact plain ez
    | ref i =>
      simp only [ixE] at ez
      split at ez
      · rename_i is es
        split at ez
        · rename_i k
          obtain ⟨j, e3, rfl⟩ := Option.map_eq_some_iff.mp ez
          cases r2 with
          | p r2 =>
            cases r2
            cases r1.ext x2 with
            | ref hi =>
              rename_i a1
              obtain ⟨us, g1, g2⟩ := R2.ob i a1 _ hi es
              exact .inr ⟨m2, a1, is, us, k, j, rfl, rfl, g1, g2, e3, fun u' r' => Post.now q2 R2 r'⟩
        · cases ez
      · exact plain ez
  · exact q2.elim
end
end Rv
end PartRvF
section PartRvG
set_option Elab.async false
set_option linter.all false
set_option maxRecDepth 100000
set_option autoImplicit false
/-! Rv, part G: tests, displays, calls. -/
namespace Rv
open PySem PySem.Spec PyProof.Rows L2
section
variable {G : Gm} {d : Nat} {x : Sx}
/-! ### tests -/
theorem ST.of {e : Expr} {f : Sl → List PO → Out Bool} (h : SW G d x e f) : ST G d x e f := fun Z X W m H S ρ σ Q n q => PT.j (PW.pt pw_j) (h Z X W m H S ρ σ Q n q)
def plainTest : Expr → Bool
  | .UnaryOp .Not _ _ => false
  | .BoolOp _ _ _ => false
  | .IfExp _ _ _ _ => false
  | .Compare _ _ _ _ => false
  | _ => true
theorem plain_test {e : Expr} (h : plainTest e = true) (env : Env) (whole : Sem Value) : isTrue e env whole = (do let v ← whole; standAt e.pos; holding [v] (truthy v)) := by
  cases e with
  | UnaryOp o a p => cases o <;> first | rfl | cases h
  | BoolOp => cases h
  | IfExp => cases h
  | Compare => cases h
  | _ => rfl
theorem st_val {e : Expr} {p : PX} (ha : SE G d x e (evE G p)) (hp : plainTest e = true) : ST G d x e (evT G (.val p)) := by
  intro Z X W m H S ρ σ Q n h
  simp only [evT] at h
  intro pins s I
  refine isTrue_plain (thn (ha Z X W m H S ρ σ (fun u H1 => rTru Z u H1 Q) n (Post.bind h fun v S1 m1 H1 u e1 x1 R1 r1 q1 => ?_) pins s I) fun v s1 ⟨y, H1, I1, r1, q1⟩ => tru_run n.ok.hK pins s1 σ H1 y v Q I1 r1 q1) (plain_test hp _ _)
  split at q1
  · rename_i b eb
    obtain ⟨a1, g1, g2⟩ := see1_some eb
    exact ⟨m1, a1, b, see_rs R1 r1 g1, g2, Post.now q1 R1 rfl⟩
  · exact q1.elim
theorem st_not {a : Expr} {p : PB} {pos : Pos} (ha : ST G d x a (evT G p)) : ST G d x (.UnaryOp .Not a pos) (evT G (.not p)) := by
  intro Z X W m H S ρ σ Q n h
  simp only [evT] at h
  refine PT.j (pt_not pt_j) (ha Z X W m H S ρ σ _ n (Post.bind h fun v S1 m1 H1 u e1 x1 R1 r1 q1 => ?_))
  cases r1
  exact Post.now q1 R1 rfl
theorem sw_one {a : Expr} {op : BoolOp} {f : Sl → List PO → Out Bool} {pos : Pos} (ha : ST G d x a f) : SW G d x (.BoolOp op [a] pos) f := fun Z X W m H S ρ σ Q n h => by
  cases op with
  | And => exact PW.j (pw_and1 pt_j) (ha Z X W m H S ρ σ Q n h)
  | Or => exact PW.j (pw_or1 pt_j) (ha Z X W m H S ρ σ Q n h)
theorem sw_and {a b : Expr} {rest : List Expr} {p q : PB} {pos : Pos} (ha : ST G d x a (evT G p)) (hb : SW G d x (.BoolOp .And (b :: rest) pos) (evT G q)) : SW G d x (.BoolOp .And (a :: b :: rest) pos) (evT G (.and p q)) := by
  intro Z X W m H S ρ σ Q n h
  simp only [evT] at h
  refine PW.j (pw_and pt_j pw_j) (ha Z X W m H S ρ σ _ n (Post.bind h fun v S1 m1 H1 u e1 x1 R1 r1 q1 => ?_))
  cases r1
  cases v with
  | true => exact hb Z X W m1 H1 S1 ρ σ _ (n.step x1 R1) q1
  | false => exact iteF (Post.now q1 R1 rfl)
theorem sw_or {a b : Expr} {rest : List Expr} {p q : PB} {pos : Pos} (ha : ST G d x a (evT G p)) (hb : SW G d x (.BoolOp .Or (b :: rest) pos) (evT G q)) : SW G d x (.BoolOp .Or (a :: b :: rest) pos) (evT G (.or p q)) := by
  intro Z X W m H S ρ σ Q n h
  simp only [evT] at h
  refine PW.j (pw_or pt_j pw_j) (ha Z X W m H S ρ σ _ n (Post.bind h fun v S1 m1 H1 u e1 x1 R1 r1 q1 => ?_))
  cases r1
  cases v with
  | true => exact Post.now q1 R1 rfl
  | false => exact iteF (hb Z X W m1 H1 S1 ρ σ _ (n.step x1 R1) q1)
theorem st_cmp {a b : Expr} {p q : PX} {o : COp} {pos : Pos} (ha : SE G d x a (evE G p)) (hb : SE G d x b (evE G q)) (hm : behindInMarks (copOf o) b = false) : ST G d x (.Compare a [copOf o] [b] pos) (evT G (.cmp o p q)) := by
  intro Z X W m H S ρ σ Q n h
  simp only [evT] at h
  refine PT.j (pt_cmpR (run_cmp n.ok.hK n.ok.room o) pe_j pe_j hm) (ha Z X W m H S ρ σ _ n (Post.bind h fun v S1 m1 H1 u e1 x1 R1 r1 q1 => hb Z X W m1 H1 S1 ρ σ _ (n.step x1 R1) (Post.bind q1 fun w S2 m2 H2 u2 e2 x2 R2 r2 q2 => ?_)))
  split at q2
  · rename_i z ez
    obtain ⟨a1, b1, g1, g2, g3⟩ := see2_some ez
    exact ⟨m2, a1, b1, z, see_rs R2 (r1.ext x2) g1, see_rs R2 r2 g2, g3, z, rfl, Post.now q2 R2 rfl⟩
  · exact q2.elim
theorem se_chain {a b c : Expr} {p q r : PX} {o1 o2 : COp} {pos : Pos} (ha : SE G d x a (evE G p)) (hb : SE G d x b (evE G q)) (hc : SE G d x c (evE G r)) (hm : lastMarks [copOf o1, copOf o2] [b, c] = false) : SE G d x (.Compare a [copOf o1, copOf o2] [b, c] pos) (evE G (.chain o1 o2 p q r)) := by
  intro Z X W m H S ρ σ Q n h
  simp only [evE] at h
  refine PE.j (pe_chain (run_cmp n.ok.hK n.ok.room o1) (run_cmp n.ok.hK n.ok.room o2) pe_j pe_j pe_j hm) (ha Z X W m H S ρ σ _ n (Post.bind h fun v S1 m1 H1 u e1 x1 R1 r1 q1 => hb Z X W m1 H1 S1 ρ σ _ (n.step x1 R1) (Post.bind q1 fun w S2 m2 H2 u2 e2 x2 R2 r2 q2 => ?_)))
  split at q2
  · rename_i ez
    obtain ⟨a1, b1, g1, g2, g3⟩ := see2_some ez
    refine ⟨m2, a1, b1, true, see_rs R2 (r1.ext x2) g1, see_rs R2 r2 g2, g3, true, rfl, iteT ?_⟩
    refine hc Z X W m2 H2 S2 ρ σ _ ((n.step x1 R1).step x2 R2) (Post.bind q2 fun z S3 m3 H3 u3 e3 x3 R3 r3 q3 => ?_)
    split at q3
    · rename_i z2 ez2
      obtain ⟨a3, b3, f1, f2, f3⟩ := see2_some ez2
      exact ⟨m3, a3, b3, z2, see_rs R3 (r2.ext x3) f1, see_rs R3 r3 f2, f3, Post.now q3 R3 (.p (.bl _))⟩
    · exact q3.elim
  · rename_i ez
    obtain ⟨a1, b1, g1, g2, g3⟩ := see2_some ez
    exact ⟨m2, a1, b1, false, see_rs R2 (r1.ext x2) g1, see_rs R2 r2 g2, g3, false, rfl, iteF (Post.now q2 R2 (.p (.bl _)))⟩
  · exact q2.elim
theorem st_chain {a b c : Expr} {p q r : PX} {o1 o2 : COp} {pos : Pos} (ha : SE G d x a (evE G p)) (hb : SE G d x b (evE G q)) (hc : SE G d x c (evE G r)) (hm : lastMarks [copOf o1, copOf o2] [b, c] = false) : ST G d x (.Compare a [copOf o1, copOf o2] [b, c] pos) (evT G (.chain o1 o2 p q r)) := by
  intro Z X W m H S ρ σ Q n h
  simp only [evT] at h
  refine PT.j (pt_chain (run_cmp n.ok.hK n.ok.room o1) (run_cmp n.ok.hK n.ok.room o2) pe_j pe_j pe_j hm) (ha Z X W m H S ρ σ _ n (Post.bind h fun v S1 m1 H1 u e1 x1 R1 r1 q1 => hb Z X W m1 H1 S1 ρ σ _ (n.step x1 R1) (Post.bind q1 fun w S2 m2 H2 u2 e2 x2 R2 r2 q2 => ?_)))
  split at q2
  · rename_i ez
    obtain ⟨a1, b1, g1, g2, g3⟩ := see2_some ez
    refine ⟨m2, a1, b1, true, see_rs R2 (r1.ext x2) g1, see_rs R2 r2 g2, g3, true, rfl, iteT ?_⟩
    refine hc Z X W m2 H2 S2 ρ σ _ ((n.step x1 R1).step x2 R2) (Post.bind q2 fun z S3 m3 H3 u3 e3 x3 R3 r3 q3 => ?_)
    split at q3
    · rename_i z2 ez2
      obtain ⟨a3, b3, f1, f2, f3⟩ := see2_some ez2
      exact ⟨m3, a3, b3, z2, see_rs R3 (r2.ext x3) f1, see_rs R3 r3 f2, f3, z2, rfl, Post.now q3 R3 rfl⟩
    · exact q3.elim
  · rename_i ez
    obtain ⟨a1, b1, g1, g2, g3⟩ := see2_some ez
    exact ⟨m2, a1, b1, false, see_rs R2 (r1.ext x2) g1, see_rs R2 r2 g2, g3, false, rfl, iteF ⟨false, rfl, Post.now q2 R2 rfl⟩⟩
  · exact q2.elim
theorem se_ife {c a b : Expr} {t : PB} {p q : PX} {pos : Pos} (hc : ST G d x c (evT G t)) (ha : SE G d x a (evE G p)) (hb : SE G d x b (evE G q)) : SE G d x (.IfExp c a b pos) (evE G (.ife t p q)) := by
  intro Z X W m H S ρ σ Q n h
  simp only [evE] at h
  refine PE.j (pe_ifExp pt_j pe_j pe_j) (hc Z X W m H S ρ σ _ n (Post.bind h fun v S1 m1 H1 u e1 x1 R1 r1 q1 => ?_))
  cases r1
  cases v with
  | true => exact iteT (ha Z X W m1 H1 S1 ρ σ _ (n.step x1 R1) q1)
  | false => exact iteF (hb Z X W m1 H1 S1 ρ σ _ (n.step x1 R1) q1)
/-! ### slices -/
def jO (X : Cx) (e : Option Expr) : TO := fun σ H Q => ∀ (pins : List (Addr × Obj)) (s : Shared), Inv X pins σ H s → wpAny (model X.prog X.w) X.A (evalPart e X.env) (fun u s' => ∃ o H', Inv X pins σ H' s' ∧ IsPart u o ∧ Q o H') X.xe s
theorem po_j {X : Cx} {e : Option Expr} : L2.PO X e (jO X e) := ⟨fun pins s _ _ _ I h => h pins s I⟩
theorem PO.j {X : Cx} {e : Option Expr} {t : TO} {σ : L2.St} {H : Hp} {Q : Option Int → Hp → Prop} (h : L2.PO X e t) (q : t σ H Q) : jO X e σ H Q := fun pins s I => h.run pins s σ H Q I q
def SO (G : Gm) (d : Nat) (x : Sx) (e : Option Expr) (f : Sl → List PO → Out (Option Int)) : Prop :=
  ∀ (Z : St0) (X : Cx) (W : WX) (m : List Addr) (H : Hp) (S : List PO) (ρ : Sl) (σ : L2.St) (Q : Option Int → Hp → Prop), Now Z G d x X W m H S ρ σ → Post Z G W (fun _ _ a b => a = b) m H σ (f ρ S) Q → jO X e σ H Q
theorem so_none : SO G d x none (evO G none) := by
  intro Z X W m H S ρ σ Q n h
  simp only [evO] at h
  exact PO.j po_none (Post.now h n.rel rfl)
theorem so_some {e : Expr} {p : PX} (ha : SE G d x e (evE G p)) : SO G d x (some e) (evO G (some p)) := by
  intro Z X W m H S ρ σ Q n h
  simp only [evO] at h
  refine PO.j (po_some pe_j) (ha Z X W m H S ρ σ _ n (Post.bind h fun v S1 m1 H1 u e1 x1 R1 r1 q1 => ?_))
  split at q1
  · cases r1 with
    | p r1 => cases r1; exact ⟨_, rfl, Post.now q1 R1 rfl⟩
  · exact q1.elim
theorem se_sl {a : Expr} {lo hi : Option Expr} {p : PX} {l h : Option PX} {p2 pos : Pos} (ha : SE G d x a (evE G p)) (hl : SO G d x lo (evO G l)) (hh : SO G d x hi (evO G h)) : SE G d x (.Subscript a (.Slice lo hi none p2) pos) (evE G (.sl p l h)) := by
  intro Z X W m H S ρ σ Q n hp
  simp only [evE] at hp
  refine PE.j (pe_slice (sl_run n.ok.hK) pe_j po_j po_j) (ha Z X W m H S ρ σ _ n (Post.bind hp fun v S1 m1 H1 u e1 x1 R1 r1 q1 => hl Z X W m1 H1 S1 ρ σ _ (n.step x1 R1) (Post.bind q1 fun i S2 m2 H2 u2 e2 x2 R2 r2 q2 =>
    hh Z X W m2 H2 S2 ρ σ _ ((n.step x1 R1).step x2 R2) (Post.bind q2 fun j S3 m3 H3 u3 e3 x3 R3 r3 q3 => ?_))))
  cases r2
  cases r3
  split at q3
  · rename_i b eb
    obtain ⟨a1, g1, g2⟩ := see1_some eb
    exact ⟨m3, S3, a1, b, R3, see_rs R3 ((r1.ext x2).ext x3) g1, g2, fun H' u' xe R' r' => q3 m3 H' u' xe R' (.p r')⟩
  · exact q3.elim
theorem sl_sl {a : Expr} {lo hi : Option Expr} {p : PX} {l h : Option PX} {p2 pos : Pos} (ha : SE G d x a (evE G p)) (hl : SO G d x lo (evO G l)) (hh : SO G d x hi (evO G h)) : SL G d x (.Subscript a (.Slice lo hi none p2) pos) (evL G (.sl p l h)) := by
  intro Z X W m H S ρ σ Q n hp
  simp only [evL] at hp
  refine PE.j (pe_slice (sl_runL n.ok.hK) pe_j po_j po_j) (ha Z X W m H S ρ σ _ n (Post.bind hp fun v S1 m1 H1 u e1 x1 R1 r1 q1 => hl Z X W m1 H1 S1 ρ σ _ (n.step x1 R1) (Post.bind q1 fun i S2 m2 H2 u2 e2 x2 R2 r2 q2 =>
    hh Z X W m2 H2 S2 ρ σ _ ((n.step x1 R1).step x2 R2) (Post.bind q2 fun j S3 m3 H3 u3 e3 x3 R3 r3 q3 => ?_))))
  cases r2
  cases r3
  split at q3
  · rename_i b eb
    obtain ⟨a1, g1, g2⟩ := see1_some eb
    exact ⟨m3, a1, b, see_rs R3 ((r1.ext x2).ext x3) g1, g2, fun us r' p hp => Post.now q3 R3 (ReA.of r') p hp⟩
  · exact q3.elim
/-! ### displays -/
theorem asPs_rel {Z : St0} {m : List Addr} {H : Hp} : ∀ {vs : List EV} {us : List V} {xs : List PV}, ReA Z m H vs us → asPs vs = some xs → RpA Z m H xs us
  | _, _, _, .nil, h => by simp only [asPs] at h; cases h; exact .nil
  | _, _, _, .cons r rs, h => by
    simp only [asPs] at h
    split at h
    · rename_i v e1
      split at h
      · rename_i vs e2
        cases h
        cases r with
        | p r => cases e1; exact .cons r (asPs_rel rs e2)
        | ref r => cases e1
      · cases h
    · cases h
theorem asRs_rel {Z : St0} {m : List Addr} {H : Hp} : ∀ {vs : List EV} {us : List V} {is : List Nat}, ReA Z m H vs us → asRs vs = some is → ReA Z m H (is.map .ref) us
  | _, _, _, .nil, h => by simp only [asRs] at h; cases h; exact .nil
  | _, _, _, .cons r rs, h => by
    simp only [asRs] at h
    split at h
    · rename_i v e1
      split at h
      · rename_i vs e2
        cases h
        cases r with
        | p r => cases e1
        | ref r => cases e1; exact .cons (.ref r) (asRs_rel rs e2)
      · cases h
    · cases h
theorem evEs_length (G : Gm) : ∀ (es : List PX) (ρ : Sl) (S : List PO) (vs : List EV) (S1 : List PO), evEs G es ρ S = .ok vs S1 → vs.length = es.length := by
  intro es
  induction es with
  | nil => intro ρ S vs S1 h; simp only [evEs] at h; cases h; rfl
  | cons e es ih =>
    intro ρ S vs S1 h
    simp only [evEs] at h
    cases e1 : evE G e ρ S with
    | ok v S2 =>
      rw [e1] at h
      simp only [Out.bind] at h
      cases e2 : evEs G es ρ S2 with
      | ok ws S3 =>
        rw [e2] at h
        cases h
        rw [List.length_cons, List.length_cons, ih ρ S2 ws _ e2]
      | exc c fs S3 => rw [e2] at h; cases h
      | stuck => rw [e2] at h; cases h
    | exc c fs S3 => rw [e1] at h; cases h
    | stuck => rw [e1] at h; cases h
theorem se_tup {es : List Expr} {ps : List PX} {k : Nat} {pos : Pos} (ha : SA G d x es (evEs G ps)) (hl : ps.length ≤ lim) : SE G d x (.Tuple es k pos) (evE G (.tup ps)) := by
  intro Z X W m H S ρ σ Q n h
  simp only [evE] at h
  refine PE.j (pe_tup pa_j) (ha Z X W m H S ρ σ _ n ?_)
  cases e : evEs G ps ρ S with
  | ok vs S1 =>
    rw [e] at h
    have hv := evEs_length G ps ρ S vs S1 e
    intro m1 H1 us x1 R1 r1
    have hlen := r1.length
    refine ⟨by rw [← hlen, hv]; exact Nat.le_trans hl lim_le, fun p hp => ?_⟩
    simp only at h
    split at h
    · rename_i xs e2
      exact h m1 _ _ (x1.trans (Ext.alloc hp)) (R1.alloc hp) (.p (.tup upd_same ((asPs_rel r1 e2).ext (Ext.alloc hp))))
    · exact h.elim
  | exc c fs S1 => rw [e] at h; exact h
  | stuck => rw [e] at h; exact h
theorem sl_disp {es : List Expr} {ps : List PX} {pos : Pos} (ha : SA G d x es (evEs G ps)) (hl : ps.length ≤ lim) : SL G d x (.List es pos) (evL G (.disp ps)) := by
  intro Z X W m H S ρ σ Q n h
  simp only [evL] at h
  refine PE.j (pe_lst pa_j) (ha Z X W m H S ρ σ _ n ?_)
  cases e : evEs G ps ρ S with
  | ok vs S1 =>
    rw [e] at h
    have hv := evEs_length G ps ρ S vs S1 e
    intro m1 H1 us x1 R1 r1
    have hlen := r1.length
    exact ⟨by rw [← hlen, hv]; exact Nat.le_trans hl lim_le, fun p hp => h m1 H1 us x1 R1 r1 p hp⟩
  | exc c fs S1 => rw [e] at h; exact h
  | stuck => rw [e] at h; exact h
theorem fre_new {Z : St0} {m : List Addr} {S : List PO} {H : Hp} (R : Rel Z m S H) {p : Addr} (hp : H p = none) : Fre Z m p := ⟨fun f => R.fr p f hp, fun q => R.ne q hp⟩
theorem se_lst {e : Expr} {l : PL} (ha : SL G d x e (evL G l)) : SE G d x e (evE G (.lst l)) := by
  intro Z X W m H S ρ σ Q n h
  simp only [evE] at h
  refine ha Z X W m H S ρ σ Q n ?_
  cases e : evL G l ρ S with
  | ok vs S1 =>
    rw [e] at h
    intro m1 H1 us x1 R1 r1 p hp
    simp only at h
    split at h
    · rename_i xs e2
      exact h m1 _ _ (x1.trans (Ext.alloc hp)) (R1.alloc hp) (.p (.lst upd_same (fre_new R1 hp) ((asPs_rel r1 e2).ext (Ext.alloc hp))))
    · exact h.elim
  | exc c fs S1 => rw [e] at h; exact h
  | stuck => rw [e] at h; exact h
theorem se_mut {e : Expr} {l : PL} (ha : SL G d x e (evL G l)) : SE G d x e (evE G (.mut l)) := by
  intro Z X W m H S ρ σ Q n h
  simp only [evE] at h
  refine ha Z X W m H S ρ σ Q n ?_
  cases e : evL G l ρ S with
  | ok vs S1 =>
    rw [e] at h
    intro m1 H1 us x1 R1 r1 p hp
    have hm : (m1 ++ [p])[S1.length]? = some p := by
      rw [← R1.len, List.getElem?_append_right (Nat.le_refl _), Nat.sub_self]; rfl
    simp only at h
    split at h
    · rename_i xs e2
      exact h (m1 ++ [p]) _ _ (x1.trans (Ext.allocM hp)) (R1.allocM hp ⟨us, upd_same, (asPs_rel r1 e2).ext (Ext.allocM hp)⟩) (.ref hm)
    · split at h
      · rename_i is e2
        exact h (m1 ++ [p]) _ _ (x1.trans (Ext.allocM hp)) (R1.allocM hp ⟨us, upd_same, (asRs_rel r1 e2).ext (Ext.allocM hp)⟩) (.ref hm)
      · exact h.elim
  | exc c fs S1 => rw [e] at h; exact h
  | stuck => rw [e] at h; exact h
/-! ### built-in functions -/
theorem sees_rel {Z : St0} {m : List Addr} {H : Hp} {S : List PO} (R : Rel Z m S H) : ∀ {vs : List EV} {us : List V} {xs : List PV}, ReA Z m H vs us → sees S vs = some xs → RsA Z m H xs us
  | _, _, _, .nil, h => by simp only [sees] at h; cases h; exact .nil
  | _, _, _, .cons r rs, h => by
    simp only [sees] at h
    split at h
    · rename_i v e1
      split at h
      · rename_i vs e2
        cases h
        exact .cons (see_rs R r e1) (sees_rel R rs e2)
      · cases h
    · cases h
/-- how a built-in function is called: by its name, its rule -/
def BiOk (G : Gm) (d : Nat) (x : Sx) (y : Str) (r : St0 → List V → Hp → VK → Prop) : Prop :=
  ∀ (Z : St0) (X : Cx) (e : Expr) (es : List Expr) (t : TA) (p pos : Pos), XOk Z G d x X → PA X (e :: es) t → starB e = false → es.all (fun e => !starB e) = true → PE X (.Call (.Name y p) (e :: es) [] pos) (tCB (r Z) t)
theorem se_bi {y : Str} {b : BI} {e : Expr} {es : List Expr} {ps : List PX} {p pos : Pos} (hb : BiOk G d x y fun Z => rC Z (bi b)) (ha : SA G d x (e :: es) (evEs G ps)) (h1 : starB e = false) (h2 : es.all (fun e => !starB e) = true) :
    SE G d x (.Call (.Name y p) (e :: es) [] pos) (evE G (.bi b ps)) := by
  intro Z X W m H S ρ σ Q n h
  simp only [evE] at h
  refine PE.j (hb Z X e es _ p pos n.ok pa_j h1 h2) (ha Z X W m H S ρ σ _ n (Post.bind h fun vs S1 m1 H1 us e1 x1 R1 r1 q1 => ?_))
  split at q1
  · rename_i xs e2
    split at q1
    · rename_i v e3
      exact ⟨m1, S1, xs, v, R1, sees_rel R1 r1 e2, e3, fun H' u xe R' r' => q1 m1 H' u xe R' (.p r')⟩
    · exact q1.elim
  · exact q1.elim
theorem sl_bi {y : Str} {b : BL} {e : Expr} {es : List Expr} {ps : List PX} {p pos : Pos} (hb : BiOk G d x y fun Z => rCL Z (biL b)) (ha : SA G d x (e :: es) (evEs G ps)) (h1 : starB e = false) (h2 : es.all (fun e => !starB e) = true) :
    SL G d x (.Call (.Name y p) (e :: es) [] pos) (evL G (.bi b ps)) := by
  intro Z X W m H S ρ σ Q n h
  simp only [evL] at h
  refine PE.j (hb Z X e es _ p pos n.ok pa_j h1 h2) (ha Z X W m H S ρ σ _ n (Post.bind h fun vs S1 m1 H1 us e1 x1 R1 r1 q1 => ?_))
  split at q1
  · rename_i xs e2
    split at q1
    · rename_i v e3
      exact ⟨m1, S1, xs, v, R1, sees_rel R1 r1 e2, e3, fun us r' p hp => Post.now q1 R1 (ReA.of r') p hp⟩
    · exact q1.elim
  · exact q1.elim
theorem bi_fun {y : Str} {id : String} {r : St0 → List V → Hp → VK → Prop} (hf : y ∈ G.free) (hg : glB x.sc y = true) (hv : bootBuiltins y = some (.builtin id)) (hn : y ≠ "__name__") (hd : (y == ("__debug__" : Str)) = false)
    (hc : ∀ Z X, XOk Z G d x X → CallR X (.builtin id) (r Z)) : BiOk G d x y r := fun Z X e es t p pos ok ha h1 h2 => pe_callB (hc Z X ok) (gl_of ok.hs hg) (ok.free y hf) hv ha hn hd (star_cons h1) (star_none h2)
theorem bi_ty {y : Str} {id : String} {r : St0 → List V → Hp → VK → Prop} (hf : y ∈ G.free) (hg : glB x.sc y = true) (hv : bootBuiltins y = some (.type id)) (hn : y ≠ "__name__") (hd : (y == ("__debug__" : Str)) = false)
    (hc : ∀ Z X, XOk Z G d x X → CallR X (.type id) (r Z)) : BiOk G d x y r := fun Z X e es t p pos ok ha h1 h2 => pe_callTy (hc Z X ok) (gl_of ok.hs hg) (ok.free y hf) hv ha hn hd (star_cons h1) (star_none h2)
end
end Rv
end PartRvG
section PartRvH
set_option Elab.async false
set_option linter.all false
set_option maxRecDepth 100000
set_option autoImplicit false
/-! Rv, part H: calls of defs. -/
namespace Rv
open PySem PySem.Spec PyProof.Rows L2
section
variable {K : PySem.W.Frag} {ad : Adr} {hx : Option (Addr × Obj)} {F F' : Addr → Prop} {m m' : List Addr} {H H' : Hp}
/-! the same values, other addresses kept apart -/
mutual
theorem Rp.shiftA (k : ∀ a, H a ≠ none → Fre ⟨K, ad, F, hx⟩ m a → Fre ⟨K, ad, F', hx⟩ m' a) : ∀ {v : PV} {u : V}, Rp ⟨K, ad, F, hx⟩ m H v u → Rp ⟨K, ad, F', hx⟩ m' H v u
  | _, _, .non => .non
  | _, _, .bl b => .bl b
  | _, _, .int b => .int b
  | _, _, .str b => .str b
  | _, _, .ty b => .ty b
  | _, _, .tup h r => .tup h (RpA.shiftA k r)
  | _, _, .lst h f r => .lst h (k _ (by rw [h]; simp) f) (RpA.shiftA k r)
  | _, _, .rd h r => .rd (h.elim (fun h => .inl ⟨h.1, k _ (Rd.ne h.1) h.2⟩) .inr) (RpA.shiftA k r)
  | _, _, .dct h f l r => .dct h (k _ (Rd.ne h) f) l (RpA.shiftA k r)
  | _, _, .dtt h f l r => .dtt h (k _ (Rd.ne h) f) l (RpA.shiftA k r)
  | _, _, .fn i => .fn i
  | _, _, .cls i => .cls i
  | _, _, .exn h1 h2 h3 h4 => .exn h1 h2 h3 h4
theorem RpA.shiftA (k : ∀ a, H a ≠ none → Fre ⟨K, ad, F, hx⟩ m a → Fre ⟨K, ad, F', hx⟩ m' a) : ∀ {v : List PV} {u : List V}, RpA ⟨K, ad, F, hx⟩ m H v u → RpA ⟨K, ad, F', hx⟩ m' H v u
  | _, _, .nil => .nil
  | _, _, .cons h r => .cons (Rp.shiftA k h) (RpA.shiftA k r)
end
theorem Rp.shift (k : ∀ a, Fre ⟨K, ad, F, hx⟩ m a → Fre ⟨K, ad, F', hx⟩ m' a) {v : PV} {u : V} (r : Rp ⟨K, ad, F, hx⟩ m H v u) : Rp ⟨K, ad, F', hx⟩ m' H v u := Rp.shiftA (fun a _ => k a) r
theorem RpA.shift (k : ∀ a, Fre ⟨K, ad, F, hx⟩ m a → Fre ⟨K, ad, F', hx⟩ m' a) {v : List PV} {u : List V} (r : RpA ⟨K, ad, F, hx⟩ m H v u) : RpA ⟨K, ad, F', hx⟩ m' H v u := RpA.shiftA (fun a _ => k a) r
/-- a flat value has no address of its own -/
theorem flatP_rel {Z Z' : St0} {v : PV} {u : V} (r : Rp Z m H v u) (h : flatP v = true) : Rp Z' m' H v u := by
  cases r with
  | non => exact .non
  | bl b => exact .bl b
  | int b => exact .int b
  | str b => exact .str b
  | _ => cases h
theorem flatAll_rel {Z Z' : St0} {p : PV → Bool} (hp : ∀ (v : PV) (u : V), Rp Z m H v u → p v = true → Rp Z' m' H v u) : ∀ {v : List PV} {u : List V}, RpA Z m H v u → v.all p = true → RpA Z' m' H v u
  | _, _, .nil, _ => .nil
  | _, _, .cons r rs, h => by
    rw [List.all_cons, Bool.and_eq_true] at h
    exact .cons (hp _ _ r h.1) (flatAll_rel hp rs h.2)
theorem flatN_rel {Z Z' : St0} : ∀ (n : Nat) (v : PV) (u : V), Rp Z m H v u → flatN n v = true → Rp Z' m' H v u
  | 0, v, u, r, h => flatP_rel r h
  | n + 1, v, u, r, h => by
    cases r with
    | tup h1 r => exact .tup h1 (flatAll_rel (flatN_rel n) r h)
    | non => exact .non
    | bl b => exact .bl b
    | int b => exact .int b
    | str b => exact .str b
    | _ => cases h
theorem flatR_rel {Z Z' : St0} {v : PV} {u : V} (r : Rp Z m H v u) (h : flatR v = true) : Rp Z' m' H v u := by
  cases r with
  | tup h1 r => exact .tup h1 (flatAll_rel (flatN_rel 3) r h)
  | non => exact .non
  | bl b => exact .bl b
  | int b => exact .int b
  | str b => exact .str b
  | _ => cases h
theorem asPs_evs {Z : St0} : ∀ {vs : List PV} {us : List V}, RpA Z m H vs us → ReA Z m H (vs.map EV.p) us := fun h => ReA.of h
/-- what is handed back, as a plain value -/
theorem frzE_rel {S : List PO} (R : Rel ⟨K, ad, F, hx⟩ m S H) {v : EV} {u : V} {w : PV} (r : Re ⟨K, ad, F, hx⟩ m H v u) (h : frzE S v = some w) : Rp ⟨K, ad, F, hx⟩ [] H w u := by
  have nil : ∀ a, Fre ⟨K, ad, F, hx⟩ m a → Fre ⟨K, ad, F, hx⟩ [] a := fun a f => ⟨f.1, fun q => by cases q⟩
  have own : ∀ {a : Addr} {i : Nat}, m[i]? = some a → Fre ⟨K, ad, F, hx⟩ [] a := fun {a i} q => ⟨R.dj a (List.mem_of_getElem? q), fun q => by cases q⟩
  cases r with
  | p r => cases h; exact r.shift nil
  | ref hi =>
    rename_i i a
    simp only [frzE] at h
    cases e : S[i]? with
    | none => rw [e] at h; cases h
    | some o =>
      rw [e] at h
      have q := R.ob i a o hi e
      cases o with
      | lst xs => cases h; obtain ⟨us, g1, g2⟩ := q; exact .lst g1 (own hi) (g2.shift nil)
      | dct ks vs => cases h; obtain ⟨us, g1, g2, g3⟩ := q; exact .dct (.inl g1) (own hi) g2 (g3.shift nil)
      | dtt ks vs => cases h; obtain ⟨us, g1, g2, g3⟩ := q; exact .dtt (.inl g1) (own hi) g2 (g3.shift nil)
      | rows is =>
        simp only at h
        split at h
        · rename_i l el
          cases h
          obtain ⟨us, g1, g2⟩ := q
          refine .lst g1 (own hi) ?_
          clear e hi g1
          induction is generalizing us l with
          | nil => rw [List.mapM_nil] at el; cases el; cases g2; exact .nil
          | cons j is ih =>
            obtain ⟨y, ys, e1, e2, rfl⟩ := mapM_cons el
            cases g2 with
            | cons g2 g3 =>
              refine .cons ?_ (ih _ e2 _ g3)
              cases g2 with
              | ref hj =>
                rename_i b
                split at e1
                · rename_i xs ej
                  cases e1
                  obtain ⟨us2, f1, f2⟩ := R.ob j b _ hj ej
                  exact .lst f1 (own hj) (f2.shift nil)
                · cases e1
        · cases h
      | lck ks vs => cases h
      | lct ks vs => cases h
theorem frzR_rel {S : List PO} (R : Rel ⟨K, ad, F, hx⟩ m S H) {v : RV} {u : V} {w : PV} (r : RpR ⟨K, ad, F, hx⟩ m H v u) (h : frzR S v = some w) : Rp ⟨K, ad, F, hx⟩ [] H w u := by
  cases r with
  | e r => exact frzE_rel R r h
  | t ht r =>
    obtain ⟨ws, e, rfl⟩ := Option.map_eq_some_iff.mp h
    refine .tup ht ?_
    clear ht h
    induction r generalizing ws with
    | nil => rw [List.mapM_nil] at e; cases e; exact .nil
    | cons r rs ih =>
      obtain ⟨y, ys, e1, e2, rfl⟩ := mapM_cons e
      exact .cons (frzE_rel R r e1) (ih _ e2)
end
/-- a caller's state behind a callee that had a store of its own -/
theorem ext_back {m m' : List Addr} {H H' : Hp} (e : Ext [] H m' H') : Ext m H m H' :=
  ⟨⟨[], by simp⟩, fun a o h _ => e.keep a o h (by simp), e.alive, fun a h => .inl h, e.tp⟩
theorem rel_back {Z : St0} {m m' : List Addr} {S : List PO} {H H' : Hp} (R : Rel Z m S H) (e : Ext [] H m' H') : Rel Z m S H' := by
  refine ⟨R.len, R.nd, fun i a o h1 h2 => ?_, fun a f => e.alive a (R.fr a f), R.dj⟩
  have hne := R.ne (List.mem_of_getElem? h1)
  cases q : H a with
  | none => exact absurd q hne
  | some u => exact (R.ob i a o h1 h2).ext (ext_back e) ((e.keep a u q (by simp)).trans q.symm)
section
variable {G : Gm} {d : Nat} {x : Sx}
theorem rel_nil {K : PySem.W.Frag} {ad : Adr} {hx : Option (Addr × Obj)} {F : Addr → Prop} {H : Hp} (h : ∀ a, F a → H a ≠ none) : Rel ⟨K, ad, F, hx⟩ [] [] H :=
  ⟨rfl, List.nodup_nil, fun i a o h1 => by simp at h1, h, fun a h => by cases h⟩
theorem asPs_map : ∀ vs : List PV, asPs (vs.map EV.p) = some vs
  | [] => rfl
  | v :: vs => by
    rw [List.map_cons, asPs, asPs_map vs]; rfl
theorem asPs_len : ∀ {vs : List EV} {xs : List PV}, asPs vs = some xs → xs.length = vs.length
  | [], _, h => by simp only [asPs] at h; cases h; rfl
  | v :: vs, _, h => by
    simp only [asPs] at h
    split at h
    · split at h
      · rename_i e; cases h; rw [List.length_cons, List.length_cons, asPs_len e]
      · cases h
    · cases h
theorem sees_len {S : List PO} : ∀ {vs : List EV} {xs : List PV}, sees S vs = some xs → xs.length = vs.length
  | [], _, h => by simp only [sees] at h; cases h; rfl
  | v :: vs, _, h => by
    simp only [sees] at h
    split at h
    · split at h
      · rename_i e; cases h; rw [List.length_cons, List.length_cons, sees_len e]
      · cases h
    · cases h
theorem rsA_free {K : PySem.W.Frag} {ad : Adr} {hx : Option (Addr × Obj)} {F : Addr → Prop} {m : List Addr} {H : Hp} : ∀ {vs : List PV} {us : List V}, RsA ⟨K, ad, F, hx⟩ m H vs us → RpA ⟨K, ad, fun _ => False, hx⟩ [] H vs us
  | _, _, .nil => .nil
  | _, _, .cons r rs => by
    have fr : ∀ a, Fre ⟨K, ad, fun _ => False, hx⟩ [] a := fun a => ⟨fun f => f, fun q => by cases q⟩
    refine .cons ?_ (rsA_free rs)
    cases r with
    | p r => exact r.shift fun a _ => fr a
    | lst h r => exact .lst h (fr _) (r.shift fun a _ => fr a)
    | dct h l r => exact .dct h (fr _) l (r.shift fun a _ => fr a)
    | dtt h l r => exact .dtt h (fr _) l (r.shift fun a _ => fr a)
/-- a call by the plain reading keeps what the def promises -/
theorem pcall_ok {Z : St0} {W : WX} {m : List Addr} {H : Hp} {S : List PO} {σ : L2.St} {Q : VK} {i n : Nat} {args : List EV} {us : List V} (R : Rel Z m S H) (ra : ReA Z m H args us) (hn : args.length = n)
    (h : Post Z G W (Re Z) m H σ (pcall G i args S) Q) : spOf Z.K Z.ad Z.hx G i n us H Q (WE W σ) := by
  obtain ⟨K, ad, F, hx⟩ := Z
  unfold pcall at h
  split at h
  · rename_i vs e
    have rp := asPs_rel ra e
    have fre : ∀ a, Fre ⟨K, ad, F, hx⟩ m a → Fre ⟨K, ad, fun a => F a ∨ a ∈ m, hx⟩ [] a := fun a f => ⟨fun q => q.elim f.1 f.2, fun q => by cases q⟩
    have erf : ∀ m' a, Fre ⟨K, ad, fun a => F a ∨ a ∈ m, hx⟩ m' a → Fre ⟨K, ad, F, hx⟩ m a := fun m' a f => ⟨fun q => f.1 (.inl q), fun q => f.1 (.inr q)⟩
    refine ⟨fun a => F a ∨ a ∈ m, [], [], vs.map EV.p, by rw [List.length_map, asPs_len e]; exact hn, rel_nil fun a q => q.elim (R.fr a) (fun q => R.ne q), ReA.of (rp.shift fre), ?_⟩
    cases ec : G.call i (vs.map EV.p) [] with
    | ok r S' =>
      rw [ec] at h
      intro m' H' u x1 R1 r1
      simp only at h
      split at h
      · rename_i w ew
        exact h m H' u (ext_back x1) (rel_back R x1) (.p ((frzR_rel R1 r1 ew).shift (erf [])))
      · exact h.elim
    | exc c fs S' =>
      rw [ec] at h
      intro m' H' dd x1 R1 r1
      refine h m H' dd (ext_back x1) (rel_back R x1) ?_
      have k := erf m'
      revert r1
      unfold RpX
      split
      · exact fun r => r
      · rintro ⟨a, us, h1, h2, h3, h4⟩
        exact ⟨a, us, h1, h2, h3, h4.shift k⟩
    | stuck => rw [ec] at h; exact h
  · split at h
    · rename_i vs e
      have rp := rsA_free (sees_rel R ra e)
      refine ⟨fun _ => False, [], [], vs.map EV.p, by rw [List.length_map, sees_len e]; exact hn, rel_nil fun a q => q.elim, ReA.of rp, ?_⟩
      cases ec : G.call i (vs.map EV.p) [] with
      | ok r S' =>
        rw [ec] at h
        intro m' H' u x1 R1 r1
        simp only at h
        split at h
        · rename_i w ew
          split at h
          · rename_i ef
            exact h m H' u (ext_back x1) (rel_back R x1) (.p (flatR_rel (frzR_rel R1 r1 ew) ef))
          · exact h.elim
        · exact h.elim
      | exc c fs S' => rw [ec] at h; exact h.elim
      | stuck => rw [ec] at h; exact h.elim
    · exact h.elim
theorem run_fnQ {X : Cx} {CX : CXT} {k : Nat} {f : Addr} {fd : FuncData} {ps : List Str} {sp : Sp} {E : L2.St → XK} {pins : List (Addr × Obj)} {σ : L2.St} {H : Hp} {s : Shared} {Q : VK} {us : List Value} {vs : List V} {p : Addr × Obj} (F : FnQ X.prog X.w X.K X.mg X.base CX p k f fd ps sp) (hr : L2H.RoomH k X.A) (hot : L2H.Hot1 X.A p) (hp : p ∈ X.pn)
    (hb : Binds X.K fd ps []) (hx : PassesAt CX X σ (E σ)) (I : Inv X pins σ H s) (r : Vals vs us) (h : sp vs H Q (E σ)) : wpAny (model X.prog X.w) X.A (call (.ref f) us) (EP X pins σ Q) X.xe s := by
  have hl : us.length = ps.length := by rw [← r.length]; exact F.len _ _ _ _ h
  have b := hb s us I.kIn (by rw [List.append_nil]; exact hl)
  rw [List.append_nil] at b
  have P1 := I.pin p (List.mem_append_left _ hp)
  have hpin : L2H.PinOk X.stack H s p := ⟨P1.1, P1.2.1, fun hm => (List.mem_cons.mp (I.stkSub p.1 hm)).elim P1.2.2.1 P1.2.2.2.1, P1.2.2.2.2⟩
  refine wpAny_call (codeAny_mono (F.run X.A X.stack s H ⟨us, []⟩ us vs Q (E σ) hr hot hpin I.env0 b r h) fun r s' hq => ?_)
  cases r with
  | error e => exact hx pins H s e s' I hq
  | ok fl =>
    cases fl with
    | ret u => exact I.after hq
    | next => exact False.elim hq
    | brk => exact False.elim hq
    | cont => exact False.elim hq
/-- a def is called, calm or hot -/
theorem run_def {Z : St0} {X : Cx} {W : WX} {i : Nat} {f : FnI} {pins : List (Addr × Obj)} {σ : L2.St} {H : Hp} {s : Shared} {Q : VK} {us : List Value} {vs : List V} (ok : XOk Z G d x X) (tk : L2N.Takes X W) (hi : G.fns[i]? = some f) (hh : x.hot = false ∨ G.hot i = true)
    (I : Inv X pins σ H s) (r : Vals vs us) (h : spOf Z.K Z.ad Z.hx G i f.ps.length vs H Q (WE W σ)) : wpAny (model X.prog X.w) X.A (call (.ref (Z.ad.fn i)) us) (EP X pins σ Q) X.xe s := by
  obtain ⟨fd, hm, hk, hb, hF, hQ⟩ := ok.fns i f hi
  rw [← ok.hK] at h
  cases e : x.hot with
  | false =>
    obtain ⟨c1, c2, c3⟩ := ok.calm e
    rw [c3] at h
    exact run_fnS (E := WE W) hF c2 hb (L2N.passAt tk σ) I r h
  | true =>
    obtain ⟨p, h1, h2, h3⟩ := ok.hotc e
    rw [h1] at h
    refine run_fnQ (E := WE W) (hQ (hh.elim (fun z => ?_) id) p) ok.room h2 h3 hb (L2N.passAt tk σ) I r h
    rw [e] at z; cases z
theorem se_call {i : Nat} {f : FnI} {e : Expr} {es : List Expr} {ps : List PX} {p pos : Pos} (hi : G.fns[i]? = some f) (hh : x.hot = false ∨ G.hot i = true) (hg : glB x.sc f.name = true) (hd : (f.name == ("__debug__" : Str)) = false) (ha : SA G d x (e :: es) (evEs G ps)) (hl : ps.length = f.ps.length)
    (h1 : starB e = false) (h2 : es.all (fun e => !starB e) = true) : SE G d x (.Call (.Name f.name p) (e :: es) [] pos) (evE G (.call i ps)) := by
  intro Z X W m H S ρ σ Q n h
  simp only [evE] at h
  have hf := n.ok.fns i f hi
  obtain ⟨fd, hm, hk, _⟩ := hf
  have ht := ha Z X W m H S ρ σ (fun vs H1 => spOf Z.K Z.ad Z.hx G i f.ps.length vs H1 Q (WE W σ)) n (Post.bind h fun vs S1 m1 H1 us e1 x1 R1 r1 q1 => pcall_ok R1 r1 ((evEs_length G ps ρ S vs S1 e1).trans hl) q1)
  intro pins s I
  refine wpAny_Call_Name_kw (ld_glob I (gl_of n.ok.hs hg) hm ?_ hd)
  refine PySem.W.callWith_K (h₀ := X.base) I.ok.mod.kin hk (thn (ht pos pins s I) fun us s1 ⟨vs, H1, I1, r, q⟩ => ⟨I1.kIn, ?_⟩) (star_cons h1) (star_none h2)
  exact run_def n.ok n.tk hi hh I1 r q
/-- a call of a local name that holds a def -/
theorem se_callv {i : Nat} {y : Str} {e : Expr} {es : List Expr} {ps : List PX} {p pos : Pos} (hN : x.N[i]? = some y) (hv : visB x.sc y = true) (hd : (y == ("__debug__" : Str)) = false) (hc : (y == ("__classdict__" : Str)) = false) (hh : x.hot = false) (ha : SA G d x (e :: es) (evEs G ps))
    (h1 : starB e = false) (h2 : es.all (fun e => !starB e) = true) : SE G d x (.Call (.Name y p) (e :: es) [] pos) (evE G (.callv i ps)) := by
  intro Z X W m H S ρ σ Q n h
  simp only [evE] at h
  split at h
  · rename_i f e0
    obtain ⟨u, hu, r0⟩ := n.env.2 i _ e0
    split at h
    · rename_i fi ef
      obtain ⟨fd, hm, hk, hb, _⟩ := n.ok.fns f fi ef
      cases r0 with
      | p r0 =>
        cases r0
        split at h
        · rename_i hl
          have ht := ha Z X W m H S ρ σ (fun vs H1 => spOf Z.K Z.ad Z.hx G f fi.ps.length vs H1 Q (WE W σ)) n (Post.bind h fun vs S1 m1 H1 us e1 x1 R1 r1 q1 => pcall_ok R1 r1 ((evEs_length G ps ρ S vs S1 e1).trans hl) q1)
          intro pins s I
          refine wpAny_Call_Name_kw (thn ((pe_var (pos := p) (by rw [n.ok.hN]; exact hN) (by rw [n.ok.hs]; exact vis_of hv) hd hc).run pins s σ H (fun v H1 => v = .ref (Z.ad.fn f) ∧ H1 = H) I ⟨_, hu, rfl, rfl⟩) fun u s1 ⟨v, H1, I1, r1, q1⟩ => ?_)
          obtain ⟨rfl, rfl⟩ := q1
          cases r1
          refine PySem.W.callWith_K (h₀ := X.base) I.ok.mod.kin hk (thn (ht pos pins s1 I1) fun us s2 ⟨vs, H2, I2, r, q⟩ => ⟨I2.kIn, ?_⟩) (star_cons h1) (star_none h2)
          exact run_def n.ok n.tk ef (.inl hh) I2 r q
        · exact h.elim
    · exact h.elim
  · exact h.elim
end
end Rv
end PartRvH
section PartRvI
set_option Elab.async false
set_option linter.all false
set_option maxRecDepth 100000
set_option autoImplicit false
/-! Rv, part I: what is walked. -/
namespace Rv
open PySem PySem.Spec PyProof.Rows L2
/-! ### enumerate(tuple) -/
set_option maxHeartbeats 1000000 in
theorem meets_enum1 {v : Value} {o : Obj} {H : Heap → Prop} (B : Begins v o H) :
    Meets (Builtin.«enumerate.__new__» ⟨[.type "enumerate", v], []⟩) (fun _ R s => H s.heap ∧
      R (.ok (.ret (.ref (s.heap.push o).objs.size))) { s with heap := (s.heap.push o).push { cls := .type "enumerate", data := .fields #[.none, .bool false, .ref s.heap.objs.size, rawInt 0, .none, .none] } }) :=
  .of_wp fun prog w A R s h => by
    obtain ⟨hp, g, d, tk, os⟩ := s; obtain ⟨h1, h⟩ := h
    have hsub := sub_enumerate
    have q1 : ∀ {A' : Around} {E : Value → Shared → Prop} {Q : Value → Shared → Prop}, Q (.ref hp.objs.size) ⟨hp.push o, g, d, tk, os⟩ → wpAny (model prog w) A' (pyIter v) Q E ⟨hp, g, d, tk, os⟩ :=
      fun q => B.iter prog w _ _ ⟨hp, g, d, tk, os⟩ _ h1 q
    wp_walk using q1
    refine wpAny_stack_any fun st => wpAny_pure ?_
    split
    · rename_i c _ _ _ _ _
      cases (c == Value.type "enumerate")
      · wp_walk using q1
        exact ⟨_, rfl, h⟩
      · wp_walk using q1
        exact ⟨_, rfl, h⟩
    · wp_walk using q1
      exact ⟨_, rfl, h⟩
theorem enum1_begins {prog : Program} {w : World} {A : Around} {E : Value → Shared → Prop} {s : Shared} {v : Value} {o : Obj} {H : Heap → Prop} {Q : Value → Shared → Prop} (B : Begins v o H) (h1 : H s.heap)
    (h : ∀ h', IsEnum h' (s.heap.objs.size + 1) s.heap.objs.size 0 .none → h'.get? s.heap.objs.size = some o → h'.objs.size = s.heap.objs.size + 2 →
      (∀ b o, s.heap.get? b = some o → h'.get? b = some o) → Q (.ref (s.heap.objs.size + 1)) { s with heap := h' }) :
    wpAny (model prog w) A (call (.type "enumerate") [v]) Q E s := by
  refine callType_new F.called_enumerate (by decide) (F.typeCall_enumerate_1 _) (F.newCall_enumerate_1 _) (fun obj => F.args_object_init_2 obj _) F.entry_enumerate_new
    (meets_enum1 B) ⟨h1, ?_⟩
  have hz : (s.heap.push o).objs.size = s.heap.objs.size + 1 := Heap.size_push ..
  show _ ∧ _
  rw [hz]
  have he : IsEnum ((s.heap.push o).push { cls := .type "enumerate", data := .fields #[.none, .bool false, .ref s.heap.objs.size, rawInt 0, .none, .none] }) (s.heap.objs.size + 1) s.heap.objs.size 0 .none := by
    have := Heap.get?_push_size (s.heap.push o) (o := { cls := .type "enumerate", data := .fields #[.none, .bool false, .ref s.heap.objs.size, rawInt 0, .none, .none] }) rfl
    rw [hz] at this; exact this
  refine ⟨⟨_, he, rfl⟩, h _ he (Heap.get?_push_of_some _ (Heap.get?_push_size _ B.free)) (by rw [Heap.size_push, hz]) fun b o x => Heap.get?_push_of_some _ (Heap.get?_push_of_some _ x)⟩
/-- the tuple at a, each item in a new pair -/
def IteT (K : PySem.W.Frag) (a : Addr) : It :=
  ⟨fun i H => ∃ (xs : List V) (x : V), SqT K H a xs ∧ xs[i]? = some x, fun i H v H' => ∃ T x, v = .ref T ∧ H T = none ∧ H' = upd H T (.tup [.int (i : Nat), x]) ∧ ∀ xs, SqT K H a xs → xs[i]? = some x, fun i H => ∃ xs : List V, SqT K H a xs ∧ xs.length = i⟩
theorem turn_enumT {P : Program} {w : World} {K : PySem.W.Frag} {elts : List Expr} {kk : Nat} {tpos : Pos} (a e it : Addr) :
    Turn P w K (.Tuple elts kk tpos) (IteT K a) [e, it] e (fun i h => (∃ old, IsEnum h e it ((i : Nat) : Int) old) ∧ h.IsTupleIter it a i ∧ e ≠ it ∧ a ≠ it ∧ a ≠ e) where
  mem := by simp
  obj := fun i h st b hb => by
    obtain ⟨⟨old, he⟩, ⟨o, ho, hc, hd⟩, _⟩ := st
    have e' : b = e ∨ b = it := by simpa using hb
    rcases e' with z | z
    · rw [z]; exact ⟨_, he, fun v q => nomatch q⟩
    · rw [z]; exact ⟨o, ho, fun v q => by rw [hd] at q; cases q⟩
  keep := fun i h h' st k => let ⟨⟨old, he⟩, hi, hne⟩ := st; ⟨⟨old, k e (by simp) _ he⟩, hi.at fun o q => k it (by simp) o q, hne⟩
  item := by
    intro X hP hw hK hc i pins s σ H E I hf st hg
    subst hP hw hK
    obtain ⟨⟨old, he⟩, hit, hne, hai, hae⟩ := st
    obtain ⟨xs, x, hq, hx⟩ := hg
    obtain ⟨its, rv, p, hz⟩ := I.tuple hq
    obtain ⟨u, hu, ru⟩ := rv.get hx
    have hel : e < s.heap.objs.size := Heap.lt_size he
    have hil : it < s.heap.objs.size := by obtain ⟨_, q, _⟩ := hit; exact Heap.lt_size q
    have hlen : i < its.toArray.size := by
      obtain ⟨h1, _⟩ := List.getElem?_eq_some_iff.mp hu
      simpa using h1
    have hh : X.A.in1.handled = none := I.ok.hd hc
    refine wpAny_pyNext_enum_itemD (n := its.toArray.size) (Draws.tuple hh it a hai its.toArray) he ⟨hit, show s.heap.IsTuple a its.toArray from p⟩ hlen hne (by simp [hne, Ne.symm hae]) fun x' h' tk hx' ho hst' hT hsz hk => ?_
    have hux : x' = u := by
      have h2 : its.toArray[i]? = some u := by simpa using hu
      rw [h2] at hx'; exact (Option.some.inj hx').symm
    subst hux
    refine ⟨_, rfl, wpAny_letOwnedTupleGo_enum (s := { s with heap := h', toks := tk + 1 }) ho fun h'' he' sb => ?_⟩
    have hT2 : h''.get? s.heap.objs.size = some { cls := .type "tuple", data := .seq #[.int i tk, x'] } := (sb.2 _ (Nat.ne_of_gt hel)).trans hT
    have new : ObjOk X.prog X.w (upd H s.heap.objs.size (.tup [.int (i : Nat), x])) h'' s.heap.objs.size (.tup [.int (i : Nat), x]) :=
      ⟨by show 2 ≤ sizeLine; decide, [.int i tk, x'], .cons ⟨_, rfl⟩ (.cons ru .nil), ⟨_, hT2, rfl, _, rfl⟩⟩
    have I1 : Inv X pins σ (upd H s.heap.objs.size (.tup [.int (i : Nat), x])) { s with heap := h'', toks := tk + 1 } :=
      I.turnedNew (ch := [e, it]) (fun b ob hb q => (sb.2 b (fun z => hb (by simp [z]))).trans (hk b ob (fun z => hb (by simp [z])) (fun z => hb (by simp [z])) q)) hf (Nat.le_refl _) new
    refine ⟨.ref s.heap.objs.size, _, I1, rfl, ⟨_, x, rfl, I.hok.fresh (Nat.le_refl _), rfl, fun ys hy => by rw [I.tuple_inj hy hq]; exact hx⟩, ⟨⟨x', ?_⟩, hst'.1.at fun o q => (sb.2 it (Ne.symm hne)).trans q, hne, hai, hae⟩, fun b hb => ?_⟩
    · have e1 : ((i + 1 : Nat) : Int) = (i : Int) + 1 := by omega
      rw [e1]; exact he'
    · have hb' : b < s.heap.objs.size := by
        have e' : b = e ∨ b = it := by simpa using hb
        rcases e' with z | z
        · rw [z]; exact hel
        · rw [z]; exact hil
      rw [upd_ne (Nat.ne_of_lt hb')]
      exact (hf b hb).1
  done := by
    intro X hP hw hK hc i pins s σ H E I hf st hg
    subst hP hw hK
    obtain ⟨⟨old, he⟩, hit, hne, hai, hae⟩ := st
    obtain ⟨xs, hq, hx⟩ := hg
    obtain ⟨its, rv, p, hz⟩ := I.tuple hq
    obtain ⟨f0, f1, f2, f3, f4, f5⟩ := hf it (by simp)
    have hl := rv.length
    have hh : X.A.in1.handled = none := I.ok.hd hc
    have e1 : i = its.toArray.size := by simp; omega
    subst e1
    exact wpAny_pyNext_enum_endD (Draws.tuple hh it a hai its.toArray) he ⟨hit, show s.heap.IsTuple a its.toArray from p⟩ fun h' eb => ⟨rfl, I.turned (t' := s.toks) (fun b o hb q => eb b o hb q) f0 f1 f3 f4 f5⟩
  self := fun A i s Q E st h => let ⟨⟨_, he⟩, _⟩ := st; wpAny_pyIter_enum he h
def iEnumA (K : PySem.W.Frag) (ta : TA) : TI := fun σ H R => ta σ H fun vs H1 => ∃ a xs, vs = [.ref a] ∧ ((SqL K H1 a xs ∧ R (Ite K a) H1) ∨ (SqT K H1 a xs ∧ R (IteT K a) H1))
theorem pi_enumA {X : Cx} {e : Expr} {ta : TA} {p pos tpos : Pos} {elts : List Expr} {kk : Nat} (hg : Gl X "enumerate") (hm : X.mg "enumerate" = none) (ha : PA X [e] ta) (hs : starEach [e] X.env = [(false, eval e X.env)]) :
    PI X (.Tuple elts kk tpos) (.Call (.Name "enumerate" p) [e] [] pos) (iEnumA X.K ta) := by
  refine ⟨fun pins s σ H R I h => ?_⟩
  refine Call_ (ld_blt I hg hm boot_enumerate (PyProof.Rows.callWith_type1 (thn (ha.run pos pins s σ H _ I h) fun us s1 ⟨vs, H1, I1, r1, q1⟩ => ?_) hs rfl))
  obtain ⟨a, xs, ex, hq⟩ := q1
  subst ex
  cases r1 with
  | cons r rr =>
    cases rr
    cases r
    have fp2 : ∀ b ∈ [s1.heap.objs.size + 1, s1.heap.objs.size], FpOk X pins H1 b := fun b hb => by
      have e' : b = s1.heap.objs.size + 1 ∨ b = s1.heap.objs.size := by simpa using hb
      have hle : s1.heap.objs.size ≤ b := by
        rcases e' with z | z
        · rw [z]; exact Nat.le_add_right _ _
        · rw [z]; exact Nat.le_refl _
      exact I1.fpOk hle (I1.hok.fresh hle)
    rcases hq with ⟨hq, q⟩ | ⟨hq, q⟩
    · obtain ⟨its, rv, p', hz⟩ := I1.list hq
      refine call_enumerate_list p'.isList fun h' he hit hsz hk => wpAny_pyIter_enum he ?_
      have I2 : Inv X pins σ H1 { s1 with heap := h' } := I1.kept (t' := s1.toks) hk
      exact ⟨s1.heap.objs.size + 1, [s1.heap.objs.size + 1, s1.heap.objs.size], _, _, H1, rfl, I2, turn_enum a (s1.heap.objs.size + 1) s1.heap.objs.size, ⟨⟨.none, he⟩, hit, Nat.succ_ne_self _⟩, fp2, q⟩
    · obtain ⟨its, rv, p', hz⟩ := I1.tuple hq
      obtain ⟨o1, ho1, _⟩ := id p'
      have la : a < s1.heap.objs.size := Heap.lt_size ho1
      refine enum1_begins (begins_tuple a its.toArray) (show s1.heap.IsTuple a its.toArray from p') fun h' he hit hsz hk => wpAny_pyIter_enum he ?_
      have I2 : Inv X pins σ H1 { s1 with heap := h' } := I1.kept (t' := s1.toks) hk
      exact ⟨s1.heap.objs.size + 1, [s1.heap.objs.size + 1, s1.heap.objs.size], _, _, H1, rfl, I2, turn_enumT a (s1.heap.objs.size + 1) s1.heap.objs.size, ⟨⟨.none, he⟩, ⟨_, hit, rfl, rfl⟩, Nat.succ_ne_self _, Nat.ne_of_lt la, Nat.ne_of_lt (Nat.lt_succ_of_lt la)⟩, fp2, q⟩
/-! ### zip, of lists and tuples in any mixture -/
/-- a sequence of a kind: true, a tuple; false, a list -/
def SqB (K : PySem.W.Frag) (t : Bool) (H : Hp) (a : Addr) (xs : List V) : Prop := match t with
  | true => SqT K H a xs
  | false => SqL K H a xs
def IterB (t : Bool) (h : Heap) (it a : Addr) (i : Nat) : Prop := match t with
  | true => h.IsTupleIter it a i
  | false => h.IsListIter it a i
def SeqB (t : Bool) (h : Heap) (a : Addr) (its : Array Value) : Prop := match t with
  | true => h.IsTuple a its
  | false => h.IsList a its
def iterO (t : Bool) (a : Addr) : Obj := match t with
  | true => { cls := .type "tuple_iterator", data := .fields #[.ref a, .int 0 0] }
  | false => { cls := .type "list_iterator", data := .fields #[.ref a, .int 0 0] }
theorem sqB_read {X : Cx} {pins : List (Addr × Obj)} {σ : L2.St} {H : Hp} {s : Shared} (I : L2.Inv X pins σ H s) {t : Bool} {a : Addr} {xs : List V} (q : SqB X.K t H a xs) : ∃ its : List Value, Vals xs its ∧ SeqB t s.heap a its.toArray ∧ a < s.heap.objs.size := by
  cases t with
  | true =>
    obtain ⟨its, r, p, _⟩ := I.tuple q
    obtain ⟨o, ho, _⟩ := id p
    exact ⟨its, r, p, Heap.lt_size ho⟩
  | false =>
    obtain ⟨its, r, p, _⟩ := I.list q
    exact ⟨its, r, p.isList, p.lt⟩
theorem sqB_inj {X : Cx} {pins : List (Addr × Obj)} {σ : L2.St} {H : Hp} {s : Shared} (I : L2.Inv X pins σ H s) {t : Bool} {a : Addr} {xs ys : List V} (q : SqB X.K t H a xs) (q2 : SqB X.K t H a ys) : xs = ys := by
  cases t with
  | true => exact I.tuple_inj q q2
  | false => exact I.list_inj q q2
theorem drawsB {prog : Program} {w : World} {A : Around} (hh : A.handled = none) (t : Bool) (it a : Addr) (hne : a ≠ it) (its : Array Value) :
    Draws prog w A it [it, a] its.size (fun i v => its[i]? = some v) (fun i h => IterB t h it a i ∧ SeqB t h a its) := by
  cases t with
  | true => exact Draws.tuple hh it a hne its
  | false => exact Draws.list hh it a hne its
theorem beginsB (t : Bool) (a : Addr) (its : Array Value) : Begins (.ref a) (iterO t a) fun h => SeqB t h a its := by
  cases t with
  | true => exact begins_tuple a its
  | false => exact begins_list a its
theorem iterB_new {t : Bool} {h : Heap} {it a : Addr} (e : h.get? it = some (iterO t a)) : IterB t h it a 0 := by
  cases t with
  | true => exact ⟨_, e, rfl, rfl⟩
  | false => exact ⟨_, e, rfl, rfl⟩
theorem iterB_obj {t : Bool} {h : Heap} {it a : Addr} {i : Nat} (q : IterB t h it a i) : ∃ o, h.get? it = some o ∧ ∀ v, o.data ≠ .cell v := by
  cases t with
  | true =>
    obtain ⟨o, e, _, d⟩ := q
    exact ⟨o, e, fun v z => by rw [d] at z; cases z⟩
  | false =>
    obtain ⟨o, e, _, d⟩ := q
    exact ⟨o, e, fun v z => by rw [d] at z; cases z⟩
theorem iterB_at {t : Bool} {h h' : Heap} {it a : Addr} {i : Nat} (q : IterB t h it a i) (k : ∀ o, h.get? it = some o → h'.get? it = some o) : IterB t h' it a i := by
  cases t with
  | true => exact Heap.IsTupleIter.at q k
  | false => exact Heap.IsListIter.at q k
/-- both sequences as they stand at each turn, their items in new pairs -/
def ItzB (K : PySem.W.Frag) (ta tb : Bool) (a b : Addr) : It :=
  ⟨fun i H => ∃ (us ws : List V) (u w : V), SqB K ta H a us ∧ SqB K tb H b ws ∧ us[i]? = some u ∧ ws[i]? = some w,
    fun i H v H' => ∃ T u w, v = .ref T ∧ H T = none ∧ H' = upd H T (.tup [u, w]) ∧ (∀ us, SqB K ta H a us → us[i]? = some u) ∧ ∀ ws, SqB K tb H b ws → ws[i]? = some w,
    fun i H => ∃ us ws : List V, SqB K ta H a us ∧ SqB K tb H b ws ∧ i = min us.length ws.length⟩
theorem mem5 {α : Type} {c z p q i j : α} (h : c ∈ [z, p, q, i, j]) : c = z ∨ c = p ∨ c = q ∨ c = i ∨ c = j := by simpa using h
theorem turn_zipB {P : Program} {w : World} {K : PySem.W.Frag} {elts : List Expr} {kk : Nat} {tpos : Pos} {ta tb : Bool} {a b z TI TO i1 i2 : Addr} (Sp : ZipSep2 z TI TO i1 i2 [i1, a] [i2, b]) :
    Turn P w K (.Tuple elts kk tpos) (ItzB K ta tb a b) [z, TI, TO, i1, i2] z (fun i h => IsZip h z TI TO .none ∧ IsTupOf2 h TI (.ref i1) (.ref i2) ∧ (∃ u v, IsTupOf2 h TO u v) ∧ IterB ta h i1 a i ∧ IterB tb h i2 b i) where
  mem := List.mem_cons_self ..
  obj := fun i h st c hc => by
    obtain ⟨z1, z2, ⟨u, v, z3⟩, z4, z5⟩ := st
    rcases mem5 hc with rfl | rfl | rfl | rfl | rfl
    · exact ⟨_, z1, fun v q => nomatch q⟩
    · exact ⟨_, z2, fun v q => nomatch q⟩
    · exact ⟨_, z3, fun v q => nomatch q⟩
    · exact iterB_obj z4
    · exact iterB_obj z5
  keep := fun i h h' st k => by
    obtain ⟨z1, z2, ⟨u, v, z3⟩, z4, z5⟩ := st
    exact ⟨k _ (by simp) _ z1, k _ (by simp) _ z2, ⟨u, v, k _ (by simp) _ z3⟩, iterB_at z4 fun o e => k _ (by simp) o e, iterB_at z5 fun o e => k _ (by simp) o e⟩
  item := by
    intro X hP hw hK hc i pins s σ H E I hf st hg
    subst hP hw hK
    obtain ⟨z1, z2, ⟨u0, v0, z3⟩, z4, z5⟩ := st
    obtain ⟨us, ws, u, w2, ga, gb, hu, hw2⟩ := hg
    obtain ⟨la, ra, pa, _⟩ := sqB_read I ga
    obtain ⟨lb, rb, pb, _⟩ := sqB_read I gb
    obtain ⟨x, hx, rx⟩ := ra.get hu
    obtain ⟨y, hy, ry⟩ := rb.get hw2
    have na : a ≠ i1 := fun e => by
      have h1 := Sp.sep2_1
      subst e
      obtain ⟨o, e1, hd⟩ := iterB_obj z4
      cases ta with
      | true =>
        obtain ⟨o1, e2, c2, _, d2⟩ := pa
        obtain ⟨o3, e3, c3, d3⟩ := z4
        rw [e2] at e3; cases e3
        rw [d2] at d3; cases d3
      | false =>
        obtain ⟨o1, e2, c2, _, d2⟩ := pa
        obtain ⟨o3, e3, c3, d3⟩ := z4
        rw [e2] at e3; cases e3
        rw [d2] at d3; cases d3
    have nb : b ≠ i2 := fun e => by
      subst e
      cases tb with
      | true =>
        obtain ⟨o1, e2, c2, _, d2⟩ := pb
        obtain ⟨o3, e3, c3, d3⟩ := z5
        rw [e2] at e3; cases e3
        rw [d2] at d3; cases d3
      | false =>
        obtain ⟨o1, e2, c2, _, d2⟩ := pb
        obtain ⟨o3, e3, c3, d3⟩ := z5
        rw [e2] at e3; cases e3
        rw [d2] at d3; cases d3
    have hh : X.A.in1.handled = none := I.ok.hd hc
    have ia : i < la.toArray.size := by
      have := (List.getElem?_eq_some_iff.mp hx).1
      simpa using this
    have ib : i < lb.toArray.size := by
      have := (List.getElem?_eq_some_iff.mp hy).1
      simpa using this
    have zl : z < s.heap.objs.size := Heap.lt_size z1
    refine wpAny_pyNext_zipD2_item Sp (drawsB hh ta i1 a na la.toArray) (drawsB hh tb i2 b nb lb.toArray) z1 z2 z3 ⟨z4, pa⟩ ⟨z5, pb⟩ ia ib fun x1 y1 h1 tk k1 k2 y2 y3 y4 y5 y6 _ y8 => ?_
    obtain rfl : x1 = x := by
      have h2 : la.toArray[i]? = some x := by simpa using hx
      rw [h2] at k1; exact (Option.some.inj k1).symm
    obtain rfl : y1 = y := by
      have h2 : lb.toArray[i]? = some y := by simpa using hy
      rw [h2] at k2; exact (Option.some.inj k2).symm
    refine ⟨_, rfl, wpAny_letOwnedTupleGo_zip (s := { s with heap := h1, toks := tk }) y2 fun h2 y9 sb => ?_⟩
    have hnew : h2.get? s.heap.objs.size = some { cls := .type "tuple", data := .seq #[x1, y1] } := (sb.2 _ (Nat.ne_of_gt zl)).trans y6
    have new : ObjOk X.prog X.w (upd H s.heap.objs.size (.tup [u, w2])) h2 s.heap.objs.size (.tup [u, w2]) :=
      ⟨by show 2 ≤ sizeLine; decide, [x1, y1], .cons rx (.cons ry .nil), ⟨_, hnew, rfl, _, rfl⟩⟩
    have I2 : L2.Inv X pins σ (upd H s.heap.objs.size (.tup [u, w2])) { s with heap := h2, toks := tk } :=
      I.turnedNew (t' := tk) (ch := [z, TI, TO, i1, i2]) (fun c o hb q => by
        have n1 : c ≠ z := fun e => hb (by simp [e])
        exact (sb.2 c n1).trans (y8 c o n1 (fun e => hb (by simp [e])) (fun e => hb (by simp [e])) (fun e => hb (by simp [e])) q)) hf (Nat.le_refl _) new
    refine ⟨.ref s.heap.objs.size, _, I2, rfl, ⟨_, u, w2, rfl, I.hok.fresh (Nat.le_refl _), rfl, fun l hl => by rw [sqB_inj I hl ga]; exact hu, fun l hl => by rw [sqB_inj I hl gb]; exact hw2⟩, ⟨y9, ?_, ⟨x1, y1, ?_⟩, ?_, ?_⟩, fun c hcm => ?_⟩
    · exact (sb.2 _ Sp.TIz).trans (y8 _ _ Sp.TIz Sp.TITO Sp.TIi1 Sp.TIi2 z2)
    · exact (sb.2 _ Sp.TOz).trans y3
    · exact iterB_at y4.1 fun o q => (sb.2 _ Sp.zi1.symm).trans q
    · exact iterB_at y5.1 fun o q => (sb.2 _ Sp.zi2.symm).trans q
    · have hlt : c < s.heap.objs.size := by
        rcases mem5 hcm with rfl | rfl | rfl | rfl | rfl
        · exact zl
        · exact Heap.lt_size z2
        · exact Heap.lt_size z3
        · obtain ⟨_, e1, _⟩ := iterB_obj z4; exact Heap.lt_size e1
        · obtain ⟨_, e1, _⟩ := iterB_obj z5; exact Heap.lt_size e1
      rw [upd_ne (Nat.ne_of_lt hlt)]
      exact (hf c hcm).1
  done := by
    intro X hP hw hK hc i pins s σ H E I hf st hg
    subst hP hw hK
    obtain ⟨z1, z2, ⟨u0, v0, z3⟩, z4, z5⟩ := st
    obtain ⟨us, ws, ga, gb, hend⟩ := hg
    obtain ⟨la, ra, pa, _⟩ := sqB_read I ga
    obtain ⟨lb, rb, pb, _⟩ := sqB_read I gb
    have na : a ≠ i1 := fun e => by
      subst e
      cases ta with
      | true =>
        obtain ⟨o1, e2, c2, _, d2⟩ := pa
        obtain ⟨o3, e3, c3, d3⟩ := z4
        rw [e2] at e3; cases e3
        rw [d2] at d3; cases d3
      | false =>
        obtain ⟨o1, e2, c2, _, d2⟩ := pa
        obtain ⟨o3, e3, c3, d3⟩ := z4
        rw [e2] at e3; cases e3
        rw [d2] at d3; cases d3
    have nb : b ≠ i2 := fun e => by
      subst e
      cases tb with
      | true =>
        obtain ⟨o1, e2, c2, _, d2⟩ := pb
        obtain ⟨o3, e3, c3, d3⟩ := z5
        rw [e2] at e3; cases e3
        rw [d2] at d3; cases d3
      | false =>
        obtain ⟨o1, e2, c2, _, d2⟩ := pb
        obtain ⟨o3, e3, c3, d3⟩ := z5
        rw [e2] at e3; cases e3
        rw [d2] at d3; cases d3
    have hh : X.A.in1.handled = none := I.ok.hd hc
    have l1 := ra.length
    have l2 := rb.length
    have s1 : la.toArray.size = us.length := by simp; omega
    have s2 : lb.toArray.size = ws.length := by simp; omega
    refine wpAny_pyNext_zipD2_end Sp (drawsB hh ta i1 a na la.toArray) (drawsB hh tb i2 b nb lb.toArray) z1 z2 z3 ⟨z4, pa⟩ ⟨z5, pb⟩ (by omega) (by omega) (by omega) fun h1 tk hk => ?_
    exact ⟨rfl, I.turnedL (t' := tk) (ch := [z, TI, TO, i1, i2]) (fun c o hb q =>
      hk c o (fun e => hb (by simp [e])) (fun e => hb (by simp [e])) (fun e => hb (by simp [e])) (fun e => hb (by simp [e])) q) hf⟩
  self := fun A i s Q E st h => wpAny_pyIter_zip st.1 h
def iZipB (K : PySem.W.Frag) (tv : TA) : TI := fun σ H R => tv σ H fun vs H1 => ∃ (a b : Addr) (us ws : List V), vs = [.ref a, .ref b] ∧ ((SqB K false H1 a us ∧ SqB K false H1 b ws ∧ R (Itz K a b) H1) ∨ ∃ ta tb : Bool, SqB K ta H1 a us ∧ SqB K tb H1 b ws ∧ R (ItzB K ta tb a b) H1)
theorem pi_zipB {X : Cx} {e e2 : Expr} {tv : TA} {p pos tpos : Pos} {elts : List Expr} {kk : Nat} (hg : Gl X "zip") (hm : X.mg "zip" = none) (ha : PA X [e, e2] tv)
    (hs : starEach [e, e2] X.env = (false, eval e X.env) :: starEach [e2] X.env) (hpl : (backTo pos (starEach [e2] X.env)).any (·.1) = false) :
    PI X (.Tuple elts kk tpos) (.Call (.Name "zip" p) [e, e2] [] pos) (iZipB X.K tv) := by
  refine ⟨fun pins s σ H R I h => ?_⟩
  refine Call_ (ld_blt I hg hm PyProof.Rows.boot_zip (PyProof.Rows.callWith_type1 (thn (ha.run pos pins s σ H _ I h) fun vals s1 ⟨vs, H1, I1, r1, q1⟩ => ?_) hs hpl))
  obtain ⟨a, b, us, ws, ex, q1⟩ := q1
  subst ex
  cases r1 with
  | cons r rr =>
    cases rr with
    | cons r' rr =>
      cases rr
      cases r
      cases r'
      have new5 : ∀ c ∈ [s1.heap.objs.size + 4, s1.heap.objs.size + 2, s1.heap.objs.size + 3, s1.heap.objs.size, s1.heap.objs.size + 1], FpOk X pins H1 c := fun c hc => by
        have hle : s1.heap.objs.size ≤ c := by
          rcases mem5 hc with rfl | rfl | rfl | rfl | rfl
          all_goals first | exact Nat.le_add_right _ _ | exact Nat.le_refl _
        exact I1.fpOk hle (I1.hok.fresh hle)
      rcases q1 with ⟨ga, gb, q⟩ | ⟨ta, tb, ga, gb, q⟩
      · obtain ⟨la, ra, pa, ka⟩ := sqB_read I1 ga
        obtain ⟨lb, rb, pb, kb⟩ := sqB_read I1 gb
        refine zip_begins2 (beginsB false a la.toArray) (beginsB false b lb.toArray) pa pb fun h' y1 y2 y3 y4 y5 _ y7 => wpAny_pyIter_zip y1 ?_
        have I2 : L2.Inv X pins σ H1 { s1 with heap := h' } := I1.kept (t' := s1.toks) y7
        exact ⟨s1.heap.objs.size + 4, _, _, _, H1, rfl, I2, turn_zip (PySem.W.ktu_apart s1.heap.objs.size a b ka kb), ⟨y1, y2, ⟨_, _, y3⟩, iterB_new (t := false) y4, iterB_new (t := false) y5⟩, new5, q⟩
      · obtain ⟨la, ra, pa, ka⟩ := sqB_read I1 ga
        obtain ⟨lb, rb, pb, kb⟩ := sqB_read I1 gb
        refine zip_begins2 (beginsB ta a la.toArray) (beginsB tb b lb.toArray) pa pb fun h' y1 y2 y3 y4 y5 _ y7 => wpAny_pyIter_zip y1 ?_
        have I2 : L2.Inv X pins σ H1 { s1 with heap := h' } := I1.kept (t' := s1.toks) y7
        have sp := zip_sep2 (N := s1.heap.objs.size) (fp1 := [a]) (fp2 := [b]) (fun c hc => by rw [List.mem_singleton.mp hc]; exact ka) (fun c hc => by rw [List.mem_singleton.mp hc]; exact kb)
        exact ⟨s1.heap.objs.size + 4, _, _, _, H1, rfl, I2, turn_zipB (ta := ta) (tb := tb) sp, ⟨y1, y2, ⟨_, _, y3⟩, iterB_new y4, iterB_new y5⟩, new5, q⟩
/-! ### lists, tuples, texts -/
def iAny (K : PySem.W.Frag) (te : TE) : TI := fun σ H R => te σ H fun x H1 => (∃ a, x = .ref a ∧ (∃ xs, SqL K H1 a xs) ∧ R (Itl K a) H1) ∨ (∃ a, x = .ref a ∧ (∃ xs, SqT K H1 a xs) ∧ R (Itt K a) H1) ∨ (∃ z, x = .str z ∧ R (Its z) H1)
theorem pi_any {X : Cx} {tg l : Expr} {tl : TE} (hl : PE X l tl) : PI X tg l (iAny X.K tl) := by
  refine ⟨fun pins s σ H R I h => ?_⟩
  refine thn (hl.run pins s σ H _ I h) fun v s1 ⟨x, H1, I1, r1, q1⟩ => ?_
  rcases q1 with ⟨a, e, ⟨xs, hq⟩, q⟩ | ⟨a, e, ⟨xs, hq⟩, q⟩ | ⟨z, e, q⟩
  · subst e
    cases r1
    obtain ⟨its, rv, p, hz⟩ := I1.list hq
    refine wpAny_pyIter_list p.isList ?_
    refine ⟨s1.heap.objs.size, [s1.heap.objs.size], _, _, H1, rfl, I1.kept (t' := s1.toks) fun b o e => Heap.get?_push_of_some _ e, turn_list a _, ⟨_, Heap.get?_push_size _ rfl, rfl, rfl⟩, fun b hb => ?_, q⟩
    have e : b = s1.heap.objs.size := by simpa using hb
    subst e
    exact I1.fpOk (Nat.le_refl _) (I1.hok.fresh (Nat.le_refl _))
  · subst e
    cases r1
    obtain ⟨its, rv, p, hz⟩ := I1.tuple hq
    refine wpAny_pyIter_tuple (show s1.heap.IsTuple a its.toArray from p) ?_
    refine ⟨s1.heap.objs.size, [s1.heap.objs.size], _, _, H1, rfl, I1.kept (t' := s1.toks) fun b o e => Heap.get?_push_of_some _ e, turn_tuple a _, ⟨_, Heap.get?_push_size _ rfl, rfl, rfl⟩, fun b hb => ?_, q⟩
    have e : b = s1.heap.objs.size := by simpa using hb
    subst e
    exact I1.fpOk (Nat.le_refl _) (I1.hok.fresh (Nat.le_refl _))
  · subst e
    obtain ⟨t, rfl⟩ := r1
    cases ha : z.cps.all (· < 128)
    · exact wpAny_pyIter_wide ha (pi_one (tk := s1.toks) I1 _ (turn_str _ z t "str_iterator" (.inr rfl)) ⟨_, Heap.get?_push_size _ rfl, rfl, rfl⟩ q)
    · exact wpAny_pyIter_ascii ha (pi_one (tk := s1.toks) I1 _ (turn_str _ z t "str_ascii_iterator" (.inl rfl)) ⟨_, Heap.get?_push_size _ rfl, rfl, rfl⟩ q)

/-! ### iterables by the plain reading -/
/-- more addresses kept apart, new ones -/
structure Wd (Z : St0) (H : Hp) (F' : Addr → Prop) : Prop where
  sub : ∀ a, Z.F a → F' a
  new : ∀ a, F' a → Z.F a ∨ H a = none
abbrev St0.up (Z : St0) (F' : Addr → Prop) : St0 := ⟨Z.K, Z.ad, F', Z.hx⟩
theorem Wd.refl {Z : St0} {H : Hp} : Wd Z H Z.F := ⟨fun _ h => h, fun _ h => .inl h⟩
theorem Wd.fre {Z : St0} {H : Hp} {F' : Addr → Prop} (w : Wd Z H F') {m : List Addr} (a : Addr) (h : H a ≠ none) (f : Fre Z m a) : Fre (Z.up F') m a := ⟨fun q => (w.new a q).elim f.1 h, f.2⟩
theorem Wd.rp {Z : St0} {H : Hp} {F' : Addr → Prop} (w : Wd Z H F') {m : List Addr} {v : PV} {u : V} (r : Rp Z m H v u) : Rp (Z.up F') m H v u := Rp.shiftA (fun a h f => w.fre a h f) r
theorem Wd.rpA {Z : St0} {H : Hp} {F' : Addr → Prop} (w : Wd Z H F') {m : List Addr} {v : List PV} {u : List V} (r : RpA Z m H v u) : RpA (Z.up F') m H v u := RpA.shiftA (fun a h f => w.fre a h f) r
/-- what may have come, P aside -/
structure ExtO (P : Addr → Prop) (m : List Addr) (H : Hp) (m' : List Addr) (H' : Hp) : Prop where
  pre : ∃ q, m' = m ++ q
  keep : ∀ a o, H a = some o → a ∉ m → ¬ P a → H' a = some o
  alive : ∀ a, H a ≠ none → H' a ≠ none
  new : ∀ a, a ∈ m' → a ∈ m ∨ H a = none
  tp : ∀ a xs, H a = some (.tup xs) → H' a = some (.tup xs)
section
variable {Z : St0} {P F' : Addr → Prop} {m m1 m2 : List Addr} {H H1 H2 : Hp}
theorem ExtO.of (e : Ext m H m1 H1) : ExtO P m H m1 H1 := ⟨e.pre, fun a o h n _ => e.keep a o h n, e.alive, e.new, e.tp⟩
theorem ExtO.refl : ExtO P m H m H := .of Ext.refl
theorem ExtO.trans (a : ExtO P m H m1 H1) (b : ExtO P m1 H1 m2 H2) : ExtO P m H m2 H2 := by
  have nn : ∀ x, H x ≠ none → x ∉ m → x ∉ m1 := fun x h n q => by
    rcases a.new x q with z | z
    · exact n z
    · exact h z
  refine ⟨?_, fun x o h n p => b.keep x o (a.keep x o h n p) (nn x (by rw [h]; simp) n) p, fun x h => b.alive x (a.alive x h), fun x h => ?_, fun x xs h => b.tp x xs (a.tp x xs h)⟩
  · obtain ⟨q, rfl⟩ := a.pre
    obtain ⟨r, rfl⟩ := b.pre
    exact ⟨q ++ r, by simp⟩
  · rcases b.new x h with z | z
    · exact a.new x z
    · refine .inr ?_
      cases q : H x with
      | none => rfl
      | some o => exact absurd z (a.alive x (by rw [q]; simp))
theorem ExtO.get (e : ExtO P m H m1 H1) {i : Nat} {a : Addr} (h : m[i]? = some a) : m1[i]? = some a := by
  obtain ⟨q, rfl⟩ := e.pre
  obtain ⟨h1, h2⟩ := List.getElem?_eq_some_iff.mp h
  rw [List.getElem?_append_left h1]; exact h
theorem ExtO.fre (e : ExtO P m H m1 H1) {a : Addr} (h : Fre Z m a) (n : H a ≠ none) : Fre Z m1 a := ⟨h.1, fun q => by
  rcases e.new a q with z | z
  · exact h.2 z
  · exact n z⟩
theorem ExtO.rd (e : ExtO P m H m1 H1) {a : Addr} {o : HO} (h : Rd H a o) (n : a ∉ m) (p : ¬ P a) : Rd H1 a o := by
  rcases h with h | ⟨b, h⟩
  · exact .inl (e.keep a _ h n p)
  · exact .inr ⟨b, e.keep a _ h n p⟩
mutual
theorem Rp.extO (hP : ∀ a, P a → Z.F a) (e : ExtO P m H m1 H1) : ∀ {v : PV} {u : V}, Rp Z m H v u → Rp Z m1 H1 v u
  | _, _, .non => .non
  | _, _, .bl b => .bl b
  | _, _, .int b => .int b
  | _, _, .str b => .str b
  | _, _, .ty b => .ty b
  | _, _, .tup h r => .tup (e.tp _ _ h) (RpA.extO hP e r)
  | _, _, .lst h f r => .lst (e.keep _ _ h f.2 fun p => f.1 (hP _ p)) (e.fre f (by rw [h]; simp)) (RpA.extO hP e r)
  | _, _, .rd h r => .rd (h.elim (fun h => .inl ⟨e.rd h.1 h.2.2 fun p => h.2.1 (hP _ p), e.fre h.2 (Rd.ne h.1)⟩) .inr) (RpA.extO hP e r)
  | _, _, .dct h f l r => .dct (e.rd h f.2 fun p => f.1 (hP _ p)) (e.fre f (Rd.ne h)) l (RpA.extO hP e r)
  | _, _, .dtt h f l r => .dtt (e.rd h f.2 fun p => f.1 (hP _ p)) (e.fre f (Rd.ne h)) l (RpA.extO hP e r)
  | _, _, .fn i => .fn i
  | _, _, .cls i => .cls i
  | _, _, .exn h1 h2 h3 h4 => .exn h1 h2 h3 h4
theorem RpA.extO (hP : ∀ a, P a → Z.F a) (e : ExtO P m H m1 H1) : ∀ {v : List PV} {u : List V}, RpA Z m H v u → RpA Z m1 H1 v u
  | _, _, .nil => .nil
  | _, _, .cons h r => .cons (Rp.extO hP e h) (RpA.extO hP e r)
end
end
theorem nof {Z : St0} {H : Hp} : ∀ a, (fun _ : Addr => False) a → Z.F a ∨ H a = none := fun _ h => h.elim
def RI (Z : St0) : List Addr → Hp → Itm → It → Prop := fun m H its J => ∀ (F' P : Addr → Prop), Wd Z H F' → (∀ a, P a → F' a) → ∀ (m' : List Addr) (H' : Hp) (S' : List PO), ExtO P m H m' H' → Rel (Z.up F') m' S' H' → ∀ k, (∀ xs, its = .l xs → k ≤ xs.length) →
  (itAt S' its k = some none → J.stop k H') ∧ ∀ v, itAt S' its k = some (some v) → J.go k H' ∧ ∀ x H'', J.yld k H' x H'' → Ext m' H' m' H'' ∧ Rel (Z.up F') m' S' H'' ∧ Re (Z.up F') m' H'' v x
def SI (G : Gm) (d : Nat) (x : Sx) (tg it : Expr) (f : Sl → List PO → Out Itm) : Prop :=
  ∀ (Z : St0) (X : Cx) (W : WX) (m : List Addr) (H : Hp) (S : List PO) (ρ : Sl) (σ : L2.St) (R : It → Hp → Prop), Now Z G d x X W m H S ρ σ → Post Z G W (RI Z) m H σ (f ρ S) R → jI X tg it σ H R
section
variable {Z : St0} {m : List Addr} {H : Hp} {J : It}
theorem ri_of {xs : List PV} {Gd : Hp → Prop} {Y : Nat → Hp → V → Hp → Prop} (w : Walk J xs.length Gd Y) (hg : ∀ P m' H', (∀ a, P a → Z.F a ∨ H a = none) → ExtO P m H m' H' → Gd H')
    (hy : ∀ F' P, Wd Z H F' → (∀ a, P a → F' a) → ∀ i v m' H' S' x H'', xs[i]? = some v → ExtO P m H m' H' → Rel (Z.up F') m' S' H' → Y i H' x H'' → Ext m' H' m' H'' ∧ Rel (Z.up F') m' S' H'' ∧ Re (Z.up F') m' H'' (.p v) x) : RI Z m H (.l (xs.map .p)) J := by
  intro F' P wd hP m' H' S' e R k hk
  have hk := hk _ rfl
  rw [List.length_map] at hk
  refine ⟨fun h => ?_, fun v h => ?_⟩
  · simp only [itAt, Option.some.injEq, List.getElem?_eq_none_iff, List.length_map] at h
    have : k = xs.length := by omega
    subst this
    exact w.stops H' (hg P m' H' (fun a p => wd.new a (hP a p)) e)
  · simp only [itAt, Option.some.injEq, List.getElem?_map] at h
    obtain ⟨v', hv, rfl⟩ := Option.map_eq_some_iff.mp h
    have hlt : k < xs.length := (List.getElem?_eq_some_iff.mp hv).1
    exact ⟨w.goes k H' hlt (hg P m' H' (fun a p => wd.new a (hP a p)) e), fun x H'' y => hy F' P wd hP k v' m' H' S' x H'' hv e R (w.yields k H' x H'' hlt (hg P m' H' (fun a p => wd.new a (hP a p)) e) y)⟩
/-- the items of a plain list or tuple: how it walks -/
theorem seq_walk {v : PV} {xs : List PV} {u : V} (r : Rp Z m H v u) (h : seqOf v = some xs) : ∃ a us, u = .ref a ∧ RpA Z m H xs us ∧
    (tupP v = false → ∀ P m' H', (∀ a, P a → Z.F a ∨ H a = none) → ExtO P m H m' H' → SqL Z.K H' a us) ∧ (tupP v = true → ∀ P m' H', (∀ a, P a → Z.F a ∨ H a = none) → ExtO P m H m' H' → SqT Z.K H' a us) := by
  cases r with
  | tup h1 r => cases h; exact ⟨_, _, rfl, r, fun z => (by cases z), fun _ P m' H' _ e => SqT.of (e.tp _ _ h1)⟩
  | lst h1 f r => cases h; exact ⟨_, _, rfl, r, fun _ P m' H' hP e => SqL.of (e.keep _ _ h1 f.2 fun p => (hP _ p).elim f.1 fun z => (by rw [h1] at z; cases z)), fun z => (by cases z)⟩
  | rd h1 r =>
    cases h
    refine ⟨_, _, rfl, r, fun _ P m' H' hP e => ?_, fun z => (by cases z)⟩
    rcases h1 with ⟨h1, f⟩ | h1
    · exact .inl (e.rd h1 f.2 fun p => (hP _ p).elim f.1 (Rd.ne h1))
    · exact .inr h1
  | _ => cases h
theorem ri_at {xs : List PV} {us : List V} {Gd : Hp → Prop} (w : Walk J us.length Gd (YAt us)) (hg : ∀ P m' H', (∀ a, P a → Z.F a ∨ H a = none) → ExtO P m H m' H' → Gd H') (r : RpA Z m H xs us) : RI Z m H (.l (xs.map .p)) J := by
  rw [← r.length] at w
  refine ri_of w hg fun F' P wd hP i v m' H' S' x H'' hv e R y => ?_
  obtain ⟨rfl, hx⟩ := y
  obtain ⟨u, hu, ru⟩ := r.get hv
  rw [hx] at hu; cases hu
  exact ⟨Ext.refl, R, .p ((wd.rp ru).extO hP e)⟩
/-- pairs -/
theorem ri_pair {f g : Nat → Option V} {ps : List PV} {Gd : Hp → Prop} (w : Walk J ps.length Gd (YPair f g)) (hg : ∀ P m' H', (∀ a, P a → Z.F a ∨ H a = none) → ExtO P m H m' H' → Gd H')
    (r : ∀ i v, ps[i]? = some v → ∃ a b x y, v = .tup [a, b] ∧ f i = some x ∧ g i = some y ∧ Rp Z m H a x ∧ Rp Z m H b y) : RI Z m H (.l (ps.map .p)) J := by
  refine ri_of w hg fun F' P wd hP i v m' H' S' x H'' hv e R y => ?_
  obtain ⟨T, x1, y1, rfl, hT, rfl, h1, h2⟩ := y
  obtain ⟨a, b, x2, y2, rfl, e1, e2, ra, rb⟩ := r i v hv
  rw [h1] at e1; cases e1
  rw [h2] at e2; cases e2
  have ex := Ext.alloc (m := m') (o := .tup [x1, y1]) hT
  exact ⟨ex, R.alloc hT, .p (.tup upd_same (.cons (((wd.rp ra).extO hP e).ext ex) (.cons (((wd.rp rb).extO hP e).ext ex) .nil)))⟩
theorem enumV_len : ∀ (k : Nat) (xs : List PV), (enumV k xs).length = xs.length
  | _, [] => rfl
  | k, x :: xs => by rw [enumV, List.length_cons, List.length_cons, enumV_len]
theorem enumV_get : ∀ (k : Nat) (xs : List PV) (i : Nat) (v : PV), (enumV k xs)[i]? = some v → ∃ x, xs[i]? = some x ∧ v = .tup [.int ((k + i : Nat) : Int), x]
  | _, [], _, _, h => by simp [enumV] at h
  | k, x :: xs, 0, v, h => by simp [enumV] at h; exact ⟨x, rfl, h.symm⟩
  | k, x :: xs, i + 1, v, h => by
    rw [enumV, List.getElem?_cons_succ] at h
    obtain ⟨y, h1, h2⟩ := enumV_get (k + 1) xs i v h
    refine ⟨y, h1, ?_⟩
    rw [h2]
    have : k + 1 + i = k + (i + 1) := by omega
    rw [this]
theorem zipV_len : ∀ (xs ys : List PV), (zipV xs ys).length = min xs.length ys.length
  | [], _ => by simp [zipV]
  | _ :: _, [] => by simp [zipV]
  | x :: xs, y :: ys => by simp [zipV, zipV_len]
theorem zipV_get : ∀ (xs ys : List PV) (i : Nat) (v : PV), (zipV xs ys)[i]? = some v → ∃ x y, xs[i]? = some x ∧ ys[i]? = some y ∧ v = .tup [x, y]
  | [], _, _, _, h => by simp [zipV] at h
  | _ :: _, [], _, _, h => by simp [zipV] at h
  | x :: xs, y :: ys, 0, v, h => by simp [zipV] at h; exact ⟨x, y, rfl, rfl, h.symm⟩
  | x :: xs, y :: ys, i + 1, v, h => by
    rw [zipV, List.getElem?_cons_succ] at h
    obtain ⟨a, b, h1, h2, h3⟩ := zipV_get xs ys i v h
    exact ⟨a, b, h1, h2, h3⟩
end
section
variable {G : Gm} {d : Nat} {x : Sx}
theorem si_val {tg e : Expr} {p : PX} (ha : SE G d x e (evE G p)) : SI G d x tg e (evIt G (.val p)) := by
  intro Z X W m H S ρ σ R n h
  simp only [evIt] at h
  refine PI.j (pi_any pe_j) (ha Z X W m H S ρ σ _ n (Post.bind h fun v S1 m1 H1 u e1 x1 R1 r1 q1 => ?_))
  rw [n.ok.hK]
  cases v with
  | p v =>
    cases r1 with
    | p r1 =>
      simp only [itemsOf] at q1
      cases es : seqOf v with
      | some xs =>
        rw [es] at q1
        obtain ⟨a, us, rfl, ra, hl, ht⟩ := seq_walk r1 es
        cases hv : tupP v with
        | false => exact .inl ⟨a, rfl, ⟨us, hl hv _ _ _ nof ExtO.refl⟩, Post.now q1 R1 (ri_at walk_list (hl hv) ra)⟩
        | true => exact .inr (.inl ⟨a, rfl, ⟨us, ht hv _ _ _ nof ExtO.refl⟩, Post.now q1 R1 (ri_at walk_tup (ht hv) ra)⟩)
      | none =>
        rw [es] at q1
        cases v with
        | str z =>
          by_cases hz : z.length ≤ lim
          · simp only [hz, if_true] at q1
            cases r1
            refine .inr (.inr ⟨z, rfl, Post.now q1 R1 ?_⟩)
            have w := walk_str (z := z)
            have e2 : (z.cps.toList.map fun c => PV.str ⟨#[c]⟩).length = z.cps.size := by simp
            rw [← e2] at w
            have := ri_of (Z := Z) (m := m1) (H := H1) (xs := z.cps.toList.map fun c => PV.str ⟨#[c]⟩) w (fun _ _ _ _ _ => trivial) fun F' P wd hP i v m' H' S' y H'' hv e R1 q => by
              obtain ⟨rfl, c, hc, rfl⟩ := q
              rw [List.getElem?_map] at hv
              obtain ⟨c', hc', rfl⟩ := Option.map_eq_some_iff.mp hv
              have : c' = c := by
                have h3 : z.cps.toList[i]? = some c := by simpa using hc
                rw [h3] at hc'; exact (Option.some.inj hc').symm
              subst this
              exact ⟨Ext.refl, R1, .p (.str _)⟩
            rw [List.map_map] at this
            exact this
          · simp only [hz, if_false] at q1
            exact q1.elim
        | _ => exact q1.elim
  | ref i =>
    cases r1 with
    | ref hi =>
      rename_i a
      simp only [itemsOf] at q1
      have hlist : ∀ {Z : St0} {P : Addr → Prop} {m' : List Addr} {H' : Hp} {S' : List PO}, ExtO P m1 H1 m' H' → Rel Z m' S' H' → ∀ o, S'[i]? = some o → RpO Z m' H' a o := fun e R o ho => R.ob i a o (e.get hi) ho
      have main : (∃ us, H1 a = some (.lst us)) → RI Z m1 H1 (.o i) (Itl Z.K a) := fun ⟨us0, hs⟩ => by
        intro F' P wd hP m' H' S' e R' k _
        refine ⟨fun h => ?_, fun v h => ?_⟩
        · simp only [itAt] at h
          split at h
          · rename_i xs ex
            obtain ⟨us, g1, g2⟩ := hlist e R' _ ex
            simp only [Option.some.injEq, Option.map_eq_none_iff, List.getElem?_eq_none_iff] at h
            exact ⟨us, SqL.of g1, by rw [← g2.length]; exact h⟩
          · rename_i is ex
            obtain ⟨us, g1, g2⟩ := hlist e R' _ ex
            simp only [Option.some.injEq, Option.map_eq_none_iff, List.getElem?_eq_none_iff] at h
            have hl := g2.length
            rw [List.length_map] at hl
            exact ⟨us, SqL.of g1, by rw [← hl]; exact h⟩
          · cases h
        · simp only [itAt] at h
          split at h
          · rename_i xs ex
            obtain ⟨us, g1, g2⟩ := hlist e R' _ ex
            obtain ⟨w, hw, rfl⟩ := Option.map_eq_some_iff.mp (Option.some.inj h)
            obtain ⟨u, hu, ru⟩ := g2.get hw
            refine ⟨⟨us, u, SqL.of g1, hu⟩, fun y H'' q => ?_⟩
            obtain ⟨rfl, q⟩ := q
            have := q us (SqL.of g1)
            rw [hu] at this; cases this
            exact ⟨Ext.refl, R', .p ru⟩
          · rename_i is ex
            obtain ⟨us, g1, g2⟩ := hlist e R' _ ex
            obtain ⟨w, hw, rfl⟩ := Option.map_eq_some_iff.mp (Option.some.inj h)
            have hw' : (is.map EV.ref)[k]? = some (.ref w) := by rw [List.getElem?_map, hw]; rfl
            obtain ⟨u, hu, ru⟩ := g2.get hw'
            refine ⟨⟨us, u, SqL.of g1, hu⟩, fun y H'' q => ?_⟩
            obtain ⟨rfl, q⟩ := q
            have := q us (SqL.of g1)
            rw [hu] at this; cases this
            exact ⟨Ext.refl, R', ru⟩
          · cases h
      cases es : S1[i]? with
      | none => rw [es] at q1; exact q1.elim
      | some o =>
        rw [es] at q1
        cases o with
        | lst xs =>
          obtain ⟨us, g1, g2⟩ := hlist (P := fun _ => False) ExtO.refl R1 _ es
          exact .inl ⟨a, rfl, ⟨us, SqL.of g1⟩, Post.now q1 R1 (main ⟨us, g1⟩)⟩
        | rows xs =>
          obtain ⟨us, g1, g2⟩ := hlist (P := fun _ => False) ExtO.refl R1 _ es
          exact .inl ⟨a, rfl, ⟨us, SqL.of g1⟩, Post.now q1 R1 (main ⟨us, g1⟩)⟩
        | _ => exact q1.elim
theorem rangeV_len (i j : Int) : (rangeV i j).length = (j - i).toNat := by simp [rangeV]
theorem ri_range {Z : St0} {m : List Addr} {H : Hp} {i : Int} {n : Nat} : RI Z m H (.l (((List.range n).map fun (k : Nat) => PV.int (i + (k : Int))).map .p)) (Itr i n) := by
  have w := walk_range (lo := i) (n := n)
  have e2 : ((List.range n).map fun (k : Nat) => PV.int (i + (k : Int))).length = n := by simp
  rw [← e2] at w
  have := ri_of (Z := Z) (m := m) (H := H) (xs := (List.range n).map fun (k : Nat) => PV.int (i + (k : Int))) w (fun _ _ _ _ _ => trivial) fun F' P wd hP k v m' H' S' y H'' hv e R1 q => by
    obtain ⟨rfl, rfl⟩ := q
    rw [List.getElem?_map] at hv
    obtain ⟨c', hc', rfl⟩ := Option.map_eq_some_iff.mp hv
    obtain ⟨h1, h2⟩ := List.getElem?_eq_some_iff.mp hc'
    rw [List.getElem_range] at h2
    subst h2
    exact ⟨Ext.refl, R1, .p (.int _)⟩
  rw [e2] at this
  exact this
theorem rng_some {i j : Int} {l : List PV} (h : rng i j = some l) : (-(2 ^ 62) ≤ i ∧ i < 2 ^ 62 ∧ -(2 ^ 62) ≤ j ∧ j < 2 ^ 62) ∧ (j - i).toNat ≤ lim ∧ l = rangeV i j := by
  unfold rng at h
  split at h
  · rename_i hc
    simp only [Bool.and_eq_true, decide_eq_true_eq] at hc
    cases h
    exact ⟨⟨hc.1, hc.2.1, hc.2.2.1, hc.2.2.2.1⟩, hc.2.2.2.2, rfl⟩
  · cases h
theorem pa_one {X : Cx} {e : Expr} (hs : starB e = false) : PA X [e] (tCons (jE X e) tNil) := pa_cons pe_j pa_nil (star_cons hs)
theorem si_range1 {tg e : Expr} {p : PX} {pp pos : Pos} (hf : ("range" : Str) ∈ G.free) (hg : glB x.sc "range" = true) (ha : SE G d x e (evE G p)) (hs : starB e = false) : SI G d x tg (.Call (.Name "range" pp) [e] [] pos) (evIt G (.range1 p)) := by
  intro Z X W m H S ρ σ R n h
  simp only [evIt] at h
  refine PI.j (pi_range1 (gl_of n.ok.hs hg) (n.ok.free _ hf) (pa_one hs) (star_cons hs)) (ha Z X W m H S ρ σ _ n (Post.bind h fun v S1 m1 H1 u e1 x1 R1 r1 q1 => ?_))
  split at q1
  · rename_i j
    cases r1 with
    | p r1 =>
      cases r1
      split at q1
      · rename_i l el
        obtain ⟨⟨h1, h2, h3, h4⟩, h5, rfl⟩ := rng_some el
        refine ⟨j, rfl, h3, h4, ?_⟩
        have := ri_range (Z := Z) (m := m1) (H := H1) (i := 0) (n := j.toNat)
        rw [rangeV, Int.sub_zero] at q1
        exact Post.now q1 R1 this
      · exact q1.elim
  · exact q1.elim
theorem si_range2 {tg e e2 : Expr} {p p2 : PX} {pp pos : Pos} (hf : ("range" : Str) ∈ G.free) (hg : glB x.sc "range" = true) (ha : SE G d x e (evE G p)) (hb : SE G d x e2 (evE G p2)) (hs : starB e = false) (hs2 : starB e2 = false) :
    SI G d x tg (.Call (.Name "range" pp) [e, e2] [] pos) (evIt G (.range2 p p2)) := by
  intro Z X W m H S ρ σ R n h
  simp only [evIt] at h
  refine PI.j (pi_range2 (gl_of n.ok.hs hg) (n.ok.free _ hf) (pa_cons pe_j (pa_one hs2) (star_cons hs)) (by rw [star_cons hs, star_cons hs2]; rfl) (star_cons hs2)) (ha Z X W m H S ρ σ _ n (Post.bind h fun v S1 m1 H1 u e1 x1 R1 r1 q1 =>
    hb Z X W m1 H1 S1 ρ σ _ (n.step x1 R1) (Post.bind q1 fun v2 S2 m2 H2 u2 e2 x2 R2 r2 q2 => ?_)))
  split at q2
  · rename_i i j
    cases r1 with
    | p r1 =>
      cases r2 with
      | p r2 =>
        cases r1
        cases r2
        split at q2
        · rename_i l el
          obtain ⟨h1, h5, rfl⟩ := rng_some el
          exact ⟨i, j, rfl, h1, Post.now q2 R2 ri_range⟩
        · exact q2.elim
  · exact q2.elim
theorem si_enum {e : Expr} {p : PX} {elts : List Expr} {kk : Nat} {pp pos tpos : Pos} (hf : ("enumerate" : Str) ∈ G.free) (hg : glB x.sc "enumerate" = true) (ha : SE G d x e (evE G p)) (hs : starB e = false) :
    SI G d x (.Tuple elts kk tpos) (.Call (.Name "enumerate" pp) [e] [] pos) (evIt G (.enum p)) := by
  intro Z X W m H S ρ σ R n h
  simp only [evIt] at h
  refine PI.j (pi_enumA (gl_of n.ok.hs hg) (n.ok.free _ hf) (pa_one hs) (star_cons hs)) (ha Z X W m H S ρ σ _ n (Post.bind h fun v S1 m1 H1 u e1 x1 R1 r1 q1 => ?_))
  rw [n.ok.hK]
  cases v with
  | p v =>
    cases r1 with
    | p r1 =>
      simp only at q1
      cases es : seqOf v with
      | none => rw [es] at q1; exact q1.elim
      | some xs =>
        rw [es] at q1
        obtain ⟨a, us, rfl, ra, hl, ht⟩ := seq_walk r1 es
        have pr : ∀ (i : Nat) (v : PV), (enumV 0 xs)[i]? = some v → ∃ a b x y, v = .tup [a, b] ∧ some (V.int (i : Nat)) = some x ∧ us[i]? = some y ∧ Rp Z m1 H1 a x ∧ Rp Z m1 H1 b y := fun i v hv => by
          obtain ⟨y, h1, rfl⟩ := enumV_get 0 xs i v hv
          obtain ⟨w, hw, rw'⟩ := ra.get h1
          rw [Nat.zero_add]
          exact ⟨_, _, _, _, rfl, rfl, hw, .int _, rw'⟩
        have hlen : (enumV 0 xs).length = us.length := by rw [enumV_len, ra.length]
        cases hv : tupP v with
        | false =>
          have w := walk_enum (K := Z.K) (a := a) (xs := us)
          rw [← hlen] at w
          exact ⟨a, us, rfl, .inl ⟨hl hv _ _ _ nof ExtO.refl, Post.now q1 R1 (ri_pair w (hl hv) pr)⟩⟩
        | true =>
          have w : Walk (IteT Z.K a) us.length (fun H => SqT Z.K H a us) (YPair (fun i => some (.int (i : Nat))) (fun i => us[i]?)) := by
            refine ⟨fun i _ hi q => ⟨us, us[i], q, by simp [hi]⟩, fun _ q => ⟨us, q, rfl⟩, fun i H v H' _ q y => ?_⟩
            obtain ⟨T, x, h1, h2, h3, h4⟩ := y
            exact ⟨T, .int (i : Nat), x, h1, h2, h3, rfl, h4 us q⟩
          rw [← hlen] at w
          exact ⟨a, us, rfl, .inr ⟨ht hv _ _ _ nof ExtO.refl, Post.now q1 R1 (ri_pair w (ht hv) pr)⟩⟩
  | ref i =>
    cases r1 with
    | ref hi =>
      rename_i a
      simp only at q1
      have hlist : ∀ {Z : St0} {P : Addr → Prop} {m' : List Addr} {H' : Hp} {S' : List PO}, ExtO P m1 H1 m' H' → Rel Z m' S' H' → ∀ o, S'[i]? = some o → RpO Z m' H' a o := fun e R o ho => R.ob i a o (e.get hi) ho
      have main : RI Z m1 H1 (.en i) (Ite Z.K a) := by
        intro F' P wd hP m' H' S' e R' k _
        refine ⟨fun h => ?_, fun v h => ?_⟩
        · simp only [itAt] at h
          split at h
          · rename_i xs ex
            obtain ⟨us, g1, g2⟩ := hlist e R' _ ex
            simp only [Option.some.injEq, Option.map_eq_none_iff, List.getElem?_eq_none_iff] at h
            exact ⟨us, SqL.of g1, by rw [← g2.length]; exact h⟩
          · cases h
        · simp only [itAt] at h
          split at h
          · rename_i xs ex
            obtain ⟨us, g1, g2⟩ := hlist e R' _ ex
            obtain ⟨w, hw, rfl⟩ := Option.map_eq_some_iff.mp (Option.some.inj h)
            obtain ⟨u, hu, ru⟩ := g2.get hw
            refine ⟨⟨us, u, SqL.of g1, hu⟩, fun y H'' q => ?_⟩
            obtain ⟨T, y1, rfl, hT, rfl, q⟩ := q
            have := q us (SqL.of g1)
            rw [hu] at this; cases this
            have exx := Ext.alloc (m := m') (o := .tup [.int (k : Nat), u]) hT
            exact ⟨exx, R'.alloc hT, .p (.tup upd_same (.cons (.int _) (.cons (ru.ext exx) .nil)))⟩
          · cases h
      cases es : S1[i]? with
      | none => rw [es] at q1; exact q1.elim
      | some o =>
        rw [es] at q1
        cases o with
        | lst xs =>
          obtain ⟨us, g1, g2⟩ := hlist (P := fun _ => False) ExtO.refl R1 _ es
          exact ⟨a, us, rfl, .inl ⟨SqL.of g1, Post.now q1 R1 main⟩⟩
        | _ => exact q1.elim
/-- what zip takes: a list by its own items at each turn -/
theorem zp_at {Z : St0} {m : List Addr} {H : Hp} {S : List PO} (R : Rel Z m S H) {v : EV} {u : V} {xs : List PV} (r : Re Z m H v u) (ht : tupE v = false) (h : seqAt S v = some xs) :
    ∃ a, u = .ref a ∧ ∀ F' P, Wd Z H F' → (∀ a, P a → F' a) → ∀ m' H' S' ys, ExtO P m H m' H' → Rel (Z.up F') m' S' H' → seqAt S' v = some ys → ∃ us, SqL Z.K H' a us ∧ RpA (Z.up F') m' H' ys us := by
  cases r with
  | p r =>
    obtain ⟨a, us, rfl, ra, hl, _⟩ := seq_walk r h
    refine ⟨a, rfl, fun F' P wd hP m' H' S' ys e R' h' => ⟨us, hl ht _ _ _ (fun a p => wd.new a (hP a p)) e, ?_⟩⟩
    have : xs = ys := Option.some.inj (h.symm.trans h')
    rw [← this]
    exact (wd.rpA ra).extO hP e
  | ref hi =>
    rename_i i a
    refine ⟨a, rfl, fun F' P wd hP m' H' S' ys e R' h' => ?_⟩
    simp only [seqAt] at h'
    split at h'
    · rename_i zs ez
      cases h'
      obtain ⟨us, g1, g2⟩ := R'.ob i a _ (e.get hi) ez
      exact ⟨us, SqL.of g1, g2⟩
    · cases h'
theorem si_zip {e e2 : Expr} {ps : List PX} {elts : List Expr} {kk : Nat} {pp pos tpos : Pos} (hf : ("zip" : Str) ∈ G.free) (hg : glB x.sc "zip" = true) (ha : SA G d x [e, e2] (evEs G ps)) (hs : starB e = false) (hs2 : starB e2 = false) :
    SI G d x (.Tuple elts kk tpos) (.Call (.Name "zip" pp) [e, e2] [] pos) (evIt G (.zip ps)) := by
  intro Z X W m H S ρ σ R n h
  simp only [evIt] at h
  refine PI.j (pi_zipB (gl_of n.ok.hs hg) (n.ok.free _ hf) pa_j (star_cons hs) (by rw [star_cons hs2]; rfl)) (ha Z X W m H S ρ σ _ n (Post.bind h fun vs S1 m1 H1 us e1 x1 R1 r1 q1 => ?_))
  rw [n.ok.hK]
  split at q1
  · rename_i v w
    cases es : seqOf v with
    | none => rw [es] at q1; exact q1.elim
    | some xs =>
      rw [es] at q1
      simp only at q1
      cases et : seqOf w with
      | none => rw [et] at q1; exact q1.elim
      | some ys =>
        rw [et] at q1
        simp only at q1
        cases r1 with
        | cons r1 rr =>
          cases rr with
          | cons r2 rr =>
            cases rr
            cases r1 with
            | p r1 =>
              cases r2 with
              | p r2 =>
                obtain ⟨a, us, rfl, ra, hl, ht⟩ := seq_walk r1 es
                obtain ⟨b, us2, rfl, rb, hl2, ht2⟩ := seq_walk r2 et
                have pr : ∀ (i : Nat) (v : PV), (zipV xs ys)[i]? = some v → ∃ a b x y, v = .tup [a, b] ∧ us[i]? = some x ∧ us2[i]? = some y ∧ Rp Z m1 H1 a x ∧ Rp Z m1 H1 b y := fun i v hv => by
                  obtain ⟨y, z, h1, h2, rfl⟩ := zipV_get xs ys i v hv
                  obtain ⟨w1, hw1, rw1⟩ := ra.get h1
                  obtain ⟨w2, hw2, rw2⟩ := rb.get h2
                  exact ⟨_, _, _, _, rfl, hw1, hw2, rw1, rw2⟩
                have hlen : (zipV xs ys).length = min us.length us2.length := by rw [zipV_len, ra.length, rb.length]
                have sa : ∀ P m' H', (∀ a, P a → Z.F a ∨ H1 a = none) → ExtO P m1 H1 m' H' → SqB Z.K (tupP v) H' a us := fun P m' H' p e => by
                  cases hv : tupP v with
                  | true => exact ht hv P m' H' p e
                  | false => exact hl hv P m' H' p e
                have sb : ∀ P m' H', (∀ a, P a → Z.F a ∨ H1 a = none) → ExtO P m1 H1 m' H' → SqB Z.K (tupP w) H' b us2 := fun P m' H' p e => by
                  cases hv : tupP w with
                  | true => exact ht2 hv P m' H' p e
                  | false => exact hl2 hv P m' H' p e
                have wk : Walk (ItzB Z.K (tupP v) (tupP w) a b) (zipV xs ys).length (fun H => SqB Z.K (tupP v) H a us ∧ SqB Z.K (tupP w) H b us2) (YPair (fun i => us[i]?) (fun i => us2[i]?)) := by
                  refine ⟨fun i _ hi q => ?_, fun _ q => ⟨us, us2, q.1, q.2, by omega⟩, fun i H v H' _ q y => ?_⟩
                  · have h1 : i < us.length := by omega
                    have h2 : i < us2.length := by omega
                    exact ⟨us, us2, us[i], us2[i], q.1, q.2, by simp [h1], by simp [h2]⟩
                  · obtain ⟨T, x, z, h1, h2, h3, h4, h5⟩ := y
                    exact ⟨T, x, z, h1, h2, h3, h4 us q.1, h5 us2 q.2⟩
                exact ⟨a, b, us, us2, rfl, .inr ⟨_, _, sa _ _ _ nof ExtO.refl, sb _ _ _ nof ExtO.refl, Post.now q1 R1 (ri_pair wk (fun P m' H' p e => ⟨sa P m' H' p e, sb P m' H' p e⟩) pr)⟩⟩
  · rename_i v w _
    split at q1
    · exact q1.elim
    · rename_i hv
      split at q1
      · exact q1.elim
      · rename_i hw
        have hv : tupE v = false := by simpa using hv
        have hw : tupE w = false := by simpa using hw
        cases es : seqAt S1 v with
        | none => rw [es] at q1; exact q1.elim
        | some xs =>
          rw [es] at q1
          simp only at q1
          cases et : seqAt S1 w with
          | none => rw [et] at q1; exact q1.elim
          | some ys =>
            rw [et] at q1
            simp only at q1
            cases r1 with
            | cons r1 rr =>
              cases rr with
              | cons r2 rr =>
                cases rr
                obtain ⟨a, rfl, fa⟩ := zp_at R1 r1 hv es
                obtain ⟨b, rfl, fb⟩ := zp_at R1 r2 hw et
                obtain ⟨us, g1, g2⟩ := fa _ (fun _ => False) Wd.refl (fun _ h => h.elim) _ _ _ _ ExtO.refl R1 es
                obtain ⟨us2, g3, g4⟩ := fb _ (fun _ => False) Wd.refl (fun _ h => h.elim) _ _ _ _ ExtO.refl R1 et
                refine ⟨a, b, us, us2, rfl, .inl ⟨g1, g3, Post.now q1 R1 ?_⟩⟩
                intro F' P wd hP m' H' S' e R' k _
                simp only [itAt]
                cases es' : seqAt S' v with
                | none => exact ⟨fun h => (nomatch h), fun v h => (nomatch h)⟩
                | some xs' =>
                  cases et' : seqAt S' w with
                  | none => exact ⟨fun h => (nomatch h), fun v h => (nomatch h)⟩
                  | some ys' =>
                    obtain ⟨us, g1, g2⟩ := fa _ P wd hP _ _ _ _ e R' es'
                    obtain ⟨us2, g3, g4⟩ := fb _ P wd hP _ _ _ _ e R' et'
                    refine ⟨fun h => ?_, fun v h => ?_⟩
                    · refine ⟨us, us2, g1, g3, ?_⟩
                      rw [← g2.length, ← g4.length]
                      simp only [Option.some.injEq] at h
                      split at h
                      · simp only [Option.map_eq_none_iff, List.getElem?_eq_none_iff] at h
                        exact .inr h
                      · rename_i h'
                        exact .inl (List.getElem?_eq_none_iff.mp h')
                    · simp only [Option.some.injEq] at h
                      split at h
                      · rename_i xk ek
                        obtain ⟨yk, hy, rfl⟩ := Option.map_eq_some_iff.mp h
                        obtain ⟨u1, hu1, ru1⟩ := g2.get ek
                        obtain ⟨u2, hu2, ru2⟩ := g4.get hy
                        refine ⟨⟨us, us2, u1, u2, g1, g3, hu1, hu2⟩, fun y H'' q => ?_⟩
                        obtain ⟨T, y1, y2, rfl, hT, rfl, h4, h5⟩ := q
                        have := h4 us g1
                        rw [hu1] at this; cases this
                        have := h5 us2 g3
                        rw [hu2] at this; cases this
                        have exx := Ext.alloc (m := m') (o := .tup [u1, u2]) hT
                        exact ⟨exx, R'.alloc hT, .p (.tup upd_same (.cons (ru1.ext exx) (.cons (ru2.ext exx) .nil)))⟩
                      · cases h
  · exact q1.elim
end
end Rv
end PartRvI
section PartRvJ
set_option Elab.async false
set_option linter.all false
set_option maxRecDepth 100000
set_option autoImplicit false
/-! Rv, part J: targets, comprehensions. -/
namespace Rv
open PySem PySem.Spec PyProof.Rows L2
/-! ### targets -/
def locB (x : Sx) (y : Str) : Bool := match x.sc.names.lookup y with
  | some .local => true
  | some .cell => x.fnc y
  | _ => false
theorem loc_of {x : Sx} {X : Cx} {y : Str} (hs : X.env.scope = x.sc) (hf : X.fn = x.fnc) (h : locB x y = true) : Loc X.env.scope y ∧ (X.fn y = true ∨ X.env.scope.names.lookup y = some .local) := by
  unfold locB at h
  rw [hs, hf]
  split at h
  · rename_i e; exact ⟨.inl e, .inr e⟩
  · rename_i e; exact ⟨.inr e, .inl h⟩
  · cases h
mutual
def slT : PT → List Nat
  | .nm i => [i]
  | .tup ts => slTs ts
def slTs : List PT → List Nat
  | [] => []
  | t :: ts => slT t ++ slTs ts
end
theorem wipe_set_not {σ : L2.St} {i : Nat} {o : Option V} : ∀ {vs : List Nat}, i ∉ vs → wipe (σ.set i o) vs = (wipe σ vs).set i o
  | [], _ => rfl
  | v :: vs, h => by
    simp only [List.mem_cons, not_or] at h
    unfold wipe
    rw [wipe_set_not h.2, List.set_comm _ _ h.1]
theorem wipe_set {σ : L2.St} {i : Nat} {o : Option V} : ∀ {vs : List Nat}, i ∈ vs → wipe (σ.set i o) vs = wipe σ vs
  | [], h => by cases h
  | v :: vs, h => by
    unfold wipe
    by_cases hm : i ∈ vs
    · rw [wipe_set hm]
    · rcases List.mem_cons.mp h with rfl | h
      · rw [wipe_set_not hm, List.set_set]
      · exact absurd h hm
/-- tg is stored as t says -/
def SG (x : Sx) (tg : Expr) (t : PT) : Prop :=
  ∀ (Z : St0) (G : Gm) (d : Nat) (X : Cx) (m : List Addr) (H : Hp) (ρ ρ' : Sl) (σ : L2.St) (v : EV) (u : V) (Q : L2.St → Hp → Prop), XOk Z G d x X → RpE Z m H ρ σ → Re Z m H v u → bindT t ρ v = some ρ' →
    (∀ σ', RpE Z m H ρ' σ' → (∀ vs, (∀ i ∈ slT t, i ∈ vs) → wipe σ' vs = wipe σ vs) → Q σ' H) → jG X tg u σ H Q
def SGs (x : Sx) (es : List Expr) (ts : List PT) : Prop :=
  ∀ (Z : St0) (G : Gm) (d : Nat) (X : Cx) (m : List Addr) (H : Hp) (ρ ρ' : Sl) (σ : L2.St) (vs : List PV) (us : List V) (Q : L2.St → Hp → Prop), XOk Z G d x X → RpE Z m H ρ σ → RpA Z m H vs us → bindTs ts ρ vs = some ρ' →
    (∀ σ', RpE Z m H ρ' σ' → (∀ vs, (∀ i ∈ slTs ts, i ∈ vs) → wipe σ' vs = wipe σ vs) → Q σ' H) →
    ∀ (pins : List (Addr × Obj)) (s : Shared) (us' : List Value), Inv X pins σ H s → Vals us us' → wpAny (model X.prog X.w) X.A (assignInOrder ((assignEach es X.env).map (·.2)) us') (fun _ s' => ∃ σ' H', Inv X pins σ' H' s' ∧ Q σ' H') X.xe s
section
variable {x : Sx}
theorem assignEach_cons {e : Expr} {es : List Expr} {env : Env} (h : starB e = false) : assignEach (e :: es) env = (false, assign e env) :: assignEach es env := by
  cases e <;> first | rfl | (cases h)
theorem assignEach_none : ∀ {es : List Expr} {env : Env}, es.all (fun e => !starB e) = true → (assignEach es env).findIdx? (·.1) = none ∧ (assignEach es env).length = es.length
  | [], _, _ => ⟨rfl, rfl⟩
  | e :: es, env, h => by
    rw [List.all_cons, Bool.and_eq_true] at h
    have h1 : starB e = false := by simpa using h.1
    obtain ⟨a, b⟩ := assignEach_none (env := env) h.2
    rw [assignEach_cons h1]
    refine ⟨?_, by rw [List.length_cons, List.length_cons, b]⟩
    rw [List.findIdx?_cons, a]
    rfl
theorem sg_name {i : Nat} {y : Str} {pos : Pos} (hN : x.N[i]? = some y) (hl : locB x y = true) : SG x (.Name y pos) (.nm i) := by
  intro Z G d X m H ρ ρ' σ v u Q ok env r hb q
  simp only [bindT] at hb
  cases hb
  obtain ⟨h1, h2⟩ := loc_of ok.hs ok.hf hl
  refine PG.j (pg_name ok.nd (by rw [ok.hN]; exact hN) h1 h2) (q _ (env.set r) fun vs hv => wipe_set (hv i (by simp [slT])))
theorem sgs_nil : SGs x [] [] := by
  intro Z G d X m H ρ ρ' σ vs us Q ok env r hb q pins s us' I ru
  cases r with
  | nil =>
    cases ru
    simp only [bindTs] at hb
    cases hb
    exact assignInOrder_nil ⟨σ, H, I, q σ env fun _ _ => rfl⟩
  | cons r rr => simp only [bindTs] at hb; cases hb
theorem sgs_cons {e : Expr} {es : List Expr} {t : PT} {ts : List PT} (ha : SG x e t) (hb : SGs x es ts) (hs : starB e = false) : SGs x (e :: es) (t :: ts) := by
  intro Z G d X m H ρ ρ' σ vs us Q ok env r hbd q pins s us' I ru
  cases r with
  | nil => simp only [bindTs] at hbd; cases hbd
  | cons r rr =>
    cases ru with
    | cons ru rus =>
      simp only [bindTs] at hbd
      split at hbd
      · rename_i ρ1 e1
        rw [assignEach_cons hs]
        refine assignInOrder_cons (thn (ha Z G d X m H ρ ρ1 σ _ _ (fun σ1 H1 => H1 = H ∧ RpE Z m H ρ1 σ1 ∧ ∀ vs, (∀ i ∈ slT t, i ∈ vs) → wipe σ1 vs = wipe σ vs) ok env (.p r) e1 (fun σ' h1 h2 => ⟨rfl, h1, h2⟩) pins s _ I ru) fun _ s1 ⟨σ1, H1, I1, e2, env1, w1⟩ => ?_)
        subst e2
        exact hb Z G d X m H1 ρ1 ρ' σ1 _ _ Q ok env1 rr hbd (fun σ' h1 h2 => q σ' h1 fun vs hv => (h2 vs fun i hi => hv i (by simp [slTs, hi])).trans (w1 vs fun i hi => hv i (by simp [slTs, hi]))) pins s1 _ I1 rus
      · cases hbd
theorem bindTs_len : ∀ {ts : List PT} {ρ ρ' : Sl} {xs : List PV}, bindTs ts ρ xs = some ρ' → xs.length = ts.length
  | [], _, _, [], _ => rfl
  | [], _, _, _ :: _, h => by simp only [bindTs] at h; cases h
  | t :: ts, _, _, [], h => by simp only [bindTs] at h; cases h
  | t :: ts, _, _, x :: xs, h => by
    simp only [bindTs] at h
    split at h
    · rw [List.length_cons, List.length_cons, bindTs_len h]
    · cases h
theorem sg_tup {es : List Expr} {ts : List PT} {k : Nat} {pos : Pos} (hh : x.hot = false) (h : SGs x es ts) (hl : es.length = ts.length) (hs : es.all (fun e => !starB e) = true) : SG x (.Tuple es k pos) (.tup ts) := by
  intro Z G d X m H ρ ρ' σ v u Q ok env r hb q
  simp only [bindT] at hb
  split at hb
  · rename_i xs
    cases r with
    | p r =>
      cases r with
      | tup ha ra =>
        rename_i a us
        intro pins s u' I ru
        obtain ⟨a1, a2⟩ := assignEach_none (env := X.env) hs
        have hlen := bindTs_len hb
        have hc := (ok.calm hh).1
        cases ru
        obtain ⟨its, rv, ht, hz⟩ := I.tuple (SqT.of (K := X.K) ha)
        refine assign_Tuple_tuple (I.ok.hd hc) ht (by simp [a2, hl, ← hlen, ra.length, rv.length]) a1 fun h' hx => ?_
        have I1 : Inv X pins σ H { s with heap := h' } := I.kept (t' := s.toks) fun b o e => hx b o (Nat.ne_of_lt (Heap.lt_size e)) e
        exact h Z G d X m H ρ ρ' σ xs us Q ok env ra hb (fun σ' h1 h2 => q σ' h1 fun vs hv => h2 vs fun i hi => hv i (by simpa [slT] using hi)) pins _ _ I1 (by simpa using rv)
  · cases hb
end
/-! ### the block of a comprehension -/
def blkX (x : Sx) (scope : Scope) : Sx := ⟨x.N, relS scope x.sc, fun y => scope.names.lookup y == some .cell, x.hot, false⟩
theorem xok_blk {Z : St0} {G : Gm} {d : Nat} {x : Sx} {X : Cx} {scope : Scope} (ok : XOk Z G d x X) (hh : x.hot = false) (s : Shared) (H : Hp) (C : Addr) (cl : List (Str × Addr)) (fp : List Addr) :
    XOk Z G d (blkX x scope) (X.blk s H scope (compEnvC scope cl C X.env) fp) :=
  ⟨ok.hK, ok.hN, by show relS scope X.env.scope = _; rw [ok.hs]; rfl, rfl, fun _ => ok.calm hh, ok.room, fun z => absurd ((show x.hot = true from z).symm.trans hh) (by decide), ok.nd, fun z => (by cases z), ok.fns, ok.cls, ok.free, ok.bfs, ok.csts⟩
theorem now_blk {Z : St0} {G : Gm} {d : Nat} {x : Sx} {X : Cx} {scope : Scope} {m : List Addr} {H' : Hp} {S : List PO} {ρ : Sl} {σ : L2.St} (ok : XOk Z G d x X) (hh : x.hot = false) (s : Shared) (H : Hp) (C : Addr) (cl : List (Str × Addr)) (fp : List Addr)
    (R : Rel Z m S H') (env : RpE Z m H' ρ σ) : Now Z G d (blkX x scope) (X.blk s H scope (compEnvC scope cl C X.env) fp) (fun _ _ _ _ => False) m H' S ρ σ :=
  ⟨xok_blk ok hh s H C cl fp, fun _ _ ⟨_, _, _, _, _, _, _, _, _, _, _, _, _, _, _, _, w⟩ => w.elim, PassesOwn.never, R, env⟩
theorem XOk.up {Z : St0} {G : Gm} {d : Nat} {x : Sx} {X : Cx} (ok : XOk Z G d x X) (F' : Addr → Prop) : XOk (Z.up F') G d x X :=
  ⟨ok.hK, ok.hN, ok.hs, ok.hf, ok.calm, ok.room, ok.hotc, ok.nd, ok.stk, ok.fns, ok.cls, ok.free, ok.bfs, ok.csts⟩
/-! ### the new list, apart -/
/-- H2 is H but at D -/
theorem off_rp {Z : St0} {m : List Addr} {H H2 : Hp} {D : Addr} (hD : ∀ xs : List V, H D ≠ some (.tup xs)) (hF : Z.F D) (he : ∀ a, a ≠ D → H2 a = H a) : ∀ {v : PV} {u : V}, Rp Z m H v u → Rp Z m H2 v u := by
  have ne : ∀ {a : Addr}, Fre Z m a → a ≠ D := fun f e => f.1 (e ▸ hF)
  intro v u r
  induction r using Rp.rec (motive_2 := fun vs us _ => RpA Z m H2 vs us) with
  | non => exact .non
  | bl b => exact .bl b
  | int b => exact .int b
  | str b => exact .str b
  | ty b => exact .ty b
  | tup h _ ih => exact .tup (by rw [he _ (by rintro rfl; exact hD _ h)]; exact h) ih
  | lst h f _ ih => exact .lst (by rw [he _ (ne f)]; exact h) f ih
  | rd h _ ih =>
    refine .rd (h.elim (fun h => .inl ⟨?_, h.2⟩) .inr) ih
    rcases h.1 with q | ⟨b, q⟩
    · exact .inl (by rw [he _ (ne h.2)]; exact q)
    · exact .inr ⟨b, by rw [he _ (ne h.2)]; exact q⟩
  | dct h f l _ ih =>
    refine .dct ?_ f l ih
    rcases h with q | ⟨b, q⟩
    · exact .inl (by rw [he _ (ne f)]; exact q)
    · exact .inr ⟨b, by rw [he _ (ne f)]; exact q⟩
  | dtt h f l _ ih =>
    refine .dtt ?_ f l ih
    rcases h with q | ⟨b, q⟩
    · exact .inl (by rw [he _ (ne f)]; exact q)
    · exact .inr ⟨b, by rw [he _ (ne f)]; exact q⟩
  | fn i => exact .fn i
  | cls i => exact .cls i
  | exn h1 h2 h3 h4 => exact .exn h1 h2 h3 h4
  | nil => exact .nil
  | cons _ _ ih1 ih2 => exact .cons ih1 ih2
section
variable {Z : St0} {m : List Addr} {H H2 : Hp} {D : Addr}
theorem off_rpA (hD : ∀ xs : List V, H D ≠ some (.tup xs)) (hF : Z.F D) (he : ∀ a, a ≠ D → H2 a = H a) : ∀ {v : List PV} {u : List V}, RpA Z m H v u → RpA Z m H2 v u
  | _, _, .nil => .nil
  | _, _, .cons h r => .cons (off_rp hD hF he h) (off_rpA hD hF he r)
theorem off_re (hD : ∀ xs : List V, H D ≠ some (.tup xs)) (hF : Z.F D) (he : ∀ a, a ≠ D → H2 a = H a) {v : EV} {u : V} (r : Re Z m H v u) : Re Z m H2 v u := by
  cases r with
  | p r => exact .p (off_rp hD hF he r)
  | ref h => exact .ref h
theorem off_reA (hD : ∀ xs : List V, H D ≠ some (.tup xs)) (hF : Z.F D) (he : ∀ a, a ≠ D → H2 a = H a) : ∀ {v : List EV} {u : List V}, ReA Z m H v u → ReA Z m H2 v u
  | _, _, .nil => .nil
  | _, _, .cons h r => .cons (off_re hD hF he h) (off_reA hD hF he r)
theorem off_rpO (hD : ∀ xs : List V, H D ≠ some (.tup xs)) (hF : Z.F D) (he : ∀ a, a ≠ D → H2 a = H a) {a : Addr} {o : PO} (ha : a ≠ D) (r : RpO Z m H a o) : RpO Z m H2 a o := by
  have e : H2 a = H a := he a ha
  cases o with
  | lst xs => obtain ⟨us, q, r⟩ := r; exact ⟨us, e.trans q, off_rpA hD hF he r⟩
  | rows xs => obtain ⟨us, q, r⟩ := r; exact ⟨us, e.trans q, off_reA hD hF he r⟩
  | dct ks vs => obtain ⟨us, q, l, r⟩ := r; exact ⟨us, e.trans q, l, off_rpA hD hF he r⟩
  | dtt ks vs => obtain ⟨us, q, l, r⟩ := r; exact ⟨us, e.trans q, l, off_rpA hD hF he r⟩
  | lck ks vs => obtain ⟨us, o, q, l, r⟩ := r; exact ⟨us, o, e.trans q, l, off_rpA hD hF he r⟩
  | lct ks vs => obtain ⟨us, o, q, l, r⟩ := r; exact ⟨us, o, e.trans q, l, off_rpA hD hF he r⟩
end
theorem ntl {H : Hp} {D : Addr} {us : List V} (h : H D = some (.lst us)) : ∀ xs : List V, H D ≠ some (.tup xs) := fun xs z => by rw [h] at z; cases z
theorem ntk {H : Hp} {D : Addr} {kvs : List (Key × V)} (h : H D = some (.dK kvs)) : ∀ xs : List V, H D ≠ some (.tup xs) := fun xs z => by rw [h] at z; cases z
theorem upd_off {H : Hp} {D : Addr} {o : HO} : ∀ a, a ≠ D → upd H D o a = H a := fun a h => upd_ne h
theorem upd_rp {Z : St0} {m : List Addr} {H : Hp} {D : Addr} {o1 : HO} (hD : ∀ xs : List V, H D ≠ some (.tup xs)) (hF : Z.F D) (hm : D ∉ m) {v : PV} {u : V} (r : Rp Z m H v u) : Rp Z m (upd H D o1) v u := off_rp hD hF upd_off r
theorem upd_re {Z : St0} {m : List Addr} {H : Hp} {D : Addr} {o1 : HO} (hD : ∀ xs : List V, H D ≠ some (.tup xs)) (hF : Z.F D) (hm : D ∉ m) {v : EV} {u : V} (r : Re Z m H v u) : Re Z m (upd H D o1) v u := off_re hD hF upd_off r
theorem upd_reA {Z : St0} {m : List Addr} {H : Hp} {D : Addr} {o1 : HO} (hD : ∀ xs : List V, H D ≠ some (.tup xs)) (hF : Z.F D) (hm : D ∉ m) {v : List EV} {u : List V} (r : ReA Z m H v u) : ReA Z m (upd H D o1) v u := off_reA hD hF upd_off r
theorem upd_rpO {Z : St0} {m : List Addr} {H : Hp} {D : Addr} {o1 : HO} (hD : ∀ xs : List V, H D ≠ some (.tup xs)) (hF : Z.F D) (hm : D ∉ m) {a : Addr} {o : PO} (ha : a ≠ D) (r : RpO Z m H a o) : RpO Z m (upd H D o1) a o := off_rpO hD hF upd_off ha r
theorem upd_rel {Z : St0} {m : List Addr} {H : Hp} {S : List PO} {D : Addr} {o1 : HO} (hD : ∀ xs : List V, H D ≠ some (.tup xs)) (hF : Z.F D) (R : Rel Z m S H) : Rel Z m S (upd H D o1) := by
  have hm : D ∉ m := fun q => R.dj D q hF
  refine ⟨R.len, R.nd, fun i a o h1 h2 => upd_rpO hD hF hm (fun e => hm (e ▸ List.mem_of_getElem? h1)) (R.ob i a o h1 h2), fun a f => ?_, R.dj⟩
  by_cases q : a = D
  · rw [q, upd_same]; simp
  · rw [upd_ne q]; exact R.fr a f
/-- what is not the store's and was not there when D came -/
theorem upd_ext {m m' : List Addr} {H H' : Hp} {D : Addr} {us0 us1 : List V} (hn : H D = none) (hD : H' D = some (.lst us0)) (e : Ext m H m' H') : Ext m H m' (upd H' D (.lst us1)) := by
  refine ⟨e.pre, fun a o h n => ?_, fun a h => ?_, e.new, fun a xs h => ?_⟩
  · rw [upd_ne (ne_of_none h hn)]; exact e.keep a o h n
  · by_cases q : a = D
    · rw [q, upd_same]; simp
    · rw [upd_ne q]; exact e.alive a h
  · rw [upd_ne (ne_of_none h hn)]; exact e.tp a xs h
/-- the plain reading, D kept apart -/
theorem rel_up {Z : St0} {F' : Addr → Prop} {m : List Addr} {H : Hp} {S : List PO} {D : Addr} (R : Rel Z m S H) (hn : H D = none) {o1 : HO} (hF : ∀ a, F' a ↔ Z.F a ∨ a = D) : Rel (Z.up F') m S (upd H D o1) := by
  have hm : D ∉ m := fun q => R.ne q hn
  have wd : Wd Z H F' := ⟨fun a f => (hF a).mpr (.inl f), fun a f => ((hF a).mp f).imp id fun e => by rw [e]; exact hn⟩
  have ex := Ext.alloc (m := m) (o := o1) hn
  refine ⟨R.len, R.nd, fun i a o h1 h2 => ?_, fun a f => ?_, fun a h f => ?_⟩
  · have ha : a ≠ D := fun e => hm (e ▸ List.mem_of_getElem? h1)
    have q := (R.ob i a o h1 h2)
    refine RpO.ext ex (upd_ne ha) ?_
    cases o with
    | lst xs => obtain ⟨us, q, r⟩ := q; exact ⟨us, q, wd.rpA r⟩
    | rows xs =>
      obtain ⟨us, q, r⟩ := q
      refine ⟨us, q, ?_⟩
      clear h2 q
      generalize xs.map EV.ref = ys at r
      clear ex
      induction r with
      | nil => exact .nil
      | cons r _ ih =>
        refine .cons ?_ ih
        cases r with
        | p r => exact .p (wd.rp r)
        | ref r => exact .ref r
    | dct ks vs => obtain ⟨us, q, l, r⟩ := q; exact ⟨us, q, l, wd.rpA r⟩
    | dtt ks vs => obtain ⟨us, q, l, r⟩ := q; exact ⟨us, q, l, wd.rpA r⟩
    | lck ks vs => obtain ⟨us, o, q, l, r⟩ := q; exact ⟨us, o, q, l, wd.rpA r⟩
    | lct ks vs => obtain ⟨us, o, q, l, r⟩ := q; exact ⟨us, o, q, l, wd.rpA r⟩
  · by_cases q : a = D
    · rw [q, upd_same]; simp
    · rw [upd_ne q]; exact R.fr a (((hF a).mp f).resolve_right q)
  · rcases (hF a).mp f with f | f
    · exact R.dj a h f
    · exact hm (f ▸ h)
/-- back -/
theorem down_re {Z : St0} {F' : Addr → Prop} {m : List Addr} {H : Hp} (hs : ∀ a, Z.F a → F' a) {v : EV} {u : V} (r : Re (Z.up F') m H v u) : Re Z m H v u := by
  cases r with
  | p r => exact .p (Rp.shift (fun a f => ⟨fun q => f.1 (hs a q), f.2⟩) r)
  | ref h => exact .ref h
theorem down_reA {Z : St0} {F' : Addr → Prop} {m : List Addr} {H : Hp} (hs : ∀ a, Z.F a → F' a) : ∀ {v : List EV} {u : List V}, ReA (Z.up F') m H v u → ReA Z m H v u
  | _, _, .nil => .nil
  | _, _, .cons r rs => .cons (down_re hs r) (down_reA hs rs)
theorem down_rpO {Z : St0} {F' : Addr → Prop} {m : List Addr} {H : Hp} (hs : ∀ a, Z.F a → F' a) {a : Addr} {o : PO} (q : RpO (Z.up F') m H a o) : RpO Z m H a o := by
  have k : ∀ a, Fre (Z.up F') m a → Fre Z m a := fun a f => ⟨fun q => f.1 (hs a q), f.2⟩
  cases o with
  | lst xs => obtain ⟨us, q, r⟩ := q; exact ⟨us, q, RpA.shift k r⟩
  | rows xs => obtain ⟨us, q, r⟩ := q; exact ⟨us, q, down_reA hs r⟩
  | dct ks vs => obtain ⟨us, q, l, r⟩ := q; exact ⟨us, q, l, RpA.shift k r⟩
  | dtt ks vs => obtain ⟨us, q, l, r⟩ := q; exact ⟨us, q, l, RpA.shift k r⟩
  | lck ks vs => obtain ⟨us, o, q, l, r⟩ := q; exact ⟨us, o, q, l, RpA.shift k r⟩
  | lct ks vs => obtain ⟨us, o, q, l, r⟩ := q; exact ⟨us, o, q, l, RpA.shift k r⟩
theorem down_rel {Z : St0} {F' : Addr → Prop} {m : List Addr} {H : Hp} {S : List PO} (hs : ∀ a, Z.F a → F' a) (R : Rel (Z.up F') m S H) : Rel Z m S H :=
  ⟨R.len, R.nd, fun i a o h1 h2 => down_rpO hs (R.ob i a o h1 h2), fun a f => R.fr a (hs a f), fun a h f => R.dj a h (hs a f)⟩
theorem wd_re {Z : St0} {F' : Addr → Prop} {m : List Addr} {H : Hp} (w : Wd Z H F') {v : EV} {u : V} (r : Re Z m H v u) : Re (Z.up F') m H v u := by
  cases r with
  | p r => exact .p (w.rp r)
  | ref r => exact .ref r
theorem wd_env {Z : St0} {F' : Addr → Prop} {m : List Addr} {H : Hp} {ρ : Sl} {σ : L2.St} (w : Wd Z H F') (r : RpE Z m H ρ σ) : RpE (Z.up F') m H ρ σ := ⟨r.1, fun i v h => let ⟨u, a, b⟩ := r.2 i v h; ⟨u, a, wd_re w b⟩⟩
end Rv
end PartRvJ
section PartRvK
set_option Elab.async false
set_option linter.all false
set_option maxRecDepth 100000
set_option autoImplicit false
/-! Rv, part K: list comprehensions. -/
namespace Rv
open PySem PySem.Spec PyProof.Rows L2
theorem wipe_wipe {σ : L2.St} : ∀ {vs : List Nat}, wipe (wipe σ vs) vs = wipe σ vs
  | [] => rfl
  | v :: vs => by
    show (wipe ((wipe σ vs).set v none) vs).set v none = (wipe σ vs).set v none
    by_cases h : v ∈ vs
    · rw [wipe_set h, wipe_wipe]
    · rw [wipe_set_not h, List.set_set, wipe_wipe]
/-! ### a clause's tests -/
def jTs (X : Cx) (ifs : List Expr) : TT := fun σ H Q => ∀ (pins : List (Addr × Obj)) (s : Shared), Inv X pins σ H s →
  wpAny (model X.prog X.w) X.A (forIn ifs true fun c r => if r = true then do let ok ← isTrue c X.env (eval c X.env); pure (ForInStep.yield ok) else pure (ForInStep.yield r)) (TP X pins σ Q) X.xe s
theorem pts_j {X : Cx} {ifs : List Expr} : PTs X ifs (jTs X ifs) := ⟨fun pins s _ _ _ I h => h pins s I⟩
theorem PTs.j {X : Cx} {ifs : List Expr} {t : TT} {σ : L2.St} {H : Hp} {Q : Bool → Hp → Prop} (h : PTs X ifs t) (q : t σ H Q) : jTs X ifs σ H Q := fun pins s I => h.run pins s σ H Q I q
def STs (G : Gm) (d : Nat) (x : Sx) (ifs : List Expr) (f : Sl → List PO → Out Bool) : Prop :=
  ∀ (Z : St0) (X : Cx) (W : WX) (m : List Addr) (H : Hp) (S : List PO) (ρ : Sl) (σ : L2.St) (Q : Bool → Hp → Prop), Now Z G d x X W m H S ρ σ → Post Z G W RB m H σ (f ρ S) Q → jTs X ifs σ H Q
section
variable {G : Gm} {d : Nat} {x : Sx}
theorem sts_nil : STs G d x [] (evTs G []) := by
  intro Z X W m H S ρ σ Q n h
  simp only [evTs] at h
  exact PTs.j pts_nil (Post.now h n.rel rfl)
theorem sts_one {e : Expr} {p : PB} (ha : ST G d x e (evT G p)) : STs G d x [e] (evTs G [p]) := by
  intro Z X W m H S ρ σ Q n h
  simp only [evTs] at h
  refine PTs.j (pts_one pt_j) (ha Z X W m H S ρ σ Q n ?_)
  cases e1 : evT G p ρ S with
  | ok b S1 =>
    rw [e1] at h
    intro m1 H1 u x1 R1 r1
    cases r1
    cases b with
    | true => exact h m1 H1 _ x1 R1 rfl
    | false => exact h m1 H1 _ x1 R1 rfl
  | exc c fs S1 => rw [e1] at h; exact h
  | stuck => rw [e1] at h; exact h
end
/-! ### loops that gather -/
section
variable {Z : St0} {m1 : List Addr} {H1 : Hp} {F' : Addr → Prop} {D : Addr}
/-- what stands behind some turns -/
def Gat (Z : St0) (F' : Addr → Prop) (m1 : List Addr) (H1 : Hp) (D : Addr) (es : List (Sl × L2.St)) (accv : List EV) (S : List PO) (m : List Addr) (acc : List V) (H : Hp) : Prop :=
  ExtO (fun a => a = D) m1 H1 m H ∧ Rel (Z.up F') m S H ∧ (∀ p ∈ es, RpE (Z.up F') m H p.1 p.2) ∧ H D = some (.lst acc) ∧ ReA (Z.up F') m H accv acc
variable {es : List (Sl × L2.St)} {S : List PO} {accv : List EV} {acc : List V} {m m' : List Addr} {H H' : Hp} {S' : List PO}
theorem Gat.step (hF : F' D) (g : Gat Z F' m1 H1 D es accv S m acc H) (e : Ext m H m' H') (R : Rel (Z.up F') m' S' H') : Gat Z F' m1 H1 D es accv S' m' acc H' := by
  obtain ⟨g1, g2, g3, g4, g5⟩ := g
  exact ⟨g1.trans (.of e), R, fun p hp => (g3 p hp).ext e, e.keep D _ g4 fun q => g2.dj D q hF, g5.ext e⟩
theorem extO_upd {m m' : List Addr} {H H' : Hp} {D : Addr} {o1 : HO} (hD : ∀ xs : List V, H' D ≠ some (.tup xs)) (e : ExtO (fun a => a = D) m H m' H') : ExtO (fun a => a = D) m H m' (upd H' D o1) := by
  refine ⟨e.pre, fun a o h n p => ?_, fun a h => ?_, e.new, fun a xs h => ?_⟩
  · rw [upd_ne p]; exact e.keep a o h n p
  · by_cases q : a = D
    · rw [q, upd_same]; simp
    · rw [upd_ne q]; exact e.alive a h
  · have q := e.tp a xs h
    rw [upd_ne (by rintro rfl; exact hD _ q)]; exact q
theorem Gat.add (hF : F' D) {v : EV} {y : V} (g : Gat Z F' m1 H1 D es accv S m acc H) (r : Re (Z.up F') m H v y) : Gat Z F' m1 H1 D es (accv ++ [v]) S m (acc ++ [y]) (upd H D (.lst (acc ++ [y]))) := by
  obtain ⟨g1, g2, g3, g4, g5⟩ := g
  have hm : D ∉ m := fun q => g2.dj D q hF
  exact ⟨extO_upd (ntl g4) g1, upd_rel (ntl g4) hF g2, fun p hp => ⟨(g3 p hp).1, fun i v h => let ⟨u, a, b⟩ := (g3 p hp).2 i v h; ⟨u, a, upd_re (ntl g4) hF hm b⟩⟩, upd_same, upd_reA (ntl g4) hF hm (g5.append (.cons r .nil))⟩
/-- what a turn promises: B at each item -/
def TurnOk (Z : St0) (F' : Addr → Prop) (m1 : List Addr) (H1 : Hp) (D : Addr) (es : List (Sl × L2.St)) (f : EV → List PO → Out (List EV)) (B : V → Hp → (Hp → Prop) → Prop) : Prop :=
  ∀ (accv : List EV) (S : List PO) (m : List Addr) (acc : List V) (H : Hp) (v : EV) (ys : List EV) (S3 : List PO) (y : V) (Nx : Hp → Prop), Gat Z F' m1 H1 D es accv S m acc H → Re (Z.up F') m H v y → f v S = .ok ys S3 → accv.length + ys.length ≤ lim →
    (∀ m' acc' H', Gat Z F' m1 H1 D es (accv ++ ys) S3 m' acc' H' → Nx H') → B y H Nx
theorem gat_loop {its : Itm} {J : It} {f : EV → List PO → Out (List EV)} {B : V → Hp → (Hp → Prop) → Prop} {Qd : Hp → Prop} {zs accv0 : List EV} {S0 S2 : List PO} {m0 : List Addr} {acc0 : List V} {H0 mI : _} {HI : Hp} (hF : F' D) (hB : TurnOk Z F' m1 H1 D es f B)
    (hR : ∀ m' H' S', ExtO (fun a => a = D) mI HI m' H' → Rel (Z.up F') m' S' H' → ∀ k, (∀ xs, its = .l xs → k ≤ xs.length) → (itAt S' its k = some none → J.stop k H') ∧ ∀ v, itAt S' its k = some (some v) → J.go k H' ∧ ∀ x H'', J.yld k H' x H'' → Ext m' H' m' H'' ∧ Rel (Z.up F') m' S' H'' ∧ Re (Z.up F') m' H'' v x)
    (hI : ∀ m' H' acc' accv' S', Gat Z F' m1 H1 D es accv' S' m' acc' H' → ExtO (fun a => a = D) mI HI m' H')
    (hz : compI f its S0 = .ok zs S2) (hl : accv0.length + zs.length ≤ lim) (g0 : Gat Z F' m1 H1 D es accv0 S0 m0 acc0 H0) (hd : ∀ m' acc' H', Gat Z F' m1 H1 D es (accv0 ++ zs) S2 m' acc' H' → Qd H') :
    ∃ W : Nat → Nat → Hp → Prop, (∃ m, W 0 m H0) ∧ ∀ i m H, W i m H →
      (J.stop i H ∧ Qd H) ∨ (J.go i H ∧ ∃ Nx : Hp → Prop, (∀ H', Nx H' → ∃ m', m' < m ∧ W (i + 1) m' H') ∧ ∀ x H', J.yld i H x H' → B x H' Nx) := by
  have fuel : ∀ {its : Itm}, (∀ xs, its ≠ .l xs) → compO f its lim 0 S0 = .ok zs S2 →
      (∀ m' H' S', ExtO (fun a => a = D) mI HI m' H' → Rel (Z.up F') m' S' H' → ∀ k, (∀ xs, its = .l xs → k ≤ xs.length) → (itAt S' its k = some none → J.stop k H') ∧ ∀ v, itAt S' its k = some (some v) → J.go k H' ∧ ∀ x H'', J.yld k H' x H'' → Ext m' H' m' H'' ∧ Rel (Z.up F') m' S' H'' ∧ Re (Z.up F') m' H'' v x) →
      ∃ W : Nat → Nat → Hp → Prop, (∃ m, W 0 m H0) ∧ ∀ i m H, W i m H →
      (J.stop i H ∧ Qd H) ∨ (J.go i H ∧ ∃ Nx : Hp → Prop, (∀ H', Nx H' → ∃ m', m' < m ∧ W (i + 1) m' H') ∧ ∀ x H', J.yld i H x H' → B x H' Nx) := fun {its} hno hz hR => by
    refine ⟨fun i m H => ∃ accv S' zs' m' acc', Gat Z F' m1 H1 D es accv S' m' acc' H ∧ compO f its m i S' = .ok zs' S2 ∧ accv ++ zs' = accv0 ++ zs, ⟨lim, accv0, S0, zs, m0, acc0, g0, hz, rfl⟩, ?_⟩
    rintro i m H ⟨accv, S', zs', m', acc', g, ec, ea⟩
    cases m with
    | zero => simp only [compO] at ec; cases ec
    | succ m =>
      obtain ⟨h1, h2⟩ := hR m' H S' (hI _ _ _ _ _ g) g.2.1 i (fun xs e => absurd e (hno xs))
      simp only [compO] at ec
      split at ec
      · rename_i e1
        cases ec
        rw [List.append_nil] at ea
        subst ea
        exact .inl ⟨h1 e1, hd _ _ _ g⟩
      · rename_i v e1
        obtain ⟨h3, h4⟩ := h2 v e1
        split at ec
        · rename_i ys S3 e2
          split at ec
          · rename_i zs3 S4 e3
            cases ec
            refine .inr ⟨h3, fun H' => ∃ m' acc', Gat Z F' m1 H1 D es (accv ++ ys) S3 m' acc' H', fun H' ⟨m2, acc2, g2⟩ => ⟨m, Nat.lt_succ_self _, accv ++ ys, S3, zs3, m2, acc2, g2, e3, by rw [List.append_assoc]; exact ea⟩, fun y H' q => ?_⟩
            obtain ⟨e4, R4, r4⟩ := h4 y H' q
            refine hB accv S' m' acc' H' v ys S3 y _ (g.step hF e4 R4) r4 e2 ?_ fun m2 acc2 H2 g2 => ⟨m2, acc2, g2⟩
            have := congrArg List.length ea
            simp only [List.length_append] at this
            omega
          · cases ec
        · cases ec
      · cases ec
  cases its with
  | l xs =>
    simp only [compI] at hz
    refine ⟨fun i m H => i ≤ xs.length ∧ m = xs.length - i ∧ ∃ accv S' zs' m' acc', Gat Z F' m1 H1 D es accv S' m' acc' H ∧ compL f (xs.drop i) S' = .ok zs' S2 ∧ accv ++ zs' = accv0 ++ zs, ⟨xs.length, Nat.zero_le _, rfl, accv0, S0, zs, m0, acc0, g0, hz, rfl⟩, ?_⟩
    rintro i m H ⟨hi, rfl, accv, S', zs', m', acc', g, ec, ea⟩
    obtain ⟨h1, h2⟩ := hR m' H S' (hI _ _ _ _ _ g) g.2.1 i (fun xs' e => by cases e; exact hi)
    by_cases hlt : i < xs.length
    · have hg : xs[i]? = some xs[i] := List.getElem?_eq_getElem hlt
      obtain ⟨h3, h4⟩ := h2 xs[i] (by simp only [itAt]; rw [hg])
      rw [List.drop_eq_getElem_cons hlt] at ec
      simp only [compL] at ec
      split at ec
      · rename_i ys S3 e2
        split at ec
        · rename_i zs3 S4 e3
          cases ec
          refine .inr ⟨h3, fun H' => ∃ m' acc', Gat Z F' m1 H1 D es (accv ++ ys) S3 m' acc' H', fun H' ⟨m2, acc2, g2⟩ => ⟨xs.length - (i + 1), by omega, hlt, rfl, accv ++ ys, S3, zs3, m2, acc2, g2, e3, by rw [List.append_assoc]; exact ea⟩, fun y H' q => ?_⟩
          obtain ⟨e4, R4, r4⟩ := h4 y H' q
          refine hB accv S' m' acc' H' xs[i] ys S3 y _ (g.step hF e4 R4) r4 e2 ?_ fun m2 acc2 H2 g2 => ⟨m2, acc2, g2⟩
          have := congrArg List.length ea
          simp only [List.length_append] at this
          omega
        · cases ec
      · cases ec
    · have e : i = xs.length := by omega
      subst e
      rw [List.drop_length] at ec
      simp only [compL] at ec
      cases ec
      rw [List.append_nil] at ea
      subst ea
      exact .inl ⟨h1 (by simp only [itAt]; rw [List.getElem?_eq_none (Nat.le_refl _)]), hd _ _ _ g⟩
  | o i => exact fuel (fun xs e => by cases e) hz hR
  | en i => exact fuel (fun xs e => by cases e) hz hR
  | zp a b => exact fuel (fun xs e => by cases e) hz hR
end
/-! ### the rule -/
def gU (X : Cx) (scope : Scope) (tg : Expr) : TG := fun v σ H Q => ∀ (s : Shared) (H0 : Hp) (C : Addr) (cl : List (Str × Addr)) (fp : List Addr), jG (X.blk s H0 scope (compEnvC scope cl C X.env) fp) tg v σ H Q
def tU (X : Cx) (scope : Scope) (ifs : List Expr) : TT := fun σ H Q => ∀ (s : Shared) (H0 : Hp) (C : Addr) (cl : List (Str × Addr)) (fp : List Addr), jTs (X.blk s H0 scope (compEnvC scope cl C X.env) fp) ifs σ H Q
def eU (X : Cx) (scope : Scope) (e : Expr) : TE := fun σ H Q => ∀ (s : Shared) (H0 : Hp) (C : Addr) (cl : List (Str × Addr)) (fp : List Addr), jE (X.blk s H0 scope (compEnvC scope cl C X.env) fp) e σ H Q
def iU (X : Cx) (scope : Scope) (tg it : Expr) : TI := fun σ H R => ∀ (s : Shared) (H0 : Hp) (C : Addr) (cl : List (Str × Addr)) (fp : List Addr), jI (X.blk s H0 scope (compEnvC scope cl C X.env) fp) tg it σ H R
/-- a turn of a comprehension with one clause -/
def fC (G : Gm) (ρw : Sl) (elt : PX) (tg : PT) (ifs : List PB) : EV → List PO → Out (List EV) := fun x S => match bindT tg ρw x with
    | some ρ1 => match evTs G ifs ρ1 S with
      | .ok true S1 => (evE G elt ρ1 S1).bind fun v S2 => .ok [v] S2
      | .ok false S1 => .ok [] S1
      | _ => .stuck
    | none => .stuck
def noSet : Expr → Bool
  | .Set _ _ _ => false
  | _ => true
theorem fold_none {e : Expr} {env : Env} (h : noSet e = true) (y : Value) : foldedSetIterable e env y = pure y := by
  cases e <;> first | rfl | (cases h)
section
variable {G : Gm} {d : Nat} {x : Sx} {scope : Scope} {tg : Expr} {ifs : List Expr} {elt : Expr} {t : PT} {is : List PB} {p : PX}
/-- what a turn asks -/
def bC (X : Cx) (scope : Scope) (tg : Expr) (ifs : List Expr) (elt : Expr) (D : Addr) (vs : List Nat) (σ : L2.St) : V → Hp → (Hp → Prop) → Prop := fun y H Nx =>
  gU X scope tg y (wipe σ vs) H fun σ2 H2 => wipe σ2 vs = wipe σ vs ∧ tU X scope ifs σ2 H2 fun b H3 => if b = true then eU X scope elt σ2 H3 fun y H4 => ∃ acc, H4 D = some (.lst acc) ∧ acc.length < sizeLine ∧ Nx (upd H4 D (.lst (acc ++ [y]))) else Nx H3
theorem turn_C {Z : St0} {X : Cx} {F' : Addr → Prop} {m1 : List Addr} {H1 : Hp} {D : Addr} {es : List (Sl × L2.St)} {ρ : Sl} {σ : L2.St} {vs : List Nat} (ok : XOk Z G d x X) (hh : x.hot = false) (hF : F' D) (hen : (wipeP ρ vs, wipe σ vs) ∈ es)
    (hT : SG (blkX x scope) tg t) (hI : STs G d (blkX x scope) ifs (evTs G is)) (hE : SE G d (blkX x scope) elt (evE G p)) (ht : ∀ i ∈ slT t, i ∈ vs) :
    TurnOk Z F' m1 H1 D es (fC G (wipeP ρ vs) p t is) (bC X scope tg ifs elt D vs σ) := by
  intro accv S m acc H v ys S3 y Nx g r hf hl hx
  unfold fC at hf
  split at hf
  · rename_i ρ1 e1
    intro s H0 C cl fp
    have okb : XOk (Z.up F') G d (blkX x scope) (X.blk s H0 scope (compEnvC scope cl C X.env) fp) := xok_blk (ok.up F') hh s H0 C cl fp
    refine hT (Z.up F') G d _ m H _ ρ1 _ v y _ okb (g.2.2.1 _ hen) r e1 fun σ2 env2 hw => ⟨(hw vs ht).trans wipe_wipe, ?_⟩
    intro s H0 C cl fp
    have n2 : Now (Z.up F') G d (blkX x scope) (X.blk s H0 scope (compEnvC scope cl C X.env) fp) (fun _ _ _ _ => False) m H S ρ1 σ2 := now_blk (ok.up F') hh s H0 C cl fp g.2.1 env2
    refine hI (Z.up F') _ _ m H S ρ1 σ2 _ n2 ?_
    split at hf
    · rename_i S1 e2
      rw [e2]
      intro m2 H2 u x2 R2 r2
      cases r2
      have g2 := g.step hF x2 R2
      rw [if_pos rfl]
      intro s H0 C cl fp
      have n3 : Now (Z.up F') G d (blkX x scope) (X.blk s H0 scope (compEnvC scope cl C X.env) fp) (fun _ _ _ _ => False) m2 H2 S1 ρ1 σ2 := now_blk (ok.up F') hh s H0 C cl fp R2 (env2.ext x2)
      refine hE (Z.up F') _ _ m2 H2 S1 ρ1 σ2 _ n3 ?_
      cases e3 : evE G p ρ1 S1 with
      | ok w S4 =>
        rw [e3] at hf
        cases hf
        intro m3 H3 u x3 R3 r3
        have g3 := g2.step hF x3 R3
        refine ⟨_, g3.2.2.2.1, ?_, hx _ _ _ (g3.add hF r3)⟩
        have h1 := g3.2.2.2.2.length
        simp only [List.length_cons, List.length_nil] at hl
        have := lim_le
        omega
      | exc c fs S4 => rw [e3] at hf; cases hf
      | stuck => rw [e3] at hf; cases hf
    · rename_i S1 e2
      rw [e2]
      intro m2 H2 u x2 R2 r2
      cases r2
      cases hf
      rw [if_neg (by decide)]
      have g2 := g.step hF x2 R2
      refine hx m2 acc H2 ?_
      rw [List.append_nil]
      exact g2
    · cases hf
  · cases hf
theorem wipeP_env {Z : St0} {m : List Addr} {H : Hp} {ρ : Sl} {σ : L2.St} (h : RpE Z m H ρ σ) (vs : List Nat) : RpE Z m H (wipeP ρ vs) (wipe σ vs) := h.wipe vs
theorem lenOk_ok {o : Out (List EV)} {zs : List EV} {S : List PO} (h : lenOk o = .ok zs S) : o = .ok zs S ∧ zs.length ≤ lim := by
  unfold lenOk at h
  split at h
  · split at h
    · cases h; exact ⟨rfl, by assumption⟩
    · cases h
  · cases h
  · cases h
theorem lenOk_exc {o : Out (List EV)} {c : Nat} {fs : List PV} {S : List PO} (h : lenOk o = .exc c fs S) : False := by
  unfold lenOk at h
  split at h
  · split at h <;> cases h
  · cases h
  · cases h
/-- the state at which D has come -/
theorem gat_start {Z : St0} {m1 : List Addr} {H1 : Hp} {S1 : List PO} {D : Addr} {ρ : Sl} {σ : L2.St} (R : Rel Z m1 S1 H1) (hn : H1 D = none) (env : RpE Z m1 H1 ρ σ) (vs : List Nat) :
    Gat Z (fun a => Z.F a ∨ a = D) m1 H1 D [(wipeP ρ vs, wipe σ vs)] [] S1 m1 [] (upd H1 D (.lst [])) := by
  have wd : Wd Z H1 (fun a => Z.F a ∨ a = D) := ⟨fun a f => .inl f, fun a f => f.imp id fun e => by rw [e]; exact hn⟩
  refine ⟨.of (Ext.alloc hn), rel_up R hn fun a => Iff.rfl, fun q hq => ?_, upd_same, .nil⟩
  cases List.mem_singleton.mp hq
  exact ((wd_env wd env).ext (Ext.alloc hn)).wipe vs
/-- what a comprehension hands back -/
theorem gat_end {Z : St0} {m1 m' : List Addr} {H1 H' : Hp} {S2 : List PO} {D : Addr} {es : List (Sl × L2.St)} {zs : List EV} {acc : List V} (g : Gat Z (fun a => Z.F a ∨ a = D) m1 H1 D es zs S2 m' acc H') (hn : H1 D = none)
    (hZ : ¬ Z.F D) : ∃ Hb, Hb D = none ∧ H' = upd Hb D (.lst acc) ∧ Ext m1 H1 m' Hb ∧ Rel Z m' S2 Hb ∧ ReA Z m' Hb zs acc := by
  obtain ⟨g1, g2, g3, g4, g5⟩ := g
  have hFD : (Z.up fun a => Z.F a ∨ a = D).F D := .inr rfl
  have hm : D ∉ m' := fun q => g2.dj D q hFD
  generalize hb : (fun b => if b = D then none else H' b : Hp) = Hb
  have he : ∀ a, a ≠ D → Hb a = H' a := fun a h => by rw [← hb]; exact if_neg h
  have hD : Hb D = none := by rw [← hb]; exact if_pos rfl
  refine ⟨Hb, hD, ?_, ?_, ?_, ?_⟩
  · funext a
    by_cases h : a = D
    · rw [h, upd_same, g4]
    · rw [upd_ne h, he a h]
  · refine ⟨g1.pre, fun a o h n => ?_, fun a h => ?_, g1.new, fun a xs h => ?_⟩
    · rw [he a (ne_of_none h hn)]; exact g1.keep a o h n (ne_of_none h hn)
    · rw [he a (by rintro rfl; exact h hn)]; exact g1.alive a h
    · rw [he a (ne_of_none h hn)]; exact g1.tp a xs h
  · refine ⟨g2.len, g2.nd, fun i a o h1 h2 => ?_, fun a f => ?_, fun a h f => g2.dj a h (.inl f)⟩
    · exact down_rpO (F' := fun a => Z.F a ∨ a = D) (fun a f => .inl f) (off_rpO (ntl g4) hFD he (fun e => hm (e ▸ List.mem_of_getElem? h1)) (g2.ob i a o h1 h2))
    · rw [he a (by rintro rfl; exact hZ f)]
      exact g2.fr a (.inl f)
  · exact down_reA (F' := fun a => Z.F a ∨ a = D) (fun a f => .inl f) (off_reA (ntl g4) hFD he g5)
theorem comp_core {iter : Expr} {it : PIt} {own : List (Str × Nat)} (hh : x.hot = false) (hT : SG (blkX x scope) tg t) (hI : STs G d (blkX x scope) ifs (evTs G is)) (hE : SE G d (blkX x scope) elt (evE G p))
    (hb : blkC x.N x.sc scope own = true) (ht : ∀ i ∈ slT t, i ∈ own.map (·.2)) (hs : noSet iter = true)
    {Z : St0} {X : Cx} {W : WX} {m : List Addr} {H : Hp} {S : List PO} {ρ : Sl} {σ : L2.St} {Q : VK} (hIt : ∀ R, Post Z G W (RI Z) m H σ (evIt G it ρ S) R → jI X tg iter σ H R) (n : Now Z G d x X W m H S ρ σ) (h : Post Z G W (ReA Z) m H σ (evL G (.comp (own.map (·.2)) p t it is) ρ S) (fun us H' => ∀ p, H' p = none → Q (.ref p) (upd H' p (.lst us)))) :
    tLc (jI X tg iter) (gU X scope tg) (tU X scope ifs) (eU X scope elt) (own.map (·.2)) σ H Q := by
  simp only [evL] at h
  refine hIt _ (Post.bind h fun its S1 m1 H1 J e1 x1 R1 r1 q1 => ?_)
  intro D hn
  have env1 := n.env.ext x1
  have q1' : Post Z G W (ReA Z) m1 H1 σ (lenOk (compI (fC G (wipeP ρ (own.map (·.2))) p t is) its S1)) (fun us H' => ∀ p, H' p = none → Q (.ref p) (upd H' p (.lst us))) := q1
  cases e2 : lenOk (compI (fC G (wipeP ρ (own.map (·.2))) p t is) its S1) with
  | ok zs S2 =>
    rw [e2] at q1'
    obtain ⟨e3, e4⟩ := lenOk_ok e2
    have hZ : ¬ Z.F D := fun f => R1.fr D f hn
    have wd : Wd Z H1 (fun a => Z.F a ∨ a = D) := ⟨fun a f => .inl f, fun a f => f.imp id fun e => by rw [e]; exact hn⟩
    exact gat_loop (F' := fun a => Z.F a ∨ a = D) (B := bC X scope tg ifs elt D (own.map (·.2)) σ) (.inr rfl) (turn_C n.ok hh (.inr rfl) (List.mem_singleton.mpr rfl) hT hI hE ht) (fun m' H' S' e R' => r1 _ _ wd (fun a q => .inr q) m' H' S' e R') (fun m' H' acc' accv' S' g => g.1) e3 (by simpa using e4) (gat_start R1 hn env1 _) (fun m' acc' H' g => by
      obtain ⟨Hb, b1, rfl, b3, b4, b5⟩ := gat_end g hn hZ
      exact q1' m' Hb acc' b3 b4 b5 D b1)
  | exc c fs S2 => exact (lenOk_exc e2).elim
  | stuck => rw [e2] at q1'; exact q1'.elim
theorem sl_comp {iter : Expr} {it : PIt} {own : List (Str × Nat)} {pos : Pos} (hh : x.hot = false) (hIt : SI G d x tg iter (evIt G it)) (hT : SG (blkX x scope) tg t) (hI : STs G d (blkX x scope) ifs (evTs G is)) (hE : SE G d (blkX x scope) elt (evE G p))
    (hb : blkC x.N x.sc scope own = true) (ht : ∀ i ∈ slT t, i ∈ own.map (·.2)) (hs : noSet iter = true) : SL G d x (.ListComp elt [⟨tg, iter, ifs, 0⟩] scope pos) (evL G (.comp (own.map (·.2)) p t it is)) := by
  intro Z X W m H S ρ σ Q n h
  obtain ⟨hc, _, _⟩ := n.ok.calm hh
  refine PE.j (pe_lc (g := gU X scope tg) (tt := tU X scope ifs) (te := eU X scope elt) hc n.ok.nd pi_j (blkOk_by (by rw [n.ok.hN, n.ok.hs]; exact hb)) (fun s H C cl fp => ⟨fun pins s1 σ H v u Q I r h => h s _ C cl fp pins s1 u I r⟩) (fun s H C cl fp => ⟨fun pins s1 σ H Q I h => h s _ C cl fp pins s1 I⟩)
    (fun s H C cl fp => ⟨fun pins s1 σ H Q I h => h s _ C cl fp pins s1 I⟩) (fun y => fold_none hs y)) ?_
  exact comp_core hh hT hI hE hb ht hs (fun R q => hIt Z X W m H S ρ σ R n q) n h
/-! ### two clauses -/
def fC2 (G : Gm) (ρw : Sl) (elt : PX) (tg : PT) (ifs : List PB) (own2 : List Nat) (tg2 : PT) (it2 : PIt) (ifs2 : List PB) : EV → List PO → Out (List EV) := fun x S => match bindT tg ρw x with
    | some ρ1 => match evTs G ifs ρ1 S with
      | .ok true S1 => (evIt G it2 ρ1 S1).bind fun its2 S2 => compI (fC G (wipeP ρ1 own2) elt tg2 ifs2) its2 S2
      | .ok false S1 => .ok [] S1
      | _ => .stuck
    | none => .stuck
def bC2 (X : Cx) (scope : Scope) (tg : Expr) (ifs : List Expr) (tg2 iter2 : Expr) (ifs2 : List Expr) (elt : Expr) (D : Addr) (vs vs1 : List Nat) (σ : L2.St) : V → Hp → (Hp → Prop) → Prop := fun y H Nx =>
  gU X scope tg y (wipe σ vs) H fun σ2 H2 => wipe σ2 vs = wipe σ vs ∧ tU X scope ifs σ2 H2 fun b H3 =>
    if b = true then iU X scope tg2 iter2 σ2 H3 fun J1 H4 => ∃ W1 : Nat → Nat → Hp → Prop, (∃ m, W1 0 m H4) ∧ ∀ j k H, W1 j k H →
      (J1.stop j H ∧ Nx H) ∨ (J1.go j H ∧ ∃ Nx1 : Hp → Prop, (∀ H', Nx1 H' → ∃ k', k' < k ∧ W1 (j + 1) k' H') ∧ ∀ x H', J1.yld j H x H' → gU X scope tg2 x (wipe σ2 vs1) H' fun σ3 H5 => wipe σ3 vs1 = wipe σ2 vs1 ∧ tU X scope ifs2 σ3 H5 fun b H6 =>
        if b = true then eU X scope elt σ3 H6 fun y H7 => ∃ acc, H7 D = some (.lst acc) ∧ acc.length < sizeLine ∧ Nx1 (upd H7 D (.lst (acc ++ [y]))) else Nx1 H6)
    else Nx H3
theorem turn_C2 {Z : St0} {X : Cx} {F' : Addr → Prop} {m1 : List Addr} {H1 : Hp} {D : Addr} {ρ : Sl} {σ : L2.St} {vs vs1 : List Nat} {tg2 iter2 : Expr} {ifs2 : List Expr} {t2 : PT} {it2 : PIt} {is2 : List PB} (ok : XOk Z G d x X) (hh : x.hot = false) (hF : F' D)
    (hT : SG (blkX x scope) tg t) (hI : STs G d (blkX x scope) ifs (evTs G is)) (hIt2 : SI G d (blkX x scope) tg2 iter2 (evIt G it2)) (hT2 : SG (blkX x scope) tg2 t2) (hI2 : STs G d (blkX x scope) ifs2 (evTs G is2)) (hE : SE G d (blkX x scope) elt (evE G p)) (ht : ∀ i ∈ slT t, i ∈ vs) (ht2 : ∀ i ∈ slT t2, i ∈ vs1) :
    TurnOk Z F' m1 H1 D [(wipeP ρ vs, wipe σ vs)] (fC2 G (wipeP ρ vs) p t is vs1 t2 it2 is2) (bC2 X scope tg ifs tg2 iter2 ifs2 elt D vs vs1 σ) := by
  intro accv S m acc H v ys S3 y Nx g r hf hl hx
  unfold fC2 at hf
  split at hf
  · rename_i ρ1 e1
    intro s H0 C cl fp
    have okb : XOk (Z.up F') G d (blkX x scope) (X.blk s H0 scope (compEnvC scope cl C X.env) fp) := xok_blk (ok.up F') hh s H0 C cl fp
    refine hT (Z.up F') G d _ m H _ ρ1 _ v y _ okb (g.2.2.1 _ (List.mem_singleton.mpr rfl)) r e1 fun σ2 env2 hw => ⟨(hw vs ht).trans wipe_wipe, ?_⟩
    intro s H0 C cl fp
    have n2 : Now (Z.up F') G d (blkX x scope) (X.blk s H0 scope (compEnvC scope cl C X.env) fp) (fun _ _ _ _ => False) m H S ρ1 σ2 := now_blk (ok.up F') hh s H0 C cl fp g.2.1 env2
    refine hI (Z.up F') _ _ m H S ρ1 σ2 _ n2 ?_
    split at hf
    · rename_i S1 e2
      rw [e2]
      intro m2 H2 u x2 R2 r2
      cases r2
      have g2 := g.step hF x2 R2
      rw [if_pos rfl]
      intro s H0 C cl fp
      have n3 : Now (Z.up F') G d (blkX x scope) (X.blk s H0 scope (compEnvC scope cl C X.env) fp) (fun _ _ _ _ => False) m2 H2 S1 ρ1 σ2 := now_blk (ok.up F') hh s H0 C cl fp R2 (env2.ext x2)
      refine hIt2 (Z.up F') _ _ m2 H2 S1 ρ1 σ2 _ n3 ?_
      cases e3 : evIt G it2 ρ1 S1 with
      | ok its2 S4 =>
        rw [e3] at hf
        have hf : compI (fC G (wipeP ρ1 vs1) p t2 is2) its2 S4 = .ok ys S3 := hf
        intro m3 H3 J1 x3 R3 r3
        have g3 := g2.step hF x3 R3
        have env3 : RpE (Z.up F') m3 H3 ρ1 σ2 := (env2.ext x2).ext x3
        have gI : Gat Z F' m3 H3 D [(wipeP ρ1 vs1, wipe σ2 vs1), (wipeP ρ vs, wipe σ vs)] accv S4 m3 acc H3 := ⟨ExtO.refl, g3.2.1, fun q hq => by
          rcases List.mem_cons.mp hq with rfl | hq
          · exact env3.wipe vs1
          · exact g3.2.2.1 q hq, g3.2.2.2.1, g3.2.2.2.2⟩
        exact gat_loop (mI := m3) (HI := H3) (B := bC X scope tg2 ifs2 elt D vs1 σ2) hF (turn_C ok hh hF (List.mem_cons_self ..) hT2 hI2 hE ht2) (fun m' H' S' e R' => r3 F' _ Wd.refl (fun a q => by subst q; exact hF) m' H' S' e R') (fun m' H' acc' accv' S' g => g.1) hf hl gI
          fun m' acc' H' g' => hx m' acc' H' ⟨g3.1.trans g'.1, g'.2.1, fun q hq => g'.2.2.1 q (List.mem_cons_of_mem _ hq), g'.2.2.2.1, g'.2.2.2.2⟩
      | exc c fs S4 => rw [e3] at hf; cases hf
      | stuck => rw [e3] at hf; cases hf
    · rename_i S1 e2
      rw [e2]
      intro m2 H2 u x2 R2 r2
      cases r2
      cases hf
      rw [if_neg (by decide)]
      have g2 := g.step hF x2 R2
      refine hx m2 acc H2 ?_
      rw [List.append_nil]
      exact g2
    · cases hf
  · cases hf
theorem comp2_core {iter : Expr} {it : PIt} {own : List (Str × Nat)} {vs1 : List Nat} {tg2 iter2 : Expr} {ifs2 : List Expr} {t2 : PT} {it2 : PIt} {is2 : List PB} (hh : x.hot = false) (hT : SG (blkX x scope) tg t) (hI : STs G d (blkX x scope) ifs (evTs G is))
    (hIt2 : SI G d (blkX x scope) tg2 iter2 (evIt G it2)) (hT2 : SG (blkX x scope) tg2 t2) (hI2 : STs G d (blkX x scope) ifs2 (evTs G is2)) (hE : SE G d (blkX x scope) elt (evE G p))
    (hb : blkC x.N x.sc scope own = true) (ht : ∀ i ∈ slT t, i ∈ own.map (·.2)) (ht2 : ∀ i ∈ slT t2, i ∈ vs1) (hv : ∀ i ∈ vs1, i ∈ own.map (·.2)) (hs : noSet iter = true) (hs2 : noSet iter2 = true)
    {Z : St0} {X : Cx} {W : WX} {m : List Addr} {H : Hp} {S : List PO} {ρ : Sl} {σ : L2.St} {Q : VK} (hIt : ∀ R, Post Z G W (RI Z) m H σ (evIt G it ρ S) R → jI X tg iter σ H R) (n : Now Z G d x X W m H S ρ σ) (h : Post Z G W (ReA Z) m H σ (evL G (.comp2 (own.map (·.2)) p t it is vs1 t2 it2 is2) ρ S) (fun us H' => ∀ p, H' p = none → Q (.ref p) (upd H' p (.lst us)))) :
    tLc2 (jI X tg iter) (gU X scope tg) (tU X scope ifs) (iU X scope tg2 iter2) (gU X scope tg2) (tU X scope ifs2) (eU X scope elt) (own.map (·.2)) vs1 σ H Q := by
  simp only [evL] at h
  refine hIt _ (Post.bind h fun its S1 m1 H1 J e1 x1 R1 r1 q1 => ?_)
  intro D hn
  have env1 := n.env.ext x1
  have q1' : Post Z G W (ReA Z) m1 H1 σ (lenOk (compI (fC2 G (wipeP ρ (own.map (·.2))) p t is vs1 t2 it2 is2) its S1)) (fun us H' => ∀ p, H' p = none → Q (.ref p) (upd H' p (.lst us))) := q1
  cases e2 : lenOk (compI (fC2 G (wipeP ρ (own.map (·.2))) p t is vs1 t2 it2 is2) its S1) with
  | ok zs S2 =>
    rw [e2] at q1'
    obtain ⟨e3, e4⟩ := lenOk_ok e2
    have hZ : ¬ Z.F D := fun f => R1.fr D f hn
    have wd : Wd Z H1 (fun a => Z.F a ∨ a = D) := ⟨fun a f => .inl f, fun a f => f.imp id fun e => by rw [e]; exact hn⟩
    exact gat_loop (F' := fun a => Z.F a ∨ a = D) (B := bC2 X scope tg ifs tg2 iter2 ifs2 elt D (own.map (·.2)) vs1 σ) (.inr rfl) (turn_C2 n.ok hh (.inr rfl) hT hI hIt2 hT2 hI2 hE ht ht2) (fun m' H' S' e R' => r1 _ _ wd (fun a q => .inr q) m' H' S' e R') (fun m' H' acc' accv' S' g => g.1) e3 (by simpa using e4) (gat_start R1 hn env1 _) (fun m' acc' H' g => by
      obtain ⟨Hb, b1, rfl, b3, b4, b5⟩ := gat_end g hn hZ
      exact q1' m' Hb acc' b3 b4 b5 D b1)
  | exc c fs S2 => exact (lenOk_exc e2).elim
  | stuck => rw [e2] at q1'; exact q1'.elim
theorem sl_comp2 {iter : Expr} {it : PIt} {own : List (Str × Nat)} {vs1 : List Nat} {pos : Pos} {tg2 iter2 : Expr} {ifs2 : List Expr} {t2 : PT} {it2 : PIt} {is2 : List PB} (hh : x.hot = false) (hIt : SI G d x tg iter (evIt G it)) (hT : SG (blkX x scope) tg t) (hI : STs G d (blkX x scope) ifs (evTs G is))
    (hIt2 : SI G d (blkX x scope) tg2 iter2 (evIt G it2)) (hT2 : SG (blkX x scope) tg2 t2) (hI2 : STs G d (blkX x scope) ifs2 (evTs G is2)) (hE : SE G d (blkX x scope) elt (evE G p))
    (hb : blkC x.N x.sc scope own = true) (ht : ∀ i ∈ slT t, i ∈ own.map (·.2)) (ht2 : ∀ i ∈ slT t2, i ∈ vs1) (hv : ∀ i ∈ vs1, i ∈ own.map (·.2)) (hs : noSet iter = true) (hs2 : noSet iter2 = true) :
    SL G d x (.ListComp elt [⟨tg, iter, ifs, 0⟩, ⟨tg2, iter2, ifs2, 0⟩] scope pos) (evL G (.comp2 (own.map (·.2)) p t it is vs1 t2 it2 is2)) := by
  intro Z X W m H S ρ σ Q n h
  obtain ⟨hc, _, _⟩ := n.ok.calm hh
  refine PE.j (pe_lc2 (g := gU X scope tg) (tt := tU X scope ifs) (wi1 := iU X scope tg2 iter2) (g1 := gU X scope tg2) (tt1 := tU X scope ifs2) (te := eU X scope elt) hc n.ok.nd pi_j (blkOk_by (by rw [n.ok.hN, n.ok.hs]; exact hb)) hv (fun s H C cl fp => ⟨fun pins s1 σ H v u Q I r h => h s _ C cl fp pins s1 u I r⟩) (fun s H C cl fp => ⟨fun pins s1 σ H Q I h => h s _ C cl fp pins s1 I⟩)
    (fun s H C cl fp => ⟨fun pins s1 σ H R I h => h s _ C cl fp pins s1 I⟩) (fun s H C cl fp => ⟨fun pins s1 σ H v u Q I r h => h s _ C cl fp pins s1 u I r⟩) (fun s H C cl fp => ⟨fun pins s1 σ H Q I h => h s _ C cl fp pins s1 I⟩)
    (fun s H C cl fp => ⟨fun pins s1 σ H Q I h => h s _ C cl fp pins s1 I⟩) (fun y => fold_none hs y) (fun env y => fold_none hs2 y)) ?_
  exact comp2_core hh hT hI hIt2 hT2 hI2 hE hb ht ht2 hv hs hs2 (fun R q => hIt Z X W m H S ρ σ R n q) n h
end
end Rv
end PartRvK
section PartRvL
set_option Elab.async false
set_option linter.all false
set_option maxRecDepth 100000
set_option autoImplicit false
/-! Rv, part L: methods of the store's lists, isinstance of a caught error. -/
namespace Rv
open PySem PySem.Spec PyProof.Rows L2
def plainBase : Expr → Bool
  | .Call _ _ _ _ => false
  | _ => true
theorem base_of {o : Expr} {attr : Str} {env : Env} {whole : Sem Value} (h : plainBase o = true) : attributeBase o attr env whole = whole := by
  cases o <;> first | rfl | (cases h)
theorem recv_ty {Z : St0} {m : List Addr} {H : Hp} {S : List PO} {k : M} {y : EV} {u : V} (R : Rel Z m S H) (r : Re Z m H y u) (h : recvOk k S y = true) : tyV Z.K (tyM k) u H := by
  cases r with
  | p r =>
    cases r with
    | str z => exact beq_iff_eq.mp h
    | lst h1 f r => exact .inl ⟨beq_iff_eq.mp h, _, SqL.of h1⟩
    | rd h1 r => exact .inl ⟨beq_iff_eq.mp h, _, h1.sqL⟩
    | _ => cases h
  | ref hi =>
    rename_i i a
    simp only [recvOk] at h
    split at h
    · rename_i xs e
      obtain ⟨us, g, _⟩ := R.ob i a _ hi e
      exact .inl ⟨beq_iff_eq.mp h, _, SqL.of g⟩
    · rename_i xs e
      obtain ⟨us, g, _⟩ := R.ob i a _ hi e
      exact .inl ⟨beq_iff_eq.mp h, _, SqL.of g⟩
    · rename_i ks vs e
      obtain ⟨us, g, _⟩ := R.ob i a _ hi e
      exact .inr (.inr (.inl ⟨beq_iff_eq.mp h, .inl ⟨_, g⟩⟩))
    · cases h
/-- what a method's rule is to give -/
def MthOk (k : M) (r : PySem.W.Frag → V → List V → Hp → VK → Prop) (n : Nat) : Prop :=
  ∀ (Z : St0) (m : List Addr) (H : Hp) (S S' : List PO) (y w : EV) (vs : List EV) (u : V) (us : List V) (Q : VK), Rel Z m S H → Re Z m H y u → ReA Z m H vs us → vs.length = n → methV k S y vs = some (w, S') → (∀ m' H' t, Ext m H m' H' → Rel Z m' S' H' → Re Z m' H' w t → Q t H') → r Z.K u us H Q
section
variable {G : Gm} {d : Nat} {x : Sx}
/-- a method with one argument, by its rule -/
theorem se_meth1 {id : String} {name : Str} {r : PySem.W.Frag → V → List V → Hp → VK → Prop} {k : M} {o e : Expr} {p q : PX} {apos cpos : Pos} (pa : PlainAttrs (tyM k)) (slot : Slot (tyM k) name id) (hty : typeOf (.builtin id) = pure (.type "method_descriptor")) (hm : ∀ X : Cx, MtR X id (r X.K)) (hq : MthOk k r 1)
    (ha : SE G d x o (evE G p)) (hb : SE G d x e (evE G q)) (hbase : plainBase o = true) (hs : starB e = false) (hl : (apos.endLine == cpos.line) = true) : SE G d x (.Call (.Attribute o name apos) [e] [] cpos) (evE G (.meth k p [q])) := by
  intro Z X W m H S ρ σ Q n h
  simp only [evE, evEs] at h
  refine PE.j (pe_bm pa slot hty (hm X) pe_j (pa_one hs) (by rw [base_of hbase]) (by rw [star_cons hs]; rfl) hl (star_cons hs) rfl) (ha Z X W m H S ρ σ _ n (Post.bind h fun y S1 m1 H1 u e1 x1 R1 r1 q1 => ?_))
  rw [n.ok.hK]
  split at q1
  · rename_i hr
    refine ⟨recv_ty R1 r1 hr, hb Z X W m1 H1 S1 ρ σ _ (n.step x1 R1) ?_⟩
    cases e2 : evE G q ρ S1 with
    | ok v S2 =>
      rw [e2] at q1
      simp only [Out.bind] at q1
      cases e3 : methV k S2 y [v] with
      | some w =>
        obtain ⟨w, S3⟩ := w
        rw [e3] at q1
        intro m2 H2 z x2 R2 r2
        exact hq Z m2 H2 S2 S3 y w [v] u [z] Q R2 (r1.ext x2) (.cons r2 .nil) rfl e3 fun m' H' t x3 R3 r3 => q1 m' H' t (x2.trans x3) R3 r3
      | none => rw [e3] at q1; exact q1.elim
    | exc c fs S2 => rw [e2] at q1; exact q1
    | stuck => rw [e2] at q1; exact q1.elim
  · exact q1.elim
/-- the same where the rule wants room -/
theorem se_meth1R {id : String} {name : Str} {r : PySem.W.Frag → V → List V → Hp → VK → Prop} {k : M} {o e : Expr} {p q : PX} {apos cpos : Pos} (pa : PlainAttrs (tyM k)) (slot : Slot (tyM k) name id) (hty : typeOf (.builtin id) = pure (.type "method_descriptor")) (hm : ∀ X : Cx, X.A.units + 65 < cLine → MtR X id (r X.K)) (hq : MthOk k r 1)
    (ha : SE G d x o (evE G p)) (hb : SE G d x e (evE G q)) (hbase : plainBase o = true) (hs : starB e = false) (hl : (apos.endLine == cpos.line) = true) : SE G d x (.Call (.Attribute o name apos) [e] [] cpos) (evE G (.meth k p [q])) := by
  intro Z X W m H S ρ σ Q n h
  simp only [evE, evEs] at h
  refine PE.j (pe_bm pa slot hty (hm X (by have := n.ok.room.un; omega)) pe_j (pa_one hs) (by rw [base_of hbase]) (by rw [star_cons hs]; rfl) hl (star_cons hs) rfl) (ha Z X W m H S ρ σ _ n (Post.bind h fun y S1 m1 H1 u e1 x1 R1 r1 q1 => ?_))
  rw [n.ok.hK]
  split at q1
  · rename_i hr
    refine ⟨recv_ty R1 r1 hr, hb Z X W m1 H1 S1 ρ σ _ (n.step x1 R1) ?_⟩
    cases e2 : evE G q ρ S1 with
    | ok v S2 =>
      rw [e2] at q1
      simp only [Out.bind] at q1
      cases e3 : methV k S2 y [v] with
      | some w =>
        obtain ⟨w, S3⟩ := w
        rw [e3] at q1
        intro m2 H2 z x2 R2 r2
        exact hq Z m2 H2 S2 S3 y w [v] u [z] Q R2 (r1.ext x2) (.cons r2 .nil) rfl e3 fun m' H' t x3 R3 r3 => q1 m' H' t (x2.trans x3) R3 r3
      | none => rw [e3] at q1; exact q1.elim
    | exc c fs S2 => rw [e2] at q1; exact q1
    | stuck => rw [e2] at q1; exact q1.elim
  · exact q1.elim
theorem se_meth0 {id : String} {name : Str} {r : PySem.W.Frag → V → List V → Hp → VK → Prop} {k : M} {o : Expr} {p : PX} {apos cpos : Pos} (pa : PlainAttrs (tyM k)) (slot : Slot (tyM k) name id) (hty : typeOf (.builtin id) = pure (.type "method_descriptor")) (hm : ∀ X : Cx, MtR X id (r X.K)) (hq : MthOk k r 0)
    (ha : SE G d x o (evE G p)) (hbase : plainBase o = true) (hl : (apos.endLine == cpos.line) = true) : SE G d x (.Call (.Attribute o name apos) [] [] cpos) (evE G (.meth k p [])) := by
  intro Z X W m H S ρ σ Q n h
  simp only [evE, evEs] at h
  refine PE.j (pe_bm0 pa slot hty (hm X) pe_j (by rw [base_of hbase]) hl) (ha Z X W m H S ρ σ _ n (Post.bind h fun y S1 m1 H1 u e1 x1 R1 r1 q1 => ?_))
  rw [n.ok.hK]
  split at q1
  · rename_i hr
    refine ⟨recv_ty R1 r1 hr, ?_⟩
    simp only [Out.bind] at q1
    cases e3 : methV k S1 y [] with
    | some w =>
      obtain ⟨w, S3⟩ := w
      rw [e3] at q1
      exact hq Z m1 H1 S1 S3 y w [] u [] Q R1 r1 .nil rfl e3 q1
    | none => rw [e3] at q1; exact q1.elim
  · exact q1.elim
end
/-! ### the rules -/
theorem mth_append : MthOk .append (fun _ => rAppend) 1 := by
  intro Z m H S S' y w vs u us Q R r ra hn h q
  simp only [methV] at h
  split at h
  · rename_i i
    cases r with
    | ref hi =>
      rename_i a
      split at h
      · rename_i v
        split at h
        · rename_i xs e
          split at h
          · rename_i hl
            cases h
            obtain ⟨us0, g, gr⟩ := R.ob i a _ hi e
            cases ra with
            | cons r1 rr =>
              cases rr
              rename_i z
              cases r1 with
              | p r1 =>
                have ha := List.mem_of_getElem? hi
                have ex := Ext.write (o := .lst (us0 ++ [z])) R ha
                exact ⟨a, us0, z, rfl, rfl, g, by rw [← gr.length]; exact Nat.lt_of_lt_of_le hl lim_le, q m _ _ ex (R.write hi ⟨_, upd_same, (gr.append (.cons r1 .nil)).ext ex⟩) (.p .non)⟩
          · cases h
        · cases h
      · rename_i j
        split at h
        · rename_i is e
          split at h
          · rename_i hl
            cases h
            obtain ⟨us0, g, gr⟩ := R.ob i a _ hi e
            cases ra with
            | cons r1 rr =>
              cases rr
              rename_i z
              have ha := List.mem_of_getElem? hi
              have ex := Ext.write (o := .lst (us0 ++ [z])) R ha
              have hlen := gr.length
              rw [List.length_map] at hlen
              refine ⟨a, us0, z, rfl, rfl, g, by rw [← hlen]; exact Nat.lt_of_lt_of_le hl lim_le, q m _ _ ex (R.write hi ⟨_, upd_same, ?_⟩) (.p .non)⟩
              rw [List.map_append]
              exact (gr.append (.cons r1 .nil)).ext ex
          · cases h
        · rename_i e
          cases h
          obtain ⟨us0, g, gr⟩ := R.ob i a _ hi e
          cases gr
          cases ra with
          | cons r1 rr =>
            cases rr
            rename_i z
            have ha := List.mem_of_getElem? hi
            have ex := Ext.write (o := .lst ([] ++ [z])) R ha
            exact ⟨a, [], z, rfl, rfl, g, by rw [sizeLine_eq]; decide, q m _ _ ex (R.write hi ⟨_, upd_same, (ReA.cons r1 .nil).ext ex⟩) (.p .non)⟩
        · cases h
      · cases h
  · cases h
theorem mth_extend : MthOk .extend (fun _ => rExtend) 1 := by
  intro Z m H S S' y w vs u us Q R r ra hn h q
  simp only [methV] at h
  split at h
  · rename_i i
    cases r with
    | ref hi =>
      rename_i a
      split at h
      · rename_i ys
        split at h
        · rename_i xs e
          split at h
          · rename_i hl
            cases h
            obtain ⟨us0, g, gr⟩ := R.ob i a _ hi e
            cases ra with
            | cons r1 rr =>
              cases rr
              cases r1 with
              | p r1 =>
                cases r1 with
                | lst h1 f r1 =>
                  rename_i b us1
                  have ha := List.mem_of_getElem? hi
                  have ex := Ext.write (o := .lst (us0 ++ us1)) R ha
                  exact ⟨a, b, us0, us1, rfl, rfl, g, h1, by rw [← gr.length, ← r1.length]; exact Nat.le_trans hl lim_le, q m _ _ ex (R.write hi ⟨_, upd_same, (gr.append r1).ext ex⟩) (.p .non)⟩
          · cases h
        · cases h
      · rename_i j
        split at h
        · rename_i xs e
          split at h
          · rename_i ys e2
            split at h
            · rename_i hl
              cases h
              obtain ⟨us0, g, gr⟩ := R.ob i a _ hi e
              cases ra with
              | cons r1 rr =>
                cases rr
                cases r1 with
                | ref hj =>
                  rename_i b
                  obtain ⟨us1, g2, gr2⟩ := R.ob j b _ hj e2
                  have ha := List.mem_of_getElem? hi
                  have ex := Ext.write (o := .lst (us0 ++ us1)) R ha
                  exact ⟨a, b, us0, us1, rfl, rfl, g, g2, by rw [← gr.length, ← gr2.length]; exact Nat.le_trans hl lim_le, q m _ _ ex (R.write hi ⟨_, upd_same, (gr.append gr2).ext ex⟩) (.p .non)⟩
            · cases h
          · cases h
        · cases h
      · cases h
  · cases h
theorem RpA.dropLast {Z : St0} {m : List Addr} {H : Hp} : ∀ {v : List PV} {u : List V}, RpA Z m H v u → RpA Z m H v.dropLast u.dropLast
  | _, _, .nil => .nil
  | _, _, .cons h .nil => .nil
  | _, _, .cons h (.cons h2 r) => .cons h (RpA.dropLast (.cons h2 r))
theorem RpA.eraseIdx {Z : St0} {m : List Addr} {H : Hp} : ∀ {v : List PV} {u : List V} (i : Nat), RpA Z m H v u → RpA Z m H (v.eraseIdx i) (u.eraseIdx i)
  | _, _, _, .nil => by simp; exact .nil
  | _, _, 0, .cons h r => r
  | _, _, i + 1, .cons h r => .cons h (RpA.eraseIdx i r)
theorem mth_pop0 : MthOk .pop0 (fun _ => rPop) 0 := by
  intro Z m H S S' y w vs u us Q R r ra hn h q
  simp only [methV] at h
  split at h
  · rename_i i
    cases r with
    | ref hi =>
      rename_i a
      split at h
      · split at h
        · rename_i xs e
          split at h
          · rename_i v ev
            cases h
            obtain ⟨us0, g, gr⟩ := R.ob i a _ hi e
            cases ra
            obtain ⟨z, hz, rz⟩ := gr.get ev
            have ha := List.mem_of_getElem? hi
            have ex := Ext.write (o := .lst us0.dropLast) R ha
            exact ⟨a, us0, z, rfl, rfl, g, by rw [← gr.length]; exact hz, q m _ _ ex (R.write hi ⟨_, upd_same, gr.dropLast.ext ex⟩) (.p (rz.ext ex))⟩
          · cases h
        · cases h
      · cases h
  · cases h
theorem mth_popAt : MthOk .popAt (fun _ => rPopAt) 1 := by
  intro Z m H S S' y w vs u us Q R r ra hn h q
  simp only [methV] at h
  split at h
  · rename_i i
    cases r with
    | ref hi =>
      rename_i a
      split at h
      · rename_i k
        split at h
        · rename_i xs e
          split at h
          · rename_i j ej
            split at h
            · rename_i v ev
              split at h
              · rename_i hl
                cases h
                obtain ⟨us0, g, gr⟩ := R.ob i a _ hi e
                cases ra with
                | cons r1 rr =>
                  cases rr
                  cases r1 with
                  | p r1 =>
                    cases r1
                    obtain ⟨z, hz, rz⟩ := gr.get ev
                    have ha := List.mem_of_getElem? hi
                    have ex := Ext.write (o := .lst (us0.eraseIdx j)) R ha
                    obtain ⟨h1, h2, h3, h4⟩ := ixN_seq ej
                    have hlim : lim = 1000000 := rfl
                    have hlen := gr.length
                    rw [hlen] at h1
                    exact ⟨a, us0, k, j, z, rfl, rfl, g, by omega, by omega, h1, hz, q m _ _ ex (R.write hi ⟨_, upd_same, (gr.eraseIdx j).ext ex⟩) (.p (rz.ext ex))⟩
              · cases h
            · cases h
          · cases h
        · cases h
      · cases h
  · cases h
theorem strs_rel {Z : St0} {m : List Addr} {H : Hp} : ∀ {xs : List PV} {us : List V} {zs : List Str}, RpA Z m H xs us → strsOf xs = some zs → us = zs.map V.str
  | _, _, _, .nil, h => by simp only [strsOf] at h; cases h; rfl
  | _, _, _, .cons r rs, h => by
    cases r with
    | str z =>
      simp only [strsOf] at h
      split at h
      · rename_i e
        cases h
        rw [strs_rel rs e]; rfl
      · cases h
    | _ => simp only [strsOf] at h; cases h
def rJoin (K : PySem.W.Frag) : V → List V → Hp → VK → Prop := fun x xs H Q => ∃ a p, ∃ ys : List Str, x = .str a ∧ xs = [.ref p] ∧ (SqL K H p (ys.map V.str) ∨ SqT K H p (ys.map V.str)) ∧ (ys.map (·.length)).sum + ys.length * a.length ≤ 16777216 ∧ Q (.str (Txt.join a ys)) H
theorem mth_join : MthOk .join rJoin 1 := by
  intro Z m H S S' y w vs u us Q R r ra hn h q
  simp only [methV] at h
  split at h
  · rename_i a
    cases r with
    | p r =>
      cases r
      split at h
      · rename_i v
        cases e : (see S v).bind seqOf with
        | none => rw [e] at h; cases h
        | some xs =>
          rw [e] at h
          simp only at h
          cases ez : strsOf xs with
          | none => rw [ez] at h; cases h
          | some zs =>
            rw [ez] at h
            simp only at h
            split at h
            · rename_i hl
              cases h
              obtain ⟨pv, e1, e2⟩ := Option.bind_eq_some_iff.mp e
              cases ra with
              | cons r1 rr =>
                cases rr
                obtain ⟨p, us0, rfl, hs, rx⟩ := rs_seq (see_rs R r1 e1) e2
                have hu := strs_rel rx ez
                subst hu
                have hlim : lim = 1000000 := rfl
                exact ⟨a, p, zs, rfl, rfl, hs, by omega, q m H _ Ext.refl R (.p (.str _))⟩
            · cases h
      · cases h
  · cases h
def rSplit : V → List V → Hp → VK → Prop := fun x xs H Q => ∃ a b, x = .str a ∧ xs = [.str b] ∧ (b.length == 0) = false ∧ a.length + 2 ≤ sizeLine ∧ rNewStrs (Txt.split a b) H Q
theorem mth_split : MthOk .split (fun _ => rSplit) 1 := by
  intro Z m H S S' y w vs u us Q R r ra hn h q
  simp only [methV] at h
  split at h
  · rename_i a
    cases r with
    | p r =>
      cases r
      split at h
      · rename_i b
        split at h
        · rename_i hb
          split at h
          · rename_i hl
            cases h
            cases ra with
            | cons r1 rr =>
              cases rr
              cases r1 with
              | p r1 =>
                cases r1
                have hlim : lim = 1000000 := rfl
                refine ⟨a, b, rfl, rfl, hb, by rw [sizeLine_eq]; omega, fun p hp => ?_⟩
                refine q m _ _ (Ext.alloc hp) (R.alloc hp) (.p (.lst upd_same (fre_new R hp) ?_))
                have : ∀ zs : List Str, RpA Z m (upd H p (.lst ((Txt.split a b).map V.str))) (zs.map .str) (zs.map V.str) := fun zs => by
                  induction zs with
                  | nil => exact .nil
                  | cons z zs ih => exact .cons (.str z) ih
                exact this _
          · cases h
        · cases h
      · cases h
  · cases h
theorem mth_index : MthOk .index rIndexD 1 := by
  intro Z m H S S' y w vs u us Q R r ra hn h q
  simp only [methV] at h
  split at h
  · rename_i v
    cases e1 : see S y with
    | none => rw [e1] at h; cases h
    | some yv =>
      cases e2 : see S v with
      | none => rw [e2] at h; split at h <;> cases h
      | some vv =>
        rw [e1, e2] at h
        simp only [Option.bind_some] at h
        split at h
        · rename_i ds hd
          split at h
          · rename_i d he
            split at h
            · rename_i hs
              split at h
              · rename_i j hj
                cases h
                obtain ⟨s1, s2⟩ := Bool.and_eq_true_iff.mp hs
                cases ra with
                | cons r1 rr =>
                  cases rr
                  rename_i z
                  have d1 := rs_dp (see_rs R r e1) hd
                  have d2 := rs_dp (see_rs R r1 e2) he
                  obtain ⟨hlt, hp, hno⟩ := List.findIdx?_eq_some_iff_getElem.mp hj
                  have key : ∃ a, u = .ref a := by cases d1; exact ⟨_, rfl⟩
                  obtain ⟨a, rfl⟩ := key
                  exact ⟨a, z, d, ds, j, ds[j], rfl, rfl, d1, d2, s1, s2, List.getElem?_eq_getElem hlt, hp, fun m2 z' hm hz => by
                    obtain ⟨hl2, rfl⟩ := List.getElem?_eq_some_iff.mp hz
                    exact Bool.eq_false_iff.mpr (hno m2 hm), q m H _ .refl R (.p (.int _))⟩
              · cases h
            · cases h
          · cases h
        · cases h
  · cases h
/-! ### xs.count(i) -/
def rCountI (K : PySem.W.Frag) : V → List V → Hp → VK → Prop := fun x xs H Q => ∃ (a : Addr) (l : List Int) (j : Int), x = .ref a ∧ xs = [.int j] ∧ SqL K H a (l.map V.int) ∧ Q (.int (l.count j : Nat)) H
theorem count_vals {j : Int} : ∀ {l : List Int} {its : List Value}, Vals (l.map V.int) its → its.countP (eqU (.int j)) = l.count j
  | [], _, r => by cases r; rfl
  | i :: l, _, r => by
    rw [List.map_cons] at r
    cases r with
    | cons h t =>
      obtain ⟨k, rfl⟩ := h
      rw [List.countP_cons, List.count_cons, count_vals t]
      rfl
theorem flat_ints (l : List Int) : (l.map V.int).all flatV = true := by
  rw [List.all_map]
  exact List.all_eq_true.mpr fun _ _ => rfl
theorem mt_countI {X : Cx} : MtR X "list.count" (rCountI X.K) := by
  intro pins s σ H x xs v us Q I rx rxs h
  obtain ⟨a, l, j, rfl, rfl, hl, q⟩ := h
  cases rx
  cases rxs with
  | cons ry rt =>
    cases rt
    obtain ⟨t, rfl⟩ := ry
    obtain ⟨its, rv, ⟨⟨cls, dd, data, sls⟩, n, ho, hc, hdn, hdt⟩, hz⟩ := I.list hl
    simp only at hc hdt
    subst hc hdt
    refine call_meets PySem.F.slot_list_count ⟨_, ho, rfl⟩ PySem.F.entry_list_count (PySem.F.args_list_count_2 _ _) (SeqAt.list_countAt a its.toArray n dd sls (.int j t) (eqU (.int j)))
      ⟨ho, fun w hw => mem_eqAt (x := .int j) ⟨t, rfl⟩ rfl rv (flat_ints l) w (by simpa using hw), ?_⟩
    rw [show its.toArray.toList = its from rfl, count_vals rv]
    exact ⟨.int (l.count j : Nat), H, I.tok _, ⟨_, rfl⟩, q⟩
theorem mth_count : MthOk .count rCountI 1 := by
  intro Z m H S S' y w vs u us Q R r ra hn h q
  simp only [methV] at h
  split at h
  · rename_i xs e1
    split at h
    · rename_i j
      split at h
      · rename_i l hl
        cases h
        cases ra with
        | cons r1 rr =>
          cases rr
          cases r1 with
          | p r1 =>
            cases r1
            obtain ⟨a, us, rfl, hH, rx⟩ := (see_rs R r e1).lst_
            have e2 := intsOf_rel rx hl
            subst e2
            exact ⟨a, l, j, rfl, rfl, SqL.of hH, q m H _ .refl R (.p (.int _))⟩
      · cases h
    · cases h
  · cases h
section
variable {G : Gm} {d : Nat} {x : Sx} {o e : Expr} {p q : PX} {apos cpos : Pos}
theorem se_append (ha : SE G d x o (evE G p)) (hb : SE G d x e (evE G q)) (hbase : plainBase o = true) (hs : starB e = false) (hl : (apos.endLine == cpos.line) = true) : SE G d x (.Call (.Attribute o "append" apos) [e] [] cpos) (evE G (.meth .append p [q])) :=
  se_meth1 (r := fun _ => rAppend) F.plainAttrs_list F.slot_list_append F.type_list_append (fun X => mt_append) mth_append ha hb hbase hs hl
theorem se_extend (ha : SE G d x o (evE G p)) (hb : SE G d x e (evE G q)) (hbase : plainBase o = true) (hs : starB e = false) (hl : (apos.endLine == cpos.line) = true) : SE G d x (.Call (.Attribute o "extend" apos) [e] [] cpos) (evE G (.meth .extend p [q])) :=
  se_meth1 (r := fun _ => rExtend) F.plainAttrs_list F.slot_list_extend F.type_list_extend (fun X => mt_extend) mth_extend ha hb hbase hs hl
theorem se_index (ha : SE G d x o (evE G p)) (hb : SE G d x e (evE G q)) (hbase : plainBase o = true) (hs : starB e = false) (hl : (apos.endLine == cpos.line) = true) : SE G d x (.Call (.Attribute o "index" apos) [e] [] cpos) (evE G (.meth .index p [q])) :=
  se_meth1R (r := rIndexD) F.plainAttrs_list F.slot_list_index F.type_list_index (fun X hu => mt_indexD hu) mth_index ha hb hbase hs hl
theorem se_count (ha : SE G d x o (evE G p)) (hb : SE G d x e (evE G q)) (hbase : plainBase o = true) (hs : starB e = false) (hl : (apos.endLine == cpos.line) = true) : SE G d x (.Call (.Attribute o "count" apos) [e] [] cpos) (evE G (.meth .count p [q])) :=
  se_meth1 (r := rCountI) F.plainAttrs_list F.slot_list_count F.type_list_count (fun X => mt_countI) mth_count ha hb hbase hs hl
theorem se_popAt (ha : SE G d x o (evE G p)) (hb : SE G d x e (evE G q)) (hbase : plainBase o = true) (hs : starB e = false) (hl : (apos.endLine == cpos.line) = true) : SE G d x (.Call (.Attribute o "pop" apos) [e] [] cpos) (evE G (.meth .popAt p [q])) :=
  se_meth1 (r := fun _ => rPopAt) F.plainAttrs_list F.slot_list_pop F.type_list_pop (fun X => mt_popAt) mth_popAt ha hb hbase hs hl
theorem se_pop0 (ha : SE G d x o (evE G p)) (hbase : plainBase o = true) (hl : (apos.endLine == cpos.line) = true) : SE G d x (.Call (.Attribute o "pop" apos) [] [] cpos) (evE G (.meth .pop0 p [])) :=
  se_meth0 (r := fun _ => rPop) F.plainAttrs_list F.slot_list_pop F.type_list_pop (fun X => mt_pop) mth_pop0 ha hbase hl
theorem se_join (ha : SE G d x o (evE G p)) (hb : SE G d x e (evE G q)) (hbase : plainBase o = true) (hs : starB e = false) (hl : (apos.endLine == cpos.line) = true) : SE G d x (.Call (.Attribute o "join" apos) [e] [] cpos) (evE G (.meth .join p [q])) :=
  se_meth1 (r := rJoin) F.plainAttrs_str F.slot_str_join F.type_str_join (fun X => mt_join) mth_join ha hb hbase hs hl
theorem se_split (ha : SE G d x o (evE G p)) (hb : SE G d x e (evE G q)) (hbase : plainBase o = true) (hs : starB e = false) (hl : (apos.endLine == cpos.line) = true) : SE G d x (.Call (.Attribute o "split" apos) [e] [] cpos) (evE G (.meth .split p [q])) :=
  se_meth1 (r := fun _ => rSplit) F.plainAttrs_str F.slot_str_split F.type_str_split (fun X => mt_split) mth_split ha hb hbase hs hl
end
section
variable {G : Gm} {d : Nat} {x : Sx} {a b : Expr} {p q : PX} {pos : Pos}
theorem last_new {m : List Addr} {S : List PO} {p : Addr} (h : m.length = S.length) : (m ++ [p])[S.length]? = some p := by
  rw [← h, List.getElem?_append_right (Nat.le_refl _), Nat.sub_self]; rfl
theorem se_dnewK : SE G d x (.Dict [] [] pos) (evE G (.dnew false)) := by
  intro Z X W m H S ρ σ Q n h
  simp only [evE] at h
  exact PE.j pe_dnewK fun p hp => h (m ++ [p]) _ _ (Ext.allocM hp) (n.rel.allocM hp ⟨[], upd_same, rfl, .nil⟩) (.ref (last_new n.rel.len))
theorem se_dnewT : SE G d x (.Dict [] [] pos) (evE G (.dnew true)) := by
  intro Z X W m H S ρ σ Q n h
  simp only [evE] at h
  exact PE.j pe_dnewT fun p hp => h (m ++ [p]) _ _ (Ext.allocM hp) (n.rel.allocM hp ⟨[], upd_same, rfl, .nil⟩) (.ref (last_new n.rel.len))
theorem se_disp1 (ha : SE G d x a (evE G p)) (hb : SE G d x b (evE G q)) : SE G d x (.Dict [some a] [b] pos) (evE G (.disp1 p q)) := by
  intro Z X W m H S ρ σ Q n h
  simp only [evE] at h
  refine PE.j (pe_disp (pps_cons pe_j pe_j pps_nil) rfl rfl (by simp) (by simp)) fun r hr => ?_
  have ex := Ext.allocM (m := m) (o := .dK []) hr
  have R0 := n.rel.allocM (o := .dct [] []) (u := .dK []) hr ⟨[], upd_same, rfl, .nil⟩
  refine ha Z X W (m ++ [r]) (upd H r (.dK [])) _ ρ σ _ (n.step ex R0) (Post.bind (h.ext ex) fun y S1 m1 H1 u e1 x1 R1 r1 q1 => ?_)
  refine hb Z X W m1 H1 S1 ρ σ _ ((n.step ex R0).step x1 R1) (Post.bind q1 fun z S2 m2 H2 w e2 x2 R2 r2 q2 => ?_)
  have hi := x2.get (x1.get (last_new (p := r) n.rel.len))
  split at q2
  · rename_i k hk
    split at q2
    · rename_i v hv
      split at q2
      · rename_i hS
        obtain ⟨us, g, gl, gr⟩ := R2.ob _ _ _ hi hS
        cases gr
        have hy : ∃ y0, y = .p y0 ∧ keyOf y0 = some k := by
          cases y with
          | p y0 => exact ⟨y0, rfl, hk⟩
          | ref i => cases hk
        obtain ⟨y0, rfl, hk⟩ := hy
        cases z with
        | ref i => cases hv
        | p v0 =>
          cases hv
          cases r1 with
          | p r1 =>
            have e1 := keyOf_rel (.p r1) hk
            cases r2 with
            | p r2 =>
              have hw := Ext.write (o := .dK [(k, w)]) R2 (List.mem_of_getElem? hi)
              refine ⟨g, [(k, w)], by rw [e1]; rfl, by simp, ?_⟩
              exact q2 m2 _ _ hw (R2.write hi ⟨[w], upd_same, rfl, .cons (r2.ext hw) .nil⟩) (.ref hi)
      · exact q2.elim
    · exact q2.elim
  · exact q2.elim
end
section
variable {Z : St0} {m : List Addr} {H : Hp} {S : List PO}
theorem dctS_rel (R : Rel Z m S H) {x : EV} {u : V} (r : Re Z m H x u) (h : dctS S x = true) : ∃ a, u = .ref a ∧ IsD H a := by
  unfold dctS at h
  split at h
  · rename_i ks vs e
    obtain ⟨p, us, rfl, hd, _⟩ := (see_rs R r e).dct_
    exact ⟨p, rfl, .inl ⟨_, hd⟩⟩
  · rename_i ks vs e
    obtain ⟨p, us, rfl, hd, _⟩ := (see_rs R r e).dtt_
    exact ⟨p, rfl, .inr ⟨_, hd⟩⟩
  · cases h
theorem getV_rel (R : Rel Z m S H) {x y : EV} {a : Addr} {w : V} {o : Option PV} (r : Re Z m H x (.ref a)) (r2 : Re Z m H y w) (h : getV S x y = some o) :
    ∃ o', DGet H a w o' ∧ ∀ (v : PV) (t : V), Rp Z m H v t → Rp Z m H (o.getD v) (o'.getD t) := by
  unfold getV at h
  split at h
  · rename_i ks vs e
    obtain ⟨p, us, e2, hd, hl, rr⟩ := (see_rs R r e).dct_
    cases e2
    split at h
    · rename_i k hk
      cases h
      obtain ⟨y0, hy, hk⟩ := Option.bind_eq_some_iff.mp hk
      have ek := keyOf_rel (see_rs R r2 hy) hk
      refine ⟨_, .inl ⟨_, k, hd, ek, rfl⟩, fun v t rv => ?_⟩
      rcases look_rel k rr hl with ⟨a1, b1, h1, h2, h3⟩ | ⟨h1, h2⟩
      · rw [h1, h2]; exact h3
      · rw [h1, h2]; exact rv
    · cases h
  · rename_i ks vs e
    obtain ⟨p, us, e2, hd, hl, rr⟩ := (see_rs R r e).dtt_
    cases e2
    split at h
    · rename_i l hy
      split at h
      · rename_i k hk
        cases h
        obtain ⟨a1, us2, rfl, ta, ra⟩ := (see_rs R r2 hy).tup
        have ek := keysOf_rel ra hk
        subst ek
        refine ⟨_, .inr ⟨_, k, _, hd, rfl, ta, rfl⟩, fun v t rv => ?_⟩
        rcases look_rel k rr hl with ⟨a1, b1, h1, h2, h3⟩ | ⟨h1, h2⟩
        · rw [h1, h2]; exact h3
        · rw [h1, h2]; exact rv
      · cases h
    · cases h
  · cases h
end
section
variable {G : Gm} {d : Nat} {x : Sx} {a b c : Expr} {p q r : PX} {apos cpos : Pos}
theorem se_get1 (ha : SE G d x a (evE G p)) (hb : SE G d x b (evE G q)) (hbase : plainBase a = true) (hs : starB b = false) (hl : (apos.endLine == cpos.line) = true) :
    SE G d x (.Call (.Attribute a "get" apos) [b] [] cpos) (evE G (.get1 p q)) := by
  intro Z X W m H S ρ σ Q n h
  simp only [evE] at h
  have hu := n.ok.room.un
  refine PE.j (pe_dget1 (by omega) pe_j pe_j ⟨by rw [base_of hbase], by rw [star_cons hs]; rfl, hl, by rw [star_cons hs]; rfl⟩) (ha Z X W m H S ρ σ _ n (Post.bind h fun y S1 m1 H1 u e1 x1 R1 r1 q1 => ?_))
  split at q1
  · rename_i hd
    obtain ⟨g, rfl, hg⟩ := dctS_rel R1 r1 hd
    refine ⟨g, rfl, hg, hb Z X W m1 H1 S1 ρ σ _ (n.step x1 R1) (Post.bind q1 fun z S2 m2 H2 w e2 x2 R2 r2 q2 => ?_)⟩
    split at q2
    · rename_i o ho
      obtain ⟨o', hg', hr⟩ := getV_rel R2 (r1.ext x2) r2 ho
      exact ⟨o', hg', q2 m2 H2 _ .refl R2 (.p (hr .non .non .non))⟩
    · exact q2.elim
  · exact q1.elim
theorem se_get2 (ha : SE G d x a (evE G p)) (hb : SE G d x b (evE G q)) (hc : SE G d x c (evE G r)) (hbase : plainBase a = true) (hs : starB b = false) (hs2 : starB c = false) (hl : (apos.endLine == cpos.line) = true) :
    SE G d x (.Call (.Attribute a "get" apos) [b, c] [] cpos) (evE G (.get2 p q r)) := by
  intro Z X W m H S ρ σ Q n h
  simp only [evE] at h
  have hu := n.ok.room.un
  refine PE.j (pe_dget2 (by omega) pe_j pe_j pe_j ⟨by rw [base_of hbase], by rw [star_cons hs, star_cons hs2]; rfl, hl, by rw [star_cons hs, star_cons hs2]; rfl⟩) (ha Z X W m H S ρ σ _ n (Post.bind h fun y S1 m1 H1 u e1 x1 R1 r1 q1 => ?_))
  split at q1
  · rename_i hd
    obtain ⟨g, rfl, hg⟩ := dctS_rel R1 r1 hd
    refine ⟨g, rfl, hg, hb Z X W m1 H1 S1 ρ σ _ (n.step x1 R1) (Post.bind q1 fun z S2 m2 H2 w e2 x2 R2 r2 q2 => ?_)⟩
    refine hc Z X W m2 H2 S2 ρ σ _ ((n.step x1 R1).step x2 R2) (Post.bind q2 fun z3 S3 m3 H3 w3 e3 x3 R3 r3 q3 => ?_)
    split at q3
    · rename_i o ho
      split at q3
      · rename_i v hv
        cases z3 with
        | ref i => cases hv
        | p v0 =>
          cases hv
          cases r3 with
          | p r3 =>
            obtain ⟨o', hg', hr⟩ := getV_rel R3 ((r1.ext x2).ext x3) (r2.ext x3) ho
            exact ⟨o', hg', q3 m3 H3 _ .refl R3 (.p (hr _ _ r3))⟩
      · exact q3.elim
    · exact q3.elim
  · exact q1.elim
end
end Rv
end PartRvL
section PartRvM
set_option Elab.async false
set_option linter.all false
set_option maxRecDepth 100000
set_option autoImplicit false
/-! Rv, part M: statements. -/
namespace Rv
open PySem PySem.Spec PyProof.Rows L2
/-- an except suite -/
inductive PH where
  | ret (e : PX)
  | ife (c : PB) (a b : List PH)
  | pass | brk | cont
inductive PS where
  | asg (t : PT) (e : PX)
  | par (is : List Nat) (es : List PX)
  | setIx (o i e : PX)
  | aug (i : Nat) (e : PX)
  | augIx (op : BOp) (o i e : PX)
  | swapIx (o1 i1 o2 i2 : PX) (es : List PX)
  | loopD (t : PT) (k : DK) (i : Nat) (body : List PS)
  | expr (e : PX)
  | ret (e : PX) | retT (es : List PX) | retN
  | ife (c : PB) (a b : List PS)
  | loop (t : PT) (it : PIt) (body : List PS)
  | whl (c : PB) (body : List PS)
  | raise (c : Nat)
  | tryE (body : List PS) (c : Nat) (n : Option Nat) (suite : List PH)
  | never
  | pass | brk | cont
/-- what comes of a statement -/
inductive SR where
  | nx (ρ : Sl) (S : List PO) | ct (ρ : Sl) (S : List PO) | bk (ρ : Sl) (S : List PO)
  | ret (v : RV) (S : List PO)
  | exc (ρ : Sl) (c : Nat) (fs : List PV) (S : List PO)
  | stuck
def Out.toS {α : Type} (o : Out α) (ρ : Sl) (f : α → List PO → SR) : SR := match o with
  | .ok a S => f a S
  | .exc c fs S => .exc ρ c fs S
  | .stuck => .stuck
/-- next statement -/
def SR.next (o : SR) (f : Sl → List PO → SR) : SR := match o with
  | .nx ρ S => f ρ S
  | .ct ρ S => .ct ρ S
  | .bk ρ S => .bk ρ S
  | .ret v S => .ret v S
  | .exc ρ c fs S => .exc ρ c fs S
  | .stuck => .stuck
def whileL (c : Sl → List PO → Out Bool) (b : Sl → List PO → SR) : Nat → Sl → List PO → SR
  | 0, _, _ => .stuck
  | n + 1, ρ, S => match c ρ S with
    | .ok true S1 => match b ρ S1 with
      | .nx ρ2 S2 => whileL c b n ρ2 S2
      | .ct ρ2 S2 => whileL c b n ρ2 S2
      | .bk ρ2 S2 => .nx ρ2 S2
      | .ret v S2 => .ret v S2
      | .exc ρ2 k fs S2 => .exc ρ2 k fs S2
      | .stuck => .stuck
    | .ok false S1 => .nx ρ S1
    | .exc k fs S1 => .exc ρ k fs S1
    | .stuck => .stuck
def forL (t : PT) (b : Sl → List PO → SR) : List EV → Sl → List PO → SR
  | [], ρ, S => .nx ρ S
  | x :: xs, ρ, S => match bindT t ρ x with
    | some ρ1 => match b ρ1 S with
      | .nx ρ2 S2 => forL t b xs ρ2 S2
      | .ct ρ2 S2 => forL t b xs ρ2 S2
      | .bk ρ2 S2 => .nx ρ2 S2
      | .ret v S2 => .ret v S2
      | .exc ρ2 k fs S2 => .exc ρ2 k fs S2
      | .stuck => .stuck
    | none => .stuck
def forO (t : PT) (b : Sl → List PO → SR) (its : Itm) : Nat → Nat → Sl → List PO → SR
  | 0, _, _, _ => .stuck
  | n + 1, k, ρ, S => match itAt S its k with
    | some none => .nx ρ S
    | some (some x) => match bindT t ρ x with
      | some ρ1 => match b ρ1 S with
        | .nx ρ2 S2 => forO t b its n (k + 1) ρ2 S2
        | .ct ρ2 S2 => forO t b its n (k + 1) ρ2 S2
        | .bk ρ2 S2 => .nx ρ2 S2
        | .ret v S2 => .ret v S2
        | .exc ρ2 k fs S2 => .exc ρ2 k fs S2
        | .stuck => .stuck
      | none => .stuck
    | none => .stuck
def forI (t : PT) (b : Sl → List PO → SR) : Itm → Sl → List PO → SR
  | .l xs, ρ, S => forL t b xs ρ S
  | its, ρ, S => forO t b its lim 0 ρ S
def setAll (ρ : Sl) : List Nat → List EV → Option Sl
  | [], [] => some ρ
  | i :: is, v :: vs => setAll (ρ.set i (some v)) is vs
  | _, _ => none
/-- only the plain ones -/
def plainSl (ρ : Sl) : Sl := ρ.map fun v => match v with
  | some (.p v) => some (.p v)
  | _ => none
mutual
def evH (G : Gm) : PH → Sl → List PO → SR
  | .ret e, ρ, S => (evE G e ρ S).toS ρ fun v S1 => .ret (.e v) S1
  | .ife c a b, ρ, S => (evT G c ρ S).toS ρ fun t S1 => match t with
    | true => evHs G a ρ S1
    | false => evHs G b ρ S1
  | .pass, ρ, S => .nx ρ S
  | .brk, ρ, S => .bk ρ S
  | .cont, ρ, S => .ct ρ S
def evHs (G : Gm) : List PH → Sl → List PO → SR
  | [], ρ, S => .nx ρ S
  | s :: ss, ρ, S => (evH G s ρ S).next fun ρ1 S1 => evHs G ss ρ1 S1
end
/-- an except suite, with a store of its own -/
def suiteR (G : Gm) (suite : List PH) (n : Option Nat) (ρ : Sl) (c : Nat) (S : List PO) : SR :=
  match evHs G suite (match n with
    | some i => (plainSl ρ).set i (some (.p (.exn c)))
    | none => plainSl ρ) [] with
  | .nx _ _ => .nx (match n with
    | some i => ρ.set i none
    | none => ρ) S
  | .ct _ _ => .ct (match n with
    | some i => ρ.set i none
    | none => ρ) S
  | .bk _ _ => .bk (match n with
    | some i => ρ.set i none
    | none => ρ) S
  | .ret (.e (.p v)) _ => if flatR v = true then .ret (.e (.p v)) S else .stuck
  | _ => .stuck
/-- o[i] = v on an object of the store -/
def setV (S : List PO) (x k v : EV) : Option (List PO) := match x with
  | .ref i => match S[i]? with
    | some (.lst xs) => match k with
      | .p (.int j) => match ixN xs.length j with
        | some n => match v with
          | .p w => some (S.set i (.lst (xs.set n w)))
          | _ => none
        | none => none
      | _ => none
    | some (.rows is) => match k with
      | .p (.int j) => match ixN is.length j with
        | some n => match v with
          | .ref w => some (S.set i (.rows (is.set n w)))
          | _ => none
        | none => none
      | _ => none
    | some (.dct ks vs) => match k with
      | .p q => match keyOf q with
        | some y => match v with
          | .p w => if ks.length < lim then some (S.set i (.dct (putP ks vs y w).1 (putP ks vs y w).2)) else none
          | _ => none
        | _ => none
      | _ => none
    | some (.dtt ks vs) => match k with
      | .p (.tup q) => match keysOf q with
        | some y => match v with
          | .p w => if ks.length < lim then some (S.set i (.dtt (putP ks vs y w).1 (putP ks vs y w).2)) else none
          | _ => none
        | _ => none
      | _ => none
    | _ => none
  | _ => none
/-- the integer that stands at a place of a list or a dict of the store -/
def augGet (S : List PO) (x k : EV) : Option Int := match x with
  | .ref i => match S[i]? with
    | some (.lst xs) => match k with
      | .p (.int j) => match atI xs j with
        | some (.int a) => some a
        | _ => none
      | _ => none
    | some (.dct ks vs) => match (asP k).bind keyOf with
      | some q => match lookP ks vs q with
        | some (.int a) => some a
        | _ => none
      | none => none
    | _ => none
  | .p _ => none
def noExc : SR → SR
  | .exc _ _ _ _ => .stuck
  | r => r
mutual
def evS (G : Gm) : PS → Sl → List PO → SR
  | .asg t e, ρ, S => (evE G e ρ S).toS ρ fun v S1 => match bindT t ρ v with
    | some ρ1 => .nx ρ1 S1
    | none => .stuck
  | .par is es, ρ, S => (evEs G es ρ S).toS ρ fun vs S1 => match setAll ρ is vs with
    | some ρ1 => .nx ρ1 S1
    | none => .stuck
  | .setIx o i e, ρ, S => (evE G e ρ S).toS ρ fun v S1 => (evE G o ρ S1).toS ρ fun x S2 => (evE G i ρ S2).toS ρ fun k S3 => match setV S3 x k v with
    | some S4 => .nx ρ S4
    | none => .stuck
  | .aug i e, ρ, S => match ρ[i]? with
    | some (some (.p (.int a))) => (evE G e ρ S).toS ρ fun v S1 => match v with
      | .p (.int b) => .nx (ρ.set i (some (.p (.int (a + b))))) S1
      | _ => .stuck
    | _ => .stuck
  | .augIx op o i e, ρ, S => (evE G o ρ S).toS ρ fun x S1 => (evE G i ρ S1).toS ρ fun k S2 => match augGet S2 x k with
    | some a => (evE G e ρ S2).toS ρ fun v S3 => match v with
      | .p (.int b) => match op with
        | .add => match setV S3 x k (.p (.int (a + b))) with
          | some S4 => .nx ρ S4
          | none => .stuck
        | .sub => match setV S3 x k (.p (.int (a - b))) with
          | some S4 => .nx ρ S4
          | none => .stuck
        | _ => .stuck
      | _ => .stuck
    | none => .stuck
  | .swapIx o1 i1 o2 i2 es, ρ, S => (evEs G es ρ S).toS ρ fun vs S1 => match vs with
    | [v1, v2] => (evE G o1 ρ S1).toS ρ fun x1 S2 => (evE G i1 ρ S2).toS ρ fun k1 S3 => match setV S3 x1 k1 v1 with
      | some S4 => (evE G o2 ρ S4).toS ρ fun x2 S5 => (evE G i2 ρ S5).toS ρ fun k2 S6 => match setV S6 x2 k2 v2 with
        | some S7 => .nx ρ S7
        | none => .stuck
      | none => .stuck
    | _ => .stuck
  | .loopD t k i body, ρ, S => noExc ((evIt G (.dit k i) ρ S).toS ρ fun its S1 => forI t (fun ρ S => evSs G body ρ S) its ρ S1)
  | .expr e, ρ, S => (evE G e ρ S).toS ρ fun _ S1 => .nx ρ S1
  | .ret e, ρ, S => (evE G e ρ S).toS ρ fun v S1 => .ret (.e v) S1
  | .retT es, ρ, S => (evEs G es ρ S).toS ρ fun vs S1 => .ret (.t vs) S1
  | .retN, ρ, S => .ret (.e (.p .non)) S
  | .ife c a b, ρ, S => (evT G c ρ S).toS ρ fun t S1 => match t with
    | true => evSs G a ρ S1
    | false => evSs G b ρ S1
  | .loop t it body, ρ, S => (evIt G it ρ S).toS ρ fun its S1 => forI t (fun ρ S => evSs G body ρ S) its ρ S1
  | .whl c body, ρ, S => whileL (evT G c) (fun ρ S => evSs G body ρ S) lim ρ S
  | .raise c, ρ, S => .exc ρ c [] S
  | .never, _, _ => .stuck
  | .tryE body c n suite, ρ, S => match evSs G body ρ S with
    | .exc ρ1 k fs S1 => match G.cls[k]? with
      | some ki => if G.sub k c = true then (if ki.nm.isEmpty = true then suiteR G suite n ρ1 k S1 else .stuck) else .exc ρ1 k fs S1
      | none => .stuck
    | r => r
  | .pass, ρ, S => .nx ρ S
  | .brk, ρ, S => .bk ρ S
  | .cont, ρ, S => .ct ρ S
def evSs (G : Gm) : List PS → Sl → List PO → SR
  | [], ρ, S => .nx ρ S
  | s :: ss, ρ, S => (evS G s ρ S).next fun ρ1 S1 => evSs G ss ρ1 S1
end
end Rv
end PartRvM
section PartRvN
set_option Elab.async false
set_option linter.all false
set_option maxRecDepth 100000
set_option autoImplicit false
/-! Rv, part N: statements are read as their terms say. -/
namespace Rv
open PySem PySem.Spec PyProof.Rows L2
def PostS (Z : St0) (G : Gm) (W : WX) (D : Ends) (m : List Addr) (H : Hp) (o : SR) : Prop := match o with
  | .nx ρ S => ∀ (m' : List Addr) (H' : Hp) (σ' : L2.St), Ext m H m' H' → Rel Z m' S H' → RpE Z m' H' ρ σ' → D.nx σ' H'
  | .ct ρ S => ∀ (m' : List Addr) (H' : Hp) (σ' : L2.St), Ext m H m' H' → Rel Z m' S H' → RpE Z m' H' ρ σ' → D.ct σ' H'
  | .bk ρ S => ∀ (m' : List Addr) (H' : Hp) (σ' : L2.St), Ext m H m' H' → Rel Z m' S H' → RpE Z m' H' ρ σ' → D.bk σ' H'
  | .ret v S => ∀ (m' : List Addr) (H' : Hp) (u : V), Ext m H m' H' → Rel Z m' S H' → RpR Z m' H' v u → D.rt u H'
  | .exc ρ c fs S => ∀ (m' : List Addr) (H' : Hp) (σ' : L2.St) (d : Option Addr), Ext m H m' H' → Rel Z m' S H' → RpE Z m' H' ρ σ' → RpX Z m' H' (G.nm c) fs d → W (.ref (Z.ad.cls c)) d σ' H'
  | .stuck => False
section
variable {Z : St0} {G : Gm} {W : WX} {D D' : Ends} {m m1 : List Addr} {H H1 : Hp} {ρ : Sl} {σ : L2.St}
theorem PostS.ext {o : SR} (h : PostS Z G W D m H o) (e : Ext m H m1 H1) : PostS Z G W D m1 H1 o := by
  cases o with
  | nx ρ S => exact fun m' H' σ' e' => h m' H' σ' (e.trans e')
  | ct ρ S => exact fun m' H' σ' e' => h m' H' σ' (e.trans e')
  | bk ρ S => exact fun m' H' σ' e' => h m' H' σ' (e.trans e')
  | ret v S => exact fun m' H' u e' => h m' H' u (e.trans e')
  | exc ρ c fs S => exact fun m' H' σ' d e' => h m' H' σ' d (e.trans e')
  | stuck => exact h
theorem PostS.toS {α β : Type} {R : List Addr → Hp → α → β → Prop} {Q : β → Hp → Prop} {o : Out α} {f : α → List PO → SR} (env : RpE Z m H ρ σ) (h : PostS Z G W D m H (o.toS ρ f))
    (k : ∀ v S m' H' u, o = .ok v S → Ext m H m' H' → Rel Z m' S H' → R m' H' v u → PostS Z G W D m' H' (f v S) → Q u H') : Post Z G W R m H σ o Q := by
  cases o with
  | ok v S => exact fun m' H' u e r q => k v S m' H' u rfl e r q (PostS.ext (o := f v S) h e)
  | exc c fs S => exact fun m' H' d e r x => h m' H' σ d e r (env.ext e) x
  | stuck => exact h
/-- other ends -/
theorem PostS.ends {o : SR} (h : PostS Z G W D m H o) (h1 : ∀ σ H', D.nx σ H' → D'.nx σ H') (h2 : ∀ u H', D.rt u H' → D'.rt u H') (h3 : ∀ σ H', D.bk σ H' → D'.bk σ H') (h4 : ∀ σ H', D.ct σ H' → D'.ct σ H') : PostS Z G W D' m H o := by
  cases o with
  | nx ρ S => exact fun m' H' σ' e r q => h1 _ _ (h m' H' σ' e r q)
  | ct ρ S => exact fun m' H' σ' e r q => h4 _ _ (h m' H' σ' e r q)
  | bk ρ S => exact fun m' H' σ' e r q => h3 _ _ (h m' H' σ' e r q)
  | ret v S => exact fun m' H' u e r q => h2 _ _ (h m' H' u e r q)
  | exc ρ c fs S => exact h
  | stuck => exact h
theorem PostS.next {o : SR} {f : Sl → List PO → SR} {nx : L2.St → Hp → Prop} (h : PostS Z G W D m H (o.next f)) (k : ∀ ρ S m' H' σ', Ext m H m' H' → Rel Z m' S H' → RpE Z m' H' ρ σ' → PostS Z G W D m' H' (f ρ S) → nx σ' H') : PostS Z G W { D with nx := nx } m H o := by
  cases o with
  | nx ρ S => exact fun m' H' σ' e r q => k ρ S m' H' σ' e r q (PostS.ext (o := f ρ S) h e)
  | ct ρ S => exact h
  | bk ρ S => exact h
  | ret v S => exact h
  | exc ρ c fs S => exact h
  | stuck => exact h
end
def SS (G : Gm) (d : Nat) (x : Sx) (st : Stmt) (f : Sl → List PO → SR) : Prop :=
  ∀ (Z : St0) (X : Cx) (W : WX) (D : Ends) (m : List Addr) (H : Hp) (S : List PO) (ρ : Sl) (σ : L2.St), Now Z G d x X W m H S ρ σ → PostS Z G W D m H (f ρ S) → jS X st D σ H
def SSs (G : Gm) (d : Nat) (x : Sx) (st : List Stmt) (f : Sl → List PO → SR) : Prop :=
  ∀ (Z : St0) (X : Cx) (W : WX) (D : Ends) (m : List Addr) (H : Hp) (S : List PO) (ρ : Sl) (σ : L2.St), Now Z G d x X W m H S ρ σ → PostS Z G W D m H (f ρ S) → jSs X st D σ H
def noSwap : Expr → Bool
  | .ListComp _ _ _ _ => false
  | .SetComp _ _ _ _ => false
  | .DictComp _ _ _ _ _ => false
  | _ => true
theorem swap_none {e : Expr} {t : Option Expr} {l : Nat} {env : Env} (h : noSwap e = true) : swapsWith e t l env = pure false := by
  cases e <;> first | rfl | (cases h)
section
variable {G : Gm} {d : Nat} {x : Sx} {pos : Pos}
theorem sss_nil : SSs G d x [] (evSs G []) := by
  intro Z X W D m H S ρ σ n h
  simp only [evSs] at h
  exact PSs.j pss_nil (h m H σ Ext.refl n.rel n.env)
theorem sss_cons {st : Stmt} {rest : List Stmt} {p : PS} {ps : List PS} (ha : SS G d x st (evS G p)) (hb : SSs G d x rest (evSs G ps)) : SSs G d x (st :: rest) (evSs G (p :: ps)) := by
  intro Z X W D m H S ρ σ n h
  simp only [evSs] at h
  exact PSs.j (pss_cons ps_j pss_j) (ha Z X W _ m H S ρ σ n (PostS.next h fun ρ1 S1 m1 H1 σ1 e1 R1 env1 q1 => hb Z X W D m1 H1 S1 ρ1 σ1 ⟨n.ok, n.tk, n.po, R1, env1⟩ q1))
theorem ss_pass : SS G d x (.Pass pos) (evS G .pass) := by
  intro Z X W D m H S ρ σ n h
  simp only [evS] at h
  exact PS.j ps_pass (h m H σ Ext.refl n.rel n.env)
theorem ss_brk : SS G d x (.Break pos) (evS G .brk) := by
  intro Z X W D m H S ρ σ n h
  simp only [evS] at h
  exact PS.j ps_break (h m H σ Ext.refl n.rel n.env)
theorem ss_cont : SS G d x (.Continue pos) (evS G .cont) := by
  intro Z X W D m H S ρ σ n h
  simp only [evS] at h
  exact PS.j ps_continue (h m H σ Ext.refl n.rel n.env)
theorem ss_expr {e : Expr} {p : PX} (ha : SE G d x e (evE G p)) (hs : noSwap e = true) : SS G d x (.Expr e pos) (evS G (.expr p)) := by
  intro Z X W D m H S ρ σ n h
  simp only [evS] at h
  exact PS.j (ps_expr pe_j (swap_none hs)) (ha Z X W m H S ρ σ _ n (PostS.toS n.env h fun v S1 m1 H1 u e1 x1 R1 r1 q1 => q1 m1 H1 σ Ext.refl R1 (n.env.ext x1)))
theorem ss_ret {e : Expr} {p : PX} (ha : SE G d x e (evE G p)) : SS G d x (.Return (some e) pos) (evS G (.ret p)) := by
  intro Z X W D m H S ρ σ n h
  simp only [evS] at h
  exact PS.j (ps_ret pe_j) (ha Z X W m H S ρ σ _ n (PostS.toS n.env h fun v S1 m1 H1 u e1 x1 R1 r1 q1 => q1 m1 H1 u Ext.refl R1 (.e r1)))
theorem ss_retN : SS G d x (.Return none pos) (evS G .retN) := by
  intro Z X W D m H S ρ σ n h
  simp only [evS] at h
  exact PS.j ps_retN (h m H _ Ext.refl n.rel (.e (.p .non)))
theorem ss_retT {es : List Expr} {ps : List PX} {k : Nat} {p2 : Pos} (ha : SA G d x es (evEs G ps)) (hl : ps.length ≤ lim) : SS G d x (.Return (some (.Tuple es k p2)) pos) (evS G (.retT ps)) := by
  intro Z X W D m H S ρ σ n h
  simp only [evS] at h
  refine PS.j (ps_ret (pe_tup pa_j)) (ha Z X W m H S ρ σ _ n (PostS.toS n.env h fun vs S1 m1 H1 us e1 x1 R1 r1 q1 => ?_))
  refine ⟨by rw [← r1.length, evEs_length G ps ρ S vs S1 e1]; exact Nat.le_trans hl lim_le, fun p hp => ?_⟩
  exact q1 m1 _ _ (Ext.alloc hp) (R1.alloc hp) (.t upd_same (r1.ext (Ext.alloc hp)))
theorem ss_if {c : Expr} {a b : List Stmt} {p : PB} {as bs : List PS} (hc : ST G d x c (evT G p)) (ha : SSs G d x a (evSs G as)) (hb : SSs G d x b (evSs G bs)) : SS G d x (.If c a b pos) (evS G (.ife p as bs)) := by
  intro Z X W D m H S ρ σ n h
  simp only [evS] at h
  refine PS.j (ps_if pt_j pss_j pss_j) (hc Z X W m H S ρ σ _ n (PostS.toS n.env h fun t S1 m1 H1 u e1 x1 R1 r1 q1 => ?_))
  cases r1
  cases t with
  | true => exact iteT (ha Z X W D m1 H1 S1 ρ σ (n.step x1 R1) q1)
  | false => exact iteF (hb Z X W D m1 H1 S1 ρ σ (n.step x1 R1) q1)
/-! ### assignments -/
theorem ss_asg {i : Nat} {y : Str} {e : Expr} {p : PX} {py : Pos} (hN : x.N[i]? = some y) (hl : locB x y = true) (ha : SE G d x e (evE G p)) (hs : noSwap e = true) : SS G d x (.Assign [.Name y py] e pos) (evS G (.asg (.nm i) p)) := by
  intro Z X W D m H S ρ σ n h
  simp only [evS] at h
  obtain ⟨h1, h2⟩ := loc_of n.ok.hs n.ok.hf hl
  refine PS.j (ps_set n.ok.nd (by rw [n.ok.hN]; exact hN) h1 pe_j (swap_none hs) h2) (ha Z X W m H S ρ σ _ n (PostS.toS n.env h fun v S1 m1 H1 u e1 x1 R1 r1 q1 => ?_))
  simp only [bindT] at q1
  exact q1 m1 H1 _ Ext.refl R1 ((n.env.ext x1).set r1)
/-- a list just made, stored under a name -/
def SLs (G : Gm) (d : Nat) (x : Sx) (st : Stmt) (i : Nat) (f : Sl → List PO → Out (List EV)) : Prop :=
  ∀ (Z : St0) (X : Cx) (W : WX) (D : Ends) (m : List Addr) (H : Hp) (S : List PO) (ρ : Sl) (σ : L2.St), Now Z G d x X W m H S ρ σ →
    Post Z G W (ReA Z) m H σ (f ρ S) (fun us H' => ∀ p, H' p = none → D.nx (σ.set i (some (.ref p))) (upd H' p (.lst us))) → jS X st D σ H
theorem ss_lst {i : Nat} {st : Stmt} {l : PL} (ha : SLs G d x st i (evL G l)) : SS G d x st (evS G (.asg (.nm i) (.lst l))) := by
  intro Z X W D m H S ρ σ n h
  simp only [evS, evE, bindT] at h
  refine ha Z X W D m H S ρ σ n ?_
  cases e : evL G l ρ S with
  | ok vs S1 =>
    rw [e] at h
    intro m1 H1 us x1 R1 r1 p hp
    simp only at h
    split at h
    · rename_i xs e2
      have ex := x1.trans (Ext.alloc (o := .lst us) hp)
      exact h m1 _ _ ex (R1.alloc hp) ((n.env.ext ex).set (.p (.lst upd_same (fre_new R1 hp) ((asPs_rel r1 e2).ext (Ext.alloc hp)))))
    · exact h.elim
  | exc c fs S1 =>
    rw [e] at h
    exact fun m' H' d e r x => h m' H' σ d e r (n.env.ext e) x
  | stuck => rw [e] at h; exact h
theorem ss_mut {i : Nat} {st : Stmt} {l : PL} (ha : SLs G d x st i (evL G l)) : SS G d x st (evS G (.asg (.nm i) (.mut l))) := by
  intro Z X W D m H S ρ σ n h
  simp only [evS, evE, bindT] at h
  refine ha Z X W D m H S ρ σ n ?_
  cases e : evL G l ρ S with
  | ok vs S1 =>
    rw [e] at h
    intro m1 H1 us x1 R1 r1 p hp
    have hm : (m1 ++ [p])[S1.length]? = some p := by
      rw [← R1.len, List.getElem?_append_right (Nat.le_refl _), Nat.sub_self]; rfl
    have ex := x1.trans (Ext.allocM (o := .lst us) hp)
    simp only at h
    split at h
    · rename_i xs e2
      exact h (m1 ++ [p]) _ _ ex (R1.allocM hp ⟨us, upd_same, (asPs_rel r1 e2).ext (Ext.allocM hp)⟩) ((n.env.ext ex).set (.ref hm))
    · split at h
      · rename_i is e2
        exact h (m1 ++ [p]) _ _ ex (R1.allocM hp ⟨us, upd_same, (asRs_rel r1 e2).ext (Ext.allocM hp)⟩) ((n.env.ext ex).set (.ref hm))
      · exact h.elim
  | exc c fs S1 =>
    rw [e] at h
    exact fun m' H' d e r x => h m' H' σ d e r (n.env.ext e) x
  | stuck => rw [e] at h; exact h
/-- target = value, the target a tuple -/
theorem ss_asgT {tg e : Expr} {t : PT} {p : PX} (hg : SG x tg t) (ha : SE G d x e (evE G p)) (hs : ∀ env l, swapsWithSole [tg] e l env = pure false) (hw : ∀ X : Cx, X.env.scope = x.sc → swappedStores [tg] e X.env = pure none) (h1 : starB tg = false) : SS G d x (.Assign [tg] e pos) (evS G (.asg t p)) := by
  intro Z X W D m H S ρ σ n h
  simp only [evS] at h
  refine PS.j (ps_asg pe_j pg_j (hs _ _) (hw X n.ok.hs) (by rw [assignEach_cons h1]; rfl)) (ha Z X W m H S ρ σ _ n (PostS.toS n.env h fun v S1 m1 H1 u e1 x1 R1 r1 q1 => ?_))
  split at q1
  · rename_i ρ1 e2
    exact hg Z G d X m1 H1 ρ ρ1 σ v u _ n.ok (n.env.ext x1) r1 e2 fun σ' env' _ => q1 m1 H1 σ' Ext.refl R1 env'
  · exact q1.elim
end
end Rv
end PartRvN
section PartRvKz
set_option Elab.async false
set_option linter.all false
set_option maxRecDepth 100000
set_option autoImplicit false
/-! Rv, part Kz: the items of a dict with tuples as keys. -/
namespace Rv
open PySem PySem.Spec PyProof.Rows L2
/-- the pairs of a locked dict with tuples as keys, each a new tuple of the key's own tuple and the value -/
def ItiT (d : Addr) (o : Obj) (kvs : List (List Key × V)) : It :=
  ⟨fun i H => H d = some (.frz o (.dT kvs)) ∧ i < kvs.length,
    fun i H x H' => ∃ (T q : Addr) (k : List Key) (v : V), kvs[i]? = some (k, v) ∧ x = .ref T ∧ H T = none ∧ H q = some (.tup (k.map kV)) ∧ H' = upd H T (.tup [.ref q, v]),
    fun i H => H d = some (.frz o (.dT kvs)) ∧ kvs.length ≤ i⟩
theorem frzT_read {X : Cx} {pins : List (Addr × Obj)} {σ : L2.St} {H : Hp} {s : Shared} {d : Addr} {o : Obj} {kvs : List (List Key × V)} (I : L2.Inv X pins σ H s) (h : H d = some (.frz o (.dT kvs))) :
    (d == sysModules) = false ∧ ∃ (es : Array DictEntry) (ep : Nat), DT.Raw s.heap d es ep ∧ o.data = .dict es ep ∧ es.size = kvs.length ∧
      ∀ (i : Nat) (k : List Key) (v : V), kvs[i]? = some (k, v) → ∃ (en : DictEntry) (q : Addr), es[i]? = some en ∧ en.key = .ref q ∧ H q = some (.tup (k.map kV)) ∧ RelV v en.val := by
  obtain ⟨g1, _, g2, xs, pr, o', es, ep, g3, g4, g5, g6, _⟩ := I.hok d _ h
  obtain rfl : o' = o := by rw [g1] at g3; exact (Option.some.inj g3).symm
  refine ⟨g2, es, ep, ⟨o', g1, g4, g5⟩, g5, ?_, fun i k v e => ?_⟩
  · have l1 : es.size = xs.length := size_of_entries g6
    have l2 : kvs.length = xs.length := Paired.length pr
    omega
  · obtain ⟨b, hb, e1, e2, e3⟩ := paired_get pr e
    have q := entry_at g6 i
    rw [hb] at q
    exact ⟨_, b.2.1, q, rfl, e2, e3⟩
theorem turn_itemsT {P : Program} {w : World} {K : PySem.W.Frag} {elts : List Expr} {kk : Nat} {tpos : Pos} {d : Addr} {o : Obj} {es : Array DictEntry} {ep : Nat} {kvs : List (List Key × V)} (it : Addr) (hod : o.data = .dict es ep) :
    Turn P w K (.Tuple elts kk tpos) (ItiT d o kvs) [it] it (fun i h => ∃ ok ov, IsItemIter h it d i es.size ep ok ov) where
  mem := List.mem_cons_self ..
  obj := fun i h st b hb => by
    obtain rfl := List.mem_singleton.mp hb
    obtain ⟨ok, ov, e⟩ := st
    exact ⟨_, e, fun v z => nomatch z⟩
  keep := fun i h h' st k => by
    obtain ⟨ok, ov, e⟩ := st
    exact ⟨ok, ov, k it (List.mem_cons_self ..) _ e⟩
  item := by
    intro X hP hw hK hc i pins s σ H E I hf st hg
    subst hP hw hK
    obtain ⟨hd, hi⟩ := hg
    obtain ⟨_, es', ep', raw, hdt, hsz, ent⟩ := frzT_read I hd
    obtain ⟨rfl, rfl⟩ := dict_ep hod hdt
    obtain ⟨ok, ov, he⟩ := st
    have hi2 : i < es'.size := by omega
    obtain ⟨⟨k, v⟩, hkv⟩ : ∃ p, kvs[i]? = some p := ⟨kvs[i], List.getElem?_eq_getElem hi⟩
    obtain ⟨en, q, hen, hkey, hq, hval⟩ := ent i k v hkv
    obtain rfl : es'[i] = en := by
      rw [Array.getElem?_eq_getElem hi2] at hen
      exact Option.some.inj hen
    have hlt : it < s.heap.objs.size := Heap.lt_size he
    refine DT.nextI he raw hi2 fun h1 y1 y2 _ y4 => ?_
    refine ⟨_, rfl, wpAny_letOwnedTupleGo_items (s := { s with heap := h1 }) y1 fun h2 y5 sb => ?_⟩
    have hT2 : h2.get? s.heap.objs.size = some { cls := .type "tuple", data := .seq #[es'[i].key, es'[i].val] } := (sb.2 _ (Nat.ne_of_gt hlt)).trans y2
    have new : ObjOk X.prog X.w (upd H s.heap.objs.size (.tup [.ref q, v])) h2 s.heap.objs.size (.tup [.ref q, v]) :=
      ⟨by show 2 ≤ sizeLine; decide, [es'[i].key, es'[i].val], .cons hkey (.cons hval .nil), ⟨_, hT2, rfl, _, rfl⟩⟩
    have I2 : L2.Inv X pins σ (upd H s.heap.objs.size (.tup [.ref q, v])) { s with heap := h2 } :=
      I.turnedNew (t' := s.toks) (ch := [it]) (fun b ob hb e => (sb.2 b (by simpa using hb)).trans (y4 b ob (by simpa using hb) e)) hf (Nat.le_refl _) new
    refine ⟨.ref s.heap.objs.size, _, I2, rfl, ⟨_, q, k, v, hkv, rfl, I.hok.fresh (Nat.le_refl _), hq, rfl⟩, ⟨_, _, y5⟩, fun b hb => ?_⟩
    obtain rfl := List.mem_singleton.mp hb
    rw [upd_ne (Nat.ne_of_lt hlt)]
    exact (hf _ (List.mem_cons_self ..)).1
  done := by
    intro X hP hw hK hc i pins s σ H E I hf st hg
    subst hP hw hK
    obtain ⟨hd, hi⟩ := hg
    obtain ⟨f0, f1, f2, f3, f4, f5⟩ := hf it (List.mem_cons_self ..)
    obtain ⟨_, es', ep', raw, hdt, hsz, ent⟩ := frzT_read I hd
    obtain ⟨rfl, rfl⟩ := dict_ep hod hdt
    obtain ⟨ok, ov, he⟩ := st
    exact DT.endI (I.ok.hd hc) he raw (by omega) fun h' eb => ⟨rfl, I.turned (t' := s.toks) (fun b ob hb e => eb b ob hb e) f0 f1 f3 f4 f5⟩
  self := fun A i s Q E st h => by
    obtain ⟨_, _, e⟩ := st
    exact PySem.W.kcp_self e h
def iItemsT (td : TE) : TI := fun σ H R => td σ H fun x H1 => ∃ d o kvs, x = .ref d ∧ H1 d = some (.frz o (.dT kvs)) ∧ R (ItiT d o kvs) H1
theorem pi_itemsT {X : Cx} {e : Expr} {td : TE} {apos cpos : Pos} {elts : List Expr} {kk : Nat} {tpos : Pos} (he : PE X e td) (hbase : attributeBase e "items" X.env (eval e X.env) = eval e X.env) (hline : (apos.endLine == cpos.line) = true) :
    PI X (.Tuple elts kk tpos) (.Call (.Attribute e "items" apos) [] [] cpos) (iItemsT td) := by
  refine ⟨fun pins s σ H R I h => ?_⟩
  refine wpAny_Call_method (T := "dict") (id := "dict.items") hbase rfl hline F.plainAttrs_dict F.slot_dict_items F.type_dict_items (thn (he.run pins s σ H _ I h) fun u s1 ⟨x, H1, I1, rx, d, o, kvs, ex, hd, q⟩ => ?_)
  subst ex
  obtain rfl : u = Value.ref d := rx
  obtain ⟨hs, es, ep, raw, hdt, hsz, ent⟩ := frzT_read I1 hd
  have I2 : L2.Inv X pins σ H1 { s1 with heap := s1.heap.push { cls := .type "dict_items", data := .fields #[.ref d] } } := I1.kept (t' := s1.toks) fun b ob q => Heap.get?_push_of_some _ q
  have fin : wpAny (model X.prog X.w) X.A (pyIter (.ref s1.heap.objs.size)) (PIE X pins σ (.Tuple elts kk tpos) R) X.xe { s1 with heap := s1.heap.push { cls := .type "dict_items", data := .fields #[.ref d] } } := by
    refine DT.iterI (d := d) ⟨_, Heap.get?_push_size _ rfl, rfl, rfl⟩ (raw.push _) (pi_one (tk := s1.toks) I2 _ (turn_itemsT _ hdt) ⟨.none, .none, ?_⟩ q)
    exact Heap.get?_push_size _ rfl
  refine ⟨raw.typeIs, ?_, ?_⟩
  · obtain ⟨o1, ho1, hx1, _⟩ := raw
    exact fun a e => by cases e; exact ⟨_, ho1, hx1.2.1⟩
  show wpAny _ _ (callWith cpos (.builtin "dict.items") [.ref d] [] []) _ X.xe s1
  exact method_meetsIn F.slot_dict_items F.entry_dict_items rfl (PySem.evalArgs_none ⟨rfl, raw.typeIs, F.args_dict_items_1 _, _, DT.meetsItems (es := es) (ep := ep) hs, raw, fin⟩)
theorem walk_itemsT {d : Addr} {o : Obj} {kvs : List (List Key × V)} : Walk (ItiT d o kvs) kvs.length (fun H => H d = some (.frz o (.dT kvs)))
    (fun i H x H' => ∃ (T q : Addr) (k : List Key) (v : V), kvs[i]? = some (k, v) ∧ x = .ref T ∧ H T = none ∧ H q = some (.tup (k.map kV)) ∧ H' = upd H T (.tup [.ref q, v])) :=
  ⟨fun i _ hi q => ⟨q, hi⟩, fun _ q => ⟨q, Nat.le_refl _⟩, fun i H v H' _ q y => y⟩
end Rv
end PartRvKz
section PartRvKa
set_option Elab.async false
set_option linter.all false
set_option maxRecDepth 100000
set_option autoImplicit false
/-! Rv, part Ka: a dict is walked, locked meanwhile. -/
namespace Rv
open PySem PySem.Spec PyProof.Rows L2
def DkT : HO → Prop
  | .dK _ => True
  | .dT _ => True
  | _ => False
theorem rd_uniq {H : Hp} {a : Addr} {u v : HO} (hu : DkT u) (hv : DkT v) (h1 : Rd H a u) (h2 : Rd H a v) : u = v := by
  rcases h1 with h1 | ⟨b, h1⟩ <;> rcases h2 with h2 | ⟨c, h2⟩ <;> rw [h1] at h2 <;> cases h2
  · rfl
  · exact hu.elim
  · exact hv.elim
  · rfl
/-- H2 is H but that a is locked or unlocked -/
structure Lkd (a : Addr) (u : HO) (H H2 : Hp) : Prop where
  off : ∀ b, b ≠ a → H2 b = H b
  one : Rd H a u
  two : Rd H2 a u
theorem Lkd.to {a : Addr} {u : HO} {od : Obj} {H : Hp} (h : H a = some u) : Lkd a u H (upd H a (.frz od u)) := ⟨fun b hb => upd_ne hb, .inl h, .inr ⟨od, upd_same⟩⟩
theorem Lkd.back {a : Addr} {u : HO} {od : Obj} {H : Hp} (h : H a = some (.frz od u)) : Lkd a u H (upd H a u) := ⟨fun b hb => upd_ne hb, .inr ⟨od, h⟩, .inl upd_same⟩
section
variable {Z : St0} {m : List Addr} {H H2 : Hp} {a : Addr} {u : HO}
theorem Lkd.neT (hu : DkT u) (L : Lkd a u H H2) {b : Addr} {xs : List V} (h : H b = some (.tup xs)) : b ≠ a := by
  rintro rfl
  rcases L.one with q | ⟨c, q⟩ <;> rw [h] at q <;> cases q
  exact hu
theorem Lkd.neL (hu : DkT u) (L : Lkd a u H H2) {b : Addr} {xs : List V} (h : H b = some (.lst xs)) : b ≠ a := by
  rintro rfl
  rcases L.one with q | ⟨c, q⟩ <;> rw [h] at q <;> cases q
  exact hu
theorem Lkd.neR (hu : DkT u) (L : Lkd a u H H2) {b : Addr} {xs : List V} (h : Rd H b (.lst xs)) : b ≠ a := by
  rintro rfl
  rcases L.one with q | ⟨c, q⟩ <;> rcases h with h | ⟨e, h⟩ <;> rw [h] at q <;> cases q <;> exact hu
theorem Lkd.rd (hu : DkT u) (L : Lkd a u H H2) {b : Addr} {o : HO} (ho : DkT o) (h : Rd H b o) : Rd H2 b o := by
  by_cases e : b = a
  · subst e
    rw [rd_uniq ho hu h L.one]; exact L.two
  · unfold Rd; rw [L.off b e]; exact h
theorem lk_rp (hu : DkT u) (L : Lkd a u H H2) : ∀ {v : PV} {w : V}, Rp Z m H v w → Rp Z m H2 v w := by
  intro v w r
  induction r using Rp.rec (motive_2 := fun vs us _ => RpA Z m H2 vs us) with
  | non => exact .non
  | bl b => exact .bl b
  | int b => exact .int b
  | str b => exact .str b
  | ty b => exact .ty b
  | tup h _ ih => exact .tup (by rw [L.off _ (L.neT hu h)]; exact h) ih
  | lst h f _ ih => exact .lst (by rw [L.off _ (L.neL hu h)]; exact h) f ih
  | rd h _ ih =>
    refine .rd (h.elim (fun h => .inl ⟨?_, h.2⟩) .inr) ih
    unfold Rd; rw [L.off _ (L.neR hu h.1)]; exact h.1
  | dct h f l _ ih => exact .dct (L.rd hu trivial h) f l ih
  | dtt h f l _ ih => exact .dtt (L.rd hu trivial h) f l ih
  | fn i => exact .fn i
  | cls i => exact .cls i
  | exn h1 h2 h3 h4 => exact .exn h1 h2 h3 h4
  | nil => exact .nil
  | cons _ _ ih1 ih2 => exact .cons ih1 ih2
theorem lk_rpA (hu : DkT u) (L : Lkd a u H H2) : ∀ {v : List PV} {w : List V}, RpA Z m H v w → RpA Z m H2 v w
  | _, _, .nil => .nil
  | _, _, .cons h r => .cons (lk_rp hu L h) (lk_rpA hu L r)
theorem lk_re (hu : DkT u) (L : Lkd a u H H2) {v : EV} {w : V} (r : Re Z m H v w) : Re Z m H2 v w := by
  cases r with
  | p r => exact .p (lk_rp hu L r)
  | ref h => exact .ref h
theorem lk_reA (hu : DkT u) (L : Lkd a u H H2) : ∀ {v : List EV} {w : List V}, ReA Z m H v w → ReA Z m H2 v w
  | _, _, .nil => .nil
  | _, _, .cons h r => .cons (lk_re hu L h) (lk_reA hu L r)
theorem lk_rpR (hu : DkT u) (L : Lkd a u H H2) {v : RV} {w : V} (r : RpR Z m H v w) : RpR Z m H2 v w := by
  cases r with
  | e r => exact .e (lk_re hu L r)
  | t h r => exact .t (by rw [L.off _ (L.neT hu h)]; exact h) (lk_reA hu L r)
theorem lk_rpO (hu : DkT u) (L : Lkd a u H H2) {b : Addr} {o : PO} (hb : b ≠ a) (r : RpO Z m H b o) : RpO Z m H2 b o := by
  have e := L.off b hb
  cases o with
  | lst xs => obtain ⟨us, q, r⟩ := r; exact ⟨us, e.trans q, lk_rpA hu L r⟩
  | rows xs => obtain ⟨us, q, r⟩ := r; exact ⟨us, e.trans q, lk_reA hu L r⟩
  | dct ks vs => obtain ⟨us, q, l, r⟩ := r; exact ⟨us, e.trans q, l, lk_rpA hu L r⟩
  | dtt ks vs => obtain ⟨us, q, l, r⟩ := r; exact ⟨us, e.trans q, l, lk_rpA hu L r⟩
  | lck ks vs => obtain ⟨us, o, q, l, r⟩ := r; exact ⟨us, o, e.trans q, l, lk_rpA hu L r⟩
  | lct ks vs => obtain ⟨us, o, q, l, r⟩ := r; exact ⟨us, o, e.trans q, l, lk_rpA hu L r⟩
theorem lk_rel (hu : DkT u) (L : Lkd a u H H2) (hm : a ∉ m) {S : List PO} (R : Rel Z m S H) : Rel Z m S H2 := by
  refine ⟨R.len, R.nd, fun i b o h1 h2 => lk_rpO hu L (fun e => hm (e ▸ List.mem_of_getElem? h1)) (R.ob i b o h1 h2), fun b f => ?_, R.dj⟩
  by_cases e : b = a
  · rw [e]; exact Rd.ne L.two
  · rw [L.off b e]; exact R.fr b f
theorem lk_env (hu : DkT u) (L : Lkd a u H H2) {ρ : Sl} {σ : L2.St} (r : RpE Z m H ρ σ) : RpE Z m H2 ρ σ := ⟨r.1, fun i v h => let ⟨w, a, b⟩ := r.2 i v h; ⟨w, a, lk_re hu L b⟩⟩
/-- behind the lock -/
theorem lk_ext {m' : List Addr} {H' : Hp} {od : Obj} (h : H a = some u) (hm : a ∉ m) (e : Ext m (upd H a (.frz od u)) m' H') : H' a = some (.frz od u) ∧ a ∉ m' ∧ Ext m H m' (upd H' a u) := by
  have h1 : H' a = some (.frz od u) := e.keep a _ upd_same hm
  have h2 : a ∉ m' := fun q => by
    rcases e.new a q with z | z
    · exact hm z
    · rw [upd_same] at z; cases z
  refine ⟨h1, h2, e.pre, fun b o hb n => ?_, fun b hb => ?_, fun b q => ?_, fun b xs hb => ?_⟩
  · by_cases z : b = a
    · subst z; rw [upd_same, ← h, hb]
    · rw [upd_ne z]; exact e.keep b o (by rw [upd_ne z]; exact hb) n
  · by_cases z : b = a
    · subst z; rw [upd_same]; simp
    · rw [upd_ne z]; exact e.alive b (by rw [upd_ne z]; exact hb)
  · rcases e.new b q with z | z
    · exact .inl z
    · refine .inr ?_
      have : b ≠ a := fun y => h2 (y ▸ q)
      rw [upd_ne this] at z; exact z
  · by_cases z : b = a
    · subst z; rw [upd_same, ← h, hb]
    · rw [upd_ne z]; exact e.tp b xs (by rw [upd_ne z]; exact hb)
end
/-- the dict in slot i is locked -/
def LkAt (i : Nat) (m : List Addr) (σ : L2.St) (H : Hp) : Prop := ∃ (a : Addr) (o : Obj) (u : HO), σ[i]? = some (some (.ref a)) ∧ DkT u ∧ H a = some (.frz o u) ∧ a ∉ m
def isDP : PV → Bool
  | .dct _ _ => true
  | .dtt _ _ => true
  | _ => false
def hasD (i : Nat) (ρ : Sl) : Prop := ∃ v, ρ[i]? = some (some (.p v)) ∧ isDP v = true
theorem hasD_rel {Z : St0} {m : List Addr} {H : Hp} {i : Nat} {ρ : Sl} {σ : L2.St} (env : RpE Z m H ρ σ) (h : hasD i ρ) : ∃ (a : Addr) (u : HO), σ[i]? = some (some (.ref a)) ∧ DkT u ∧ Rd H a u ∧ a ∉ m := by
  obtain ⟨v, e, hv⟩ := h
  obtain ⟨w, hw, r⟩ := env.2 i _ e
  cases r with
  | p r =>
    cases r with
    | dct h f l _ => exact ⟨_, .dK _, hw, trivial, h, f.2⟩
    | dtt h f l _ => exact ⟨_, .dT _, hw, trivial, h, f.2⟩
    | _ => cases hv
section
variable {G : Gm} {d : Nat} {x : Sx} {i : Nat}
theorem Now.lk {Z : St0} {X : Cx} {W : WX} {m : List Addr} {H H2 : Hp} {S : List PO} {ρ : Sl} {σ : L2.St} {a : Addr} {u : HO} (n : Now Z G d x X W m H S ρ σ) (hu : DkT u) (L : Lkd a u H H2) (hm : a ∉ m) : Now Z G d x X W m H2 S ρ σ :=
  ⟨n.ok, n.tk, n.po, lk_rel hu L hm n.rel, lk_env hu L n.env⟩
/-- an expression that makes a new list, read where the dict is locked -/
theorem SL.of_lk {e : Expr} {f : Sl → List PO → Out (List EV)} (hf : ∀ ρ S, f ρ S ≠ .stuck → hasD i ρ) (hx : ∀ ρ S c fs S', f ρ S ≠ .exc c fs S')
    (h : ∀ (Z : St0) (X : Cx) (W : WX) (m : List Addr) (H : Hp) (S : List PO) (ρ : Sl) (σ : L2.St) (Q : VK), Now Z G d x X W m H S ρ σ → LkAt i m σ H →
      Post Z G W (ReA Z) m H σ (f ρ S) (fun us H' => ∀ p, H' p = none → Q (.ref p) (upd H' p (.lst us))) → jE X e σ H Q) : SL G d x e f := by
  intro Z X W m H S ρ σ Q n q
  have hd : hasD i ρ := hf ρ S fun z => by rw [z] at q; exact q
  obtain ⟨a, u, hσ, hu, hr, hm⟩ := hasD_rel n.env hd
  rcases hr with hr | ⟨o, hr⟩
  · refine PE.j (pe_lock pe_j) ⟨a, u, hr, by cases u <;> first | trivial | exact hu.elim, fun od => ?_⟩
    refine h Z X W m (upd H a (.frz od u)) S ρ σ _ (n.lk hu (Lkd.to hr) hm) ⟨a, od, u, hσ, hu, upd_same, hm⟩ ?_
    cases e1 : f ρ S with
    | ok vs S1 =>
      rw [e1] at q
      intro m' H' us x' R' r' p hp
      obtain ⟨h1, h2, h3⟩ := lk_ext hr hm x'
      have L := Lkd.back h1
      have hpa : a ≠ p := fun z => by rw [← z, h1] at hp; cases hp
      refine ⟨by rw [upd_ne hpa]; exact h1, ?_⟩
      have hc : upd (upd H' p (.lst us)) a u = upd (upd H' a u) p (.lst us) := by
        funext b
        by_cases z1 : b = a
        · subst z1; rw [upd_same, upd_ne hpa, upd_same]
        · rw [upd_ne z1]
          by_cases z2 : b = p
          · subst z2; rw [upd_same, upd_same]
          · rw [upd_ne z2, upd_ne z2, upd_ne z1]
      rw [hc]
      exact q m' (upd H' a u) us h3 (lk_rel hu L h2 R') (lk_reA hu L r') p (by rw [upd_ne (Ne.symm hpa)]; exact hp)
    | exc c fs S1 => exact absurd e1 (hx _ _ _ _ _)
    | stuck => rw [e1] at q; exact q.elim
  · exact h Z X W m H S ρ σ Q n ⟨a, o, u, hσ, hu, hr, hm⟩ q
/-- an expression whose value isn't new -/
theorem SE.of_lk {e : Expr} {f : Sl → List PO → Out EV} (hf : ∀ ρ S, f ρ S ≠ .stuck → hasD i ρ) (hx : ∀ ρ S c fs S', f ρ S ≠ .exc c fs S')
    (h : ∀ (Z : St0) (X : Cx) (W : WX) (m : List Addr) (H : Hp) (S : List PO) (ρ : Sl) (σ : L2.St) (Q : VK), Now Z G d x X W m H S ρ σ → LkAt i m σ H →
      Post Z G W (Re Z) m H σ (f ρ S) Q → jE X e σ H Q) : SE G d x e f := by
  intro Z X W m H S ρ σ Q n q
  have hd : hasD i ρ := hf ρ S fun z => by rw [z] at q; exact q
  obtain ⟨a, u, hσ, hu, hr, hm⟩ := hasD_rel n.env hd
  rcases hr with hr | ⟨o, hr⟩
  · refine PE.j (pe_lock pe_j) ⟨a, u, hr, by cases u <;> first | trivial | exact hu.elim, fun od => ?_⟩
    refine h Z X W m (upd H a (.frz od u)) S ρ σ _ (n.lk hu (Lkd.to hr) hm) ⟨a, od, u, hσ, hu, upd_same, hm⟩ ?_
    cases e1 : f ρ S with
    | ok vs S1 =>
      rw [e1] at q
      intro m' H' us x' R' r'
      obtain ⟨h1, h2, h3⟩ := lk_ext hr hm x'
      have L := Lkd.back h1
      exact ⟨h1, q m' (upd H' a u) us h3 (lk_rel hu L h2 R') (lk_re hu L r')⟩
    | exc c fs S1 => exact absurd e1 (hx _ _ _ _ _)
    | stuck => rw [e1] at q; exact q.elim
  · exact h Z X W m H S ρ σ Q n ⟨a, o, u, hσ, hu, hr, hm⟩ q
/-- a statement -/
theorem SS.of_lk {st : Stmt} {f : Sl → List PO → SR} (hf : ∀ ρ S, f ρ S ≠ .stuck → hasD i ρ) (hx : ∀ ρ S ρ' c fs S', f ρ S ≠ .exc ρ' c fs S')
    (h : ∀ (Z : St0) (X : Cx) (W : WX) (D : Ends) (m : List Addr) (H : Hp) (S : List PO) (ρ : Sl) (σ : L2.St), Now Z G d x X W m H S ρ σ → LkAt i m σ H → PostS Z G W D m H (f ρ S) → jS X st D σ H) : SS G d x st f := by
  intro Z X W D m H S ρ σ n q
  have hd : hasD i ρ := hf ρ S fun z => by rw [z] at q; exact q
  obtain ⟨a, u, hσ, hu, hr, hm⟩ := hasD_rel n.env hd
  rcases hr with hr | ⟨o, hr⟩
  · refine PS.j (ps_lock ps_j) ⟨a, u, hr, by cases u <;> first | trivial | exact hu.elim, fun od => ?_⟩
    refine h Z X W _ m (upd H a (.frz od u)) S ρ σ (n.lk hu (Lkd.to hr) hm) ⟨a, od, u, hσ, hu, upd_same, hm⟩ ?_
    have key : ∀ {m' : List Addr} {H' : Hp}, Ext m (upd H a (.frz od u)) m' H' → H' a = some (.frz od u) ∧ a ∉ m' ∧ Ext m H m' (upd H' a u) ∧ Lkd a u H' (upd H' a u) := fun x' =>
      let ⟨h1, h2, h3⟩ := lk_ext hr hm x'
      ⟨h1, h2, h3, Lkd.back h1⟩
    cases e1 : f ρ S with
    | nx ρ1 S1 =>
      rw [e1] at q
      intro m' H' σ' x' R' r'
      obtain ⟨h1, h2, h3, L⟩ := key x'
      exact ⟨h1, q m' _ σ' h3 (lk_rel hu L h2 R') (lk_env hu L r')⟩
    | ct ρ1 S1 =>
      rw [e1] at q
      intro m' H' σ' x' R' r'
      obtain ⟨h1, h2, h3, L⟩ := key x'
      exact ⟨h1, q m' _ σ' h3 (lk_rel hu L h2 R') (lk_env hu L r')⟩
    | bk ρ1 S1 =>
      rw [e1] at q
      intro m' H' σ' x' R' r'
      obtain ⟨h1, h2, h3, L⟩ := key x'
      exact ⟨h1, q m' _ σ' h3 (lk_rel hu L h2 R') (lk_env hu L r')⟩
    | ret v S1 =>
      rw [e1] at q
      intro m' H' w x' R' r'
      obtain ⟨h1, h2, h3, L⟩ := key x'
      exact ⟨h1, q m' _ w h3 (lk_rel hu L h2 R') (lk_rpR hu L r')⟩
    | exc ρ1 c fs S1 => exact absurd e1 (hx _ _ _ _ _ _)
    | stuck => rw [e1] at q; exact q.elim
  · exact h Z X W D m H S ρ σ n ⟨a, o, u, hσ, hu, hr, hm⟩ q
/-! ### the walks -/
theorem kP_rel {Z : St0} {m : List Addr} {H : Hp} (k : Key) : Rp Z m H (kP k) (kV k) := by
  cases k with
  | inl i => exact .int i
  | inr z => exact .str z
theorem kPs_rel {Z : St0} {m : List Addr} {H : Hp} : ∀ ks : List Key, RpA Z m H (ks.map kP) (ks.map kV)
  | [] => .nil
  | k :: ks => .cons (kP_rel k) (kPs_rel ks)
theorem zip_at {α β : Type} {as : List α} {bs : List β} {i : Nat} {a : α} {b : β} (h : (as.zip bs)[i]? = some (a, b)) : as[i]? = some a ∧ bs[i]? = some b := by
  rw [List.getElem?_zip_eq_some] at h
  exact h
section
variable {Z : St0} {m : List Addr} {H : Hp} {a : Addr} {o : Obj}
theorem frz_stays {u : HO} (hl : H a = some (.frz o u)) (f : Fre Z m a) : ∀ P m' H', (∀ a, P a → Z.F a ∨ H a = none) → ExtO P m H m' H' → H' a = some (.frz o u) := fun P m' H' hP e =>
  e.keep a _ hl f.2 fun p => (hP a p).elim f.1 fun z => by rw [hl] at z; cases z
theorem ri_keys {ks : List Key} {us : List V} (hl : H a = some (.frz o (.dK (ks.zip us)))) (f : Fre Z m a) (l : ks.length = us.length) : RI Z m H (.l ((ks.map kP).map .p)) (Itk a o (ks.zip us)) := by
  have w := walk_keys (d := a) (o := o) (kvs := ks.zip us)
  have e2 : (ks.zip us).length = (ks.map kP).length := by rw [List.length_zip, List.length_map]; omega
  rw [e2] at w
  refine ri_of w (frz_stays hl f) fun F' P wd hP i v m' H' S' y H'' hv e R q => ?_
  obtain ⟨rfl, k, u, hk, rfl⟩ := q
  obtain ⟨h1, _⟩ := zip_at hk
  rw [List.getElem?_map, h1] at hv
  cases hv
  exact ⟨Ext.refl, R, .p (kP_rel k)⟩
theorem ri_keysT {ks : List (List Key)} {us : List V} (hl : H a = some (.frz o (.dT (ks.zip us)))) (f : Fre Z m a) (l : ks.length = us.length) : RI Z m H (.l ((ks.map fun k => PV.tup (k.map kP)).map .p)) (Itkt a o (ks.zip us)) := by
  have w := walk_keysT (d := a) (o := o) (kvs := ks.zip us)
  have e2 : (ks.zip us).length = (ks.map fun k => PV.tup (k.map kP)).length := by rw [List.length_zip, List.length_map]; omega
  rw [e2] at w
  refine ri_of w (frz_stays hl f) fun F' P wd hP i v m' H' S' y H'' hv e R q => ?_
  obtain ⟨rfl, k, u, q, hk, rfl, hq⟩ := q
  obtain ⟨h1, _⟩ := zip_at hk
  rw [List.getElem?_map, h1] at hv
  cases hv
  exact ⟨Ext.refl, R, .p (.tup hq (kPs_rel k))⟩
theorem ri_vals {ks : List Key} {us : List V} {vs : List PV} (hl : H a = some (.frz o (.dK (ks.zip us)))) (f : Fre Z m a) (l : ks.length = us.length) (r : RpA Z m H vs us) : RI Z m H (.l (vs.map .p)) (Itd a o (ks.zip us)) := by
  have w := walk_values (d := a) (o := o) (kvs := ks.zip us)
  have e2 : (ks.zip us).length = vs.length := by rw [List.length_zip, r.length]; omega
  rw [e2] at w
  refine ri_of w (frz_stays hl f) fun F' P wd hP i v m' H' S' y H'' hv e R q => ?_
  obtain ⟨rfl, k, hk⟩ := q
  obtain ⟨_, h2⟩ := zip_at hk
  obtain ⟨u, hu, ru⟩ := r.get hv
  rw [h2] at hu; cases hu
  exact ⟨Ext.refl, R, .p ((wd.rp ru).extO hP e)⟩
theorem ri_its {ks : List Key} {us : List V} {vs : List PV} (hl : H a = some (.frz o (.dK (ks.zip us)))) (f : Fre Z m a) (l : ks.length = us.length) (r : RpA Z m H vs us) : RI Z m H (.l ((zipV (ks.map kP) vs).map .p)) (Iti a o (ks.zip us)) := by
  have w := walk_items (d := a) (o := o) (kvs := ks.zip us)
  have e2 : (ks.zip us).length = (zipV (ks.map kP) vs).length := by rw [List.length_zip, zipV_len, List.length_map, r.length]
  rw [e2] at w
  refine ri_pair w (frz_stays hl f) fun i v hv => ?_
  obtain ⟨x1, y1, h1, h2, rfl⟩ := zipV_get _ _ i v hv
  rw [List.getElem?_map] at h1
  obtain ⟨k, hk, rfl⟩ := Option.map_eq_some_iff.mp h1
  obtain ⟨u, hu, ru⟩ := r.get h2
  have hz : (ks.zip us)[i]? = some (k, u) := List.getElem?_zip_eq_some.mpr ⟨hk, hu⟩
  exact ⟨_, _, kV k, u, rfl, by rw [hz]; rfl, by rw [hz]; rfl, kP_rel k, ru⟩
theorem ri_itsT {ks : List (List Key)} {us : List V} {vs : List PV} (hl : H a = some (.frz o (.dT (ks.zip us)))) (f : Fre Z m a) (l : ks.length = us.length) (r : RpA Z m H vs us) : RI Z m H (.l ((zipV (ks.map fun k => PV.tup (k.map kP)) vs).map .p)) (ItiT a o (ks.zip us)) := by
  have w := walk_itemsT (d := a) (o := o) (kvs := ks.zip us)
  have e2 : (ks.zip us).length = (zipV (ks.map fun k => PV.tup (k.map kP)) vs).length := by rw [List.length_zip, zipV_len, List.length_map, r.length]
  rw [e2] at w
  refine ri_of w (frz_stays hl f) fun F' P wd hP i v m' H' S' y H'' hv e R q => ?_
  obtain ⟨T, q, k, u, hk, rfl, hT, hq, rfl⟩ := q
  obtain ⟨h1, h2⟩ := zip_at hk
  obtain ⟨x1, y1, g1, g2, rfl⟩ := zipV_get _ _ i v hv
  rw [List.getElem?_map, h1] at g1
  cases g1
  obtain ⟨u2, hu, ru⟩ := r.get g2
  rw [h2] at hu; cases hu
  have ex := Ext.alloc (m := m') (o := .tup [.ref q, u]) hT
  exact ⟨ex, R.alloc hT, .p (.tup upd_same (.cons (.tup (ex.tp _ _ hq) (kPs_rel k)) (.cons (((wd.rp ru).extO hP e).ext ex) .nil)))⟩
end
/-- what is written at a walk over the dict in slot i -/
def ditB (x : Sx) (k : DK) (i : Nat) (tg e : Expr) : Bool := match k with
  | .ks => match e with
    | .Name y _ => decide (x.N[i]? = some y) && (visB x.sc y && (!(y == ("__debug__" : Str)) && !(y == ("__classdict__" : Str))))
    | _ => false
  | .vs => match e with
    | .Call (.Attribute (.Name y _) n ap) [] [] cp => decide (n = "values") && ((ap.endLine == cp.line) && (decide (x.N[i]? = some y) && (visB x.sc y && (!(y == ("__debug__" : Str)) && !(y == ("__classdict__" : Str))))))
    | _ => false
  | .its => match tg with
    | .Tuple _ _ _ => match e with
      | .Call (.Attribute (.Name y _) n ap) [] [] cp => decide (n = "items") && ((ap.endLine == cp.line) && (decide (x.N[i]? = some y) && (visB x.sc y && (!(y == ("__debug__" : Str)) && !(y == ("__classdict__" : Str))))))
      | _ => false
    | _ => false
theorem not_of {b : Bool} (h : (!b) = true) : b = false := by simpa using h
theorem ji_dit {k : DK} {tg e : Expr} {Z : St0} {X : Cx} {W : WX} {m : List Addr} {H : Hp} {S : List PO} {ρ : Sl} {σ : L2.St} {R : It → Hp → Prop} (hb : ditB x k i tg e = true) (n : Now Z G d x X W m H S ρ σ) (lk : LkAt i m σ H)
    (q : Post Z G W (RI Z) m H σ (evIt G (.dit k i) ρ S) R) : jI X tg e σ H R := by
  simp only [evIt] at q
  split at q
  · rename_i v e1
    obtain ⟨w, hw, r⟩ := n.env.2 i _ e1
    obtain ⟨a, o, u, hσ, hu, hl, hm⟩ := lk
    rw [hw] at hσ
    cases hσ
    cases ed : ditems k v with
    | none => rw [ed] at q; exact q.elim
    | some xs =>
      rw [ed] at q
      cases r with
      | p r =>
        cases r with
        | dct hd f l rr =>
          rename_i us ks vs
          have eu := rd_uniq hu (show DkT (.dK _) from trivial) (.inr ⟨o, hl⟩) hd
          subst eu
          cases k with
          | ks =>
            simp only [ditems] at ed
            cases ed
            simp only [ditB] at hb
            split at hb
            · simp only [Bool.and_eq_true] at hb
              obtain ⟨b1, b2, b3, b4⟩ := hb
              exact PI.j (pi_keys (pe_var (by rw [n.ok.hN]; exact of_decide_eq_true b1) (by rw [n.ok.hs]; exact vis_of b2) (not_of b3) (not_of b4))) ⟨_, hw, a, o, rfl, .inl ⟨_, hl, Post.now q n.rel (ri_keys hl f l)⟩⟩
            · cases hb
          | vs =>
            simp only [ditems] at ed
            cases ed
            simp only [ditB] at hb
            split at hb
            · simp only [Bool.and_eq_true] at hb
              obtain ⟨b0, b5, b1, b2, b3, b4⟩ := hb
              have e0 := of_decide_eq_true b0
              subst e0
              exact PI.j (pi_values (pe_var (by rw [n.ok.hN]; exact of_decide_eq_true b1) (by rw [n.ok.hs]; exact vis_of b2) (not_of b3) (not_of b4)) rfl b5) ⟨_, hw, a, o, _, rfl, hl, Post.now q n.rel (ri_vals hl f l rr)⟩
            · cases hb
          | its =>
            simp only [ditems] at ed
            cases ed
            simp only [ditB] at hb
            split at hb
            · split at hb
              · simp only [Bool.and_eq_true] at hb
                obtain ⟨b0, b5, b1, b2, b3, b4⟩ := hb
                have e0 := of_decide_eq_true b0
                subst e0
                exact PI.j (pi_items (pe_var (by rw [n.ok.hN]; exact of_decide_eq_true b1) (by rw [n.ok.hs]; exact vis_of b2) (not_of b3) (not_of b4)) rfl b5) ⟨_, hw, a, o, _, rfl, hl, Post.now q n.rel (ri_its hl f l rr)⟩
              · cases hb
            · cases hb
        | dtt hd f l rr =>
          have eu := rd_uniq hu (show DkT (.dT _) from trivial) (.inr ⟨o, hl⟩) hd
          subst eu
          cases k with
          | ks =>
            simp only [ditems] at ed
            cases ed
            simp only [ditB] at hb
            split at hb
            · simp only [Bool.and_eq_true] at hb
              obtain ⟨b1, b2, b3, b4⟩ := hb
              exact PI.j (pi_keys (pe_var (by rw [n.ok.hN]; exact of_decide_eq_true b1) (by rw [n.ok.hs]; exact vis_of b2) (not_of b3) (not_of b4))) ⟨_, hw, a, o, rfl, .inr ⟨_, hl, Post.now q n.rel (ri_keysT hl f l)⟩⟩
            · cases hb
          | vs => simp only [ditems] at ed; cases ed
          | its =>
            simp only [ditems] at ed
            cases ed
            simp only [ditB] at hb
            split at hb
            · split at hb
              · simp only [Bool.and_eq_true] at hb
                obtain ⟨b0, b5, b1, b2, b3, b4⟩ := hb
                have e0 := of_decide_eq_true b0
                subst e0
                exact PI.j (pi_itemsT (pe_var (by rw [n.ok.hN]; exact of_decide_eq_true b1) (by rw [n.ok.hs]; exact vis_of b2) (not_of b3) (not_of b4)) rfl b5) ⟨_, hw, a, o, _, rfl, hl, Post.now q n.rel (ri_itsT hl f l rr)⟩
              · cases hb
            · cases hb
        | _ => simp only [ditems] at ed; cases ed
  · exact q.elim
theorem dit_has {k : DK} {ρ : Sl} {S : List PO} (h : evIt G (.dit k i) ρ S ≠ .stuck) : hasD i ρ := by
  simp only [evIt] at h
  split at h
  · rename_i v e
    refine ⟨v, e, ?_⟩
    cases v <;> first | rfl | exact absurd rfl h
  · exact absurd rfl h
theorem dit_noexc {k : DK} {ρ : Sl} {S S' : List PO} {c : Nat} {fs : List PV} : evIt G (.dit k i) ρ S ≠ .exc c fs S' := by
  simp only [evIt]
  split
  · split <;> exact fun h => nomatch h
  · exact fun h => nomatch h
end
end Rv
end PartRvKa
section PartRvS
set_option Elab.async false
set_option linter.all false
set_option maxRecDepth 100000
set_option autoImplicit false
/-! Rv, part S: more statements. -/
namespace Rv
open PySem PySem.Spec PyProof.Rows L2
/-! ### stores into the store -/
theorem put_any {κ : Type} [DecidableEq κ] {Z : St0} {m : List Addr} {H : Hp} (k : κ) : ∀ {ks : List κ} {vs : List PV} {us : List V}, RpA Z m H vs us → ks.length = us.length → ((ks.zip us).any fun kv => decide (kv.1 = k)) = (lookP ks vs k).isSome
  | [], _, _, .nil, _ => rfl
  | [], _, _, .cons _ _, h => by simp at h
  | _ :: _, _, _, .nil, h => by simp at h
  | j :: ks, _, _, .cons r rs, h => by
    rw [List.zip_cons_cons, List.any_cons, put_any k rs (by simpa using h)]
    by_cases e : j = k
    · simp [lookP, e]
    · simp [lookP, e]
theorem put_map {κ : Type} [DecidableEq κ] {Z : St0} {m : List Addr} {H : Hp} (k : κ) {w : PV} {z : V} (rw' : Rp Z m H w z) : ∀ {ks : List κ} {vs : List PV} {us : List V}, RpA Z m H vs us → ks.length = us.length →
    ∃ us', (ks.zip us).map (fun kv => if kv.1 = k then (kv.1, z) else kv) = ks.zip us' ∧ ks.length = us'.length ∧ RpA Z m H (List.zipWith (fun j u => if j = k then w else u) ks vs) us'
  | [], _, _, .nil, _ => ⟨[], rfl, rfl, .nil⟩
  | [], _, _, .cons _ _, h => by simp at h
  | _ :: _, _, _, .nil, h => by simp at h
  | j :: ks, _, _, .cons (u := u) r rs, h => by
    obtain ⟨us', e1, e2, e3⟩ := put_map k rw' rs (by simpa using h)
    by_cases e : j = k
    · refine ⟨z :: us', ?_, by simp [e2], ?_⟩
      · rw [List.zip_cons_cons, List.map_cons, e1, List.zip_cons_cons, if_pos e]
      · rw [List.zipWith_cons_cons, if_pos e]; exact .cons rw' e3
    · refine ⟨u :: us', ?_, by simp [e2], ?_⟩
      · rw [List.zip_cons_cons, List.map_cons, e1, List.zip_cons_cons, if_neg e]
      · rw [List.zipWith_cons_cons, if_neg e]; exact .cons r e3
theorem put_rel {κ : Type} [DecidableEq κ] {Z : St0} {m : List Addr} {H : Hp} (k : κ) {w : PV} {z : V} (rw' : Rp Z m H w z) {ks : List κ} {vs : List PV} {us : List V} (r : RpA Z m H vs us) (h : ks.length = us.length) :
    ∃ us', putK (ks.zip us) k z = (putP ks vs k w).1.zip us' ∧ (putP ks vs k w).1.length = us'.length ∧ RpA Z m H (putP ks vs k w).2 us' := by
  unfold putK putP
  rw [put_any k r h]
  cases e : lookP ks vs k with
  | some v0 =>
    obtain ⟨us', e1, e2, e3⟩ := put_map k rw' r h
    refine ⟨us', ?_, e2, e3⟩
    rw [if_pos (by rfl)]
    exact e1
  | none =>
    refine ⟨us ++ [z], ?_, by simp [h], r.append (.cons rw' .nil)⟩
    rw [if_neg (by decide)]
    show ks.zip us ++ [(k, z)] = (ks ++ [k]).zip (us ++ [z])
    rw [List.zip_append h]
    rfl
def rSetA : TSet := fun o i v H Q => rSetL o i v H Q ∨ rSetD o i v H Q
theorem set_any {X : Cx} (hu : X.A.units + 1 < cLine) : PSet X rSetA := by
  intro pins s σ H o i v ov iv u Q I ro ri rv h
  rcases h with h | h
  · exact set_list pins s σ H o i v ov iv u Q I ro ri rv h
  · exact set_dict hu pins s σ H o i v ov iv u Q I ro ri rv h
theorem setV_rel {Z : St0} {m : List Addr} {H : Hp} {S S' : List PO} {x k v : EV} {xo ko vo : V} {Q : Hp → Prop} (R : Rel Z m S H) (rx : Re Z m H x xo) (rk : Re Z m H k ko) (rv : Re Z m H v vo) (h : setV S x k v = some S') (q : ∀ H', Ext m H m H' → Rel Z m S' H' → Q H') : rSetA xo ko vo H Q := by
  cases rx with
  | p r => cases h
  | ref hi =>
    rename_i i a
    have ha := List.mem_of_getElem? hi
    simp only [setV] at h
    split at h
    · rename_i xs e
      obtain ⟨us, g, gr⟩ := R.ob i a _ hi e
      split at h
      · rename_i j
        split at h
        · rename_i n en
          split at h
          · rename_i w
            cases h
            cases rk with
            | p rk =>
              cases rk
              cases rv with
              | p rv =>
                have ex := Ext.write (o := .lst (us.set n vo)) R ha
                exact .inl ⟨a, us, j, n, rfl, rfl, g, by rw [← gr.length]; exact en, q _ ex (R.write hi ⟨_, upd_same, (gr.set rv n).ext ex⟩)⟩
          · cases h
        · cases h
      · cases h
    · rename_i is e
      obtain ⟨us, g, gr⟩ := R.ob i a _ hi e
      split at h
      · rename_i j
        split at h
        · rename_i n en
          split at h
          · rename_i w
            cases h
            cases rk with
            | p rk =>
              cases rk
              have ex := Ext.write (o := .lst (us.set n vo)) R ha
              have hlen := gr.length
              rw [List.length_map] at hlen
              refine .inl ⟨a, us, j, n, rfl, rfl, g, by rw [← hlen]; exact en, q _ ex (R.write hi ⟨_, upd_same, ?_⟩)⟩
              have : ∀ {l : List Nat} {us : List V} (n : Nat), ReA Z m H (l.map .ref) us → ReA Z m H ((l.set n w).map .ref) (us.set n vo) := by
                intro l
                induction l with
                | nil => intro us n r; simp at r ⊢; cases r; exact .nil
                | cons y l ih =>
                  intro us n r
                  cases r with
                  | cons r rr =>
                    cases n with
                    | zero => exact .cons rv rr
                    | succ n => exact .cons r (ih n rr)
              exact (this n gr).ext ex
          · cases h
        · cases h
      · cases h
    · rename_i ks vs e
      obtain ⟨us, g, gl, gr⟩ := R.ob i a _ hi e
      split at h
      · rename_i w0
        split at h
        · rename_i y ey
          split at h
          · rename_i w
            split at h
            · rename_i hl
              cases h
              cases rk with
              | p rk =>
                cases rv with
                | p rv =>
                  have ek := keyOf_rel (Rs.p rk) ey
                  subst ek
                  obtain ⟨us', e1, e2, e3⟩ := put_rel y rv gr gl
                  have ex := Ext.write (o := .dK ((putP ks vs y w).1.zip us')) R ha
                  refine .inr ⟨a, _, rfl, DPut.k g ?_, ?_⟩
                  · rw [List.length_zip, ← gl, Nat.min_self]; exact Nat.lt_of_lt_of_le hl lim_le
                  · rw [e1]
                    exact q _ ex (R.write hi ⟨us', upd_same, e2, e3.ext ex⟩)
            · cases h
          · cases h
        · cases h
      · cases h
    · rename_i ks vs e
      obtain ⟨us, g, gl, gr⟩ := R.ob i a _ hi e
      split at h
      · rename_i w0
        split at h
        · rename_i y ey
          split at h
          · rename_i w
            split at h
            · rename_i hl
              cases h
              cases rk with
              | p rk =>
                cases rk with
                | tup hb rb =>
                  cases rv with
                  | p rv =>
                    rename_i b usb
                    have ek := keysOf_rel rb ey
                    subst ek
                    obtain ⟨us', e1, e2, e3⟩ := put_rel y rv gr gl
                    have ex := Ext.write (o := .dT ((putP ks vs y w).1.zip us')) R ha
                    refine .inr ⟨a, _, rfl, DPut.t g hb ?_, ?_⟩
                    · rw [List.length_zip, ← gl, Nat.min_self]; exact Nat.lt_of_lt_of_le hl lim_le
                    · rw [e1]
                      exact q _ ex (R.write hi ⟨us', upd_same, e2, e3.ext ex⟩)
            · cases h
          · cases h
        · cases h
      · cases h
    · cases h
def noSlice : Expr → Bool
  | .Slice _ _ _ _ => false
  | _ => true
theorem units1 {d : Nat} {A : Around} (r : L2H.RoomH d A) : A.units + 1 < cLine := by have := r.un; omega
section
variable {G : Gm} {d : Nat} {x : Sx} {pos : Pos}
theorem ss_setIx {o i e : Expr} {p q r : PX} {tpos : Pos} (ho : SE G d x o (evE G p)) (hi : SE G d x i (evE G q)) (he : SE G d x e (evE G r)) (hs : noSlice i = true) : SS G d x (.Assign [.Subscript o i tpos] e pos) (evS G (.setIx p q r)) := by
  intro Z X W D m H S ρ σ n h
  simp only [evS] at h
  refine PS.j (ps_asg pe_j (pg_sub pe_j pe_j (set_any (units1 n.ok.room)) (fun v => by cases i <;> first | rfl | (cases hs))) (by cases e <;> rfl) (by cases e <;> rfl) rfl) (he Z X W m H S ρ σ _ n (PostS.toS n.env h fun v S1 m1 H1 u e1 x1 R1 r1 q1 => ?_))
  have n1 := n.step x1 R1
  refine ho Z X W m1 H1 S1 ρ σ _ n1 (PostS.toS n1.env q1 fun y S2 m2 H2 u2 e2 x2 R2 r2 q2 => ?_)
  have n2 := n1.step x2 R2
  refine hi Z X W m2 H2 S2 ρ σ _ n2 (PostS.toS n2.env q2 fun k S3 m3 H3 u3 e3 x3 R3 r3 q3 => ?_)
  split at q3
  · rename_i S4 e4
    exact setV_rel R3 (r2.ext x3) r3 ((r1.ext x2).ext x3) e4 fun H' ex R' => q3 m3 H' σ ex R' (((n2.env.ext x3)).ext ex)
  · exact q3.elim
theorem ss_aug {i : Nat} {y : Str} {e : Expr} {p : PX} {py : Pos} (hN : x.N[i]? = some y) (hl : locB x y = true) (ha : SE G d x e (evE G p)) : SS G d x (.AugAssign (.Name y py) .Add e pos) (evS G (.aug i p)) := by
  intro Z X W D m H S ρ σ n h
  simp only [evS] at h
  obtain ⟨h1, h2⟩ := loc_of n.ok.hs n.ok.hf hl
  split at h
  · rename_i a ea
    obtain ⟨u0, hu0, r0⟩ := n.env.2 i _ ea
    cases r0 with
    | p r0 =>
      cases r0
      refine PS.j (ps_aug n.ok.nd (by rw [n.ok.hN]; exact hN) h1 pe_j ip_add h2) ⟨_, hu0, ha Z X W m H S ρ σ _ n (PostS.toS n.env h fun v S1 m1 H1 u e1 x1 R1 r1 q1 => ?_)⟩
      split at q1
      · rename_i b
        cases r1 with
        | p r1 =>
          cases r1
          exact ⟨a, b, rfl, rfl, q1 m1 H1 _ Ext.refl R1 ((n.env.ext x1).set (.p (.int _)))⟩
      · exact q1.elim
  · exact h.elim
/-! ### loops -/
theorem ss_while {c : Expr} {body : List Stmt} {p : PB} {ps : List PS} (hc : ST G d x c (evT G p)) (hb : SSs G d x body (evSs G ps)) : SS G d x (.While c body [] pos) (evS G (.whl p ps)) := by
  intro Z X W D m H S ρ σ n h
  simp only [evS] at h
  refine PS.j (ps_while n.po pt_j pss_j) ⟨fun k σ' H' => ∃ m' ρ' S', Ext m H m' H' ∧ Rel Z m' S' H' ∧ RpE Z m' H' ρ' σ' ∧ PostS Z G W D m' H' (whileL (evT G p) (fun ρ S => evSs G ps ρ S) k ρ' S'), ⟨lim, m, ρ, S, Ext.refl, n.rel, n.env, h⟩, ?_⟩
  rintro k σ1 H1 ⟨m1, ρ1, S1, x1, R1, env1, q1⟩
  cases k with
  | zero => exact q1.elim
  | succ k =>
    simp only [whileL] at q1
    have n1 : Now Z G d x X W m1 H1 S1 ρ1 σ1 := ⟨n.ok, n.tk, n.po, R1, env1⟩
    refine hc Z X W m1 H1 S1 ρ1 σ1 _ n1 ?_
    cases e1 : evT G p ρ1 S1 with
    | exc kk fs S2 =>
      rw [e1] at q1
      exact fun m' H' d e r xx => q1 m' H' σ1 d e r (env1.ext e) xx
    | stuck => rw [e1] at q1; exact q1
    | ok b S2 =>
      rw [e1] at q1
      intro m2 H2 u x2 R2 r2
      cases r2
      have n2 : Now Z G d x X W m2 H2 S2 ρ1 σ1 := n1.step x2 R2
      cases b with
      | false =>
        rw [if_neg (by decide)]
        exact q1 m2 H2 σ1 x2 R2 n2.env
      | true =>
        rw [if_pos rfl]
        refine ⟨fun σ' H' => ∃ m' ρ' S', Ext m H m' H' ∧ Rel Z m' S' H' ∧ RpE Z m' H' ρ' σ' ∧ PostS Z G W D m' H' (whileL (evT G p) (fun ρ S => evSs G ps ρ S) k ρ' S'), fun σ' H' w => ⟨k, Nat.lt_succ_self _, w⟩, ?_⟩
        refine hb Z X W _ m2 H2 S2 ρ1 σ1 n2 ?_
        cases e2 : evSs G ps ρ1 S2 with
        | nx ρ2 S3 =>
          simp only [e2] at q1
          exact fun m' H' σ' e r q => ⟨m', ρ2, S3, (x1.trans x2).trans e, r, q, PostS.ext q1 (x2.trans e)⟩
        | ct ρ2 S3 =>
          simp only [e2] at q1
          exact fun m' H' σ' e r q => ⟨m', ρ2, S3, (x1.trans x2).trans e, r, q, PostS.ext q1 (x2.trans e)⟩
        | bk ρ2 S3 =>
          simp only [e2] at q1
          exact fun m' H' σ' e r q => q1 m' H' σ' (x2.trans e) r q
        | ret v S3 =>
          simp only [e2] at q1
          exact fun m' H' u e r q => q1 m' H' u (x2.trans e) r q
        | exc ρ2 kk fs S3 =>
          simp only [e2] at q1
          exact fun m' H' σ' dd e r q xx => q1 m' H' σ' dd (x2.trans e) r q xx
        | stuck => simp only [e2] at q1; exact q1
/-- the body at an item -/
theorem for_turn {Z : St0} {X : Cx} {W : WX} {D : Ends} {tg : Expr} {t : PT} {body : List Stmt} {ps : List PS} {m m1 : List Addr} {H H1 : Hp} {S1 : List PO} {ρ1 : Sl} {σ1 : L2.St} {v : EV} {y : V} {N : L2.St → Hp → Prop} {c : Sl → List PO → SR} (n1 : Now Z G d x X W m1 H1 S1 ρ1 σ1) (hg : SG x tg t) (hb : SSs G d x body (evSs G ps)) (r : Re Z m1 H1 v y)
    (x1 : Ext m H m1 H1) (q : PostS Z G W D m1 H1 (match bindT t ρ1 v with
      | some ρ1 => match evSs G ps ρ1 S1 with
        | .nx ρ2 S2 => c ρ2 S2
        | .ct ρ2 S2 => c ρ2 S2
        | .bk ρ2 S2 => .nx ρ2 S2
        | .ret v S2 => .ret v S2
        | .exc ρ2 k fs S2 => .exc ρ2 k fs S2
        | .stuck => .stuck
      | none => .stuck))
    (hN : ∀ m' H' σ' ρ' S', Ext m H m' H' → Rel Z m' S' H' → RpE Z m' H' ρ' σ' → PostS Z G W D m' H' (c ρ' S') → N σ' H') :
    jG X tg y σ1 H1 fun σ2 H2 => jSs X body { D with nx := N, ct := N, bk := D.nx } σ2 H2 := by
  split at q
  · rename_i ρ2 e2
    refine hg Z G d X m1 H1 ρ1 ρ2 σ1 v y _ n1.ok n1.env r e2 fun σ2 env2 _ => ?_
    refine hb Z X W _ m1 H1 S1 ρ2 σ2 ⟨n1.ok, n1.tk, n1.po, n1.rel, env2⟩ ?_
    cases e3 : evSs G ps ρ2 S1 with
    | nx ρ2 S3 =>
      simp only [e3] at q
      exact fun m' H' σ' e r w => hN m' H' σ' ρ2 S3 (x1.trans e) r w (PostS.ext q e)
    | ct ρ2 S3 =>
      simp only [e3] at q
      exact fun m' H' σ' e r w => hN m' H' σ' ρ2 S3 (x1.trans e) r w (PostS.ext q e)
    | bk ρ2 S3 => simp only [e3] at q; exact q
    | ret v S3 => simp only [e3] at q; exact q
    | exc ρ2 kk fs S3 => simp only [e3] at q; exact q
    | stuck => simp only [e3] at q; exact q
  · exact q.elim
theorem for_core {tg it : Expr} {t : PT} {pi : PIt} {body : List Stmt} {ps : List PS} (hh : x.hot = false) (hg : SG x tg t) (hb : SSs G d x body (evSs G ps)) (hs : noSet it = true)
    {Z : St0} {X : Cx} {W : WX} {D : Ends} {m : List Addr} {H : Hp} {S : List PO} {ρ : Sl} {σ : L2.St} (hi : ∀ R, Post Z G W (RI Z) m H σ (evIt G pi ρ S) R → jI X tg it σ H R) (n : Now Z G d x X W m H S ρ σ)
    (h : PostS Z G W D m H ((evIt G pi ρ S).toS ρ fun its S1 => forI t (fun ρ S => evSs G ps ρ S) its ρ S1)) : jS X (.For tg it body [] pos) D σ H := by
  refine PS.j (ps_for n.po (n.ok.calm hh).1 pi_j pg_j pss_j (fun y => fold_none hs y)) ?_
  refine hi _ (PostS.toS n.env h fun its S1 m1 H1 J e1 x1 R1 ri q1 => ?_)
  have n1 := n.step x1 R1
  have fuel : ∀ {its : Itm}, (∀ xs, its ≠ .l xs) → RI Z m1 H1 its J → PostS Z G W D m1 H1 (forO t (fun ρ S => evSs G ps ρ S) its lim 0 ρ S1) →
      ∃ W' : Nat → Nat → L2.St → Hp → Prop, (∃ m, W' 0 m σ H1) ∧ ∀ i m σ H, W' i m σ H →
      (J.stop i H ∧ D.nx σ H) ∨ (J.go i H ∧ ∃ N : L2.St → Hp → Prop, (∀ σ' H', N σ' H' → ∃ m', m' < m ∧ W' (i + 1) m' σ' H') ∧ ∀ x H', J.yld i H x H' → jG X tg x σ H' fun σ2 H2 => jSs X body { D with nx := N, ct := N, bk := D.nx } σ2 H2) := fun {its} hno ri q1 => by
    refine ⟨fun i k σ' H' => ∃ m' ρ' S', Ext m1 H1 m' H' ∧ Rel Z m' S' H' ∧ RpE Z m' H' ρ' σ' ∧ PostS Z G W D m' H' (forO t (fun ρ S => evSs G ps ρ S) its k i ρ' S'), ⟨lim, m1, ρ, S1, Ext.refl, R1, n1.env, q1⟩, ?_⟩
    rintro i k σ2 H2 ⟨m2, ρ2, S2, x2, R2, env2, q2⟩
    cases k with
    | zero => exact q2.elim
    | succ k =>
      obtain ⟨h1, h2⟩ := ri Z.F (fun _ => False) Wd.refl (fun _ q => q.elim) m2 H2 S2 (.of x2) R2 i (fun xs e => absurd e (hno xs))
      simp only [forO] at q2
      cases e2 : itAt S2 its i with
      | none => rw [e2] at q2; exact q2.elim
      | some o =>
        rw [e2] at q2
        cases o with
        | none => exact .inl ⟨h1 e2, q2 m2 H2 σ2 Ext.refl R2 env2⟩
        | some v =>
          obtain ⟨h3, h4⟩ := h2 v e2
          refine .inr ⟨h3, fun σ' H' => ∃ m' ρ' S', Ext m1 H1 m' H' ∧ Rel Z m' S' H' ∧ RpE Z m' H' ρ' σ' ∧ PostS Z G W D m' H' (forO t (fun ρ S => evSs G ps ρ S) its k (i + 1) ρ' S'), fun σ' H' w => ⟨k, Nat.lt_succ_self _, w⟩, fun y H' yq => ?_⟩
          obtain ⟨e4, R4, r4⟩ := h4 y H' yq
          exact for_turn (m := m1) (H := H1) ⟨n.ok, n.tk, n.po, R4, env2.ext e4⟩ hg hb r4 (x2.trans e4) (PostS.ext q2 e4) fun m' H' σ' ρ' S' a b c d => ⟨m', ρ', S', a, b, c, d⟩
  cases its with
  | l xs =>
    simp only [forI] at q1
    refine ⟨fun i k σ' H' => i ≤ xs.length ∧ k = xs.length - i ∧ ∃ m' ρ' S', Ext m1 H1 m' H' ∧ Rel Z m' S' H' ∧ RpE Z m' H' ρ' σ' ∧ PostS Z G W D m' H' (forL t (fun ρ S => evSs G ps ρ S) (xs.drop i) ρ' S'), ⟨xs.length, Nat.zero_le _, rfl, m1, ρ, S1, Ext.refl, R1, n1.env, q1⟩, ?_⟩
    rintro i k σ2 H2 ⟨hi, rfl, m2, ρ2, S2, x2, R2, env2, q2⟩
    obtain ⟨h1, h2⟩ := ri Z.F (fun _ => False) Wd.refl (fun _ q => q.elim) m2 H2 S2 (.of x2) R2 i (fun xs' e => by cases e; exact hi)
    by_cases hlt : i < xs.length
    · have hgx : xs[i]? = some xs[i] := List.getElem?_eq_getElem hlt
      obtain ⟨h3, h4⟩ := h2 xs[i] (by simp only [itAt]; rw [hgx])
      rw [List.drop_eq_getElem_cons hlt] at q2
      simp only [forL] at q2
      refine .inr ⟨h3, fun σ' H' => ∃ m' ρ' S', Ext m1 H1 m' H' ∧ Rel Z m' S' H' ∧ RpE Z m' H' ρ' σ' ∧ PostS Z G W D m' H' (forL t (fun ρ S => evSs G ps ρ S) (xs.drop (i + 1)) ρ' S'), fun σ' H' w => ⟨xs.length - (i + 1), by omega, hlt, rfl, w⟩, fun y H' yq => ?_⟩
      obtain ⟨e4, R4, r4⟩ := h4 y H' yq
      exact for_turn (m := m1) (H := H1) (c := forL t (fun ρ S => evSs G ps ρ S) (xs.drop (i + 1))) ⟨n.ok, n.tk, n.po, R4, env2.ext e4⟩ hg hb r4 (x2.trans e4) (PostS.ext q2 e4) fun m' H' σ' ρ' S' a b c d => ⟨m', ρ', S', a, b, c, d⟩
    · have e : i = xs.length := by omega
      subst e
      rw [List.drop_length] at q2
      simp only [forL] at q2
      exact .inl ⟨h1 (by simp only [itAt]; rw [List.getElem?_eq_none (Nat.le_refl _)]), q2 m2 H2 σ2 Ext.refl R2 env2⟩
  | o i => exact fuel (fun xs e => by cases e) ri q1
  | en i => exact fuel (fun xs e => by cases e) ri q1
  | zp a b => exact fuel (fun xs e => by cases e) ri q1
theorem ss_for {tg it : Expr} {t : PT} {pi : PIt} {body : List Stmt} {ps : List PS} (hh : x.hot = false) (hi : SI G d x tg it (evIt G pi)) (hg : SG x tg t) (hb : SSs G d x body (evSs G ps)) (hs : noSet it = true) : SS G d x (.For tg it body [] pos) (evS G (.loop t pi ps)) := by
  intro Z X W D m H S ρ σ n h
  simp only [evS] at h
  exact for_core hh hg hb hs (fun R q => hi Z X W m H S ρ σ R n q) n h
end
end Rv
end PartRvS
section PartRvKb
set_option Elab.async false
set_option linter.all false
set_option maxRecDepth 100000
set_option autoImplicit false
/-! Rv, part Kb: comprehensions over a dict, comprehensions that make a dict. -/
namespace Rv
open PySem PySem.Spec PyProof.Rows L2
section
variable {G : Gm} {d : Nat} {x : Sx} {scope : Scope} {tg : Expr} {ifs : List Expr} {elt kx vx : Expr} {t : PT} {is : List PB} {p kp vp : PX}
theorem comp_ns {own : List Nat} {it : PIt} {ρ : Sl} {S : List PO} (h : evL G (.comp own p t it is) ρ S ≠ .stuck) : evIt G it ρ S ≠ .stuck := fun z => h (by simp only [evL, z, Out.bind])
theorem comp_nx {own : List Nat} {it : PIt} {ρ : Sl} {S S' : List PO} {c : Nat} {fs : List PV} (hi : ∀ c fs S', evIt G it ρ S ≠ .exc c fs S') : evL G (.comp own p t it is) ρ S ≠ .exc c fs S' := fun z => by
  simp only [evL] at z
  cases e : evIt G it ρ S with
  | ok its S1 => rw [e] at z; exact lenOk_exc z
  | exc c fs S1 => exact hi _ _ _ e
  | stuck => rw [e] at z; cases z
theorem comp2_ns {own own2 : List Nat} {it it2 : PIt} {t2 : PT} {is2 : List PB} {ρ : Sl} {S : List PO} (h : evL G (.comp2 own p t it is own2 t2 it2 is2) ρ S ≠ .stuck) : evIt G it ρ S ≠ .stuck := fun z => h (by simp only [evL, z, Out.bind])
theorem comp2_nx {own own2 : List Nat} {it it2 : PIt} {t2 : PT} {is2 : List PB} {ρ : Sl} {S S' : List PO} {c : Nat} {fs : List PV} (hi : ∀ c fs S', evIt G it ρ S ≠ .exc c fs S') : evL G (.comp2 own p t it is own2 t2 it2 is2) ρ S ≠ .exc c fs S' := fun z => by
  simp only [evL] at z
  cases e : evIt G it ρ S with
  | ok its S1 => rw [e] at z; exact lenOk_exc z
  | exc c fs S1 => exact hi _ _ _ e
  | stuck => rw [e] at z; cases z
theorem dit_nset {k : DK} {i : Nat} {tg e : Expr} (hb : ditB x k i tg e = true) : noSet e = true := by
  cases e <;> first | rfl | (cases k <;> simp only [ditB] at hb <;> first | (cases hb; done) | (split at hb <;> cases hb))
/-- [e for x in d..] -/
theorem sl_compD {k : DK} {i : Nat} {iter : Expr} {own : List (Str × Nat)} {pos : Pos} (hh : x.hot = false) (hIt : ditB x k i tg iter = true) (hT : SG (blkX x scope) tg t) (hI : STs G d (blkX x scope) ifs (evTs G is)) (hE : SE G d (blkX x scope) elt (evE G p))
    (hb : blkC x.N x.sc scope own = true) (ht : ∀ i ∈ slT t, i ∈ own.map (·.2)) : SL G d x (.ListComp elt [⟨tg, iter, ifs, 0⟩] scope pos) (evL G (.comp (own.map (·.2)) p t (.dit k i) is)) := by
  refine SL.of_lk (i := i) (fun ρ S q => dit_has (comp_ns q)) (fun ρ S c fs S' => comp_nx fun _ _ _ => dit_noexc) fun Z X W m H S ρ σ Q n lk h => ?_
  obtain ⟨hc, _, _⟩ := n.ok.calm hh
  refine PE.j (pe_lc (g := gU X scope tg) (tt := tU X scope ifs) (te := eU X scope elt) hc n.ok.nd pi_j (blkOk_by (by rw [n.ok.hN, n.ok.hs]; exact hb)) (fun s H C cl fp => ⟨fun pins s1 σ H v u Q I r h => h s _ C cl fp pins s1 u I r⟩) (fun s H C cl fp => ⟨fun pins s1 σ H Q I h => h s _ C cl fp pins s1 I⟩)
    (fun s H C cl fp => ⟨fun pins s1 σ H Q I h => h s _ C cl fp pins s1 I⟩) (fun y => fold_none (dit_nset hIt) y)) ?_
  exact comp_core hh hT hI hE hb ht (dit_nset hIt) (fun R q => ji_dit hIt n lk q) n h
theorem sl_comp2D {k : DK} {i : Nat} {iter : Expr} {own : List (Str × Nat)} {vs1 : List Nat} {pos : Pos} {tg2 iter2 : Expr} {ifs2 : List Expr} {t2 : PT} {it2 : PIt} {is2 : List PB} (hh : x.hot = false) (hIt : ditB x k i tg iter = true) (hT : SG (blkX x scope) tg t) (hI : STs G d (blkX x scope) ifs (evTs G is))
    (hIt2 : SI G d (blkX x scope) tg2 iter2 (evIt G it2)) (hT2 : SG (blkX x scope) tg2 t2) (hI2 : STs G d (blkX x scope) ifs2 (evTs G is2)) (hE : SE G d (blkX x scope) elt (evE G p))
    (hb : blkC x.N x.sc scope own = true) (ht : ∀ i ∈ slT t, i ∈ own.map (·.2)) (ht2 : ∀ i ∈ slT t2, i ∈ vs1) (hv : ∀ i ∈ vs1, i ∈ own.map (·.2)) (hs2 : noSet iter2 = true) :
    SL G d x (.ListComp elt [⟨tg, iter, ifs, 0⟩, ⟨tg2, iter2, ifs2, 0⟩] scope pos) (evL G (.comp2 (own.map (·.2)) p t (.dit k i) is vs1 t2 it2 is2)) := by
  refine SL.of_lk (i := i) (fun ρ S q => dit_has (comp2_ns q)) (fun ρ S c fs S' => comp2_nx fun _ _ _ => dit_noexc) fun Z X W m H S ρ σ Q n lk h => ?_
  obtain ⟨hc, _, _⟩ := n.ok.calm hh
  refine PE.j (pe_lc2 (g := gU X scope tg) (tt := tU X scope ifs) (wi1 := iU X scope tg2 iter2) (g1 := gU X scope tg2) (tt1 := tU X scope ifs2) (te := eU X scope elt) hc n.ok.nd pi_j (blkOk_by (by rw [n.ok.hN, n.ok.hs]; exact hb)) hv (fun s H C cl fp => ⟨fun pins s1 σ H v u Q I r h => h s _ C cl fp pins s1 u I r⟩) (fun s H C cl fp => ⟨fun pins s1 σ H Q I h => h s _ C cl fp pins s1 I⟩)
    (fun s H C cl fp => ⟨fun pins s1 σ H R I h => h s _ C cl fp pins s1 I⟩) (fun s H C cl fp => ⟨fun pins s1 σ H v u Q I r h => h s _ C cl fp pins s1 u I r⟩) (fun s H C cl fp => ⟨fun pins s1 σ H Q I h => h s _ C cl fp pins s1 I⟩)
    (fun s H C cl fp => ⟨fun pins s1 σ H Q I h => h s _ C cl fp pins s1 I⟩) (fun y => fold_none (dit_nset hIt) y) (fun env y => fold_none hs2 y)) ?_
  exact comp2_core hh hT hI hIt2 hT2 hI2 hE hb ht ht2 hv (dit_nset hIt) hs2 (fun R q => ji_dit hIt n lk q) n h
end
/-! ### gathering, whatever is gathered -/
def TurnG (Z : St0) (F' : Addr → Prop) (Gt : List EV → List PO → List Addr → Hp → Prop) (f : EV → List PO → Out (List EV)) (B : V → Hp → (Hp → Prop) → Prop) : Prop :=
  ∀ (accv : List EV) (S : List PO) (m : List Addr) (H : Hp) (v : EV) (ys : List EV) (S3 : List PO) (y : V) (Nx : Hp → Prop), Gt accv S m H → Re (Z.up F') m H v y → f v S = .ok ys S3 → accv.length + ys.length ≤ lim →
    (∀ m' H', Gt (accv ++ ys) S3 m' H' → Nx H') → B y H Nx
theorem gatG_loop {Z : St0} {F' : Addr → Prop} {D : Addr} {Gt : List EV → List PO → List Addr → Hp → Prop} {its : Itm} {J : It} {f : EV → List PO → Out (List EV)} {B : V → Hp → (Hp → Prop) → Prop} {Qd : Hp → Prop} {zs accv0 : List EV} {S0 S2 : List PO} {m0 mI : List Addr} {H0 HI : Hp} (hB : TurnG Z F' Gt f B)
    (hS : ∀ accv S m H m' H' S', Gt accv S m H → Ext m H m' H' → Rel (Z.up F') m' S' H' → Gt accv S' m' H')
    (hI : ∀ accv S m H, Gt accv S m H → ExtO (fun a => a = D) mI HI m H ∧ Rel (Z.up F') m S H)
    (hR : ∀ m' H' S', ExtO (fun a => a = D) mI HI m' H' → Rel (Z.up F') m' S' H' → ∀ k, (∀ xs, its = .l xs → k ≤ xs.length) → (itAt S' its k = some none → J.stop k H') ∧ ∀ v, itAt S' its k = some (some v) → J.go k H' ∧ ∀ x H'', J.yld k H' x H'' → Ext m' H' m' H'' ∧ Rel (Z.up F') m' S' H'' ∧ Re (Z.up F') m' H'' v x)
    (hz : compI f its S0 = .ok zs S2) (hl : accv0.length + zs.length ≤ lim) (g0 : Gt accv0 S0 m0 H0) (hd : ∀ m' H', Gt (accv0 ++ zs) S2 m' H' → Qd H') :
    ∃ W : Nat → Nat → Hp → Prop, (∃ m, W 0 m H0) ∧ ∀ i m H, W i m H →
      (J.stop i H ∧ Qd H) ∨ (J.go i H ∧ ∃ Nx : Hp → Prop, (∀ H', Nx H' → ∃ m', m' < m ∧ W (i + 1) m' H') ∧ ∀ x H', J.yld i H x H' → B x H' Nx) := by
  have turn : ∀ {accv ys zs' : List EV} {S' S3 : List PO} {m' : List Addr} {H H' : Hp} {v : EV} {y : V} {Nx : Hp → Prop}, Gt accv S' m' H → Ext m' H m' H' → Rel (Z.up F') m' S' H' → Re (Z.up F') m' H' v y → f v S' = .ok ys S3 → accv ++ (ys ++ zs') = accv0 ++ zs → (∀ m2 H2, Gt (accv ++ ys) S3 m2 H2 → Nx H2) → B y H' Nx := fun {accv ys zs' S' S3 m' H H' v y Nx} g e4 R4 r4 e2 ea hx => by
    refine hB accv S' m' H' v ys S3 y _ (hS _ _ _ _ _ _ _ g e4 R4) r4 e2 ?_ hx
    have := congrArg List.length ea
    simp only [List.length_append] at this
    omega
  have fuel : ∀ {its : Itm}, (∀ xs, its ≠ .l xs) → compO f its lim 0 S0 = .ok zs S2 →
      (∀ m' H' S', ExtO (fun a => a = D) mI HI m' H' → Rel (Z.up F') m' S' H' → ∀ k, (∀ xs, its = .l xs → k ≤ xs.length) → (itAt S' its k = some none → J.stop k H') ∧ ∀ v, itAt S' its k = some (some v) → J.go k H' ∧ ∀ x H'', J.yld k H' x H'' → Ext m' H' m' H'' ∧ Rel (Z.up F') m' S' H'' ∧ Re (Z.up F') m' H'' v x) →
      ∃ W : Nat → Nat → Hp → Prop, (∃ m, W 0 m H0) ∧ ∀ i m H, W i m H →
      (J.stop i H ∧ Qd H) ∨ (J.go i H ∧ ∃ Nx : Hp → Prop, (∀ H', Nx H' → ∃ m', m' < m ∧ W (i + 1) m' H') ∧ ∀ x H', J.yld i H x H' → B x H' Nx) := fun {its} hno hz hR => by
    refine ⟨fun i m H => ∃ accv S' zs' m', Gt accv S' m' H ∧ compO f its m i S' = .ok zs' S2 ∧ accv ++ zs' = accv0 ++ zs, ⟨lim, accv0, S0, zs, m0, g0, hz, rfl⟩, ?_⟩
    rintro i m H ⟨accv, S', zs', m', g, ec, ea⟩
    cases m with
    | zero => simp only [compO] at ec; cases ec
    | succ m =>
      obtain ⟨g1, g2⟩ := hI _ _ _ _ g
      obtain ⟨h1, h2⟩ := hR m' H S' g1 g2 i (fun xs e => absurd e (hno xs))
      simp only [compO] at ec
      split at ec
      · rename_i e1
        cases ec
        rw [List.append_nil] at ea
        subst ea
        exact .inl ⟨h1 e1, hd _ _ g⟩
      · rename_i v e1
        obtain ⟨h3, h4⟩ := h2 v e1
        split at ec
        · rename_i ys S3 e2
          split at ec
          · rename_i zs3 S4 e3
            cases ec
            refine .inr ⟨h3, fun H' => ∃ m', Gt (accv ++ ys) S3 m' H', fun H' ⟨m2, g2⟩ => ⟨m, Nat.lt_succ_self _, accv ++ ys, S3, zs3, m2, g2, e3, by rw [List.append_assoc]; exact ea⟩, fun y H' q => ?_⟩
            obtain ⟨e4, R4, r4⟩ := h4 y H' q
            exact turn g e4 R4 r4 e2 ea fun m2 H2 g2 => ⟨m2, g2⟩
          · cases ec
        · cases ec
      · cases ec
  cases its with
  | l xs =>
    simp only [compI] at hz
    refine ⟨fun i m H => i ≤ xs.length ∧ m = xs.length - i ∧ ∃ accv S' zs' m', Gt accv S' m' H ∧ compL f (xs.drop i) S' = .ok zs' S2 ∧ accv ++ zs' = accv0 ++ zs, ⟨xs.length, Nat.zero_le _, rfl, accv0, S0, zs, m0, g0, hz, rfl⟩, ?_⟩
    rintro i m H ⟨hi, rfl, accv, S', zs', m', g, ec, ea⟩
    obtain ⟨g1, g2⟩ := hI _ _ _ _ g
    obtain ⟨h1, h2⟩ := hR m' H S' g1 g2 i (fun xs' e => by cases e; exact hi)
    by_cases hlt : i < xs.length
    · have hg : xs[i]? = some xs[i] := List.getElem?_eq_getElem hlt
      obtain ⟨h3, h4⟩ := h2 xs[i] (by simp only [itAt]; rw [hg])
      rw [List.drop_eq_getElem_cons hlt] at ec
      simp only [compL] at ec
      split at ec
      · rename_i ys S3 e2
        split at ec
        · rename_i zs3 S4 e3
          cases ec
          refine .inr ⟨h3, fun H' => ∃ m', Gt (accv ++ ys) S3 m' H', fun H' ⟨m2, g2⟩ => ⟨xs.length - (i + 1), by omega, hlt, rfl, accv ++ ys, S3, zs3, m2, g2, e3, by rw [List.append_assoc]; exact ea⟩, fun y H' q => ?_⟩
          obtain ⟨e4, R4, r4⟩ := h4 y H' q
          exact turn g e4 R4 r4 e2 ea fun m2 H2 g2 => ⟨m2, g2⟩
        · cases ec
      · cases ec
    · have e : i = xs.length := by omega
      subst e
      rw [List.drop_length] at ec
      simp only [compL] at ec
      cases ec
      rw [List.append_nil] at ea
      subst ea
      exact .inl ⟨h1 (by simp only [itAt]; rw [List.getElem?_eq_none (Nat.le_refl _)]), hd _ _ g⟩
  | o i => exact fuel (fun xs e => by cases e) hz hR
  | en i => exact fuel (fun xs e => by cases e) hz hR
  | zp a b => exact fuel (fun xs e => by cases e) hz hR
/-! ### {k: v for ..} -/
def fCd (G : Gm) (ρw : Sl) (k v : PX) (tg : PT) (ifs : List PB) : EV → List PO → Out (List EV) := fun x S => match bindT tg ρw x with
    | some ρ1 => match evTs G ifs ρ1 S with
      | .ok true S1 => (evE G k ρ1 S1).bind fun y S2 => (evE G v ρ1 S2).bind fun z S3 => match (asP y).bind keyOf with
        | some _ => match asP z with
          | some _ => .ok [y, z] S3
          | none => .stuck
        | none => .stuck
      | .ok false S1 => .ok [] S1
      | _ => .stuck
    | none => .stuck
/-- its dict -/
def evD (G : Gm) (own : List Nat) (k v : PX) (tg : PT) (it : PIt) (ifs : List PB) (ρ : Sl) (S : List PO) : Out (List Key × List PV) := (evIt G it ρ S).bind fun its S1 => match lenOk (compI (fCd G (wipeP ρ own) k v tg ifs) its S1) with
    | .ok zs S2 => match dstore [] [] zs with
      | some q => .ok q S2
      | none => .stuck
    | _ => .stuck
def RpD (Z : St0) (m : List Addr) (H : Hp) (q : List Key × List PV) (r : List Key × List V) : Prop := r.1 = q.1 ∧ q.1.length = r.2.length ∧ RpA Z m H q.2 r.2
def SD (G : Gm) (d : Nat) (x : Sx) (e : Expr) (f : Sl → List PO → Out (List Key × List PV)) : Prop :=
  ∀ (Z : St0) (X : Cx) (W : WX) (m : List Addr) (H : Hp) (S : List PO) (ρ : Sl) (σ : L2.St) (Q : VK), Now Z G d x X W m H S ρ σ →
    Post Z G W (RpD Z) m H σ (f ρ S) (fun r H' => ∀ p, H' p = none → Q (.ref p) (upd H' p (.dK (r.1.zip r.2)))) → jE X e σ H Q
theorem evE_dcomp (G : Gm) (m : Bool) (own : List Nat) (k v : PX) (tg : PT) (it : PIt) (ifs : List PB) (ρ : Sl) (S : List PO) :
    evE G (.dcomp m own k v tg it ifs) ρ S = (evD G own k v tg it ifs ρ S).bind fun q S2 => match m with
        | false => .ok (.p (.dct q.1 q.2)) S2
        | true => .ok (.ref S2.length) (S2 ++ [.dct q.1 q.2]) := by
  simp only [evE, evD]
  cases evIt G it ρ S with
  | ok its S1 =>
    simp only [Out.bind]
    show (match lenOk (compI (fCd G (wipeP ρ own) k v tg ifs) its S1) with
      | .ok zs S2 => match dstore [] [] zs with
        | some q => match m with
          | false => .ok (.p (.dct q.1 q.2)) S2
          | true => .ok (.ref S2.length) (S2 ++ [.dct q.1 q.2])
        | none => .stuck
      | _ => .stuck : Out EV) = _
    generalize lenOk _ = c
    cases c with
    | ok zs S2 =>
      simp only
      cases dstore [] [] zs <;> rfl
    | exc c fs S2 => rfl
    | stuck => rfl
  | exc c fs S1 => rfl
  | stuck => rfl
section
variable {G : Gm} {d : Nat} {x : Sx} {scope : Scope} {tg : Expr} {ifs : List Expr} {kx vx : Expr} {t : PT} {is : List PB} {kp vp : PX} {own : List Nat} {it : PIt}
theorem se_dcomp {e : Expr} {m : Bool} (ha : SD G d x e (evD G own kp vp t it is)) : SE G d x e (evE G (.dcomp m own kp vp t it is)) := by
  intro Z X W mm H S ρ σ Q n h
  rw [evE_dcomp] at h
  refine ha Z X W mm H S ρ σ Q n ?_
  cases e : evD G own kp vp t it is ρ S with
  | ok q S1 =>
    rw [e] at h
    intro m1 H1 r x1 R1 ⟨r1, r2, r3⟩ p hp
    rw [r1]
    simp only [Out.bind] at h
    cases m with
    | false => exact h m1 _ _ (x1.trans (Ext.alloc hp)) (R1.alloc hp) (.p (.dct (.inl upd_same) (fre_new R1 hp) r2 (r3.ext (Ext.alloc hp))))
    | true =>
      have hm : (m1 ++ [p])[S1.length]? = some p := by
        rw [← R1.len, List.getElem?_append_right (Nat.le_refl _), Nat.sub_self]; rfl
      exact h (m1 ++ [p]) _ _ (x1.trans (Ext.allocM hp)) (R1.allocM hp ⟨r.2, upd_same, r2, r3.ext (Ext.allocM hp)⟩) (.ref hm)
  | exc c fs S1 => rw [e] at h; exact h
  | stuck => rw [e] at h; exact h
theorem dstore_app : ∀ {ks : List Key} {vs : List PV} {zs ys : List EV} {k : Key} {w : PV} {y : PV}, zs.length % 2 = 0 → keyOf y = some k → dstore ks vs (zs ++ [.p y, .p w]) = (dstore ks vs zs).map fun q => putP q.1 q.2 k w
  | ks, vs, [], ys, k, w, y, _, hk => by simp [dstore, asP, hk]
  | ks, vs, [_], ys, k, w, y, h, hk => by simp at h
  | ks, vs, a :: b :: r, ys, k, w, y, h, hk => by
    simp only [List.cons_append, dstore]
    cases (asP a).bind keyOf with
    | none => rfl
    | some k2 =>
      simp only
      cases asP b with
      | none => rfl
      | some w2 => exact dstore_app (ys := ys) (by simp only [List.length_cons] at h; omega) hk
def Dgt (Z : St0) (F' : Addr → Prop) (m1 : List Addr) (H1 : Hp) (D : Addr) (ρw : Sl) (σw : L2.St) : List EV → List PO → List Addr → Hp → Prop := fun accv S m H =>
  ExtO (fun a => a = D) m1 H1 m H ∧ Rel (Z.up F') m S H ∧ RpE (Z.up F') m H ρw σw ∧ accv.length % 2 = 0 ∧ ∃ ks vs us, dstore [] [] accv = some (ks, vs) ∧ ks.length ≤ accv.length ∧ H D = some (.dK (ks.zip us)) ∧ ks.length = us.length ∧ RpA (Z.up F') m H vs us
theorem Dgt.step {Z : St0} {F' : Addr → Prop} {m1 : List Addr} {H1 : Hp} {D : Addr} {ρw : Sl} {σw : L2.St} {accv : List EV} {S S' : List PO} {m m' : List Addr} {H H' : Hp} (hF : F' D) (g : Dgt Z F' m1 H1 D ρw σw accv S m H) (e : Ext m H m' H') (R : Rel (Z.up F') m' S' H') : Dgt Z F' m1 H1 D ρw σw accv S' m' H' := by
  obtain ⟨g1, g2, g3, g0, ks, vs, us, g4, g5, g6, g7, g8⟩ := g
  exact ⟨g1.trans (.of e), R, g3.ext e, g0, ks, vs, us, g4, g5, e.keep D _ g6 fun q => g2.dj D q hF, g7, g8.ext e⟩
theorem putP_len (ks : List Key) (vs : List PV) (k : Key) (w : PV) : (putP ks vs k w).1.length ≤ ks.length + 1 := by
  unfold putP
  split <;> simp
theorem Dgt.add {Z : St0} {F' : Addr → Prop} {m1 : List Addr} {H1 : Hp} {D : Addr} {ρw : Sl} {σw : L2.St} {accv : List EV} {S : List PO} {m : List Addr} {H : Hp} {y w : PV} {k : Key} {z : V} (hF : F' D) (g : Dgt Z F' m1 H1 D ρw σw accv S m H) (hl : accv.length ≤ lim) (hk : keyOf y = some k) (r : Rp (Z.up F') m H w z) :
    ∃ kvs, H D = some (.dK kvs) ∧ kvs.length < sizeLine ∧ Dgt Z F' m1 H1 D ρw σw (accv ++ [.p y, .p w]) S m (upd H D (.dK (putK kvs k z))) := by
  obtain ⟨g1, g2, g3, g0, ks, vs, us, g4, g5, g6, g7, g8⟩ := g
  have hm : D ∉ m := fun q => g2.dj D q hF
  obtain ⟨us', h1, h2, h3⟩ := put_rel k r g8 g7
  have hs : sizeLine = 16777216 := sizeLine_eq
  have hlim : lim = 1000000 := rfl
  refine ⟨_, g6, by rw [List.length_zip]; omega, extO_upd (ntk g6) g1, upd_rel (ntk g6) hF g2, ⟨g3.1, fun i v h => let ⟨u, a, b⟩ := g3.2 i v h; ⟨u, a, upd_re (ntk g6) hF hm b⟩⟩, by simp only [List.length_append, List.length_cons, List.length_nil]; omega, (putP ks vs k w).1, (putP ks vs k w).2, us', ?_, ?_, ?_, h2, ?_⟩
  · rw [dstore_app (ys := []) g0 hk, g4]; rfl
  · have := putP_len ks vs k w
    simp only [List.length_append, List.length_cons, List.length_nil]; omega
  · rw [upd_same, h1]
  · exact off_rpA (ntk g6) hF upd_off h3
/-- what a turn asks -/
def bCd (X : Cx) (scope : Scope) (tg : Expr) (ifs : List Expr) (kx vx : Expr) (D : Addr) (vs : List Nat) (σ : L2.St) : V → Hp → (Hp → Prop) → Prop := fun y H Nx =>
  gU X scope tg y (wipe σ vs) H fun σ2 H2 => wipe σ2 vs = wipe σ vs ∧ tU X scope ifs σ2 H2 fun b H3 =>
    if b = true then eU X scope kx σ2 H3 fun y H4 => eU X scope vx σ2 H4 fun z H5 => ∃ kvs k, y = kV k ∧ H5 D = some (.dK kvs) ∧ kvs.length < sizeLine ∧ Nx (upd H5 D (.dK (putK kvs k z))) else Nx H3
theorem turn_Cd {Z : St0} {X : Cx} {F' : Addr → Prop} {m1 : List Addr} {H1 : Hp} {D : Addr} {ρ : Sl} {σ : L2.St} {vs : List Nat} (ok : XOk Z G d x X) (hh : x.hot = false) (hF : F' D)
    (hT : SG (blkX x scope) tg t) (hI : STs G d (blkX x scope) ifs (evTs G is)) (hK : SE G d (blkX x scope) kx (evE G kp)) (hV : SE G d (blkX x scope) vx (evE G vp)) (ht : ∀ i ∈ slT t, i ∈ vs) :
    TurnG Z F' (Dgt Z F' m1 H1 D (wipeP ρ vs) (wipe σ vs)) (fCd G (wipeP ρ vs) kp vp t is) (bCd X scope tg ifs kx vx D vs σ) := by
  intro accv S m H v ys S3 y Nx g r hf hl hx
  unfold fCd at hf
  split at hf
  · rename_i ρ1 e1
    intro s H0 C cl fp
    have okb : XOk (Z.up F') G d (blkX x scope) (X.blk s H0 scope (compEnvC scope cl C X.env) fp) := xok_blk (ok.up F') hh s H0 C cl fp
    refine hT (Z.up F') G d _ m H _ ρ1 _ v y _ okb g.2.2.1 r e1 fun σ2 env2 hw => ⟨(hw vs ht).trans wipe_wipe, ?_⟩
    intro s H0 C cl fp
    have n2 : Now (Z.up F') G d (blkX x scope) (X.blk s H0 scope (compEnvC scope cl C X.env) fp) (fun _ _ _ _ => False) m H S ρ1 σ2 := now_blk (ok.up F') hh s H0 C cl fp g.2.1 env2
    refine hI (Z.up F') _ _ m H S ρ1 σ2 _ n2 ?_
    split at hf
    · rename_i S1 e2
      rw [e2]
      intro m2 H2 u x2 R2 r2
      cases r2
      have g2 := g.step hF x2 R2
      rw [if_pos rfl]
      intro s H0 C cl fp
      have n3 : Now (Z.up F') G d (blkX x scope) (X.blk s H0 scope (compEnvC scope cl C X.env) fp) (fun _ _ _ _ => False) m2 H2 S1 ρ1 σ2 := now_blk (ok.up F') hh s H0 C cl fp R2 (env2.ext x2)
      refine hK (Z.up F') _ _ m2 H2 S1 ρ1 σ2 _ n3 ?_
      cases e3 : evE G kp ρ1 S1 with
      | ok w S4 =>
        rw [e3] at hf
        simp only [Out.bind] at hf
        intro m3 H3 uk x3 R3 r3
        have g3 := g2.step hF x3 R3
        intro s H0 C cl fp
        have n4 : Now (Z.up F') G d (blkX x scope) (X.blk s H0 scope (compEnvC scope cl C X.env) fp) (fun _ _ _ _ => False) m3 H3 S4 ρ1 σ2 := now_blk (ok.up F') hh s H0 C cl fp R3 ((env2.ext x2).ext x3)
        refine hV (Z.up F') _ _ m3 H3 S4 ρ1 σ2 _ n4 ?_
        cases e4 : evE G vp ρ1 S4 with
        | ok z S5 =>
          rw [e4] at hf
          simp only at hf
          cases hk : (asP w).bind keyOf with
          | none => rw [hk] at hf; cases hf
          | some k =>
            rw [hk] at hf
            simp only at hf
            cases hz : asP z with
            | none => rw [hz] at hf; cases hf
            | some z0 =>
              rw [hz] at hf
              cases hf
              intro m4 H4 uz x4 R4 r4
              have g4 := g3.step hF x4 R4
              cases w with
              | ref i => cases hk
              | p w0 =>
                cases z with
                | ref i => cases hz
                | p z1 =>
                  cases hz
                  have hk : keyOf w0 = some k := hk
                  have ek := keyOf_rel (r3.ext x4 |> fun r => match r with | .p r => Rs.p r) hk
                  cases r4 with
                  | p r4 =>
                    obtain ⟨kvs, k1, k2, k3⟩ := g4.add hF (by simp only [List.length_cons, List.length_nil] at hl; omega) hk r4
                    exact ⟨kvs, k, ek, k1, k2, hx _ _ k3⟩
        | exc c fs S5 => rw [e4] at hf; cases hf
        | stuck => rw [e4] at hf; cases hf
      | exc c fs S4 => rw [e3] at hf; cases hf
      | stuck => rw [e3] at hf; cases hf
    · rename_i S1 e2
      rw [e2]
      intro m2 H2 u x2 R2 r2
      cases r2
      cases hf
      rw [if_neg (by decide)]
      have g2 := g.step hF x2 R2
      refine hx m2 H2 ?_
      rw [List.append_nil]
      exact g2
    · cases hf
  · cases hf
/-- what it hands back -/
theorem dgt_end {Z : St0} {m1 m' : List Addr} {H1 H' : Hp} {S2 : List PO} {D : Addr} {ρw : Sl} {σw : L2.St} {zs : List EV} (g : Dgt Z (fun a => Z.F a ∨ a = D) m1 H1 D ρw σw zs S2 m' H') (hn : H1 D = none)
    (hZ : ¬ Z.F D) {q : List Key × List PV} (hq : dstore [] [] zs = some q) : ∃ Hb us, Hb D = none ∧ H' = upd Hb D (.dK (q.1.zip us)) ∧ Ext m1 H1 m' Hb ∧ Rel Z m' S2 Hb ∧ q.1.length = us.length ∧ RpA Z m' Hb q.2 us := by
  obtain ⟨g1, g2, g3, g0, ks, vs, us, g4, g5, g6, g7, g8⟩ := g
  rw [hq] at g4
  cases g4
  have hFD : (Z.up fun a => Z.F a ∨ a = D).F D := .inr rfl
  have hm : D ∉ m' := fun q => g2.dj D q hFD
  generalize hb : (fun b => if b = D then none else H' b : Hp) = Hb
  have he : ∀ a, a ≠ D → Hb a = H' a := fun a h => by rw [← hb]; exact if_neg h
  have hD : Hb D = none := by rw [← hb]; exact if_pos rfl
  refine ⟨Hb, us, hD, ?_, ?_, ?_, g7, ?_⟩
  · funext a
    by_cases h : a = D
    · rw [h, upd_same, g6]
    · rw [upd_ne h, he a h]
  · refine ⟨g1.pre, fun a o h n => ?_, fun a h => ?_, g1.new, fun a xs h => ?_⟩
    · rw [he a (ne_of_none h hn)]; exact g1.keep a o h n (ne_of_none h hn)
    · rw [he a (by rintro rfl; exact h hn)]; exact g1.alive a h
    · rw [he a (ne_of_none h hn)]; exact g1.tp a xs h
  · refine ⟨g2.len, g2.nd, fun i a o h1 h2 => ?_, fun a f => ?_, fun a h f => g2.dj a h (.inl f)⟩
    · exact down_rpO (F' := fun a => Z.F a ∨ a = D) (fun a f => .inl f) (off_rpO (ntk g6) hFD he (fun e => hm (e ▸ List.mem_of_getElem? h1)) (g2.ob i a o h1 h2))
    · rw [he a (by rintro rfl; exact hZ f)]
      exact g2.fr a (.inl f)
  · exact RpA.shift (fun a f => ⟨fun q => f.1 (.inl q), f.2⟩) (off_rpA (ntk g6) hFD he g8)
theorem dcomp_core {iter : Expr} {own : List (Str × Nat)} (hh : x.hot = false) (hT : SG (blkX x scope) tg t) (hI : STs G d (blkX x scope) ifs (evTs G is)) (hK : SE G d (blkX x scope) kx (evE G kp)) (hV : SE G d (blkX x scope) vx (evE G vp))
    (ht : ∀ i ∈ slT t, i ∈ own.map (·.2))
    {Z : St0} {X : Cx} {W : WX} {m : List Addr} {H : Hp} {S : List PO} {ρ : Sl} {σ : L2.St} {Q : VK} (hIt : ∀ R, Post Z G W (RI Z) m H σ (evIt G it ρ S) R → jI X tg iter σ H R) (n : Now Z G d x X W m H S ρ σ)
    (h : Post Z G W (RpD Z) m H σ (evD G (own.map (·.2)) kp vp t it is ρ S) (fun r H' => ∀ p, H' p = none → Q (.ref p) (upd H' p (.dK (r.1.zip r.2))))) :
    tDc (jI X tg iter) (gU X scope tg) (tU X scope ifs) (eU X scope kx) (eU X scope vx) (own.map (·.2)) σ H Q := by
  unfold evD at h
  refine hIt _ (Post.bind h fun its S1 m1 H1 J e1 x1 R1 r1 q1 => ?_)
  intro D hn
  have env1 := n.env.ext x1
  cases e2 : lenOk (compI (fCd G (wipeP ρ (own.map (·.2))) kp vp t is) its S1) with
  | ok zs S2 =>
    rw [e2] at q1
    simp only at q1
    cases hq : dstore [] [] zs with
    | none => rw [hq] at q1; exact q1.elim
    | some q =>
      rw [hq] at q1
      obtain ⟨e3, e4⟩ := lenOk_ok e2
      have hZ : ¬ Z.F D := fun f => R1.fr D f hn
      have wd : Wd Z H1 (fun a => Z.F a ∨ a = D) := ⟨fun a f => .inl f, fun a f => f.imp id fun e => by rw [e]; exact hn⟩
      refine gatG_loop (Z := Z) (F' := fun a => Z.F a ∨ a = D) (D := D) (mI := m1) (HI := H1) (Gt := Dgt Z (fun a => Z.F a ∨ a = D) m1 H1 D (wipeP ρ (own.map (·.2))) (wipe σ (own.map (·.2)))) (B := bCd X scope tg ifs kx vx D (own.map (·.2)) σ) (turn_Cd n.ok hh (.inr rfl) hT hI hK hV ht)
        (fun _ _ _ _ _ _ _ g e R => g.step (.inr rfl) e R) (fun _ _ _ _ g => ⟨g.1, g.2.1⟩) (fun m' H' S' e R' => r1 _ _ wd (fun a q => .inr q) m' H' S' e R') e3 (accv0 := []) (by simpa using e4) ?_ (fun m' H' g => ?_) (m0 := m1)
      · exact ⟨.of (Ext.alloc hn), rel_up R1 hn fun a => Iff.rfl, ((wd_env wd env1).ext (Ext.alloc hn)).wipe _, rfl, [], [], [], rfl, Nat.le_refl _, upd_same, rfl, .nil⟩
      · rw [List.nil_append] at g
        obtain ⟨Hb, us, b1, rfl, b3, b4, b5, b6⟩ := dgt_end g hn hZ hq
        exact q1 m' Hb (q.1, us) b3 b4 ⟨rfl, b5, b6⟩ D b1
  | exc c fs S2 => exact (lenOk_exc e2).elim
  | stuck => rw [e2] at q1; exact q1.elim
theorem sd_comp {iter : Expr} {own : List (Str × Nat)} {pos : Pos} (hh : x.hot = false) (hIt : SI G d x tg iter (evIt G it)) (hT : SG (blkX x scope) tg t) (hI : STs G d (blkX x scope) ifs (evTs G is)) (hK : SE G d (blkX x scope) kx (evE G kp)) (hV : SE G d (blkX x scope) vx (evE G vp))
    (hb : blkC x.N x.sc scope own = true) (ht : ∀ i ∈ slT t, i ∈ own.map (·.2)) (hs : noSet iter = true) : SD G d x (.DictComp kx vx [⟨tg, iter, ifs, 0⟩] scope pos) (evD G (own.map (·.2)) kp vp t it is) := by
  intro Z X W m H S ρ σ Q n h
  obtain ⟨hc, _, _⟩ := n.ok.calm hh
  refine PE.j (pe_dc (g := gU X scope tg) (tt := tU X scope ifs) (tk := eU X scope kx) (tv := eU X scope vx) hc n.ok.nd pi_j (blkOk_by (by rw [n.ok.hN, n.ok.hs]; exact hb)) (fun s H C cl fp => ⟨fun pins s1 σ H v u Q I r h => h s _ C cl fp pins s1 u I r⟩) (fun s H C cl fp => ⟨fun pins s1 σ H Q I h => h s _ C cl fp pins s1 I⟩)
    (fun s H C cl fp => ⟨fun pins s1 σ H Q I h => h s _ C cl fp pins s1 I⟩) (fun s H C cl fp => ⟨fun pins s1 σ H Q I h => h s _ C cl fp pins s1 I⟩) (fun y => fold_none hs y)) ?_
  exact dcomp_core hh hT hI hK hV ht (fun R q => hIt Z X W m H S ρ σ R n q) n h
theorem evD_ns {own : List Nat} {ρ : Sl} {S : List PO} (h : evD G own kp vp t it is ρ S ≠ .stuck) : evIt G it ρ S ≠ .stuck := fun z => h (by simp only [evD, z, Out.bind])
theorem evD_nx {own : List Nat} {ρ : Sl} {S S' : List PO} {c : Nat} {fs : List PV} (hi : ∀ c fs S', evIt G it ρ S ≠ .exc c fs S') : evD G own kp vp t it is ρ S ≠ .exc c fs S' := fun z => by
  simp only [evD] at z
  cases e : evIt G it ρ S with
  | ok its S1 =>
    rw [e] at z
    simp only [Out.bind] at z
    split at z
    · split at z <;> cases z
    · cases z
  | exc c fs S1 => exact hi _ _ _ e
  | stuck => rw [e] at z; cases z
theorem SD.of_lk {i : Nat} {e : Expr} {f : Sl → List PO → Out (List Key × List PV)} (hf : ∀ ρ S, f ρ S ≠ .stuck → hasD i ρ) (hx : ∀ ρ S c fs S', f ρ S ≠ .exc c fs S')
    (h : ∀ (Z : St0) (X : Cx) (W : WX) (m : List Addr) (H : Hp) (S : List PO) (ρ : Sl) (σ : L2.St) (Q : VK), Now Z G d x X W m H S ρ σ → LkAt i m σ H →
      Post Z G W (RpD Z) m H σ (f ρ S) (fun r H' => ∀ p, H' p = none → Q (.ref p) (upd H' p (.dK (r.1.zip r.2)))) → jE X e σ H Q) : SD G d x e f := by
  intro Z X W m H S ρ σ Q n q
  have hd : hasD i ρ := hf ρ S fun z => by rw [z] at q; exact q
  obtain ⟨a, u, hσ, hu, hr, hm⟩ := hasD_rel n.env hd
  rcases hr with hr | ⟨o, hr⟩
  · refine PE.j (pe_lock pe_j) ⟨a, u, hr, by cases u <;> first | trivial | exact hu.elim, fun od => ?_⟩
    refine h Z X W m (upd H a (.frz od u)) S ρ σ _ (n.lk hu (Lkd.to hr) hm) ⟨a, od, u, hσ, hu, upd_same, hm⟩ ?_
    cases e1 : f ρ S with
    | ok vs S1 =>
      rw [e1] at q
      intro m' H' r x' R' ⟨r1, r2, r3⟩ p hp
      obtain ⟨h1, h2, h3⟩ := lk_ext hr hm x'
      have L := Lkd.back h1
      have hpa : a ≠ p := fun z => by rw [← z, h1] at hp; cases hp
      refine ⟨by rw [upd_ne hpa]; exact h1, ?_⟩
      have hc : upd (upd H' p (.dK (r.1.zip r.2))) a u = upd (upd H' a u) p (.dK (r.1.zip r.2)) := by
        funext b
        by_cases z1 : b = a
        · subst z1; rw [upd_same, upd_ne hpa, upd_same]
        · rw [upd_ne z1]
          by_cases z2 : b = p
          · subst z2; rw [upd_same, upd_same]
          · rw [upd_ne z2, upd_ne z2, upd_ne z1]
      rw [hc]
      exact q m' (upd H' a u) r h3 (lk_rel hu L h2 R') ⟨r1, r2, lk_rpA hu L r3⟩ p (by rw [upd_ne (Ne.symm hpa)]; exact hp)
    | exc c fs S1 => exact absurd e1 (hx _ _ _ _ _)
    | stuck => rw [e1] at q; exact q.elim
  · exact h Z X W m H S ρ σ Q n ⟨a, o, u, hσ, hu, hr, hm⟩ q
theorem sd_compD {k : DK} {i : Nat} {iter : Expr} {own : List (Str × Nat)} {pos : Pos} (hh : x.hot = false) (hIt : ditB x k i tg iter = true) (hT : SG (blkX x scope) tg t) (hI : STs G d (blkX x scope) ifs (evTs G is)) (hK : SE G d (blkX x scope) kx (evE G kp)) (hV : SE G d (blkX x scope) vx (evE G vp))
    (hb : blkC x.N x.sc scope own = true) (ht : ∀ i ∈ slT t, i ∈ own.map (·.2)) : SD G d x (.DictComp kx vx [⟨tg, iter, ifs, 0⟩] scope pos) (evD G (own.map (·.2)) kp vp t (.dit k i) is) := by
  refine SD.of_lk (i := i) (fun ρ S q => dit_has (evD_ns q)) (fun ρ S c fs S' => evD_nx fun _ _ _ => dit_noexc) fun Z X W m H S ρ σ Q n lk h => ?_
  obtain ⟨hc, _, _⟩ := n.ok.calm hh
  refine PE.j (pe_dc (g := gU X scope tg) (tt := tU X scope ifs) (tk := eU X scope kx) (tv := eU X scope vx) hc n.ok.nd pi_j (blkOk_by (by rw [n.ok.hN, n.ok.hs]; exact hb)) (fun s H C cl fp => ⟨fun pins s1 σ H v u Q I r h => h s _ C cl fp pins s1 u I r⟩) (fun s H C cl fp => ⟨fun pins s1 σ H Q I h => h s _ C cl fp pins s1 I⟩)
    (fun s H C cl fp => ⟨fun pins s1 σ H Q I h => h s _ C cl fp pins s1 I⟩) (fun s H C cl fp => ⟨fun pins s1 σ H Q I h => h s _ C cl fp pins s1 I⟩) (fun y => fold_none (dit_nset hIt) y)) ?_
  exact dcomp_core hh hT hI hK hV ht (fun R q => ji_dit hIt n lk q) n h
end
end Rv
end PartRvKb
section PartRvKc
set_option Elab.async false
set_option linter.all false
set_option maxRecDepth 100000
set_option autoImplicit false
/-! Rv, part Kc: comprehensions that make a dict with tuples as keys. -/
namespace Rv
open PySem PySem.Spec PyProof.Rows L2
section
variable {X : Cx}
/-- one turn that fills the dict D -/
def fillT (g : TG) (tt : TT) (tk tv : TE) (vs : List Nat) (σ : L2.St) (D : Addr) : V → Hp → (Hp → Prop) → Prop := fun x H Nx =>
  g x (wipe σ vs) H fun σ2 H2 => wipe σ2 vs = wipe σ vs ∧ tt σ2 H2 fun b H3 =>
    if b = true then tk σ2 H3 fun y H4 => tv σ2 H4 fun z H5 => ∃ kvs k c, y = .ref c ∧ H5 c = some (.tup (k.map kV)) ∧ H5 D = some (.dT kvs) ∧ kvs.length < sizeLine ∧ Nx (upd H5 D (.dT (putK kvs k z))) else Nx H3
def tDcT (wi : TI) (g : TG) (tt : TT) (tk tv : TE) (vs : List Nat) : TE := fun σ H Q => wi σ H fun J H1 => ∀ D, H1 D = none → ∃ W : Nat → Nat → Hp → Prop, (∃ n, W 0 n (upd H1 D (.dT []))) ∧
  ∀ i n H, W i n H → (J.stop i H ∧ Q (.ref D) H) ∨ (J.go i H ∧ ∃ Nx : Hp → Prop, (∀ H', Nx H' → ∃ n', n' < n ∧ W (i + 1) n' H') ∧ ∀ x H', J.yld i H x H' → fillT g tt tk tv vs σ D x H' Nx)
theorem put_dT {pins : List (Addr × Obj)} {σ : L2.St} {H : Hp} {s : Shared} {E : Value → Shared → Prop} {D c : Addr} {kvs : List (List Key × V)} {k : List Key} {v : V} {u r : Value} {Q : Unit → Shared → Prop} (hu : X.A.units < cLine) (I : Inv X pins σ H s)
    (hD : H D = some (.dT kvs)) (hc : H c = some (.tup (k.map kV))) (hz : kvs.length < sizeLine) (ru : RelV (.ref c) u) (rv : RelV v r) (h : ∀ s', Inv X pins σ (upd H D (.dT (putK kvs k v))) s' → Q () s') : wpAny (model X.prog X.w) X.A (dictSet D u r) Q E s := by
  cases ru
  obtain ⟨z, lo, xs, rel, dd⟩ := dt_of I.hok hD
  have zx : xs.length ≤ sizeLine := Paired.length rel ▸ z
  have zl : (putK kvs k v).length ≤ sizeLine := Nat.le_trans (length_putK kvs k v) hz
  refine wpAny_dictSet_heap (hsz := zx) hu (key_of I.hok hc) dd fun h1 d1 sb => h _ ?_
  obtain ⟨q, es, ep, w1, w2, w3, w4, _, w5⟩ := d1
  have kt : KT (upd H D (.dT (putK kvs k v))) (putK kvs k v) (storedH xs k c r) := (rel.put k hc rv).keeps fun b ys eb => by
    rw [upd_ne (fun e => by rw [e, hD] at eb; cases eb)]; exact eb
  exact d_write I (by rw [hD]; exact True.intro) sb ⟨q, w1⟩ ⟨zl, lo, _, kt, q, es, ep, w1, w2, w3, w4, w5⟩
/-- the comprehension's run -/
theorem run_dT {pins : List (Addr × Obj)} {s0 : Shared} {σ : L2.St} {H : Hp} {Q : VK} {ke ve te ie : Expr} {ts : List Expr} {sc : Scope} {ow : List (Str × Nat)} {po po' : Pos} {wi : TI} {g : TG} {tt : TT} {tk tv : TE} {us : Option (Value → Sem Unit)} {Qf : Value → Shared → Prop}
    (hu : X.A.units < cLine) (cm : X.calm = true) (nd : X.N.Nodup) (I : Inv X pins σ H s0) (wI : PI X te ie wi) (bk : BlkOk X.N X.env.scope sc ow) (wG : ∀ s H C cl fp, PG (X.blk s H sc (compEnvC sc cl C X.env) fp) te g) (wT : ∀ s H C cl fp, PTs (X.blk s H sc (compEnvC sc cl C X.env) fp) ts tt)
    (wK : ∀ s H C cl fp, PE (X.blk s H sc (compEnvC sc cl C X.env) fp) ke tk) (wV : ∀ s H C cl fp, PE (X.blk s H sc (compEnvC sc cl C X.env) fp) ve tv) (fs : ∀ x, foldedSetIterable ie X.env x = pure x) (h : tDcT wi g tt tk tv (ow.map (·.2)) σ H Q)
    (fin : ∀ D C s' n H', Inv X pins σ H' s' → Q (.ref D) H' → s'.heap.Ns C n → FpOk X pins H' C → compPost (model X.prog X.w) X.A X.xe us Qf (.ref D) C (.ok .next) s') :
    wpAny (model X.prog X.w) X.A (comprehension (.DictComp ke ve [⟨te, ie, ts, 0⟩] sc po) sc X.env po' newDict false (eval ie X.env) us) Qf X.xe s0 := by
  have cells : ∀ y ∈ sc.names, y.2 = .free → ∃ c, X.env.cells.lookup y.1 = some c := fun y hy e => (bk.free y hy e).elim (fun k => I.ok.has _ (.inl k)) fun k => I.ok.has _ (.inr k)
  have oneF : ∀ y ∈ sc.names, y.2 = .local → sc.names.lookup y.1 = some .local := fun y hy e => by rw [bk.uniq y hy, e]
  refine wpAny_comprehension_free (use := us) rfl fs (closure_ok cells) bk.kind oneF (thn (wI.run pins s0 σ H _ I h) fun v0 t1 h1 => thn h1 fun v1 t2 h2 => ?_)
  obtain ⟨it, fp, tn, J, H2, rfl, I2, T, st2, f2, body⟩ := h2
  refine wpAny_newObj_type (newEnv_comp ?_)
  -- the new dict D
  have fresh : H2 t2.heap.objs.size = none := I2.hok.fresh (Nat.le_refl _)
  obtain ⟨W, ⟨n0, w0⟩, turns⟩ := body _ fresh
  have I3 : Inv X pins σ (upd H2 t2.heap.objs.size (.dT [])) { t2 with heap := t2.heap.push { cls := .type "dict", data := .dict #[] } } :=
    I2.laid (t' := t2.toks) (fun _ _ e => Heap.get?_push_of_some _ e) (Nat.le_refl _) (dt_empty t2.heap I2.big)
  have low : ∀ b ∈ fp, b < t2.heap.objs.size := fun b hb => let ⟨_, e, _⟩ := T.obj _ _ st2 b hb; Heap.lt_size e
  generalize eD : t2.heap.objs.size = D at fresh w0 turns I3 low
  generalize e3 : ({ t2 with heap := t2.heap.push { cls := .type "dict", data := .dict #[] } } : Shared) = t3 at I3
  have p3 : t3.heap = t2.heap.push { cls := .type "dict", data := .dict #[] } := by rw [← e3]
  have sz3 : t3.heap.objs.size = D + 1 := by rw [p3, Heap.size_push, eD]
  generalize eH : upd H2 D (.dT []) = H3 at I3 w0
  have f3 : ∀ b ∈ fp, FpOk X pins H3 b ∧ b < t3.heap.objs.size := fun b hb => by
    have lb := low b hb
    refine ⟨⟨?_, (f2 b hb).2⟩, by rw [sz3]; exact Nat.lt_succ_of_lt lb⟩
    rw [← eH, upd_ne (Nat.ne_of_lt lb)]
    exact (f2 b hb).1
  have st3 : tn 0 t3.heap := T.keep _ _ _ st2 fun b _ o e => by rw [p3]; exact Heap.get?_push_of_some _ e
  have I4 := block_start I3 bk nd f3
  show codeAny _ _ (.compStart (.DictComp ke ve [⟨te, ie, ts, 0⟩] sc po) 0 (.ref it) (.ref D) (compEnvC sc (cellsFrom (t3.heap.objs.size + 1) sc.names (cloFrom X.env.cells sc.names [])) t3.heap.objs.size X.env)) (compPost (model X.prog X.w) X.A X.xe us Qf (.ref D) t3.heap.objs.size) { t3 with heap := pushCells (t3.heap.push { cls := .type "dict", data := .dict #[] }) sc.names }
  have gG := wG t3 H3 t3.heap.objs.size (cellsFrom (t3.heap.objs.size + 1) sc.names (cloFrom X.env.cells sc.names [])) fp
  have gT := wT t3 H3 t3.heap.objs.size (cellsFrom (t3.heap.objs.size + 1) sc.names (cloFrom X.env.cells sc.names [])) fp
  have gK := wK t3 H3 t3.heap.objs.size (cellsFrom (t3.heap.objs.size + 1) sc.names (cloFrom X.env.cells sc.names [])) fp
  have gV := wV t3 H3 t3.heap.objs.size (cellsFrom (t3.heap.objs.size + 1) sc.names (cloFrom X.env.cells sc.names [])) fp
  generalize eE : compEnvC sc (cellsFrom (t3.heap.objs.size + 1) sc.names (cloFrom X.env.cells sc.names [])) t3.heap.objs.size X.env = en at I4 gG gT gK gV ⊢
  have lE : en.locals = t3.heap.objs.size := by rw [← eE]; rfl
  generalize e4 : ({ t3 with heap := pushCells (t3.heap.push { cls := .type "dict", data := .dict #[] }) sc.names } : Shared) = t4 at I4 ⊢
  have st4 : tn 0 t4.heap := T.keep _ _ _ st3 fun b _ o e => by rw [← e4]; exact pushCells_keeps _ _ _ _ (Heap.get?_push_of_some _ e)
  have okFp : ∀ {σ' : L2.St} {H' : Hp} {t : Shared}, Inv (X.blk t3 H3 sc en fp) [] σ' H' t → (∀ b ∈ fp, H' b = none) → ∀ b ∈ fp, FpOk (X.blk t3 H3 sc en fp) [] H' b := fun {σ' H' t} J' nn b hb =>
    ⟨nn b hb, (J'.ok.exf b hb).1, J'.ok.exfs b hb, .inl hb, fun x c e => (J'.ok.exf b hb).2 x c e, fun p hp => absurd (show p ∈ ([] : List (Addr × Obj)) ++ [] from hp) (by simp)⟩
  refine (fun (lp : codeAny (model X.prog X.w) X.A (.compLoop (.DictComp ke ve [⟨te, ie, ts, 0⟩] sc po) 0 (.ref it) (.ref D) en) (compPost (model X.prog X.w) X.A X.xe us Qf (.ref D) t3.heap.objs.size) t4) => codeAny_compStart_dict lp (T.self X.A 0 _ _ _ st4 lp)) ?_
  refine compLoop_anyD (fun n t => ∃ i H', Inv (X.blk t3 H3 sc en fp) [] (wipe σ (ow.map (·.2))) H' t ∧ tn i t.heap ∧ (∀ b ∈ fp, H' b = none) ∧ W i n H') ?_ n0 ⟨0, H3, I4, st4, fun b hb => (f3 b hb).1.1, w0⟩
  rintro n t5 ⟨i, H5, I5, st5, n5, w5⟩
  rcases turns i n H5 w5 with ⟨stop, q0⟩ | ⟨go, Nx, nxt, step⟩
  · refine thnF (T.done (X.blk t3 H3 sc en fp) rfl rfl rfl cm i [] t5 _ H5 (fun _ _ => False) I5 (okFp I5 n5) st5 stop) fun r t6 ⟨hr, I6⟩ => ?_
    subst hr
    have I7 : Inv X pins σ H5 t6 := I3.call' (ch := fp) I6.os I6.base I6.hok I6.bare fun b hb => let ⟨_, a2, a3, a4, a5, a6⟩ := (f3 b hb).1; ⟨a4, a2, a5, a6⟩
    have nC : H5 t3.heap.objs.size = none := lE ▸ (show H5 en.locals = none from I6.free)
    obtain ⟨nn, hn, _⟩ := I6.loc
    have hn' : t6.heap.Ns t3.heap.objs.size nn := lE ▸ (show t6.heap.Ns en.locals nn from hn)
    exact fin D t3.heap.objs.size t6 nn H5 I7 q0 hn' (I3.fpOk (Nat.le_refl _) nC)
  · refine thnF (T.item (X.blk t3 H3 sc en fp) rfl rfl rfl cm i [] t5 _ H5 (fun _ _ => False) I5 (okFp I5 n5) st5 go) fun r t6 ⟨u, hr, h6⟩ => ?_
    subst hr
    refine thnF h6 fun _ t7 ⟨x, H7, I7, r7, y7, st7, n7⟩ => ?_
    refine thnF (gG.run _ t7 _ H7 x u _ (I7.pinned (okFp I7 n7) (T.obj _ _ st7)) r7 (step x H7 y7)) fun _ t8 ⟨σ8, H8, I8, hw, q8⟩ => ?_
    refine thnF (gT.run _ t8 σ8 H8 _ I8 q8) fun b t9 ⟨H9, I9, q9⟩ => ?_
    have nextI : ∀ {t : Shared} {H' : Hp}, Inv (X.blk t3 H3 sc en fp) ([] ++ pinsAt fp t7.heap) σ8 H' t → Nx H' → ∃ n', n' < n ∧ ∃ j H', Inv (X.blk t3 H3 sc en fp) [] (wipe σ (ow.map (·.2))) H' t ∧ tn j t.heap ∧ (∀ b ∈ fp, H' b = none) ∧ W j n' H' := fun {t H'} J' nx => by
      obtain ⟨n', hn, w'⟩ := nxt H' nx
      have pins' : ∀ c ∈ fp, ∀ o, t7.heap.get? c = some o → t.heap.get? c = some o ∧ H' c = none := fun c hc o e => let z := J'.pin (c, o) (List.mem_append_right _ (List.mem_append_right _ (mem_pinsAt hc e))); ⟨z.1, z.2.1⟩
      have ln : (wipe σ (ow.map (·.2))).length = σ8.length := by rw [← hw, wipe_length]
      refine ⟨n', hn, i + 1, H', (J'.unpinned (pins := [])).weak ln (fun j v e => (wipe_some (hw ▸ e)).1), T.keep _ _ _ st7 fun c hc o e => (pins' c hc o e).1, fun c hc => ?_, w'⟩
      obtain ⟨o, e, _⟩ := T.obj _ _ st7 c hc
      exact (pins' c hc o e).2
    cases b with
    | false => exact nextI I9 (by simpa using q9)
    | true =>
      have q9 := (if_pos rfl : (if (true : Bool) = true then _ else _) = _) ▸ q9
      rw [if_pos rfl]
      refine thnF (gK.run _ t9 σ8 H9 _ I9 q9) fun z t10 ⟨y, H10, I10, r10, q10⟩ => ?_
      refine thnF (gV.run _ t10 σ8 H10 _ I10 q10) fun z2 t11 ⟨y2, H11, I11, r11, kvs, k, c, ey, hc, hD, hz, nx⟩ => ?_
      subst ey
      exact put_dT (X := X.blk t3 H3 sc en fp) hu I11 hD hc hz r10 r11 fun t12 I12 => nextI I12 nx
end
theorem ntkT {H : Hp} {D : Addr} {kvs : List (List Key × V)} (h : H D = some (.dT kvs)) : ∀ xs : List V, H D ≠ some (.tup xs) := fun xs z => by rw [h] at z; cases z
theorem tkOf_rel {Z : St0} {m : List Addr} {H : Hp} {w : PV} {u : V} {k : List Key} (r : Re Z m H (.p w) u) (h : tkOf w = some k) : ∃ c, u = .ref c ∧ H c = some (.tup (k.map kV)) := by
  cases r with
  | p r =>
    cases r <;> try (cases h; done)
    rename_i a us xs h1 h2
    have e := keysOf_rel h2 h
    subst e
    exact ⟨a, rfl, h1⟩
theorem units0 {d : Nat} {A : Around} (r : L2H.RoomH d A) : A.units < cLine := by have := r.un; omega
theorem pe_dcT {X : Cx} {ke ve te ie : Expr} {ts : List Expr} {sc : Scope} {ow : List (Str × Nat)} {po : Pos} {wi : TI} {g : TG} {tt : TT} {tk tv : TE} (hu : X.A.units < cLine) (cm : X.calm = true) (nd : X.N.Nodup) (wI : PI X te ie wi) (bk : BlkOk X.N X.env.scope sc ow)
    (wG : ∀ s H C cl fp, PG (X.blk s H sc (compEnvC sc cl C X.env) fp) te g) (wT : ∀ s H C cl fp, PTs (X.blk s H sc (compEnvC sc cl C X.env) fp) ts tt) (wK : ∀ s H C cl fp, PE (X.blk s H sc (compEnvC sc cl C X.env) fp) ke tk)
    (wV : ∀ s H C cl fp, PE (X.blk s H sc (compEnvC sc cl C X.env) fp) ve tv) (fs : ∀ x, foldedSetIterable ie X.env x = pure x) : PE X (.DictComp ke ve [⟨te, ie, ts, 0⟩] sc po) (tDcT wi g tt tk tv (ow.map (·.2))) := by
  refine ⟨fun pins s0 σ H Q I h => ?_⟩
  rw [arm_eval_DictComp]
  refine run_dT hu cm nd I wI bk wG wT wK wV fs h fun D C s' n H' J q hn fp => ⟨n, hn, fun h2 sb => ?_⟩
  obtain ⟨a0, a1, a2, a3, a4, a5⟩ := fp
  exact ⟨.ref D, H', J.turned (t' := s'.toks) (fun b o hb e => (sb.2 b hb).trans e) a0 a1 a3 a4 a5, rfl, q⟩
/-! ### {k: v for ..} -/
def fCdT (G : Gm) (ρw : Sl) (k v : PX) (tg : PT) (ifs : List PB) : EV → List PO → Out (List EV) := fun x S => match bindT tg ρw x with
    | some ρ1 => match evTs G ifs ρ1 S with
      | .ok true S1 => (evE G k ρ1 S1).bind fun y S2 => (evE G v ρ1 S2).bind fun z S3 => match (asP y).bind tkOf with
        | some _ => match asP z with
          | some _ => .ok [y, z] S3
          | none => .stuck
        | none => .stuck
      | .ok false S1 => .ok [] S1
      | _ => .stuck
    | none => .stuck
/-- its dict -/
def evDT (G : Gm) (own : List Nat) (k v : PX) (tg : PT) (it : PIt) (ifs : List PB) (ρ : Sl) (S : List PO) : Out (List (List Key) × List PV) := (evIt G it ρ S).bind fun its S1 => match lenOk (compI (fCdT G (wipeP ρ own) k v tg ifs) its S1) with
    | .ok zs S2 => match dstoreT [] [] zs with
      | some q => .ok q S2
      | none => .stuck
    | _ => .stuck
def RpDT (Z : St0) (m : List Addr) (H : Hp) (q : List (List Key) × List PV) (r : List (List Key) × List V) : Prop := r.1 = q.1 ∧ q.1.length = r.2.length ∧ RpA Z m H q.2 r.2
def SDT (G : Gm) (d : Nat) (x : Sx) (e : Expr) (f : Sl → List PO → Out (List (List Key) × List PV)) : Prop :=
  ∀ (Z : St0) (X : Cx) (W : WX) (m : List Addr) (H : Hp) (S : List PO) (ρ : Sl) (σ : L2.St) (Q : VK), Now Z G d x X W m H S ρ σ →
    Post Z G W (RpDT Z) m H σ (f ρ S) (fun r H' => ∀ p, H' p = none → Q (.ref p) (upd H' p (.dT (r.1.zip r.2)))) → jE X e σ H Q
theorem evE_dcompT (G : Gm) (m : Bool) (own : List Nat) (k v : PX) (tg : PT) (it : PIt) (ifs : List PB) (ρ : Sl) (S : List PO) :
    evE G (.dcompT m own k v tg it ifs) ρ S = (evDT G own k v tg it ifs ρ S).bind fun q S2 => match m with
        | false => .ok (.p (.dtt q.1 q.2)) S2
        | true => .ok (.ref S2.length) (S2 ++ [.dtt q.1 q.2]) := by
  simp only [evE, evDT]
  cases evIt G it ρ S with
  | ok its S1 =>
    simp only [Out.bind]
    show (match lenOk (compI (fCdT G (wipeP ρ own) k v tg ifs) its S1) with
      | .ok zs S2 => match dstoreT [] [] zs with
        | some q => match m with
          | false => .ok (.p (.dtt q.1 q.2)) S2
          | true => .ok (.ref S2.length) (S2 ++ [.dtt q.1 q.2])
        | none => .stuck
      | _ => .stuck : Out EV) = _
    generalize lenOk _ = c
    cases c with
    | ok zs S2 =>
      simp only
      cases dstoreT [] [] zs <;> rfl
    | exc c fs S2 => rfl
    | stuck => rfl
  | exc c fs S1 => rfl
  | stuck => rfl
section
variable {G : Gm} {d : Nat} {x : Sx} {scope : Scope} {tg : Expr} {ifs : List Expr} {kx vx : Expr} {t : PT} {is : List PB} {kp vp : PX} {own : List Nat} {it : PIt}
theorem se_dcompT {e : Expr} {m : Bool} (ha : SDT G d x e (evDT G own kp vp t it is)) : SE G d x e (evE G (.dcompT m own kp vp t it is)) := by
  intro Z X W mm H S ρ σ Q n h
  rw [evE_dcompT] at h
  refine ha Z X W mm H S ρ σ Q n ?_
  cases e : evDT G own kp vp t it is ρ S with
  | ok q S1 =>
    rw [e] at h
    intro m1 H1 r x1 R1 ⟨r1, r2, r3⟩ p hp
    rw [r1]
    simp only [Out.bind] at h
    cases m with
    | false => exact h m1 _ _ (x1.trans (Ext.alloc hp)) (R1.alloc hp) (.p (.dtt (.inl upd_same) (fre_new R1 hp) r2 (r3.ext (Ext.alloc hp))))
    | true =>
      have hm : (m1 ++ [p])[S1.length]? = some p := by
        rw [← R1.len, List.getElem?_append_right (Nat.le_refl _), Nat.sub_self]; rfl
      exact h (m1 ++ [p]) _ _ (x1.trans (Ext.allocM hp)) (R1.allocM hp ⟨r.2, upd_same, r2, r3.ext (Ext.allocM hp)⟩) (.ref hm)
  | exc c fs S1 => rw [e] at h; exact h
  | stuck => rw [e] at h; exact h
theorem dstore_appT : ∀ {ks : List (List Key)} {vs : List PV} {zs ys : List EV} {k : List Key} {w : PV} {y : PV}, zs.length % 2 = 0 → tkOf y = some k → dstoreT ks vs (zs ++ [.p y, .p w]) = (dstoreT ks vs zs).map fun q => putP q.1 q.2 k w
  | ks, vs, [], ys, k, w, y, _, hk => by simp [dstoreT, asP, hk]
  | ks, vs, [_], ys, k, w, y, h, hk => by simp at h
  | ks, vs, a :: b :: r, ys, k, w, y, h, hk => by
    simp only [List.cons_append, dstoreT]
    cases (asP a).bind tkOf with
    | none => rfl
    | some k2 =>
      simp only
      cases asP b with
      | none => rfl
      | some w2 => exact dstore_appT (ys := ys) (by simp only [List.length_cons] at h; omega) hk
def DgtT (Z : St0) (F' : Addr → Prop) (m1 : List Addr) (H1 : Hp) (D : Addr) (ρw : Sl) (σw : L2.St) : List EV → List PO → List Addr → Hp → Prop := fun accv S m H =>
  ExtO (fun a => a = D) m1 H1 m H ∧ Rel (Z.up F') m S H ∧ RpE (Z.up F') m H ρw σw ∧ accv.length % 2 = 0 ∧ ∃ ks vs us, dstoreT [] [] accv = some (ks, vs) ∧ ks.length ≤ accv.length ∧ H D = some (.dT (ks.zip us)) ∧ ks.length = us.length ∧ RpA (Z.up F') m H vs us
theorem DgtT.step {Z : St0} {F' : Addr → Prop} {m1 : List Addr} {H1 : Hp} {D : Addr} {ρw : Sl} {σw : L2.St} {accv : List EV} {S S' : List PO} {m m' : List Addr} {H H' : Hp} (hF : F' D) (g : DgtT Z F' m1 H1 D ρw σw accv S m H) (e : Ext m H m' H') (R : Rel (Z.up F') m' S' H') : DgtT Z F' m1 H1 D ρw σw accv S' m' H' := by
  obtain ⟨g1, g2, g3, g0, ks, vs, us, g4, g5, g6, g7, g8⟩ := g
  exact ⟨g1.trans (.of e), R, g3.ext e, g0, ks, vs, us, g4, g5, e.keep D _ g6 fun q => g2.dj D q hF, g7, g8.ext e⟩
theorem putP_lenT (ks : List (List Key)) (vs : List PV) (k : List Key) (w : PV) : (putP ks vs k w).1.length ≤ ks.length + 1 := by
  unfold putP
  split <;> simp
theorem DgtT.add {Z : St0} {F' : Addr → Prop} {m1 : List Addr} {H1 : Hp} {D : Addr} {ρw : Sl} {σw : L2.St} {accv : List EV} {S : List PO} {m : List Addr} {H : Hp} {y w : PV} {k : List Key} {z : V} (hF : F' D) (g : DgtT Z F' m1 H1 D ρw σw accv S m H) (hl : accv.length ≤ lim) (hk : tkOf y = some k) (r : Rp (Z.up F') m H w z) :
    ∃ kvs, H D = some (.dT kvs) ∧ kvs.length < sizeLine ∧ DgtT Z F' m1 H1 D ρw σw (accv ++ [.p y, .p w]) S m (upd H D (.dT (putK kvs k z))) := by
  obtain ⟨g1, g2, g3, g0, ks, vs, us, g4, g5, g6, g7, g8⟩ := g
  have hm : D ∉ m := fun q => g2.dj D q hF
  obtain ⟨us', h1, h2, h3⟩ := put_rel k r g8 g7
  have hs : sizeLine = 16777216 := sizeLine_eq
  have hlim : lim = 1000000 := rfl
  refine ⟨_, g6, by rw [List.length_zip]; omega, extO_upd (ntkT g6) g1, upd_rel (ntkT g6) hF g2, ⟨g3.1, fun i v h => let ⟨u, a, b⟩ := g3.2 i v h; ⟨u, a, upd_re (ntkT g6) hF hm b⟩⟩, by simp only [List.length_append, List.length_cons, List.length_nil]; omega, (putP ks vs k w).1, (putP ks vs k w).2, us', ?_, ?_, ?_, h2, ?_⟩
  · rw [dstore_appT (ys := []) g0 hk, g4]; rfl
  · have := putP_lenT ks vs k w
    simp only [List.length_append, List.length_cons, List.length_nil]; omega
  · rw [upd_same, h1]
  · exact off_rpA (ntkT g6) hF upd_off h3
/-- what a turn asks -/
def bCdT (X : Cx) (scope : Scope) (tg : Expr) (ifs : List Expr) (kx vx : Expr) (D : Addr) (vs : List Nat) (σ : L2.St) : V → Hp → (Hp → Prop) → Prop := fun y H Nx =>
  gU X scope tg y (wipe σ vs) H fun σ2 H2 => wipe σ2 vs = wipe σ vs ∧ tU X scope ifs σ2 H2 fun b H3 =>
    if b = true then eU X scope kx σ2 H3 fun y H4 => eU X scope vx σ2 H4 fun z H5 => ∃ kvs k c, y = .ref c ∧ H5 c = some (.tup (k.map kV)) ∧ H5 D = some (.dT kvs) ∧ kvs.length < sizeLine ∧ Nx (upd H5 D (.dT (putK kvs k z))) else Nx H3
theorem turn_CdT {Z : St0} {X : Cx} {F' : Addr → Prop} {m1 : List Addr} {H1 : Hp} {D : Addr} {ρ : Sl} {σ : L2.St} {vs : List Nat} (ok : XOk Z G d x X) (hh : x.hot = false) (hF : F' D)
    (hT : SG (blkX x scope) tg t) (hI : STs G d (blkX x scope) ifs (evTs G is)) (hK : SE G d (blkX x scope) kx (evE G kp)) (hV : SE G d (blkX x scope) vx (evE G vp)) (ht : ∀ i ∈ slT t, i ∈ vs) :
    TurnG Z F' (DgtT Z F' m1 H1 D (wipeP ρ vs) (wipe σ vs)) (fCdT G (wipeP ρ vs) kp vp t is) (bCdT X scope tg ifs kx vx D vs σ) := by
  intro accv S m H v ys S3 y Nx g r hf hl hx
  unfold fCdT at hf
  split at hf
  · rename_i ρ1 e1
    intro s H0 C cl fp
    have okb : XOk (Z.up F') G d (blkX x scope) (X.blk s H0 scope (compEnvC scope cl C X.env) fp) := xok_blk (ok.up F') hh s H0 C cl fp
    refine hT (Z.up F') G d _ m H _ ρ1 _ v y _ okb g.2.2.1 r e1 fun σ2 env2 hw => ⟨(hw vs ht).trans wipe_wipe, ?_⟩
    intro s H0 C cl fp
    have n2 : Now (Z.up F') G d (blkX x scope) (X.blk s H0 scope (compEnvC scope cl C X.env) fp) (fun _ _ _ _ => False) m H S ρ1 σ2 := now_blk (ok.up F') hh s H0 C cl fp g.2.1 env2
    refine hI (Z.up F') _ _ m H S ρ1 σ2 _ n2 ?_
    split at hf
    · rename_i S1 e2
      rw [e2]
      intro m2 H2 u x2 R2 r2
      cases r2
      have g2 := g.step hF x2 R2
      rw [if_pos rfl]
      intro s H0 C cl fp
      have n3 : Now (Z.up F') G d (blkX x scope) (X.blk s H0 scope (compEnvC scope cl C X.env) fp) (fun _ _ _ _ => False) m2 H2 S1 ρ1 σ2 := now_blk (ok.up F') hh s H0 C cl fp R2 (env2.ext x2)
      refine hK (Z.up F') _ _ m2 H2 S1 ρ1 σ2 _ n3 ?_
      cases e3 : evE G kp ρ1 S1 with
      | ok w S4 =>
        rw [e3] at hf
        simp only [Out.bind] at hf
        intro m3 H3 uk x3 R3 r3
        have g3 := g2.step hF x3 R3
        intro s H0 C cl fp
        have n4 : Now (Z.up F') G d (blkX x scope) (X.blk s H0 scope (compEnvC scope cl C X.env) fp) (fun _ _ _ _ => False) m3 H3 S4 ρ1 σ2 := now_blk (ok.up F') hh s H0 C cl fp R3 ((env2.ext x2).ext x3)
        refine hV (Z.up F') _ _ m3 H3 S4 ρ1 σ2 _ n4 ?_
        cases e4 : evE G vp ρ1 S4 with
        | ok z S5 =>
          rw [e4] at hf
          simp only at hf
          cases hk : (asP w).bind tkOf with
          | none => rw [hk] at hf; cases hf
          | some k =>
            rw [hk] at hf
            simp only at hf
            cases hz : asP z with
            | none => rw [hz] at hf; cases hf
            | some z0 =>
              rw [hz] at hf
              cases hf
              intro m4 H4 uz x4 R4 r4
              have g4 := g3.step hF x4 R4
              cases w with
              | ref i => cases hk
              | p w0 =>
                cases z with
                | ref i => cases hz
                | p z1 =>
                  cases hz
                  have hk : tkOf w0 = some k := hk
                  obtain ⟨c0, ec, hc⟩ := tkOf_rel (r3.ext x4) hk
                  cases r4 with
                  | p r4 =>
                    obtain ⟨kvs, k1, k2, k3⟩ := g4.add hF (by simp only [List.length_cons, List.length_nil] at hl; omega) hk r4
                    exact ⟨kvs, k, c0, ec, hc, k1, k2, hx _ _ k3⟩
        | exc c fs S5 => rw [e4] at hf; cases hf
        | stuck => rw [e4] at hf; cases hf
      | exc c fs S4 => rw [e3] at hf; cases hf
      | stuck => rw [e3] at hf; cases hf
    · rename_i S1 e2
      rw [e2]
      intro m2 H2 u x2 R2 r2
      cases r2
      cases hf
      rw [if_neg (by decide)]
      have g2 := g.step hF x2 R2
      refine hx m2 H2 ?_
      rw [List.append_nil]
      exact g2
    · cases hf
  · cases hf
/-- what it hands back -/
theorem dgt_endT {Z : St0} {m1 m' : List Addr} {H1 H' : Hp} {S2 : List PO} {D : Addr} {ρw : Sl} {σw : L2.St} {zs : List EV} (g : DgtT Z (fun a => Z.F a ∨ a = D) m1 H1 D ρw σw zs S2 m' H') (hn : H1 D = none)
    (hZ : ¬ Z.F D) {q : List (List Key) × List PV} (hq : dstoreT [] [] zs = some q) : ∃ Hb us, Hb D = none ∧ H' = upd Hb D (.dT (q.1.zip us)) ∧ Ext m1 H1 m' Hb ∧ Rel Z m' S2 Hb ∧ q.1.length = us.length ∧ RpA Z m' Hb q.2 us := by
  obtain ⟨g1, g2, g3, g0, ks, vs, us, g4, g5, g6, g7, g8⟩ := g
  rw [hq] at g4
  cases g4
  have hFD : (Z.up fun a => Z.F a ∨ a = D).F D := .inr rfl
  have hm : D ∉ m' := fun q => g2.dj D q hFD
  generalize hb : (fun b => if b = D then none else H' b : Hp) = Hb
  have he : ∀ a, a ≠ D → Hb a = H' a := fun a h => by rw [← hb]; exact if_neg h
  have hD : Hb D = none := by rw [← hb]; exact if_pos rfl
  refine ⟨Hb, us, hD, ?_, ?_, ?_, g7, ?_⟩
  · funext a
    by_cases h : a = D
    · rw [h, upd_same, g6]
    · rw [upd_ne h, he a h]
  · refine ⟨g1.pre, fun a o h n => ?_, fun a h => ?_, g1.new, fun a xs h => ?_⟩
    · rw [he a (ne_of_none h hn)]; exact g1.keep a o h n (ne_of_none h hn)
    · rw [he a (by rintro rfl; exact h hn)]; exact g1.alive a h
    · rw [he a (ne_of_none h hn)]; exact g1.tp a xs h
  · refine ⟨g2.len, g2.nd, fun i a o h1 h2 => ?_, fun a f => ?_, fun a h f => g2.dj a h (.inl f)⟩
    · exact down_rpO (F' := fun a => Z.F a ∨ a = D) (fun a f => .inl f) (off_rpO (ntkT g6) hFD he (fun e => hm (e ▸ List.mem_of_getElem? h1)) (g2.ob i a o h1 h2))
    · rw [he a (by rintro rfl; exact hZ f)]
      exact g2.fr a (.inl f)
  · exact RpA.shift (fun a f => ⟨fun q => f.1 (.inl q), f.2⟩) (off_rpA (ntkT g6) hFD he g8)
theorem dcomp_coreT {iter : Expr} {own : List (Str × Nat)} (hh : x.hot = false) (hT : SG (blkX x scope) tg t) (hI : STs G d (blkX x scope) ifs (evTs G is)) (hK : SE G d (blkX x scope) kx (evE G kp)) (hV : SE G d (blkX x scope) vx (evE G vp))
    (ht : ∀ i ∈ slT t, i ∈ own.map (·.2))
    {Z : St0} {X : Cx} {W : WX} {m : List Addr} {H : Hp} {S : List PO} {ρ : Sl} {σ : L2.St} {Q : VK} (hIt : ∀ R, Post Z G W (RI Z) m H σ (evIt G it ρ S) R → jI X tg iter σ H R) (n : Now Z G d x X W m H S ρ σ)
    (h : Post Z G W (RpDT Z) m H σ (evDT G (own.map (·.2)) kp vp t it is ρ S) (fun r H' => ∀ p, H' p = none → Q (.ref p) (upd H' p (.dT (r.1.zip r.2))))) :
    tDcT (jI X tg iter) (gU X scope tg) (tU X scope ifs) (eU X scope kx) (eU X scope vx) (own.map (·.2)) σ H Q := by
  unfold evDT at h
  refine hIt _ (Post.bind h fun its S1 m1 H1 J e1 x1 R1 r1 q1 => ?_)
  intro D hn
  have env1 := n.env.ext x1
  cases e2 : lenOk (compI (fCdT G (wipeP ρ (own.map (·.2))) kp vp t is) its S1) with
  | ok zs S2 =>
    rw [e2] at q1
    simp only at q1
    cases hq : dstoreT [] [] zs with
    | none => rw [hq] at q1; exact q1.elim
    | some q =>
      rw [hq] at q1
      obtain ⟨e3, e4⟩ := lenOk_ok e2
      have hZ : ¬ Z.F D := fun f => R1.fr D f hn
      have wd : Wd Z H1 (fun a => Z.F a ∨ a = D) := ⟨fun a f => .inl f, fun a f => f.imp id fun e => by rw [e]; exact hn⟩
      refine gatG_loop (Z := Z) (F' := fun a => Z.F a ∨ a = D) (D := D) (mI := m1) (HI := H1) (Gt := DgtT Z (fun a => Z.F a ∨ a = D) m1 H1 D (wipeP ρ (own.map (·.2))) (wipe σ (own.map (·.2)))) (B := bCdT X scope tg ifs kx vx D (own.map (·.2)) σ) (turn_CdT n.ok hh (.inr rfl) hT hI hK hV ht)
        (fun _ _ _ _ _ _ _ g e R => g.step (.inr rfl) e R) (fun _ _ _ _ g => ⟨g.1, g.2.1⟩) (fun m' H' S' e R' => r1 _ _ wd (fun a q => .inr q) m' H' S' e R') e3 (accv0 := []) (by simpa using e4) ?_ (fun m' H' g => ?_) (m0 := m1)
      · exact ⟨.of (Ext.alloc hn), rel_up R1 hn fun a => Iff.rfl, ((wd_env wd env1).ext (Ext.alloc hn)).wipe _, rfl, [], [], [], rfl, Nat.le_refl _, upd_same, rfl, .nil⟩
      · rw [List.nil_append] at g
        obtain ⟨Hb, us, b1, rfl, b3, b4, b5, b6⟩ := dgt_endT g hn hZ hq
        exact q1 m' Hb (q.1, us) b3 b4 ⟨rfl, b5, b6⟩ D b1
  | exc c fs S2 => exact (lenOk_exc e2).elim
  | stuck => rw [e2] at q1; exact q1.elim
theorem sd_compT {iter : Expr} {own : List (Str × Nat)} {pos : Pos} (hh : x.hot = false) (hIt : SI G d x tg iter (evIt G it)) (hT : SG (blkX x scope) tg t) (hI : STs G d (blkX x scope) ifs (evTs G is)) (hK : SE G d (blkX x scope) kx (evE G kp)) (hV : SE G d (blkX x scope) vx (evE G vp))
    (hb : blkC x.N x.sc scope own = true) (ht : ∀ i ∈ slT t, i ∈ own.map (·.2)) (hs : noSet iter = true) : SDT G d x (.DictComp kx vx [⟨tg, iter, ifs, 0⟩] scope pos) (evDT G (own.map (·.2)) kp vp t it is) := by
  intro Z X W m H S ρ σ Q n h
  obtain ⟨hc, _, _⟩ := n.ok.calm hh
  refine PE.j (pe_dcT (units0 n.ok.room) (g := gU X scope tg) (tt := tU X scope ifs) (tk := eU X scope kx) (tv := eU X scope vx) hc n.ok.nd pi_j (blkOk_by (by rw [n.ok.hN, n.ok.hs]; exact hb)) (fun s H C cl fp => ⟨fun pins s1 σ H v u Q I r h => h s _ C cl fp pins s1 u I r⟩) (fun s H C cl fp => ⟨fun pins s1 σ H Q I h => h s _ C cl fp pins s1 I⟩)
    (fun s H C cl fp => ⟨fun pins s1 σ H Q I h => h s _ C cl fp pins s1 I⟩) (fun s H C cl fp => ⟨fun pins s1 σ H Q I h => h s _ C cl fp pins s1 I⟩) (fun y => fold_none hs y)) ?_
  exact dcomp_coreT hh hT hI hK hV ht (fun R q => hIt Z X W m H S ρ σ R n q) n h
theorem evD_nsT {own : List Nat} {ρ : Sl} {S : List PO} (h : evDT G own kp vp t it is ρ S ≠ .stuck) : evIt G it ρ S ≠ .stuck := fun z => h (by simp only [evDT, z, Out.bind])
theorem evD_nxT {own : List Nat} {ρ : Sl} {S S' : List PO} {c : Nat} {fs : List PV} (hi : ∀ c fs S', evIt G it ρ S ≠ .exc c fs S') : evDT G own kp vp t it is ρ S ≠ .exc c fs S' := fun z => by
  simp only [evDT] at z
  cases e : evIt G it ρ S with
  | ok its S1 =>
    rw [e] at z
    simp only [Out.bind] at z
    split at z
    · split at z <;> cases z
    · cases z
  | exc c fs S1 => exact hi _ _ _ e
  | stuck => rw [e] at z; cases z
theorem SDT.of_lk {i : Nat} {e : Expr} {f : Sl → List PO → Out (List (List Key) × List PV)} (hf : ∀ ρ S, f ρ S ≠ .stuck → hasD i ρ) (hx : ∀ ρ S c fs S', f ρ S ≠ .exc c fs S')
    (h : ∀ (Z : St0) (X : Cx) (W : WX) (m : List Addr) (H : Hp) (S : List PO) (ρ : Sl) (σ : L2.St) (Q : VK), Now Z G d x X W m H S ρ σ → LkAt i m σ H →
      Post Z G W (RpDT Z) m H σ (f ρ S) (fun r H' => ∀ p, H' p = none → Q (.ref p) (upd H' p (.dT (r.1.zip r.2)))) → jE X e σ H Q) : SDT G d x e f := by
  intro Z X W m H S ρ σ Q n q
  have hd : hasD i ρ := hf ρ S fun z => by rw [z] at q; exact q
  obtain ⟨a, u, hσ, hu, hr, hm⟩ := hasD_rel n.env hd
  rcases hr with hr | ⟨o, hr⟩
  · refine PE.j (pe_lock pe_j) ⟨a, u, hr, by cases u <;> first | trivial | exact hu.elim, fun od => ?_⟩
    refine h Z X W m (upd H a (.frz od u)) S ρ σ _ (n.lk hu (Lkd.to hr) hm) ⟨a, od, u, hσ, hu, upd_same, hm⟩ ?_
    cases e1 : f ρ S with
    | ok vs S1 =>
      rw [e1] at q
      intro m' H' r x' R' ⟨r1, r2, r3⟩ p hp
      obtain ⟨h1, h2, h3⟩ := lk_ext hr hm x'
      have L := Lkd.back h1
      have hpa : a ≠ p := fun z => by rw [← z, h1] at hp; cases hp
      refine ⟨by rw [upd_ne hpa]; exact h1, ?_⟩
      have hc : upd (upd H' p (.dT (r.1.zip r.2))) a u = upd (upd H' a u) p (.dT (r.1.zip r.2)) := by
        funext b
        by_cases z1 : b = a
        · subst z1; rw [upd_same, upd_ne hpa, upd_same]
        · rw [upd_ne z1]
          by_cases z2 : b = p
          · subst z2; rw [upd_same, upd_same]
          · rw [upd_ne z2, upd_ne z2, upd_ne z1]
      rw [hc]
      exact q m' (upd H' a u) r h3 (lk_rel hu L h2 R') ⟨r1, r2, lk_rpA hu L r3⟩ p (by rw [upd_ne (Ne.symm hpa)]; exact hp)
    | exc c fs S1 => exact absurd e1 (hx _ _ _ _ _)
    | stuck => rw [e1] at q; exact q.elim
  · exact h Z X W m H S ρ σ Q n ⟨a, o, u, hσ, hu, hr, hm⟩ q
theorem sd_compDT {k : DK} {i : Nat} {iter : Expr} {own : List (Str × Nat)} {pos : Pos} (hh : x.hot = false) (hIt : ditB x k i tg iter = true) (hT : SG (blkX x scope) tg t) (hI : STs G d (blkX x scope) ifs (evTs G is)) (hK : SE G d (blkX x scope) kx (evE G kp)) (hV : SE G d (blkX x scope) vx (evE G vp))
    (hb : blkC x.N x.sc scope own = true) (ht : ∀ i ∈ slT t, i ∈ own.map (·.2)) : SDT G d x (.DictComp kx vx [⟨tg, iter, ifs, 0⟩] scope pos) (evDT G (own.map (·.2)) kp vp t (.dit k i) is) := by
  refine SDT.of_lk (i := i) (fun ρ S q => dit_has (evD_nsT q)) (fun ρ S c fs S' => evD_nxT fun _ _ _ => dit_noexc) fun Z X W m H S ρ σ Q n lk h => ?_
  obtain ⟨hc, _, _⟩ := n.ok.calm hh
  refine PE.j (pe_dcT (units0 n.ok.room) (g := gU X scope tg) (tt := tU X scope ifs) (tk := eU X scope kx) (tv := eU X scope vx) hc n.ok.nd pi_j (blkOk_by (by rw [n.ok.hN, n.ok.hs]; exact hb)) (fun s H C cl fp => ⟨fun pins s1 σ H v u Q I r h => h s _ C cl fp pins s1 u I r⟩) (fun s H C cl fp => ⟨fun pins s1 σ H Q I h => h s _ C cl fp pins s1 I⟩)
    (fun s H C cl fp => ⟨fun pins s1 σ H Q I h => h s _ C cl fp pins s1 I⟩) (fun s H C cl fp => ⟨fun pins s1 σ H Q I h => h s _ C cl fp pins s1 I⟩) (fun y => fold_none (dit_nset hIt) y)) ?_
  exact dcomp_coreT hh hT hI hK hV ht (fun R q => ji_dit hIt n lk q) n h
end
end Rv
end PartRvKc
section PartRvLa
set_option Elab.async false
set_option linter.all false
set_option maxRecDepth 100000
set_option autoImplicit false
/-! Rv, part La: list(range(..)), slices from behind, d.update, d.pop. -/
/-! ### tuple(range(..)), in the model -/
namespace PySem
open Sem (wp)
open AutoSeq1 (wpAny_loadPart')
section
variable {prog : Program} {w : World} {A : Around} {E : Value → Shared → Prop} {s : Shared}
theorem wpAny_collect_range {Q : List Value → Shared → Prop} {r : Addr} {a b c : Int} {t u v : Tok} {n : Nat} (hh : A.handled = none) (hr : IsRange s.heap r a b c t u v) (hsmall : Builtin.Range.small a b c = true)
    (hn : Builtin.Range.rangeSize a b c = n) (hlen : n ≤ 2 ^ 24)
    (hQ : ∀ h' tk (acc' : Array Value), (∀ b o', s.heap.get? b = some o' → h'.get? b = some o') → ItemsOf (fun i v => ∃ t, v = .int (a + i * c) t) acc' n → Q acc'.toList { s with heap := h', toks := tk }) :
    wpAny (model prog w) A (collect (.ref r)) Q E s := by
  unfold collect
  refine wpAny_bind (wpAny_runValue (codeAny_builtin F.entry_proto_collect ?_))
  rw [Around.under_plainId F.plain_proto_collect _]
  show wpAny _ A.in1 (newList [] >>= fun l => again (.builtin "list.__iadd__" ⟨[l, .ref r], []⟩)) _ _ s
  refine wpAny_bind (wpAny_newObj_type ?_)
  refine wpAny_pure ⟨plainId_quiet F.plain_list_iadd _, codeAny_builtin F.entry_list_iadd ?_⟩
  rw [Around.under_plainId F.plain_list_iadd _]
  show wpAny _ A.in1 (Builtin.List.listExtendWith (.ref s.heap.objs.size) (.ref r) (.ref s.heap.objs.size)) _ _ _
  have hS : (s.heap.push { cls := .type "list", data := .seq ([] : List Value).toArray }).get? s.heap.objs.size = some { cls := .type "list", data := .seq #[] 0 } := Heap.get?_push_size _ rfl
  have fin' : ∀ h' tk acc' c', (∀ b o, s.heap.get? b = some o → h'.get? b = some o) → h'.get? s.heap.objs.size = some { cls := .type "list", dict := none, data := .seq acc' c', slots := #[] } → ItemsOf (fun i v => ∃ t, v = .int (a + i * c) t) acc' n → wpAny (model prog w) A (match Value.ref s.heap.objs.size with
      | Value.ref a => do
        match (← load a).data with
          | Data.seq xs _ => pure xs.toList
          | _ => unsupported "internal:collect"
      | _ => unsupported "internal:collect") Q E { s with heap := h', toks := tk } := by
    intro h' tk acc' c' hk hS' hacc
    show wpAny _ A (load s.heap.objs.size >>= _) _ _ _
    refine wpAny_bind (wpAny_load hS' ?_)
    refine wpAny_pure ?_
    exact hQ h' tk acc' hk hacc
  refine wpAny_mono (wpAny_extend_range (A := A) (R := fun r s' => r = .ok (.ret (.ref s.heap.objs.size)) ∧ ∃ h' tk acc' c', s' = { s with heap := h', toks := tk } ∧ (∀ b o, s.heap.get? b = some o → h'.get? b = some o) ∧ h'.get? s.heap.objs.size = some { cls := .type "list", dict := none, data := .seq acc' c', slots := #[] } ∧ ItemsOf (fun i v => ∃ t, v = .int (a + i * c) t) acc' n)
    (s := { s with heap := s.heap.push { cls := .type "list", data := .seq ([] : List Value).toArray } }) hh (Heap.get?_push_of_some _ hr) hsmall hn hlen _ _ _ hS fun h' tk acc' c' hk hS' hacc => ⟨rfl, h', tk, acc', c', rfl, fun b o e => hk b o (Nat.ne_of_lt (Heap.lt_size e)) (Heap.get?_push_of_some _ e), hS', hacc⟩) (fun fin s' h => ?_) (fun e s' h => ?_)
  · cases fin with
    | done f =>
      obtain ⟨e, h', tk, acc', c', rfl, hk, hS', hacc⟩ := h
      cases e
      exact fin' h' tk acc' c' hk hS' hacc
    | again c' => exact ⟨h.1, codeAny_mono h.2 fun r s'' hr => by obtain ⟨rfl, h', tk, acc', c', rfl, hk, hS', hacc⟩ := hr; exact fin' h' tk acc' c' hk hS' hacc⟩
  · exact absurd h.1 (by simp)
end
theorem meets_tuple_new_range (r : Addr) (a b c : Int) (t u v : Tok) (n : Nat) (hsmall : Builtin.Range.small a b c = true) (hn : Builtin.Range.rangeSize a b c = n) (hlen : n ≤ 1000000) :
    Meets (Builtin.«tuple.__new__» ⟨[.type "tuple", .ref r], []⟩)
      (fun A R s => A.handled = none ∧ IsRange s.heap r a b c t u v ∧ ∀ (h' : Heap) tk (acc : Array Value), (∀ b o', s.heap.get? b = some o' → h'.get? b = some o') → ItemsOf (fun i v => ∃ t, v = .int (a + i * c) t) acc n → R (.ok (.ret (.ref h'.objs.size))) { s with heap := h'.push { cls := .type "tuple", data := .seq acc }, toks := tk }) :=
  .of_wp fun prog w A R s h => by
    obtain ⟨hp, g, d, tk, os⟩ := s; obtain ⟨hh, ht, h⟩ := h
    have hsub := sub_tuple_self
    have hinit := init_tuple_lookup
    have hmh := madeHere_tuple
    have hT : Shared.TypeIs ⟨hp, g, d, tk, os⟩ (.ref r) "range" := ⟨_, ht, rfl⟩
    have hh1 : A.in1.handled = none := hh
    have hle : n ≤ 2 ^ 24 := by omega
    wp_walk using wpAny_loadPart' ht, wpAny_typeOf hT, wpAny_collect_range (A := A.in1) hh1 ht hsmall hn hle
    intro h' tk acc hk hacc
    show wpAny _ _ (Builtin.Tuple.tupleExact acc.toList.toArray >>= fun v => ret v) _ _ _
    unfold Builtin.Tuple.tupleExact
    have hz : acc.toList.toArray.size ≤ sizeLine := by
      rw [sizeLine_eq]
      have := hacc.1
      simp
      omega
    refine wpAny_bind (wpAny_newObj_type ?_ hz)
    refine wpAny_pure ⟨_, rfl, ?_⟩
    have e : acc.toList.toArray = acc := by simp
    rw [e]
    exact h h' tk acc hk hacc
section
variable {prog : Program} {w : World} {A : Around} {E : Value → Shared → Prop} {s : Shared}
theorem call_tuple_range {r : Addr} {a b c : Int} {t u v : Tok} {n : Nat} {Q : Value → Shared → Prop} (hh : A.handled = none) (hr : IsRange s.heap r a b c t u v) (hsmall : Builtin.Range.small a b c = true) (hn : Builtin.Range.rangeSize a b c = n) (hlen : n ≤ 1000000)
    (h : ∀ (h' : Heap) tk (acc : Array Value), (∀ b o', s.heap.get? b = some o' → h'.get? b = some o') → ItemsOf (fun i v => ∃ t, v = .int (a + i * c) t) acc n → Q (.ref h'.objs.size) { s with heap := h'.push { cls := .type "tuple", data := .seq acc }, toks := tk }) :
    wpAny (model prog w) A (call (.type "tuple") [.ref r]) Q E s := by
  exact callType_new F.called_tuple (by decide) (F.typeCall_tuple_1 _) (F.newCall_tuple_1 _) (fun obj => F.args_object_init_2 obj _) F.entry_tuple_new
    (meets_tuple_new_range r a b c t u v n hsmall hn hlen) ⟨hh, hr, fun h' tk acc hk hacc => ⟨⟨_, Heap.get?_push_size _ rfl, rfl⟩, h h' tk acc hk hacc⟩⟩
end
end PySem
namespace Rv
open PySem PySem.Spec PyProof.Rows L2
/-! ### list(range(..)) -/
theorem ints_vals {i : Int} {n : Nat} {vs : List Value} (hl : vs.length = n) (h : ∀ (j : Nat) (v : Value), vs[j]? = some v → ∃ t, v = .int (i + (j : Int)) t) : Vals ((List.range n).map fun (k : Nat) => V.int (i + (k : Int))) vs := by
  subst hl
  have key : ∀ (vs : List Value) (o : Nat), (∀ (j : Nat) (v : Value), vs[j]? = some v → ∃ t, v = .int (i + ((o + j : Nat) : Int)) t) → Vals ((List.range' o vs.length).map fun (k : Nat) => V.int (i + (k : Int))) vs := by
    intro vs
    induction vs with
    | nil => intro o _; exact .nil
    | cons v vs ih =>
      intro o h
      rw [List.length_cons, List.range'_succ, List.map_cons]
      obtain ⟨t, e⟩ := h 0 v rfl
      refine .cons ⟨t, by rw [e]; simp⟩ (ih (o + 1) fun j u hj => ?_)
      obtain ⟨t, e⟩ := h (j + 1) u (by simpa using hj)
      exact ⟨t, by rw [e]; congr 3; omega⟩
  rw [List.range_eq_range']
  exact key vs 0 fun j v hj => by simpa using h j v hj
def rRng (i j : Int) (H : Hp) (Q : VK) : Prop := ∀ p, H p = none → Q (.ref p) (upd H p (.lst ((List.range (j - i).toNat).map fun (k : Nat) => V.int (i + (k : Int)))))
section
variable {X : Cx}
theorem rng_list {pins : List (Addr × Obj)} {σ : L2.St} {H : Hp} {s : Shared} {E : Value → Shared → Prop} {i j : Int} {t u v : Tok} {tk : Nat} {Q : VK} (hc : X.calm = true) (I : Inv X pins σ H s) (h1 : -(2 ^ 62) ≤ i) (h2 : i < 2 ^ 62) (h3 : -(2 ^ 62) ≤ j) (h4 : j < 2 ^ 62) (hn : (j - i).toNat ≤ lim) (q : rRng i j H Q) :
    wpAny (model X.prog X.w) X.A (call (.type "list") [.ref s.heap.objs.size]) (EP X pins σ Q) E { s with heap := s.heap.push { cls := .type "range", data := .fields #[.int i t, .int j u, .int 1 v] }, toks := tk } := by
  have hlim : lim = 1000000 := rfl
  have hsz : Builtin.Range.rangeSize i j 1 = (((j - i).toNat : Nat) : Int) := by rw [rangeSize_one]; split <;> omega
  refine call_list_range (s := { s with heap := s.heap.push { cls := .type "range", data := .fields #[.int i t, .int j u, .int 1 v] }, toks := tk }) (I.ok.hd hc) (IsRange.new ..) (small_one h1 h2 h3 h4) hsz (by omega) fun h' tk' acc' c' hk hD hacc => ?_
  have I1 : Inv X pins σ H { s with heap := s.heap.push { cls := .type "range", data := .fields #[.int i t, .int j u, .int 1 v] }, toks := tk } := I.kept fun b o e => Heap.get?_push_of_some _ e
  have rv : Vals ((List.range (j - i).toNat).map fun (k : Nat) => V.int (i + (k : Int))) acc'.toList := ints_vals (by rw [Array.length_toList]; exact hacc.1) fun n w hw => by
    obtain ⟨t, e⟩ := hacc.2 n w (by rw [← Array.getElem?_toList]; exact hw)
    exact ⟨t, by rw [e]; congr 1; omega⟩
  refine ⟨.ref _, upd H (s.heap.push { cls := .type "range", data := .fields #[.int i t, .int j u, .int 1 v] }).objs.size (.lst ((List.range (j - i).toNat).map fun (k : Nat) => V.int (i + (k : Int)))), ?_, rfl, q _ (I1.hok.fresh (Nat.le_refl _))⟩
  refine I1.laid (t' := tk') hk (Nat.le_refl _) ⟨by rw [List.length_map, List.length_range, sizeLine_eq]; omega, acc'.toList, c', rv, ?_⟩
  simpa using hD
def tLR1 (ta : TA) : TE := fun σ H Q => ta σ H fun vs H1 => ∃ j : Int, vs = [.int j] ∧ -(2 ^ 62) ≤ j ∧ j < 2 ^ 62 ∧ (j - 0).toNat ≤ lim ∧ rRng 0 j H1 Q
def tLR2 (ta : TA) : TE := fun σ H Q => ta σ H fun vs H1 => ∃ i j : Int, vs = [.int i, .int j] ∧ (-(2 ^ 62) ≤ i ∧ i < 2 ^ 62 ∧ -(2 ^ 62) ≤ j ∧ j < 2 ^ 62) ∧ (j - i).toNat ≤ lim ∧ rRng i j H1 Q
theorem boot_list2 : bootBuiltins "list" = some (.type "list") := by decide +kernel
theorem pe_lr1 {a : Expr} {ta : TA} {p pos p2 pos2 : Pos} (hc : X.calm = true) (hg : Gl X "range") (hm : X.mg "range" = none) (hg2 : Gl X "list") (hm2 : X.mg "list" = none) (ha : PA X [a] ta) (hs : starEach [a] X.env = [(false, eval a X.env)]) :
    PE X (.Call (.Name "list" p2) [.Call (.Name "range" p) [a] [] pos] [] pos2) (tLR1 ta) := by
  refine ⟨fun pins s σ H Q I h => ?_⟩
  refine wpAny_Call_Name_kw (ld_blt I hg2 hm2 boot_list2 ?_ (by decide) (by decide))
  refine PyProof.Rows.callWith_type1 ?_ rfl rfl
  refine PySem.Calls.spliced_cons ?_
  refine Call_ (ld_blt I hg hm boot_range (PyProof.Rows.callWith_type1 (thn (ha.run pos pins s σ H _ I h) fun us s1 ⟨vs, H1, I1, r1, q1⟩ => ?_) hs rfl))
  obtain ⟨j, e, h3, h4, hn, q⟩ := q1
  subst e
  cases r1 with
  | cons r rr =>
    cases rr
    obtain ⟨t, rfl⟩ := r
    exact call_range_1 (PySem.Calls.spliced_nil (rng_list hc I1 (by omega) (by omega) h3 h4 hn q))
theorem pe_lr2 {a b : Expr} {ta : TA} {p pos p2 pos2 : Pos} (hc : X.calm = true) (hg : Gl X "range") (hm : X.mg "range" = none) (hg2 : Gl X "list") (hm2 : X.mg "list" = none) (ha : PA X [a, b] ta) (hs : starEach [a, b] X.env = [(false, eval a X.env), (false, eval b X.env)]) (hs2 : starEach [b] X.env = [(false, eval b X.env)]) :
    PE X (.Call (.Name "list" p2) [.Call (.Name "range" p) [a, b] [] pos] [] pos2) (tLR2 ta) := by
  refine ⟨fun pins s σ H Q I h => ?_⟩
  refine wpAny_Call_Name_kw (ld_blt I hg2 hm2 boot_list2 ?_ (by decide) (by decide))
  refine PyProof.Rows.callWith_type1 ?_ rfl rfl
  refine PySem.Calls.spliced_cons ?_
  refine Call_ (ld_blt I hg hm boot_range (PyProof.Rows.callWith_type1 (thn (ha.run pos pins s σ H _ I h) fun us s1 ⟨vs, H1, I1, r1, q1⟩ => ?_) (by rw [hs, hs2]) (by rw [hs2]; rfl)))
  obtain ⟨i, j, e, ⟨h1, h2, h3, h4⟩, hn, q⟩ := q1
  subst e
  cases r1 with
  | cons r rr =>
    cases rr with
    | cons r' rr =>
      cases rr
      obtain ⟨t, rfl⟩ := r
      obtain ⟨t', rfl⟩ := r'
      exact call_range_2 (PySem.Calls.spliced_nil (rng_list hc I1 h1 h2 h3 h4 hn q))
end
section
variable {G : Gm} {d : Nat} {x : Sx}
theorem rngV_rel {Z : St0} {m : List Addr} {H : Hp} {i : Int} : ∀ ks : List Nat, ReA Z m H ((ks.map fun (k : Nat) => PV.int (i + (k : Int))).map .p) (ks.map fun (k : Nat) => V.int (i + (k : Int)))
  | [] => .nil
  | k :: ks => .cons (.p (.int _)) (rngV_rel ks)
theorem sl_rng1 {e : Expr} {p : PX} {pp pos p2 pos2 : Pos} (hh : x.hot = false) (hf : ("range" : Str) ∈ G.free) (hg : glB x.sc "range" = true) (hf2 : ("list" : Str) ∈ G.free) (hg2 : glB x.sc "list" = true) (ha : SE G d x e (evE G p)) (hs : starB e = false) :
    SL G d x (.Call (.Name "list" p2) [.Call (.Name "range" pp) [e] [] pos] [] pos2) (evL G (.rng1 p)) := by
  intro Z X W m H S ρ σ Q n h
  simp only [evL] at h
  refine PE.j (pe_lr1 (n.ok.calm hh).1 (gl_of n.ok.hs hg) (n.ok.free _ hf) (gl_of n.ok.hs hg2) (n.ok.free _ hf2) (pa_one hs) (star_cons hs)) (ha Z X W m H S ρ σ _ n (Post.bind h fun v S1 m1 H1 u e1 x1 R1 r1 q1 => ?_))
  split at q1
  · rename_i j
    cases r1 with
    | p r1 =>
      cases r1
      split at q1
      · rename_i l el
        obtain ⟨⟨h1, h2, h3, h4⟩, h5, rfl⟩ := rng_some el
        exact ⟨j, rfl, h3, h4, h5, Post.now q1 R1 (rngV_rel _)⟩
      · exact q1.elim
  · exact q1.elim
theorem sl_rng2 {e e2 : Expr} {p q : PX} {pp pos p2 pos2 : Pos} (hh : x.hot = false) (hf : ("range" : Str) ∈ G.free) (hg : glB x.sc "range" = true) (hf2 : ("list" : Str) ∈ G.free) (hg2 : glB x.sc "list" = true) (ha : SE G d x e (evE G p)) (hb : SE G d x e2 (evE G q)) (hs : starB e = false) (hs2 : starB e2 = false) :
    SL G d x (.Call (.Name "list" p2) [.Call (.Name "range" pp) [e, e2] [] pos] [] pos2) (evL G (.rng2 p q)) := by
  intro Z X W m H S ρ σ Q n h
  simp only [evL] at h
  refine PE.j (pe_lr2 (n.ok.calm hh).1 (gl_of n.ok.hs hg) (n.ok.free _ hf) (gl_of n.ok.hs hg2) (n.ok.free _ hf2) (pa_cons pe_j (pa_one hs2) (star_cons hs)) (by rw [star_cons hs, star_cons hs2]; rfl) (star_cons hs2)) (ha Z X W m H S ρ σ _ n (Post.bind h fun v S1 m1 H1 u e1 x1 R1 r1 q1 =>
    hb Z X W m1 H1 S1 ρ σ _ (n.step x1 R1) (Post.bind q1 fun v2 S2 m2 H2 u2 e3 x2 R2 r2 q2 => ?_)))
  split at q2
  · rename_i i j
    cases r1 with
    | p r1 =>
      cases r2 with
      | p r2 =>
        cases r1
        cases r2
        split at q2
        · rename_i l el
          obtain ⟨h1, h5, rfl⟩ := rng_some el
          exact ⟨i, j, rfl, h1, h5, Post.now q2 R2 (rngV_rel _)⟩
        · exact q2.elim
  · exact q2.elim
end
/-! ### tuple(range(..)) -/
def rRngT (i j : Int) (H : Hp) (Q : VK) : Prop := ∀ p, H p = none → Q (.ref p) (upd H p (.tup ((List.range (j - i).toNat).map fun (k : Nat) => V.int (i + (k : Int)))))
section
variable {X : Cx}
theorem rng_tuple {pins : List (Addr × Obj)} {σ : L2.St} {H : Hp} {s : Shared} {E : Value → Shared → Prop} {i j : Int} {t u v : Tok} {tk : Nat} {Q : VK} (hc : X.calm = true) (I : Inv X pins σ H s) (h1 : -(2 ^ 62) ≤ i) (h2 : i < 2 ^ 62) (h3 : -(2 ^ 62) ≤ j) (h4 : j < 2 ^ 62) (hn : (j - i).toNat ≤ lim) (q : rRngT i j H Q) :
    wpAny (model X.prog X.w) X.A (call (.type "tuple") [.ref s.heap.objs.size]) (EP X pins σ Q) E { s with heap := s.heap.push { cls := .type "range", data := .fields #[.int i t, .int j u, .int 1 v] }, toks := tk } := by
  have hlim : lim = 1000000 := rfl
  have hsz : Builtin.Range.rangeSize i j 1 = (((j - i).toNat : Nat) : Int) := by rw [rangeSize_one]; split <;> omega
  refine PySem.call_tuple_range (s := { s with heap := s.heap.push { cls := .type "range", data := .fields #[.int i t, .int j u, .int 1 v] }, toks := tk }) (I.ok.hd hc) (IsRange.new ..) (small_one h1 h2 h3 h4) hsz (by omega) fun h' tk' acc' hk hacc => ?_
  have I1 : Inv X pins σ H { s with heap := s.heap.push { cls := .type "range", data := .fields #[.int i t, .int j u, .int 1 v] }, toks := tk } := I.kept fun b o e => Heap.get?_push_of_some _ e
  have I2 : Inv X pins σ H { s with heap := h', toks := tk' } := I1.kept (t' := tk') hk
  have rv : Vals ((List.range (j - i).toNat).map fun (k : Nat) => V.int (i + (k : Int))) acc'.toList := ints_vals (by rw [Array.length_toList]; exact hacc.1) fun n w hw => by
    obtain ⟨t, e⟩ := hacc.2 n w (by rw [← Array.getElem?_toList]; exact hw)
    exact ⟨t, by rw [e]; congr 1; omega⟩
  have hp : H h'.objs.size = none := I2.hok.fresh (Nat.le_refl _)
  refine ⟨.ref h'.objs.size, _, I2.laid (t' := tk') (o := .tup ((List.range (j - i).toNat).map fun (k : Nat) => V.int (i + (k : Int)))) (fun b ob q => Heap.get?_push_of_some _ q) (Nat.le_refl _) ?_, rfl, q _ hp⟩
  exact ⟨by rw [List.length_map, List.length_range, sizeLine_eq]; omega, acc'.toList, rv, by simpa using IsTup.new h' acc'⟩
def tTR1 (ta : TA) : TE := fun σ H Q => ta σ H fun vs H1 => ∃ j : Int, vs = [.int j] ∧ -(2 ^ 62) ≤ j ∧ j < 2 ^ 62 ∧ (j - 0).toNat ≤ lim ∧ rRngT 0 j H1 Q
theorem boot_tuple2 : bootBuiltins "tuple" = some (.type "tuple") := by decide +kernel
theorem pe_tr1 {a : Expr} {ta : TA} {p pos p2 pos2 : Pos} (hc : X.calm = true) (hg : Gl X "range") (hm : X.mg "range" = none) (hg2 : Gl X "tuple") (hm2 : X.mg "tuple" = none) (ha : PA X [a] ta) (hs : starEach [a] X.env = [(false, eval a X.env)]) :
    PE X (.Call (.Name "tuple" p2) [.Call (.Name "range" p) [a] [] pos] [] pos2) (tTR1 ta) := by
  refine ⟨fun pins s σ H Q I h => ?_⟩
  refine wpAny_Call_Name_kw (ld_blt I hg2 hm2 boot_tuple2 ?_ (by decide) (by decide))
  refine PyProof.Rows.callWith_type1 ?_ rfl rfl
  refine PySem.Calls.spliced_cons ?_
  refine Call_ (ld_blt I hg hm boot_range (PyProof.Rows.callWith_type1 (thn (ha.run pos pins s σ H _ I h) fun us s1 ⟨vs, H1, I1, r1, q1⟩ => ?_) hs rfl))
  obtain ⟨j, e, h3, h4, hn, q⟩ := q1
  subst e
  cases r1 with
  | cons r rr =>
    cases rr
    obtain ⟨t, rfl⟩ := r
    exact call_range_1 (PySem.Calls.spliced_nil (rng_tuple hc I1 (by omega) (by omega) h3 h4 hn q))
end
section
variable {G : Gm} {d : Nat} {x : Sx}
theorem rngP_rel {Z : St0} {m : List Addr} {H : Hp} {i : Int} : ∀ ks : List Nat, RpA Z m H (ks.map fun (k : Nat) => PV.int (i + (k : Int))) (ks.map fun (k : Nat) => V.int (i + (k : Int)))
  | [] => .nil
  | k :: ks => .cons (.int _) (rngP_rel ks)
theorem se_trng {e : Expr} {p : PX} {pp pos p2 pos2 : Pos} (hh : x.hot = false) (hf : ("range" : Str) ∈ G.free) (hg : glB x.sc "range" = true) (hf2 : ("tuple" : Str) ∈ G.free) (hg2 : glB x.sc "tuple" = true) (ha : SE G d x e (evE G p)) (hs : starB e = false) :
    SE G d x (.Call (.Name "tuple" p2) [.Call (.Name "range" pp) [e] [] pos] [] pos2) (evE G (.trng p)) := by
  intro Z X W m H S ρ σ Q n h
  simp only [evE] at h
  refine PE.j (pe_tr1 (n.ok.calm hh).1 (gl_of n.ok.hs hg) (n.ok.free _ hf) (gl_of n.ok.hs hg2) (n.ok.free _ hf2) (pa_one hs) (star_cons hs)) (ha Z X W m H S ρ σ _ n (Post.bind h fun v S1 m1 H1 u e1 x1 R1 r1 q1 => ?_))
  split at q1
  · rename_i j
    cases r1 with
    | p r1 =>
      cases r1
      split at q1
      · rename_i l el
        obtain ⟨⟨h1, h2, h3, h4⟩, h5, rfl⟩ := rng_some el
        exact ⟨j, rfl, h3, h4, h5, fun p hp => q1 m1 _ (.ref p) (Ext.alloc hp) (R1.alloc hp) (.p (.tup upd_same (rngP_rel _)))⟩
      · exact q1.elim
  · exact q1.elim
end
/-! ### xs[::-1] -/
section
variable {prog : Program} {w : World} {A : Around} {E : Value → Shared → Prop} {s : Shared}
theorem sliceApplied_rev {sl : Addr} {tk : Tok} {n : Nat} {Q : Int × Int × Nat → Shared → Prop} (hs : s.heap.IsSliceOf sl .none .none (.int (-1) tk)) (h : Q ((n : Int) - 1, -1, n) s) :
    wpAny (model prog w) A (Builtin.Slice.sliceApplied (.ref sl) (pure (n : Int))) Q E s := by
  obtain ⟨os, hos, hcs, hds⟩ := id hs
  unfold Builtin.Slice.sliceApplied
  unfold Builtin.Slice.sliceFields
  refine wpAny_bind (wpAny_bind (wpAny_field hos hds (x := .none) rfl (wpAny_bind (wpAny_field hos hds (x := .none) rfl (wpAny_bind (wpAny_field hos hds (x := .int (-1) tk) rfl (wpAny_pure ?_)))))))
  refine wpAny_bind (slicePart_int ?_)
  show wpAny _ _ (if ((-1 : Int) == 0) = true then _ else _) _ _ s
  rw [if_neg (by decide)]
  refine wpAny_bind (slicePart_none (wpAny_bind (slicePart_none (wpAny_bind (wpAny_pure ?_)))))
  have e : Builtin.Slice.sliceAdjust none none (-1) (n : Int) = ((n : Int) - 1, -1) := by
    simp [Builtin.Slice.sliceAdjust]
  show wpAny _ _ (match Builtin.Slice.sliceAdjust none none (-1) (n : Int) with | (lo, hi) => pure (lo, (-1 : Int), Builtin.Slice.slicePlaces lo hi (-1))) _ _ s
  rw [e]
  have e2 : Builtin.Slice.slicePlaces ((n : Int) - 1) (-1) (-1) = n := by
    unfold Builtin.Slice.slicePlaces
    simp
    split <;> omega
  show wpAny _ _ (pure ((n : Int) - 1, (-1 : Int), Builtin.Slice.slicePlaces ((n : Int) - 1) (-1) (-1))) _ _ s
  rw [e2]
  exact wpAny_pure h
theorem tuple_rev {t sl : Addr} {its : List Value} {tk : Tok} {Q : Value → Shared → Prop} (ht : IsTup s.heap t its.toArray) (hs : s.heap.IsSliceOf sl .none .none (.int (-1) tk))
    (h : Q (.ref s.heap.objs.size) { s with heap := s.heap.push { cls := .type "tuple", data := .seq its.reverse.toArray } }) (hsz : its.length ≤ sizeLine) : wpAny (model prog w) A (getItem (.ref t) (.ref sl)) Q E s := by
  have hTs : ∃ o, s.heap.get? sl = some o ∧ o.cls = .type "slice" := let ⟨os, h1, h2, _⟩ := id hs; ⟨os, h1, h2⟩
  have hno : ¬ ((((its.length : Int) - 1) == 0 && (-1 : Int) == 1 && its.length == its.length) = true) := by simp
  have hpick : ((List.range its.length).filterMap fun (m : Nat) => its.toArray[((its.length : Int) - 1 + (m : Int) * (-1)).toNat]?).toArray = its.reverse.toArray := by
    congr 1
    refine List.ext_getElem? fun i => ?_
    have hall : ∀ k, k ≤ its.length → ((List.range k).filterMap fun (m : Nat) => its.toArray[((its.length : Int) - 1 + (m : Int) * (-1)).toNat]?) = its.reverse.take k := by
      intro k
      induction k with
      | zero => intro _; rfl
      | succ k ih =>
        intro hk
        have e1 : ((its.length : Int) - 1 + (k : Int) * (-1)).toNat = its.length - 1 - k := by omega
        have hlt : its.length - 1 - k < its.length := by omega
        rw [List.range_succ, List.filterMap_append, ih (by omega), List.take_add_one, List.getElem?_reverse (by omega)]
        congr 1
        simp only [List.filterMap_cons, List.filterMap_nil, e1, List.getElem?_toArray, List.getElem?_eq_getElem hlt]
        rfl
    rw [hall its.length (Nat.le_refl _), List.take_of_length_le (by simp)]
  have hsz2 : its.toArray.size = its.length := by simp
  unfold getItem
  try with_reducible refine wpAny_holding ?_
  first | refine wpAny_bind (wpAny_pure ?_) | skip
  refine wpAny_bind (wpAny_sequenceKey ht.typeIs (by decide) ?_)
  refine wpAny_bind (wpAny_callSpecial?_slot (name := Str.ofString "__getitem__") ht.typeIs PyProof.Rows.slot_tuple_getitem
    (wpAny_call_entry PyProof.Rows.slot_tuple_getitem ht.typeIs entry_tuple_getitem ?_ (args_tuple_getitem _ _)))
  show wpAny _ _ (Builtin.Tuple.tupleItemsOf (.ref t) >>= _) _ _ s
  refine wpAny_bind (tupleItemsOf_ ht ?_)
  refine wpAny_bind (wpAny_typeOf hTs ?_)
  rw [if_pos (by decide)]
  rw [hsz2]
  refine wpAny_bind (sliceApplied_rev hs ?_)
  show wpAny _ _ (if (((its.length : Int) - 1) == 0 && (-1 : Int) == 1 && its.length == its.toArray.size) = true then _ else _) _ _ s
  rw [hsz2, if_neg hno, hpick]
  have hok : sizeOk (.seq its.reverse.toArray) := by
    show its.reverse.toArray.size ≤ sizeLine
    simpa using hsz
  first
    | exact wpAny_bind (m := Builtin.Tuple.tupleExact _) (wpAny_newObj_type (wpAny_pure ⟨_, rfl, wpAny_pure h⟩) hok)
    | exact wpAny_bind (m := Builtin.Tuple.tupleExact _) (wpAny_newObj_type (wpAny_bind (wpAny_pure (wpAny_pure ⟨_, rfl, wpAny_pure h⟩))) hok)
    | exact wpAny_bind (wpAny_bind (m := Builtin.Tuple.tupleExact _) (wpAny_newObj_type (wpAny_pure (wpAny_pure ⟨_, rfl, wpAny_pure h⟩)) hok))
    | exact wpAny_bind (wpAny_bind (m := Builtin.Tuple.tupleExact _) (wpAny_newObj_type (wpAny_pure ⟨_, rfl, wpAny_pure h⟩) hok))
end
section
variable {G : Gm} {d : Nat} {x : Sx}
/-- what a slice from behind is, by values -/
def RvR (X : Cx) (r : V → Hp → VK → Prop) : Prop := ∀ (pins : List (Addr × Obj)) (s : Shared) (σ : L2.St) (H : Hp) (y : V) (v : Value) (tk : Tok) (sl : Addr) (Q : VK), Inv X pins σ H s → RelV y v → s.heap.IsSliceOf sl .none .none (.int (-1) tk) → r y H Q →
  ∃ T id, typeLookup (.type T) "__getitem__" = pure (some (.builtin id)) ∧ s.TypeIs v T ∧ wpAny (model X.prog X.w) X.A (getItem v (.ref sl)) (EP X pins σ Q) X.xe s
theorem pe_rev {X : Cx} {r : V → Hp → VK → Prop} {e st : Expr} {te : TE} {p2 pos : Pos} (hr : RvR X r) (he : PE X e te) (hst : ∀ (pins : List (Addr × Obj)) (s : Shared) (σ : L2.St) (H : Hp) (Q : VK), Inv X pins σ H s → Q (.int (-1)) H → wpAny (model X.prog X.w) X.A (eval st X.env) (EP X pins σ Q) X.xe s)
    (hsub : ∀ v i, subscripted (.Slice none none (some st) p2) false v i = operate [v, i] (getItem v i)) :
    PE X (.Subscript e (.Slice none none (some st) p2) pos) (fun σ H Q => te σ H fun y H1 => r y H1 Q) := by
  refine ⟨fun pins s σ H Q I h => ?_⟩
  refine Subscript_ (thn (he.run pins s σ H _ I h) fun v s1 ⟨y, H1, I1, r1, q1⟩ => ?_)
  refine wpAny_Slice ?_
  rw [evalPart_none]
  refine wpAny_pure ?_
  refine wpAny_pure ?_
  rw [evalPart_some]
  refine thn (hst pins s1 σ H1 (fun z H2 => z = .int (-1) ∧ H2 = H1) I1 ⟨rfl, rfl⟩) fun u s3 ⟨z, H3, I3, rz, ez, eH⟩ => ?_
  subst ez eH
  obtain ⟨tk, rfl⟩ := rz
  have I4 : Inv X pins σ H3 { s3 with heap := s3.heap.push { cls := .type "slice", data := .fields #[.none, .none, .int (-1) tk] } } := I3.kept (t' := s3.toks) fun b ob q => Heap.get?_push_of_some _ q
  obtain ⟨T, id, hT, ht, hg⟩ := hr pins { s3 with heap := s3.heap.push { cls := .type "slice", data := .fields #[.none, .none, .int (-1) tk] } } σ H3 y v tk s3.heap.objs.size Q I4 r1 (Heap.IsSliceOf.new ..) q1
  show wpAny (model X.prog X.w) X.A (subscriptTail e (.Slice none none (some st) p2) v (.ref s3.heap.objs.size)) (EP X pins σ Q) X.xe { s3 with heap := s3.heap.push { cls := .type "slice", data := .fields #[.none, .none, .int (-1) tk] } }
  exact tail_any (ops := [v, .ref s3.heap.objs.size]) ht hT hg (hsub _ _)
theorem neg_one {X : Cx} {j : Nat} {p1 p2 : Pos} (pins : List (Addr × Obj)) (s : Shared) (σ : L2.St) (H : Hp) (Q : VK) (I : Inv X pins σ H s) (q : Q (.int (-1)) H) : wpAny (model X.prog X.w) X.A (eval (.UnaryOp .USub (.Constant (.int 1) j p1) p2) X.env) (EP X pins σ Q) X.xe s :=
  (pe_un un_neg pe_int).run pins s σ H Q I ⟨1, rfl, q⟩
theorem rv_tup {X : Cx} {Z : St0} (hK : X.K = Z.K) : RvR X (fun y H Q => ∃ (m : List Addr) (S : List PO) (a v : PV), Rel Z m S H ∧ Rs Z m H a y ∧ revP a = some v ∧ ∀ H' u, Ext m H m H' → Rel Z m S H' → Rp Z m H' v u → Q u H') := by
  intro pins s σ H y v tk sl Q I rx hs h
  obtain ⟨m, S, a, w, R, ra, hv, q⟩ := h
  cases a with
  | tup xs =>
    cases hv
    obtain ⟨p, us, rfl, h1, rr⟩ := ra.tup
    cases rx
    obtain ⟨its, r, ht, hz⟩ := I.tuple (SqT.of h1)
    refine ⟨"tuple", _, PyProof.Rows.slot_tuple_getitem.lookup, ht.typeIs, ?_⟩
    refine tuple_rev ht hs ?_ (by rw [← r.length]; exact hz)
    have hp := I.hok.fresh (Nat.le_refl s.heap.objs.size)
    refine ⟨.ref s.heap.objs.size, _, I.laid (t' := s.toks) (o := .tup us.reverse) (fun b ob q => Heap.get?_push_of_some _ q) (Nat.le_refl _) ?_, rfl, q _ _ (Ext.alloc hp) (R.alloc hp) (.tup upd_same (rr.reverse.ext (Ext.alloc hp)))⟩
    exact ⟨by rw [List.length_reverse]; exact hz, _, r.reverse, IsTup.new _ _⟩
  | _ => cases hv
theorem rv_lst {X : Cx} {Z : St0} (hK : X.K = Z.K) : RvR X (fun y H Q => ∃ (m : List Addr) (a : PV) (v : List PV), Rs Z m H a y ∧ revL a = some v ∧ ∀ us, RpA Z m H v us → ∀ p, H p = none → Q (.ref p) (upd H p (.lst us))) := by
  intro pins s σ H y v tk sl Q I rx hs h
  obtain ⟨m, a, w, ra, hv, q⟩ := h
  have key : ∃ p us xs, y = .ref p ∧ SqL X.K H p us ∧ RpA Z m H xs us ∧ w = xs.reverse := by
    cases a with
    | lst xs =>
      cases hv
      obtain ⟨p, us, rfl, h1, rr⟩ := ra.lst_
      exact ⟨p, us, xs, rfl, SqL.of h1, rr, rfl⟩
    | rd xs =>
      cases hv
      obtain ⟨p, us, rfl, h1, rr⟩ := ra.rd_
      exact ⟨p, us, xs, rfl, by rw [hK]; exact h1.sqL, rr, rfl⟩
    | _ => cases hv
  obtain ⟨p, us, xs, rfl, h1, rr, rfl⟩ := key
  cases rx
  obtain ⟨its, r, ht, hz⟩ := I.list h1
  have hlen := r.length
  refine ⟨"list", _, slot_list_getitem.lookup, ht.isList.typeIs, ?_⟩
  refine wpAny_getItem_list_slice (st := some (-1)) ht.isList hs .none .none (.int _ _) (by decide) ?_ (by rw [List.size_toArray] <;> omega)
  rw [PySem.W.krv_pick]
  refine ⟨.ref s.heap.objs.size, _, I.laid (t' := s.toks) (o := .lst us.reverse) (fun b ob q => Heap.get?_push_of_some _ q) (Nat.le_refl _) ?_, rfl, q _ rr.reverse _ (I.hok.fresh (Nat.le_refl _))⟩
  exact ⟨by rw [List.length_reverse]; exact hz, its.reverse, 0, r.reverse, by simpa using Heap.get?_push_size _ rfl⟩
theorem se_rev {e : Expr} {p : PX} {j : Nat} {p1 p2 p3 pos : Pos} (ha : SE G d x e (evE G p)) : SE G d x (.Subscript e (.Slice none none (some (.UnaryOp .USub (.Constant (.int 1) j p1) p2)) p3) pos) (evE G (.rev p)) := by
  intro Z X W m H S ρ σ Q n h
  simp only [evE] at h
  refine PE.j (pe_rev (rv_tup n.ok.hK) pe_j neg_one (fun _ _ => rfl)) (ha Z X W m H S ρ σ _ n (Post.bind h fun v S1 m1 H1 u e1 x1 R1 r1 q1 => ?_))
  split at q1
  · rename_i w hw
    obtain ⟨a, e2, e3⟩ := see1_some hw
    exact ⟨m1, S1, a, w, R1, see_rs R1 r1 e2, e3, fun H' u x2 R2 r2 => q1 m1 H' u x2 R2 (.p r2)⟩
  · exact q1.elim
theorem sl_rev {e : Expr} {p : PX} {j : Nat} {p1 p2 p3 pos : Pos} (ha : SE G d x e (evE G p)) : SL G d x (.Subscript e (.Slice none none (some (.UnaryOp .USub (.Constant (.int 1) j p1) p2)) p3) pos) (evL G (.rev p)) := by
  intro Z X W m H S ρ σ Q n h
  simp only [evL] at h
  refine PE.j (pe_rev (rv_lst n.ok.hK) pe_j neg_one (fun _ _ => rfl)) (ha Z X W m H S ρ σ _ n (Post.bind h fun v S1 m1 H1 u e1 x1 R1 r1 q1 => ?_))
  split at q1
  · rename_i w hw
    obtain ⟨a, e2, e3⟩ := see1_some hw
    exact ⟨m1, a, w, see_rs R1 r1 e2, e3, fun us r2 => q1 m1 H1 us .refl R1 (ReA.of r2)⟩
  · exact q1.elim
end
/-! ### d.update(d2) -/
theorem merge_rel {Z : St0} {m : List Addr} {H : Hp} : ∀ {ks2 : List Key} {vs2 : List PV} {us2 : List V} {ks : List Key} {vs : List PV} {us : List V}, RpA Z m H vs2 us2 → ks2.length = us2.length → RpA Z m H vs us → ks.length = us.length →
    ∃ us', mergeK (ks.zip us) (ks2.zip us2) = (mergeP ks vs ks2 vs2).1.zip us' ∧ (mergeP ks vs ks2 vs2).1.length = us'.length ∧ RpA Z m H (mergeP ks vs ks2 vs2).2 us'
  | [], _, [], ks, vs, us, .nil, _, r, l => ⟨us, rfl, l, r⟩
  | [], _, _ :: _, ks, vs, us, _, h, r, l => by simp at h
  | k :: ks2, _, [], ks, vs, us, _, h, r, l => by simp at h
  | k :: ks2, _, u :: us2, ks, vs, us, .cons h1 r2, h, r, l => by
    obtain ⟨us', e1, e2, e3⟩ := put_rel k h1 r l
    obtain ⟨us3, f1, f2, f3⟩ := merge_rel r2 (by simpa using h) e3 e2
    refine ⟨us3, ?_, f2, f3⟩
    rw [List.zip_cons_cons]
    show mergeK (putK (ks.zip us) k u) (ks2.zip us2) = _
    rw [e1, f1]
    rfl
def rUpdate (K : PySem.W.Frag) : V → List V → Hp → VK → Prop := fun x xs H Q => ∃ (a b : Addr) (kvs more : List (Key × V)), x = .ref a ∧ xs = [.ref b] ∧ H a = some (.dK kvs) ∧ Rd H b (.dK more) ∧ a ≠ b ∧ kvs.length + more.length ≤ sizeLine ∧ Q .non (upd H a (.dK (mergeK kvs more)))
theorem mt_update {X : Cx} : MtR X "dict.update" (rUpdate X.K) := by
  intro pins s σ H x xs v us Q I rx rxs h
  obtain ⟨a, b, kvs, more, rfl, rfl, ha, hb, hne, hl, q⟩ := h
  cases rx
  cases rxs with
  | cons r1 rr =>
    cases rr
    cases r1
    obtain ⟨z, lo, vs, kv, hD⟩ := dk_of I.hok ha
    obtain ⟨z2, lo2, ws, kw, hD2⟩ := dk_rd I.hok hb
    have l1 : kvs.length = vs.length := Paired.length kv
    have l2 : more.length = ws.length := Paired.length kw
    refine call_meetsIn PySem.F.slot_dict_update hD.typeIs PySem.F.entry_dict_update (PySem.F.args_dict_update_2 _ _) (meets_dict_update (mixKind X.prog X.w) a b hne lo2)
      ⟨vs, ws, hD, hD2, by omega, fun h' dd' _ hs => ?_⟩
    have he : ∃ q, h'.get? a = some q := let ⟨q, _, _, hq, _⟩ := dd'; ⟨q, hq⟩
    have hlm := length_mergeK more kvs
    exact ⟨.non, _, d_write I (by rw [ha]; exact True.intro) hs he (dk_new (by omega) lo (KV.merge kw kv) dd'), rfl, q⟩
theorem mth_update : MthOk .update rUpdate 1 := by
  intro Z m H S S' y w vs u us Q R r ra hn h q
  simp only [methV] at h
  split at h
  · rename_i i
    cases r with
    | ref hi =>
      rename_i a
      split at h
      · rename_i ks2 vs2
        split at h
        · rename_i ks vs e
          split at h
          · rename_i hl
            split at h
            · rename_i hl2
              cases h
              obtain ⟨us0, g, gl, gr⟩ := R.ob i a _ hi e
              cases ra with
              | cons r1 rr =>
                cases rr
                cases r1 with
                | p r1 =>
                  cases r1 with
                  | dct hd f l2 r1 =>
                    rename_i b us2
                    obtain ⟨us', e1, e2, e3⟩ := merge_rel r1 l2 gr gl
                    have ha := List.mem_of_getElem? hi
                    have hlim := lim_le
                    have ex := Ext.write (o := .dK ((mergeP ks vs ks2 vs2).1.zip us')) R ha
                    refine ⟨a, b, _, _, rfl, rfl, g, hd, fun z => f.2 (z ▸ ha), by rw [List.length_zip, List.length_zip]; omega, ?_⟩
                    rw [e1]
                    exact q m _ _ ex (R.write hi ⟨us', upd_same, e2, e3.ext ex⟩) (.p .non)
            · cases h
          · cases h
        · cases h
      · cases h
  · cases h
section
variable {G : Gm} {d : Nat} {x : Sx} {o e : Expr} {p q : PX} {apos cpos : Pos}
theorem se_update (ha : SE G d x o (evE G p)) (hb : SE G d x e (evE G q)) (hbase : plainBase o = true) (hs : starB e = false) (hl : (apos.endLine == cpos.line) = true) : SE G d x (.Call (.Attribute o "update" apos) [e] [] cpos) (evE G (.meth .update p [q])) :=
  se_meth1 (r := rUpdate) PySem.F.plainAttrs_dict PySem.F.slot_dict_update PySem.F.type_dict_update (fun X => mt_update) mth_update ha hb hbase hs hl
end
/-! ### d.pop(k, x) -/
theorem drop_rel {Z : St0} {m : List Addr} {H : Hp} (k : Key) : ∀ {ks : List Key} {vs : List PV} {us : List V}, RpA Z m H vs us → ks.length = us.length →
    ∃ us', dropK (ks.zip us) k = (dropP ks vs k).1.zip us' ∧ (dropP ks vs k).1.length = us'.length ∧ RpA Z m H (dropP ks vs k).2 us'
  | [], _, [], .nil, _ => ⟨[], rfl, rfl, .nil⟩
  | [], _, _ :: _, _, h => by simp at h
  | j :: ks, _, _, .nil, h => by simp at h
  | j :: ks, _, _, .cons (u := u) r rs, h => by
    obtain ⟨us', e1, e2, e3⟩ := drop_rel k rs (by simpa using h)
    rw [List.zip_cons_cons]
    simp only [dropP]
    by_cases e : j = k
    · rw [if_pos e]
      refine ⟨us', ?_, e2, e3⟩
      rw [← e1]
      unfold dropK
      rw [List.filter_cons_of_neg (by simpa using e)]
    · rw [if_neg e]
      refine ⟨u :: us', ?_, by simp [e2], .cons r e3⟩
      rw [List.zip_cons_cons, ← e1]
      unfold dropK
      rw [List.filter_cons_of_pos (by simpa using e)]
section
variable {G : Gm} {d : Nat} {x : Sx} {a b c : Expr} {p q r : PX} {apos cpos : Pos}
theorem se_dpop (ha : SE G d x a (evE G p)) (hb : SE G d x b (evE G q)) (hc : SE G d x c (evE G r)) (hbase : plainBase a = true) (hs : starB b = false) (hs2 : starB c = false) (hl : (apos.endLine == cpos.line) = true) :
    SE G d x (.Call (.Attribute a "pop" apos) [b, c] [] cpos) (evE G (.dpop p q r)) := by
  intro Z X W m H S ρ σ Q n h
  simp only [evE] at h
  refine PE.j (pe_dpop2 pe_j pe_j pe_j ⟨by rw [base_of hbase], by rw [star_cons hs, star_cons hs2]; rfl, hl, by rw [star_cons hs, star_cons hs2]; rfl⟩) (ha Z X W m H S ρ σ _ n (Post.bind h fun y S1 m1 H1 u e1 x1 R1 r1 q1 => ?_))
  split at q1
  · rename_i hd
    obtain ⟨g, rfl, hg⟩ := dctS_rel R1 r1 hd
    refine ⟨g, rfl, hg, hb Z X W m1 H1 S1 ρ σ _ (n.step x1 R1) (Post.bind q1 fun z S2 m2 H2 w e2 x2 R2 r2 q2 => ?_)⟩
    refine hc Z X W m2 H2 S2 ρ σ _ ((n.step x1 R1).step x2 R2) (Post.bind q2 fun z3 S3 m3 H3 w3 e3 x3 R3 r3 q3 => ?_)
    split at q3
    · rename_i i
      split at q3
      · rename_i ks vs e
        split at q3
        · rename_i k hk
          split at q3
          · rename_i v0 hv
            cases z3 with
            | ref i => cases hv
            | p v1 =>
              cases hv
              cases r3 with
              | p r3 =>
                have hi : m3[i]? = some g := by
                  cases r1 with
                  | ref hi => exact x3.get (x2.get hi)
                obtain ⟨us0, g0, gl, gr⟩ := R3.ob i g _ hi e
                obtain ⟨y0, hy, hk⟩ := Option.bind_eq_some_iff.mp hk
                have ek := keyOf_rel (see_rs R3 (r2.ext x3) hy) hk
                refine ⟨_, k, g0, ek, fun v hv => ?_, fun hv => ?_⟩
                · rcases look_rel k gr gl with ⟨a1, b1, h1, h2, h3⟩ | ⟨h1, h2⟩
                  · rw [h1] at q3
                    rw [h2] at hv
                    cases hv
                    obtain ⟨us', e1, e2, e3⟩ := drop_rel k gr gl
                    have ha := List.mem_of_getElem? hi
                    have ex := Ext.write (o := .dK ((dropP ks vs k).1.zip us')) R3 ha
                    rw [e1]
                    exact q3 m3 _ _ ex (R3.write hi ⟨us', upd_same, e2, e3.ext ex⟩) (.p (h3.ext ex))
                  · rw [h2] at hv; cases hv
                · rcases look_rel k gr gl with ⟨a1, b1, h1, h2, h3⟩ | ⟨h1, h2⟩
                  · rw [h2] at hv; cases hv
                  · rw [h1] at q3
                    exact q3 m3 H3 _ .refl R3 (.p r3)
          · exact q3.elim
        · exact q3.elim
      · exact q3.elim
    · exact q3.elim
  · exact q1.elim
end
end Rv
end PartRvLa
section PartRvSa
set_option Elab.async false
set_option linter.all false
set_option maxRecDepth 100000
set_option autoImplicit false
/-! Rv, part Sa: loops over a dict, xs[i] += e, two places stored at once. -/
namespace Rv
open PySem PySem.Spec PyProof.Rows L2
section
variable {G : Gm} {d : Nat} {x : Sx} {pos : Pos}
theorem ss_forD {tg it : Expr} {t : PT} {k : DK} {i : Nat} {body : List Stmt} {ps : List PS} (hh : x.hot = false) (hi : ditB x k i tg it = true) (hg : SG x tg t) (hb : SSs G d x body (evSs G ps)) : SS G d x (.For tg it body [] pos) (evS G (.loopD t k i ps)) := by
  refine SS.of_lk (i := i) (fun ρ S q => ?_) (fun ρ S ρ' c fs S' q => ?_) fun Z X W D m H S ρ σ n lk h => ?_
  · refine dit_has (G := G) (S := S) (k := k) fun z => q ?_
    simp only [evS, z, Out.toS, noExc]
  · simp only [evS] at q
    generalize Out.toS _ _ _ = r at q
    cases r <;> cases q
  · simp only [evS] at h
    refine for_core hh hg hb (dit_nset hi) (fun R q => ji_dit hi n lk q) n ?_
    generalize Out.toS _ _ _ = r at h ⊢
    cases r with
    | exc ρ' c fs S' => exact h.elim
    | _ => exact h
/-! ### o[i], by values -/
def rGetA : V → V → Hp → VK → Prop := fun o i H Q => (∃ (p : Addr) (xs : List V) (j : Int) (z : V), o = .ref p ∧ i = .int j ∧ H p = some (.lst xs) ∧ atI xs j = some z ∧ Q z H) ∨ ∃ (p : Addr) (z : V), o = .ref p ∧ DGet H p i (some z) ∧ Q z H
theorem get_any {X : Cx} (hu : X.A.units + 1 < cLine) : PGet X rGetA := by
  intro pins s σ H o i ov iv Q I ro ri h
  rcases h with ⟨p, xs, j, z, rfl, rfl, hp, he, q⟩ | ⟨p, z, rfl, hg, q⟩
  · cases ro
    obtain ⟨t, rfl⟩ := ri
    obtain ⟨its, r, pl, hz⟩ := I.list (SqL.of hp)
    obtain ⟨n, h1, h2, h3, h4, h5⟩ := atI_get he
    obtain ⟨w, ew, rw'⟩ := r.get h2
    have hl := r.length
    have hn := line63
    by_cases h0 : 0 ≤ j
    · have hj : j.toNat = n := by
        rw [seqIndex_of h0 h5] at h1
        exact Option.some.inj h1
      exact wpAny_getItem_list (x := w) pl.isList h0 (by omega) (by rw [hj]; simpa using ew) ⟨z, H, I, rw', q⟩
    · have hj : (j + (its.toArray.size : Int)).toNat = n := by
        rw [seqIndex_neg (by omega) h4] at h1
        rw [List.size_toArray, ← hl]
        exact Option.some.inj h1
      exact wpAny_getItem_list_neg (x := w) pl.isList (by omega) (by rw [List.size_toArray] <;> omega) (by omega) (by rw [hj]; simpa using ew) ⟨z, H, I, rw', q⟩
  · cases ro
    exact d_getItem hu I hg ri fun w' s' I' r' => ⟨z, H, I', r', q⟩
theorem augGet_rel {Z : St0} {m : List Addr} {H : Hp} {S : List PO} {y k : EV} {u v : V} {a : Int} {Q : VK} (R : Rel Z m S H) (r : Re Z m H y u) (rk : Re Z m H k v) (h : augGet S y k = some a) (q : Q (.int a) H) : rGetA u v H Q := by
  cases r with
  | p r => cases h
  | ref hi =>
    rename_i i p
    simp only [augGet] at h
    split at h
    · rename_i xs e
      obtain ⟨us, g, gr⟩ := R.ob i p _ hi e
      split at h
      · rename_i j
        cases rk with
        | p rk =>
          cases rk
          split at h
          · rename_i b hb
            cases h
            obtain ⟨z, h2, r2⟩ := atI_rel gr hb
            cases r2
            exact .inl ⟨p, us, j, _, rfl, rfl, g, h2, q⟩
          · cases h
      · cases h
    · rename_i ks vs e
      obtain ⟨us, g, gl, gr⟩ := R.ob i p _ hi e
      split at h
      · rename_i kk hk
        obtain ⟨y0, hy, hk⟩ := Option.bind_eq_some_iff.mp hk
        cases k with
        | ref j => cases hy
        | p k0 =>
          cases hy
          cases rk with
          | p rk =>
            have ek := keyOf_rel (.p rk) hk
            split at h
            · rename_i b hb
              cases h
              rcases look_rel kk gr gl with ⟨a1, b1, h1, h2, h3⟩ | ⟨h1, h2⟩
              · rw [h1] at hb
                cases hb
                cases h3
                exact .inr ⟨p, _, rfl, .inl ⟨_, kk, .inl g, ek, h2.symm⟩, q⟩
              · rw [h1] at hb; cases hb
            · cases h
      · cases h
    · cases h
theorem ss_augIx {o i e : Expr} {p q r : PX} {op : BOp} {tpos : Pos} (ho : SE G d x o (evE G p)) (hi : SE G d x i (evE G q)) (he : SE G d x e (evE G r)) (hs : noSlice i = true) (hop : op = .add ∨ op = .sub) : SS G d x (.AugAssign (.Subscript o i tpos) (bopOf op) e pos) (evS G (.augIx op p q r)) := by
  intro Z X W D m H S ρ σ n h
  simp only [evS] at h
  have main : ∀ {f : Int → Int → Int}, PIp X (bopOf op) (ipI f) → PostS Z G W D m H ((evE G p ρ S).toS ρ fun x S1 => (evE G q ρ S1).toS ρ fun k S2 => match augGet S2 x k with
    | some a => (evE G r ρ S2).toS ρ fun v S3 => match v with
      | .p (.int b) => match setV S3 x k (.p (.int (f a b))) with
          | some S4 => .nx ρ S4
          | none => .stuck
      | _ => .stuck
    | none => .stuck) → jS X (.AugAssign (.Subscript o i tpos) (bopOf op) e pos) D σ H := fun {f} hp h => by
    refine PS.j (ps_augS pe_j pe_j (get_any (units1 n.ok.room)) pe_j hp (set_any (units1 n.ok.room)) (fun ov iv new => by cases i <;> first | rfl | (cases hs))) (ho Z X W m H S ρ σ _ n (PostS.toS n.env h fun y S1 m1 H1 u e1 x1 R1 r1 q1 => ?_))
    have n1 := n.step x1 R1
    refine hi Z X W m1 H1 S1 ρ σ _ n1 (PostS.toS n1.env q1 fun k S2 m2 H2 u2 e2 x2 R2 r2 q2 => ?_)
    have n2 := n1.step x2 R2
    split at q2
    · rename_i a ea
      refine augGet_rel R2 (r1.ext x2) r2 ea ?_
      refine he Z X W m2 H2 S2 ρ σ _ n2 (PostS.toS n2.env q2 fun v S3 m3 H3 u3 e3 x3 R3 r3 q3 => ?_)
      split at q3
      · rename_i b
        cases r3 with
        | p r3 =>
          cases r3
          refine ⟨a, b, rfl, rfl, ?_⟩
          split at q3
          · rename_i S4 e4
            exact setV_rel R3 ((r1.ext x2).ext x3) (r2.ext x3) (.p (.int _)) e4 fun H' ex R' => q3 m3 H' σ ex R' (((n2.env.ext x3)).ext ex)
          · exact q3.elim
      · exact q3.elim
    · exact q2.elim
  rcases hop with rfl | rfl
  · exact main ip_add h
  · exact main ip_sub h
end
end Rv
end PartRvSa
section PartRvT
set_option Elab.async false
set_option linter.all false
set_option maxRecDepth 100000
set_option autoImplicit false
/-! Rv, part T: raise, try. -/
namespace Rv
open PySem PySem.Spec PyProof.Rows L2
/-- X() -/
theorem pmk_own0 {X : Cx} {C : Addr} {bmB : List Value} {B newId initId : String} {x : Str} {p pos : Pos} (F : ExcBaseFacts B newId initId bmB) (q : PySem.W.excIn X.K C bmB newId = true) (gC : X.mg x = some (.ref C)) (kC : PySem.W.keepIn X.K (.ref C) = true) (r : Raises X (.ref C)) (hg : Gl X x)
    (hdb : (x == ("__debug__" : Str)) = false) : L2N.PMk X (.Call (.Name x p) [] [] pos) (fun _ H Q => Q (.ref C) none H) := by
  intro pins s σ H Q I h
  refine wpAny_Call_Name_kw (ld_glob I hg gC ?_ hdb)
  refine PySem.W.callWith_K0 I.kIn kC ?_
  show wpAny _ _ (call (.ref C) []) _ _ _
  obtain ⟨bm, N, nm, qn, bs, hdct, sn, sub, ab, col, dd, k0, k1, k2, k3, k5, mN, hC, hN, hni, T⟩ := exc_obj I.kIn q
  refine wpAny_call_exc_subT F T hC hN hni (fun h' e hm => ?_) (by show 0 ≤ sizeLine; exact Nat.zero_le _)
  exact L2N.mk_of I hm r h (I.hok.gone hm.new)
/-! values told where nothing was handled -/
mutual
theorem Rp.hotten {K : PySem.W.Frag} {ad : Adr} {hx : Option (Addr × Obj)} {F F' : Addr → Prop} {m m' : List Addr} {H : Hp} (k : ∀ a, Fre ⟨K, ad, F, none⟩ m a → Fre ⟨K, ad, F', hx⟩ m' a) : ∀ {v : PV} {u : V}, Rp ⟨K, ad, F, none⟩ m H v u → Rp ⟨K, ad, F', hx⟩ m' H v u
  | _, _, .non => .non
  | _, _, .bl b => .bl b
  | _, _, .int b => .int b
  | _, _, .str b => .str b
  | _, _, .ty b => .ty b
  | _, _, .tup h r => .tup h (RpA.hotten k r)
  | _, _, .lst h f r => .lst h (k _ f) (RpA.hotten k r)
  | _, _, .rd h r => .rd (h.elim (fun h => .inl ⟨h.1, k _ h.2⟩) .inr) (RpA.hotten k r)
  | _, _, .dct h f l r => .dct h (k _ f) l (RpA.hotten k r)
  | _, _, .dtt h f l r => .dtt h (k _ f) l (RpA.hotten k r)
  | _, _, .fn i => .fn i
  | _, _, .cls i => .cls i
  | _, _, .exn h1 _ _ _ => nomatch h1
theorem RpA.hotten {K : PySem.W.Frag} {ad : Adr} {hx : Option (Addr × Obj)} {F F' : Addr → Prop} {m m' : List Addr} {H : Hp} (k : ∀ a, Fre ⟨K, ad, F, none⟩ m a → Fre ⟨K, ad, F', hx⟩ m' a) : ∀ {v : List PV} {u : List V}, RpA ⟨K, ad, F, none⟩ m H v u → RpA ⟨K, ad, F', hx⟩ m' H v u
  | _, _, .nil => .nil
  | _, _, .cons h r => .cons (Rp.hotten k h) (RpA.hotten k r)
end
section
variable {G : Gm} {d : Nat} {x : Sx} {pos : Pos}
theorem ss_raise {c : Nat} {ci : ClI} {p pos2 : Pos} (hh : x.hot = false) (hi : G.cls[c]? = some ci) (hn : ci.nm = []) (hg : glB x.sc ci.name = true) (hd : (ci.name == ("__debug__" : Str)) = false) : SS G d x (.Raise (some (.Call (.Name ci.name p) [] [] pos2)) none pos) (evS G (.raise c)) := by
  intro Z X W D m H S ρ σ n h
  simp only [evS] at h
  obtain ⟨h1, h2, h3, h4, _⟩ := n.ok.cls c ci hi
  refine PS.j (L2N.ps_raise (n.ok.calm hh).1 n.tk (pmk_own0 PySem.F.excBase_ValueError (h4 hn) h1 h2 h3 (gl_of n.ok.hs hg) hd)) (h m H σ none Ext.refl n.rel n.env ?_)
  have : G.nm c = [] := by unfold Gm.nm; rw [hi]; exact hn
  rw [this]
  exact ⟨rfl, rfl⟩
/-! ### suites -/
def PostH (Z : St0) (D : Ends) (m : List Addr) (H : Hp) (σ : L2.St) (o : SR) : Prop := match o with
  | .nx _ S => ∀ (m' : List Addr) (H' : Hp), Ext m H m' H' → Rel Z m' S H' → D.nx σ H'
  | .ct _ S => ∀ (m' : List Addr) (H' : Hp), Ext m H m' H' → Rel Z m' S H' → D.ct σ H'
  | .bk _ S => ∀ (m' : List Addr) (H' : Hp), Ext m H m' H' → Rel Z m' S H' → D.bk σ H'
  | .ret v S => ∀ (m' : List Addr) (H' : Hp) (u : V), Ext m H m' H' → Rel Z m' S H' → RpR Z m' H' v u → D.rt u H'
  | .exc _ _ _ _ => False
  | .stuck => False
theorem PostH.ext {Z : St0} {D : Ends} {m m1 : List Addr} {H H1 : Hp} {σ : L2.St} {o : SR} (h : PostH Z D m H σ o) (e : Ext m H m1 H1) : PostH Z D m1 H1 σ o := by
  cases o with
  | nx ρ S => exact fun m' H' e' => h m' H' (e.trans e')
  | ct ρ S => exact fun m' H' e' => h m' H' (e.trans e')
  | bk ρ S => exact fun m' H' e' => h m' H' (e.trans e')
  | ret v S => exact fun m' H' u e' => h m' H' u (e.trans e')
  | exc ρ c fs S => exact h
  | stuck => exact h
theorem PostH.toS {Z : St0} {D : Ends} {m : List Addr} {H : Hp} {σ : L2.St} {ρ : Sl} {W : WX} {α β : Type} {R : List Addr → Hp → α → β → Prop} {Q : β → Hp → Prop} {o : Out α} {f : α → List PO → SR} (h : PostH Z D m H σ (o.toS ρ f))
    (k : ∀ v S m' H' u, o = .ok v S → Ext m H m' H' → Rel Z m' S H' → R m' H' v u → PostH Z D m' H' σ (f v S) → Q u H') : Post Z G W R m H σ o Q := by
  cases o with
  | ok v S => exact fun m' H' u e r q => k v S m' H' u rfl e r q (PostH.ext (o := f v S) h e)
  | exc c fs S => exact h.elim
  | stuck => exact h
def SH (G : Gm) (d : Nat) (x : Sx) (st : Stmt) (f : Sl → List PO → SR) : Prop :=
  ∀ (Z : St0) (X : Cx) (D : Ends) (m : List Addr) (H : Hp) (S : List PO) (ρ : Sl) (σ : L2.St), Now Z G d x X (fun _ _ _ _ => False) m H S ρ σ → PostH Z D m H σ (f ρ S) → jS X st D σ H
def SHs (G : Gm) (d : Nat) (x : Sx) (st : List Stmt) (f : Sl → List PO → SR) : Prop :=
  ∀ (Z : St0) (X : Cx) (D : Ends) (m : List Addr) (H : Hp) (S : List PO) (ρ : Sl) (σ : L2.St), Now Z G d x X (fun _ _ _ _ => False) m H S ρ σ → PostH Z D m H σ (f ρ S) → jSs X st D σ H
mutual
theorem evH_nx (G : Gm) : ∀ (p : PH) (ρ ρ' : Sl) (S S' : List PO), evH G p ρ S = .nx ρ' S' → ρ' = ρ
  | .ret e, ρ, ρ', S, S', h => by
    simp only [evH, Out.toS] at h
    split at h <;> cases h
  | .ife c a b, ρ, ρ', S, S', h => by
    simp only [evH, Out.toS] at h
    split at h
    · split at h
      · exact evHs_nx G a ρ ρ' _ S' h
      · exact evHs_nx G b ρ ρ' _ S' h
    · cases h
    · cases h
  | .pass, ρ, ρ', S, S', h => by simp only [evH] at h; cases h; rfl
  | .brk, ρ, ρ', S, S', h => by simp only [evH] at h; cases h
  | .cont, ρ, ρ', S, S', h => by simp only [evH] at h; cases h
theorem evHs_nx (G : Gm) : ∀ (p : List PH) (ρ ρ' : Sl) (S S' : List PO), evHs G p ρ S = .nx ρ' S' → ρ' = ρ
  | [], ρ, ρ', S, S', h => by simp only [evHs] at h; cases h; rfl
  | s :: ss, ρ, ρ', S, S', h => by
    simp only [evHs] at h
    cases e : evH G s ρ S with
    | nx ρ1 S1 =>
      rw [e] at h
      have e1 := evH_nx G s ρ ρ1 S S1 e
      subst e1
      exact evHs_nx G ss ρ1 ρ' S1 S' h
    | _ => rw [e] at h; cases h
end
theorem sh_ret {e : Expr} {p : PX} (ha : SE G d x e (evE G p)) : SH G d x (.Return (some e) pos) (evH G (.ret p)) := by
  intro Z X D m H S ρ σ n h
  simp only [evH] at h
  exact PS.j (ps_ret pe_j) (ha Z X _ m H S ρ σ _ n (PostH.toS h fun v S1 m1 H1 u e1 x1 R1 r1 q1 => q1 m1 H1 u Ext.refl R1 (.e r1)))
theorem sh_pass : SH G d x (.Pass pos) (evH G .pass) := by
  intro Z X D m H S ρ σ n h
  simp only [evH] at h
  exact PS.j ps_pass (h m H Ext.refl n.rel)
theorem sh_brk : SH G d x (.Break pos) (evH G .brk) := by
  intro Z X D m H S ρ σ n h
  simp only [evH] at h
  exact PS.j ps_break (h m H Ext.refl n.rel)
theorem sh_cont : SH G d x (.Continue pos) (evH G .cont) := by
  intro Z X D m H S ρ σ n h
  simp only [evH] at h
  exact PS.j ps_continue (h m H Ext.refl n.rel)
theorem sh_if {c : Expr} {a b : List Stmt} {p : PB} {as bs : List PH} (hc : ST G d x c (evT G p)) (ha : SHs G d x a (evHs G as)) (hb : SHs G d x b (evHs G bs)) : SH G d x (.If c a b pos) (evH G (.ife p as bs)) := by
  intro Z X D m H S ρ σ n h
  simp only [evH] at h
  refine PS.j (ps_if pt_j pss_j pss_j) (hc Z X _ m H S ρ σ _ n (PostH.toS h fun t S1 m1 H1 u e1 x1 R1 r1 q1 => ?_))
  cases r1
  cases t with
  | true => exact iteT (ha Z X D m1 H1 S1 ρ σ (n.step x1 R1) q1)
  | false => exact iteF (hb Z X D m1 H1 S1 ρ σ (n.step x1 R1) q1)
theorem shs_nil : SHs G d x [] (evHs G []) := by
  intro Z X D m H S ρ σ n h
  simp only [evHs] at h
  exact PSs.j pss_nil (h m H Ext.refl n.rel)
theorem shs_cons {st : Stmt} {rest : List Stmt} {p : PH} {ps : List PH} (ha : SH G d x st (evH G p)) (hb : SHs G d x rest (evHs G ps)) : SHs G d x (st :: rest) (evHs G (p :: ps)) := by
  intro Z X D m H S ρ σ n h
  simp only [evHs] at h
  refine PSs.j (pss_cons ps_j pss_j) (ha Z X { D with nx := fun σ' H' => jSs X rest D σ' H' } m H S ρ σ n ?_)
  cases e : evH G p ρ S with
  | nx ρ1 S1 =>
    rw [e] at h
    have e1 := evH_nx G p ρ ρ1 S S1 e
    subst e1
    intro m1 H1 x1 R1
    exact hb Z X D m1 H1 S1 ρ1 σ (n.step x1 R1) (PostH.ext h x1)
  | ct ρ1 S1 => rw [e] at h; exact h
  | bk ρ1 S1 => rw [e] at h; exact h
  | ret v S1 => rw [e] at h; exact h
  | exc ρ1 c fs S1 => rw [e] at h; exact h
  | stuck => rw [e] at h; exact h
/-- the static context of a suite -/
def hotX (x : Sx) : Sx := { x with hot := true, top := false }
theorem plainSl_rel {K : PySem.W.Frag} {ad : Adr} {hx : Option (Addr × Obj)} {F F' : Addr → Prop} {m m' : List Addr} {H : Hp} {ρ : Sl} {σ : L2.St} (k : ∀ a, Fre ⟨K, ad, F, none⟩ m a → Fre ⟨K, ad, F', hx⟩ m' a) (h : RpE ⟨K, ad, F, none⟩ m H ρ σ) : RpE ⟨K, ad, F', hx⟩ m' H (plainSl ρ) σ := by
  refine ⟨by rw [plainSl, List.length_map]; exact h.1, fun i v hv => ?_⟩
  rw [plainSl, List.getElem?_map] at hv
  obtain ⟨o, ho, e⟩ := Option.map_eq_some_iff.mp hv
  split at e
  · rename_i w
    cases e
    obtain ⟨u, hu, r⟩ := h.2 i _ ho
    cases r with
    | p r => exact ⟨u, hu, .p (r.hotten k)⟩
  · cases e
/-- the suite behind a caught exception -/
theorem suite_ok {Z : St0} {X : Cx} {D : Ends} {m : List Addr} {H : Hp} {S : List PO} {ρ : Sl} {σ σs : L2.St} {suite : List Stmt} {ps : List PH} {k : Nat} {a : Addr} {oe : Obj} {pn : List (Addr × Obj)} {ρs : Sl} {W : WX} (ok : XOk Z G d x X) (hh : x.hot = false) (hsu : SHs G d (hotX x) suite (evHs G ps))
    (hz : L2N.Zn (.ref (Z.ad.cls k)) none oe) (hf : ∃ vs, oe.data = .fields vs) (R : Rel Z m S H) (env : RpE Z m H ρ σ)
    (hs : ∀ (Z' : St0), Z'.hx = some (a, oe) → Z'.ad = Z.ad → RpE Z' [] H (plainSl ρ) σ → RpE Z' [] H ρs σs)
    (q : match evHs G ps ρs [] with
      | .nx _ _ => ∀ m' H', Ext m H m' H' → Rel Z m' S H' → D.nx σs H'
      | .ct _ _ => ∀ m' H', Ext m H m' H' → Rel Z m' S H' → D.ct σs H'
      | .bk _ _ => ∀ m' H', Ext m H m' H' → Rel Z m' S H' → D.bk σs H'
      | .ret (.e (.p v)) _ => flatR v = true ∧ ∀ m' H' u, Ext m H m' H' → Rel Z m' S H' → RpR Z m' H' (.e (.p v)) u → D.rt u H'
      | _ => False) : jSs (X.suite a ((a, oe) :: pn)) suite D σs H := by
  obtain ⟨c1, c2, c3⟩ := ok.calm hh
  obtain ⟨K, ad, F, hx⟩ := Z
  cases c3
  obtain ⟨vs, hv⟩ := hf
  have ok' : XOk ⟨K, ad, fun b => F b ∨ b ∈ m, some (a, oe)⟩ G d (hotX x) (X.suite a ((a, oe) :: pn)) :=
    ⟨ok.hK, ok.hN, ok.hs, ok.hf, fun z => (by cases z), ⟨ok.room.dp, ok.room.un⟩, fun _ => ⟨(a, oe), rfl, ⟨rfl, vs, hv, hz.2.2 vs hv⟩, List.mem_cons_self ..⟩, ok.nd, fun z => (by cases z), ok.fns, ok.cls, ok.free, ok.bfs, ok.csts⟩
  have env' : RpE ⟨K, ad, fun b => F b ∨ b ∈ m, some (a, oe)⟩ [] H (plainSl ρ) σ := plainSl_rel (fun b f => ⟨fun z => z.elim f.1 f.2, fun z => (by cases z)⟩) env
  have n' : Now ⟨K, ad, fun b => F b ∨ b ∈ m, some (a, oe)⟩ G d (hotX x) (X.suite a ((a, oe) :: pn)) (fun _ _ _ _ => False) [] H [] ρs σs :=
    ⟨ok', fun _ _ ⟨_, _, _, _, _, _, _, _, _, _, _, _, _, _, _, _, w⟩ => w.elim, PassesOwn.never, rel_nil (fun b z => z.elim (R.fr b) (fun z => R.ne z)), hs _ rfl rfl env'⟩
  refine hsu _ _ D [] H [] ρs σs n' ?_
  cases e : evHs G ps ρs [] with
  | nx ρ1 S1 => rw [e] at q; exact fun m' H' ex R' => q m H' (ext_back ex) (rel_back R ex)
  | ct ρ1 S1 => rw [e] at q; exact fun m' H' ex R' => q m H' (ext_back ex) (rel_back R ex)
  | bk ρ1 S1 => rw [e] at q; exact fun m' H' ex R' => q m H' (ext_back ex) (rel_back R ex)
  | ret v S1 =>
    rw [e] at q
    cases v with
    | t vs => exact q.elim
    | e v =>
      cases v with
      | ref i => exact q.elim
      | p v =>
        intro m' H' u ex R' r
        cases r with
        | e r =>
          cases r with
          | p r => exact q.2 m H' u (ext_back ex) (rel_back R ex) (.e (.p (flatR_rel r q.1)))
  | exc ρ1 c fs S1 => rw [e] at q; exact q.elim
  | stuck => rw [e] at q; exact q.elim
def tbU (X : Cx) (body : List Stmt) : WX → TS := fun W D σ H => ∀ (pn : List (Addr × Obj)) (xe : Value → Shared → Prop), L2N.Takes (X.tr pn xe) W → PassesOwn (model X.prog X.w) X.A X.env xe → jSs (X.tr pn xe) body D σ H
def tsU (X : Cx) (suite : List Stmt) : Addr → Value → Option Addr → TS := fun a cls d D σ H => ∀ (oe : Obj) (pn : List (Addr × Obj)), L2N.Zn cls d oe → (∃ vs, oe.data = .fields vs) → jSs (X.suite a ((a, oe) :: pn)) suite D σ H
theorem xok_tr {Z : St0} {X : Cx} (ok : XOk Z G d x X) (hh : x.hot = false) (pn : List (Addr × Obj)) (xe : Value → Shared → Prop) : XOk Z G d x (X.tr pn xe) :=
  ⟨ok.hK, ok.hN, ok.hs, ok.hf, ok.calm, ok.room, fun z => absurd (z.symm.trans hh) (by decide), ok.nd, ok.stk, ok.fns, ok.cls, ok.free, ok.bfs, ok.csts⟩
theorem ss_tryAs {body : List Stmt} {b0 : Stmt} {suite : List Stmt} {ps : List PS} {qs : List PH} {c i : Nat} {ci : ClI} {nm : Str} {np pos' : Pos} (hh : x.hot = false) (ht : x.top = true) (hb : SSs G d x body (evSs G ps)) (hsu : SHs G d (hotX x) (b0 :: suite) (evHs G qs))
    (hi : G.cls[c]? = some ci) (hg : glB x.sc ci.name = true) (hd : (ci.name == ("__debug__" : Str)) = false) (hN : x.N[i]? = some nm) (hl : (match x.sc.names.lookup nm with | some .local => true | _ => false) = true) :
    SS G d x (.Try body [.ExceptHandler (some (.Name ci.name np)) (some nm) (b0 :: suite) pos'] [] [] pos) (evS G (.tryE ps c (some i) qs)) := by
  intro Z X W D m H S ρ σ n h
  simp only [evS] at h
  obtain ⟨s1, s2⟩ := n.ok.stk ht
  have hloc : X.env.kindOf nm = some .local := by
    show X.env.scope.names.lookup nm = _
    rw [n.ok.hs]
    split at hl
    · assumption
    · cases hl
  refine PS.j (L2N.ps_try_as (tb := tbU X body) (ts := tsU X (b0 :: suite)) s1 s2 n.ok.nd (by rw [n.ok.hN]; exact hN) hloc ⟨gl_of n.ok.hs hg, hd, .inl (n.ok.cls c ci hi).1⟩ n.tk (fun W pn xe tk po => ⟨fun pins s σ H D I hw => hw pn xe tk po pins s I⟩) (fun a oe cls dd pn hz hf => ⟨fun pins s σ H D I hw => hw oe pn hz hf pins s I⟩)) ?_
  intro pn xe tk po
  refine hb Z (X.tr pn xe) _ D m H S ρ σ ⟨xok_tr n.ok hh pn xe, tk, po, n.rel, n.env⟩ ?_
  cases e : evSs G ps ρ S with
  | nx ρ1 S1 => rw [e] at h; exact h
  | ct ρ1 S1 => rw [e] at h; exact h
  | bk ρ1 S1 => rw [e] at h; exact h
  | ret v S1 => rw [e] at h; exact h
  | stuck => rw [e] at h; exact h
  | exc ρ1 k fs S1 =>
    rw [e] at h
    simp only at h
    cases ek : G.cls[k]? with
    | none => rw [ek] at h; exact h.elim
    | some ki =>
      rw [ek] at h
      simp only at h
      intro m' H' σ' dd ex R' env' rx
      obtain ⟨_, _, _, _, _, _, hk⟩ := n.ok.cls k ki ek
      refine ⟨G.sub k c, (hk c ci hi).2, fun hs a ha => ?_, fun hs => ?_⟩
      · rw [if_pos hs] at h
        split at h
        · rename_i hnm
          have hnm : G.nm k = [] := by unfold Gm.nm; rw [ek]; exact List.isEmpty_iff.mp hnm
          rw [hnm] at rx
          obtain ⟨rfl, rfl⟩ := rx
          intro oe pn hz hf
          have h := PostS.ext h ex
          refine suite_ok (W := W) n.ok hh hsu hz hf R' env' (ρs := (plainSl ρ1).set i (some (.p (.exn k)))) (fun Z' h1 h2 r => r.set (.p (.exn h1 (by rw [h2]; exact hz.1) hz.2.1 hf))) ?_
          unfold suiteR at h
          simp only at h
          split at h
          · rename_i e2; try rw [e2]
            exact fun m2 H2 x2 R2 => h m2 H2 _ x2 R2 (by rw [List.set_set]; exact (env'.ext x2).clear)
          · rename_i e2; try rw [e2]
            exact fun m2 H2 x2 R2 => h m2 H2 _ x2 R2 (by rw [List.set_set]; exact (env'.ext x2).clear)
          · rename_i e2; try rw [e2]
            exact fun m2 H2 x2 R2 => h m2 H2 _ x2 R2 (by rw [List.set_set]; exact (env'.ext x2).clear)
          · rename_i e2
            try rw [e2]
            split at h
            · rename_i hfl; exact ⟨hfl, fun m2 H2 u x2 R2 r2 => h m2 H2 u x2 R2 r2⟩
            · exact h.elim
          · exact h.elim
        · exact h.elim
      · rw [if_neg (by rw [hs]; decide)] at h
        exact h m' H' σ' dd ex R' env' rx
theorem ss_try {body : List Stmt} {b0 : Stmt} {suite : List Stmt} {ps : List PS} {qs : List PH} {c : Nat} {ci : ClI} {np pos' : Pos} (hh : x.hot = false) (ht : x.top = true) (hb : SSs G d x body (evSs G ps)) (hsu : SHs G d (hotX x) (b0 :: suite) (evHs G qs))
    (hi : G.cls[c]? = some ci) (hg : glB x.sc ci.name = true) (hd : (ci.name == ("__debug__" : Str)) = false) :
    SS G d x (.Try body [.ExceptHandler (some (.Name ci.name np)) none (b0 :: suite) pos'] [] [] pos) (evS G (.tryE ps c none qs)) := by
  intro Z X W D m H S ρ σ n h
  simp only [evS] at h
  obtain ⟨s1, s2⟩ := n.ok.stk ht
  refine PS.j (L2N.ps_try_many (tb := tbU X body) s1 s2 n.tk (fun W pn xe tk po => ⟨fun pins s σ H D I hw => hw pn xe tk po pins s I⟩) (.cons (ts := tsU X (b0 :: suite)) ⟨gl_of n.ok.hs hg, hd, .inl (n.ok.cls c ci hi).1⟩ (fun a oe cls dd pn hz hf => ⟨fun pins s σ H D I hw => hw oe pn hz hf pins s I⟩) .nil)) ?_
  intro pn xe tk po
  refine hb Z (X.tr pn xe) _ D m H S ρ σ ⟨xok_tr n.ok hh pn xe, tk, po, n.rel, n.env⟩ ?_
  cases e : evSs G ps ρ S with
  | nx ρ1 S1 => rw [e] at h; exact h
  | ct ρ1 S1 => rw [e] at h; exact h
  | bk ρ1 S1 => rw [e] at h; exact h
  | ret v S1 => rw [e] at h; exact h
  | stuck => rw [e] at h; exact h
  | exc ρ1 k fs S1 =>
    rw [e] at h
    simp only at h
    cases ek : G.cls[k]? with
    | none => rw [ek] at h; exact h.elim
    | some ki =>
      rw [ek] at h
      simp only at h
      intro m' H' σ' dd ex R' env' rx
      obtain ⟨_, _, _, _, _, _, hk⟩ := n.ok.cls k ki ek
      refine ⟨G.sub k c, (hk c ci hi).2, fun hs a ha => ?_, fun hs => ?_⟩
      · rw [if_pos hs] at h
        split at h
        · rename_i hnm
          have hnm : G.nm k = [] := by unfold Gm.nm; rw [ek]; exact List.isEmpty_iff.mp hnm
          rw [hnm] at rx
          obtain ⟨rfl, rfl⟩ := rx
          intro oe pn hz hf
          have h := PostS.ext h ex
          refine suite_ok (W := W) n.ok hh hsu hz hf R' env' (ρs := plainSl ρ1) (fun Z' h1 h2 r => r) ?_
          unfold suiteR at h
          simp only at h
          split at h
          · rename_i e2; try rw [e2]
            exact fun m2 H2 x2 R2 => h m2 H2 _ x2 R2 (env'.ext x2)
          · rename_i e2; try rw [e2]
            exact fun m2 H2 x2 R2 => h m2 H2 _ x2 R2 (env'.ext x2)
          · rename_i e2; try rw [e2]
            exact fun m2 H2 x2 R2 => h m2 H2 _ x2 R2 (env'.ext x2)
          · rename_i e2
            try rw [e2]
            split at h
            · rename_i hfl; exact ⟨hfl, fun m2 H2 u x2 R2 r2 => h m2 H2 u x2 R2 r2⟩
            · exact h.elim
          · exact h.elim
        · exact h.elim
      · rw [if_neg (by rw [hs]; decide)] at h
        exact h m' H' σ' dd ex R' env' rx
end
end Rv
end PartRvT
section PartRvU
set_option Elab.async false
set_option linter.all false
set_option maxRecDepth 100000
set_option autoImplicit false
/-! Rv, part U: a program's defs keep their promises, by depth. -/
namespace Rv
open PySem PySem.Spec PyProof.Rows L2
def runB (o : SR) : Out RV := match o with
  | .ret v S => .ok v S
  | .nx _ S => .ok (.e (.p .non)) S
  | .exc _ c fs S => .exc c fs S
  | _ => .stuck
def startSl (n : Nat) (args : List EV) : Sl := args.map some ++ List.replicate (n - args.length) none
/-- what the defs do, d calls deep -/
def callD (G : Gm) (bs : List (List PS)) : Nat → Nat → List EV → List PO → Out RV
  | 0, _, _, _ => .stuck
  | d + 1, i, args, S => match G.fns[i]? with
    | some f => match bs[i]? with
      | some b => runB (evSs { G with call := callD G bs d } b (startSl f.N.length args) S)
      | none => .stuck
    | none => .stuck
abbrev GD (G : Gm) (bs : List (List PS)) (d : Nat) : Gm := { G with call := callD G bs d }
/-- a def's own context -/
def sxOf (f : FnI) (sc : Scope) (hot : Bool) : Sx := ⟨f.N, sc, fun _ => true, hot, !hot⟩
theorem start_rel {Z : St0} {m : List Addr} {H : Hp} {args : List EV} {vs : List V} (N : List Str) (r : ReA Z m H args vs) : RpE Z m H (startSl N.length args) (L2.start N vs) := by
  have hl := r.length
  refine ⟨by simp [startSl, L2.start, hl], fun i v h => ?_⟩
  unfold startSl at h
  unfold L2.start
  by_cases hi : i < args.length
  · rw [List.getElem?_append_left (by simpa using hi), List.getElem?_map] at h
    cases e : args[i]? with
    | none => rw [e] at h; cases h
    | some a =>
      rw [e] at h; cases h
      obtain ⟨u, hu, ru⟩ := r.get e
      exact ⟨u, by rw [List.getElem?_append_left (by simpa [← hl] using hi), List.getElem?_map, hu]; rfl, ru⟩
  · rw [List.getElem?_append_right (by simpa using hi), List.getElem?_replicate] at h
    split at h <;> cases h
theorem post_run {Z : St0} {G G' : Gm} {W : WX} {m : List Addr} {H : Hp} {o : SR} {Q : VK} {σ : L2.St} (hG : G'.nm = G.nm) (h : Post Z G W (RpR Z) m H σ (runB o) Q) (hW : ∀ c d σ1 σ2 H, W c d σ1 H → W c d σ2 H) : PostS Z G' W { nx := fun _ H' => Q .non H', rt := Q } m H o := by
  cases o with
  | nx ρ S => exact fun m' H' σ' e r q => h m' H' .non e r (.e (.p .non))
  | ret v S => exact fun m' H' u e r q => h m' H' u e r q
  | exc ρ c fs S => exact fun m' H' σ' d e r q x => hW _ _ _ _ _ (h m' H' d e r (by rw [hG] at x; exact x))
  | ct ρ S => exact h.elim
  | bk ρ S => exact h.elim
  | stuck => exact h.elim
/-- the facts of a program -/
structure Prg (w : World) (P : Program) (K : PySem.W.Frag) (mg : Str → Option Value) (base : Heap) (ad : Adr) (G : Gm) (bs : List (List PS)) : Prop where
  fns : ∀ (i : Nat) (f : FnI), G.fns[i]? = some f → ∃ (fd : FuncData) (x qual : Str) (pa : Arguments) (body : List Stmt) (sc : Scope) (b : List PS), FunD K x qual pa body sc [] [] (ad.fn i) fd ∧ FnScope f.N f.ps sc ∧ Binds K fd f.ps [] ∧ mg f.name = some (.ref (ad.fn i)) ∧
    PySem.W.keepIn K (.ref (ad.fn i)) = true ∧ bs[i]? = some b ∧ (∀ d, SSs (GD G bs d) d (sxOf f sc false) body (evSs (GD G bs d) b)) ∧ (G.hot i = true → ∀ d, SSs (GD G bs d) d (sxOf f sc true) body (evSs (GD G bs d) b))
  cls : ∀ (i : Nat) (c : ClI), G.cls[i]? = some c → mg c.name = some (.ref (ad.cls i)) ∧ PySem.W.keepIn K (.ref (ad.cls i)) = true ∧ (PySem.W.subIn K (.ref (ad.cls i)) (.type "BaseException") = some true ∧ PySem.W.typeIn K (.ref (ad.cls i)) = some (.type "type")) ∧
    (c.nm = [] → PySem.W.excIn K (ad.cls i) PySem.HandSPX.veTail "ValueError.__new__" = true) ∧ ExcC K (ad.cls i) ∧ PySem.W.kitOne K (.ref (ad.cls i)) (.type "ValueError") = some true ∧
    ∀ (j : Nat) (c2 : ClI), G.cls[j]? = some c2 → PySem.W.kitOne K (.ref (ad.cls i)) (.ref (ad.cls j)) = some (G.sub i j) ∧ PySem.W.exmOne K (.ref (ad.cls i)) (.ref (ad.cls j)) = some (G.sub i j)
  free : ∀ y, y ∈ G.free → mg y = none
  bfs : ∀ y id, (y, id) ∈ G.bfs → mg y = some (.builtin id)
  csts : ∀ y v, (y, v) ∈ G.csts → ∃ u w, mg y = some u ∧ RelV w u ∧ ∀ F hx m H, Rp ⟨K, ad, F, hx⟩ m H v w
theorem run_fnH0 {P : Program} {w : World} {K : PySem.W.Frag} {mg : Str → Option Value} {base : Heap} {CX : CXT} {k : Nat} {f : Addr} {fd : FuncData} {ps : List Str} {sp : Sp} {x qual : Str} {pa : Arguments} {body : List Stmt} {scope : Scope} {N : List Str} (p : Addr × Obj) (F : FunD K x qual pa body scope [] [] f fd) (S : FnScope N ps scope)
    (len : ∀ vs H Q E, sp vs H Q E → vs.length = ps.length)
    (hbody : ∀ (cdv : Value) (A : Around) (outer : List Env) (s : Shared) (H : Hp) (vs : List V) (Q : VK) (E : XK), L2H.Hot1 A p → L2H.RoomH k (A.deeper (envOfC qual scope s.heap.objs.size f cdv)) → sp vs H Q E →
      ∃ t, PSs (L2H.cxH CX P w K mg base N qual scope f cdv A outer s H E p) body t ∧ t { nx := fun _ H' => Q .non H', rt := Q } (L2.start N vs) H) : FnQ P w K mg base CX p (k + 1) f fd ps sp := by
  obtain ⟨oc, od, dV, kV, doc, pm, an, cdv, ct, osl, rfl, lk, hcd, _, _⟩ := F.ex
  refine ⟨len, fun A outer s H args us vs Q E hr hot hpin e0 hb r hsp => ?_⟩
  have hl := len _ _ _ _ hsp
  have KX : K.In s.heap := e0.mod.kin.keeps fun b o e => (e0.bs b o e).1
  have lim : s.heap.NoLimit := e0.mod.nolimit.keeps fun b o e => (e0.bs b o e).1
  have hkind : ∀ y ∈ ps.zip us, scope.names.lookup y.1 = some .local ∨ (scope.names.lookup y.1 = some .cell ∧ ((cellsFrom (s.heap.objs.size + 1) scope.names []).lookup y.1).isSome = true) := fun ⟨n, v⟩ hy => by
    rcases S.par n (List.of_mem_zip hy).1 with q | q
    · exact .inl q
    · exact .inr ⟨q, PySem.W.cellsFrom_some _ _ _ (.inl q)⟩
  refine codeAny_call_function hr.depth (KX _ _ lk) rfl S.co S.gen rfl (PySem.W.codeRec_of KX hcd) (hb _ _ _ _ ?_)
  refine wpAny_newFunctionEnv_cells S.kind hkind fun env he s1 x => ?_
  subst he
  refine ⟨lim.keeps x.toInCall.keep, codeAny_func ?_⟩
  obtain ⟨t, ht, hq⟩ := hbody cdv A outer s H vs Q E hot (hr.deeper _) hsp
  have I : Inv (L2H.cxH CX P w K mg base N qual scope f cdv A outer s H E p) [] (L2.start N vs) H s1 := L2H.inv_startH S hpin e0 hl r x
  refine wpAny_mono (ht.run [] s1 (L2.start N vs) H _ I hq) (fun fl s' hs => ?_) fun e s' hs => hs
  have fin : ∀ {σ' : L2.St} {H' : Hp} {v : V} {u : Value}, Inv (L2H.cxH CX P w K mg base N qual scope f cdv A outer s H E p) [] σ' H' s' → RelV v u → Q v H' → CE outer P w H s Q u s' :=
    fun {σ' H' v u} J rv q => ⟨v, H', J.os, J.bare, J.base, J.hok, rv, q⟩
  cases fl with
  | ret u =>
    obtain ⟨v, σ', H', J, rv, q⟩ := hs
    exact fin J rv q
  | next =>
    obtain ⟨σ', H', J, q⟩ := hs
    exact fin (v := V.non) (u := Value.none) J rfl q
  | brk =>
    obtain ⟨_, _, _, q⟩ := hs
    exact False.elim q
  | cont =>
    obtain ⟨_, _, _, q⟩ := hs
    exact False.elim q
section
variable {w : World} {P : Program} {K : PySem.W.Frag} {mg : Str → Option Value} {base : Heap} {ad : Adr} {G : Gm} {bs : List (List PS)}
theorem sp_len {hx : Option (Addr × Obj)} {i n : Nat} : ∀ vs H Q E, spOf K ad hx G i n vs H Q E → vs.length = n := fun vs H Q E ⟨F, m, S, args, h1, _, h2, _⟩ => h2.length.symm.trans h1
theorem sp_no {hx : Option (Addr × Obj)} {i n : Nat} {vs : List V} {H : Hp} {Q : VK} {E : XK} (h : spOf K ad hx (GD G bs 0) i n vs H Q E) : False := by
  obtain ⟨F, m, S, args, _, _, _, h⟩ := h
  exact h
/-- THE RULE of a whole program -/
theorem prg_ok (pr : Prg w P K mg base ad G bs) : ∀ (d : Nat) (i : Nat) (f : FnI), G.fns[i]? = some f → ∃ fd, mg f.name = some (.ref (ad.fn i)) ∧ PySem.W.keepIn K (.ref (ad.fn i)) = true ∧ Binds K fd f.ps [] ∧
    FnOk P w K mg base (L2N.CX P w) d (ad.fn i) fd f.ps (spOf K ad none (GD G bs d) i f.ps.length) ∧
    (G.hot i = true → ∀ p, FnQ P w K mg base (L2N.CX P w) p d (ad.fn i) fd f.ps (spOf K ad (some p) (GD G bs d) i f.ps.length)) ∧
    ∃ oc od osl, K.lookup (ad.fn i) = some ⟨oc, od, .func fd, osl⟩ := by
  intro d
  induction d with
  | zero =>
    intro i f hi
    obtain ⟨fd, x, qual, pa, body, sc, b, F, S, hb, hm, hk, _⟩ := pr.fns i f hi
    exact ⟨fd, hm, hk, hb, ⟨sp_len, fun A outer s H args us vs Q E _ _ _ _ h => (sp_no h).elim⟩, fun _ p => ⟨sp_len, fun A outer s H args us vs Q E _ _ _ _ _ _ h => (sp_no h).elim⟩, by
      obtain ⟨oc, od, dV, kV, doc, pm, an, cdv, ct, osl, _, lk, _⟩ := F.ex
      exact ⟨oc, od, osl, lk⟩⟩
  | succ d ih =>
    intro i f hi
    obtain ⟨fd, x, qual, pa, body, sc, b, F, S, hb, hm, hk, hbs, hS, hSh⟩ := pr.fns i f hi
    have xok : ∀ (Z : St0) (X : Cx) (x : Sx), Z.K = K → Z.ad = ad → X.prog = P → X.w = w → X.K = K → X.mg = mg → X.base = base → X.N = x.N → X.env.scope = x.sc → X.fn = x.fnc → (x.hot = false → X.calm = true ∧ Room d X.A ∧ Z.hx = none) → L2H.RoomH d X.A →
        (x.hot = true → ∃ p, Z.hx = some p ∧ L2H.Hot1 X.A p ∧ p ∈ X.pn) → X.N.Nodup → (x.top = true → X.stack = X.env :: X.outer ∧ X.env.frame = some X.env.locals) → XOk Z (GD G bs d) d x X := by
      rintro ⟨ZK, Zad, ZF, Zh⟩ X x rfl rfl rfl rfl e5 rfl rfl e8 e9 e10 e11 e12 e13 e14 e15
      exact ⟨e5, e8, e9, e10, e11, e12, e13, e14, e15, fun j g hj => by
        obtain ⟨fd, a1, a2, a3, a4, a5, _⟩ := ih j g hj
        rw [e5]
        exact ⟨fd, a1, a2, a3, a4, a5⟩, fun j c hj => by
        obtain ⟨a1, a2, a3, a4, a5, a6, a7⟩ := pr.cls j c hj
        rw [e5]
        exact ⟨a1, a2, raises_own (by rw [e5]; exact a3.1) (by rw [e5]; exact a3.2), a4, a5, a6, a7⟩, pr.free, pr.bfs, pr.csts⟩
    refine ⟨fd, hm, hk, hb, F.ok S sp_len fun cdv A outer s H vs Q E hr hsp => ⟨jSs _ body, pss_j, ?_⟩, fun hh p => run_fnH0 p F S sp_len fun cdv A outer s H vs Q E hot hr hsp => ⟨jSs _ body, pss_j, ?_⟩, by
      obtain ⟨oc, od, dV, kV, doc, pm, an, cdv, ct, osl, _, lk, _⟩ := F.ex
      exact ⟨oc, od, osl, lk⟩⟩
    · obtain ⟨F0, m, S0, args, h1, h2, h3, h4⟩ := hsp
      refine hS d ⟨K, ad, F0, none⟩ _ (fun cls dd _ H' => E cls dd H') _ m H S0 (startSl f.N.length args) _ ⟨xok _ _ _ rfl rfl rfl rfl rfl rfl rfl rfl rfl rfl (fun _ => ⟨rfl, hr, rfl⟩) ⟨hr.dp, hr.un⟩ (fun z => (by cases z)) S.nd (fun _ => ⟨rfl, rfl⟩), L2N.takes_of rfl rfl rfl rfl, passes_of rfl, h2, start_rel f.N h3⟩ ?_
      refine post_run (G := GD G bs (d + 1)) (σ := []) rfl ?_ (fun _ _ _ _ _ h => h)
      have e : callD G bs (d + 1) i args S0 = runB (evSs (GD G bs d) b (startSl f.N.length args) S0) := by simp only [callD, hi, hbs]
      rw [← e]
      exact h4
    · obtain ⟨F0, m, S0, args, h1, h2, h3, h4⟩ := hsp
      refine hSh hh d ⟨K, ad, F0, some p⟩ _ (fun cls dd _ H' => E cls dd H') _ m H S0 (startSl f.N.length args) _ ⟨xok _ _ _ rfl rfl rfl rfl rfl rfl rfl rfl rfl rfl (fun z => (by cases z)) hr (fun _ => ⟨p, rfl, hot, List.mem_singleton.mpr rfl⟩) S.nd (fun z => (by cases z)), L2N.takes_of rfl rfl rfl rfl, passes_of rfl, h2, start_rel f.N h3⟩ ?_
      refine post_run (G := GD G bs (d + 1)) (σ := []) rfl ?_ (fun _ _ _ _ _ h => h)
      have e : callD G bs (d + 1) i args S0 = runB (evSs (GD G bs d) b (startSl f.N.length args) S0) := by simp only [callD, hi, hbs]
      rw [← e]
      exact h4
end
end Rv
end PartRvU
section PartRvV
set_option Elab.async false
set_option linter.all false
set_option maxRecDepth 100000
set_option autoImplicit false
/-! Rv, part V: parallel stores, comprehensions under a name, isinstance of an error. -/
namespace Rv
open PySem PySem.Spec PyProof.Rows L2
/-! ### isinstance of what is handled -/
def rIsQ (X : Cx) : List V → Hp → VK → Prop := fun vs H Q => ∃ (p : Addr × Obj) (D : Addr) (c : V) (cv : Value) (b : Bool), p ∈ X.pn ∧ p.2.cls = .ref D ∧ p.2.dict = none ∧ (∃ vs, p.2.data = .fields vs) ∧ ExcC X.K D ∧ vs = [.ref p.1, c] ∧ (∀ u, RelV c u → u = cv) ∧ PySem.W.kitOne X.K (.ref D) cv = some b ∧ Q (.bl b) H
theorem call_isQ {X : Cx} : CallR X (.builtin "isinstance") (rIsQ X) := by
  intro pins s σ H xs us Q I r h
  obtain ⟨p, D, c, cv, b, hp, h1, h2, ⟨vs, hv⟩, C, rfl, hcv, e, q⟩ := h
  cases r with
  | cons rx rr =>
    cases rr with
    | cons rt rr =>
      cases rr
      cases rx
      have ec := hcv _ rt
      subst ec
      obtain ⟨hget, _⟩ := I.pin p (List.mem_append.mpr (.inl hp))
      have J : PySem.W.InstAt s.heap p.1 p.2 D none := by
        obtain ⟨a, oc, od, oda, osl⟩ := p
        dsimp only at h1 h2 hv hget ⊢
        subst h1 h2 hv
        exact ⟨hget, rfl, rfl, trivial⟩
      exact PySem.W.kia_one (PySem.W.handS_kitx_exc C.hg C.hk C.hs C.hd C.ha C.hn C.ht C.hm) I.kIn J e (fun z => nomatch z) fun tk => ⟨.bl b, H, I.kept (t' := tk) fun _ _ z => z, rfl, q⟩
theorem boot_isi : bootBuiltins "isinstance" = some (.builtin "isinstance") := by decide +kernel
section
variable {G : Gm} {d : Nat} {x : Sx} {pos : Pos}
theorem hot_of {Z : St0} {X : Cx} (ok : XOk Z G d x X) {q : Addr × Obj} (h : Z.hx = some q) : q ∈ X.pn := by
  cases e : x.hot with
  | true =>
    obtain ⟨p, h1, _, h3⟩ := ok.hotc e
    rw [h] at h1
    cases h1
    exact h3
  | false =>
    obtain ⟨_, _, h1⟩ := ok.calm e
    rw [h] at h1; cases h1
theorem se_isx {e : Expr} {p : PX} {k : Nat} {ci : ClI} {pp p2 : Pos} (hf : ("isinstance" : Str) ∈ G.free) (hg : glB x.sc "isinstance" = true) (ha : SE G d x e (evE G p)) (hs : starB e = false) (hi : G.cls[k]? = some ci) (hg2 : glB x.sc ci.name = true) (hd : (ci.name == ("__debug__" : Str)) = false) :
    SE G d x (.Call (.Name "isinstance" pp) [e, .Name ci.name p2] [] pos) (evE G (.isx p k)) := by
  intro Z X W m H S ρ σ Q n h
  simp only [evE] at h
  have hc := n.ok.cls k ci hi
  refine PE.j (pe_callB call_isQ (gl_of n.ok.hs hg) (n.ok.free _ hf) boot_isi (pa_cons pe_j (pa_cons (pe_glob (v := .ref (Z.ad.cls k)) (gl_of n.ok.hs hg2) hc.1 rfl hd) pa_nil rfl) (star_cons hs)) (by decide) (by decide) (star_cons hs) rfl) (ha Z X W m H S ρ σ _ n (Post.bind h fun v S1 m1 H1 u e1 x1 R1 r1 q1 => ?_))
  split at q1
  · rename_i c
    split at q1
    · rename_i cj ej
      cases r1 with
      | p r1 =>
        cases r1 with
        | exn h1 h2 h3 h4 =>
          rename_i q
          obtain ⟨_, _, _, _, hx, _, hk⟩ := n.ok.cls c cj ej
          exact ⟨q, Z.ad.cls c, .ref (Z.ad.cls k), .ref (Z.ad.cls k), G.sub c k, hot_of n.ok h1, h2, h3, h4, hx, rfl, fun u r => r, (hk k ci hi).1, Post.now q1 R1 (.p (.bl _))⟩
    · exact q1.elim
  · exact q1.elim
theorem boot_VE : bootBuiltins "ValueError" = some (.type "ValueError") := by decide +kernel
theorem se_ist {e : Expr} {p : PX} {pp p2 : Pos} (hf : ("isinstance" : Str) ∈ G.free) (hg : glB x.sc "isinstance" = true) (ha : SE G d x e (evE G p)) (hs : starB e = false) (hf2 : ("ValueError" : Str) ∈ G.free) (hg2 : glB x.sc "ValueError" = true) :
    SE G d x (.Call (.Name "isinstance" pp) [e, .Name "ValueError" p2] [] pos) (evE G (.ist p)) := by
  intro Z X W m H S ρ σ Q n h
  simp only [evE] at h
  refine PE.j (pe_callB call_isQ (gl_of n.ok.hs hg) (n.ok.free _ hf) boot_isi (pa_cons pe_j (pa_cons (pe_bltn (v := .ty "ValueError") (gl_of n.ok.hs hg2) (n.ok.free _ hf2) boot_VE rfl (by decide) (by decide)) pa_nil rfl) (star_cons hs)) (by decide) (by decide) (star_cons hs) rfl) (ha Z X W m H S ρ σ _ n (Post.bind h fun v S1 m1 H1 u e1 x1 R1 r1 q1 => ?_))
  split at q1
  · rename_i c
    split at q1
    · rename_i cj ej
      cases r1 with
      | p r1 =>
        cases r1 with
        | exn h1 h2 h3 h4 =>
          rename_i q
          obtain ⟨_, _, _, _, hx, hve, _⟩ := n.ok.cls c cj ej
          exact ⟨q, Z.ad.cls c, .ty "ValueError", .type "ValueError", true, hot_of n.ok h1, h2, h3, h4, hx, rfl, fun u r => r, hve, Post.now q1 R1 (.p (.bl _))⟩
    · exact q1.elim
  · exact q1.elim
/-! ### a, b = x, y -/
def locS (x : Sx) (y : Str) : Bool := match x.sc.names.lookup y with
  | some .local => true
  | _ => false
theorem locS_of {x : Sx} {X : Cx} {y : Str} (hs : X.env.scope = x.sc) (h : locS x y = true) : X.env.scope.names.lookup y = some .local := by
  unfold locS at h
  rw [hs]
  split at h
  · assumption
  · cases h
end
theorem any_star : ∀ {es : List Expr}, es.all (fun e => !starB e) = true → (es.any fun | .Starred .. => true | _ => false) = false
  | [], _ => rfl
  | e :: es, h => by
    rw [List.all_cons, Bool.and_eq_true] at h
    rw [List.any_cons, any_star h.2, Bool.or_false]
    have h1 := h.1
    cases e <;> first | rfl | (cases h1)
theorem swapN {env : Env} {ts : List (Str × Pos)} {kt k2 : Nat} {es : List Expr} {pt p2 : Pos} {l : Nat} (hk : env.scope.kind = .function) (hy : ∀ t ∈ ts, env.scope.names.lookup t.1 = some .local) (hl : ∀ t ∈ ts, t.2.line = l) (h2 : (ts.length == 2 || ts.length == 3) = true) (hle : es.length = ts.length) (hn : (ts.map (·.1)).eraseDups.length = ts.length)
    (hf : (es.all (foldedForSure 8)) = false) (hc : (es.all (constantsAlone 8)) = false) (ha : es.all (fun e => !starB e) = true) : swappedStores [.Tuple (ts.map fun t => .Name t.1 t.2) kt pt] (.Tuple es k2 p2) env = pure (some (ts.map (·.1))) := by
  have hbk : env.blockKind = .function := by unfold Env.blockKind; rw [hk]; rfl
  have hline : (((ts.map fun t => Expr.Name t.1 t.2).head?).map (·.pos.line)).getD 0 = l := by
    cases ts with
    | nil => cases h2
    | cons t r => exact hl t (List.mem_cons_self ..)
  have hst := any_star ha
  have hnm : ((ts.map fun t => Expr.Name t.1 t.2).filterMap fun
      | .Name id pos => if env.kindOf id == some .local && pos.line == l then some id else none
      | _ => none) = ts.map (·.1) := by
    clear h2 hle hn hline
    induction ts with
    | nil => rfl
    | cons t r ih =>
      have e1 : env.kindOf t.1 = some .local := hy t (List.mem_cons_self ..)
      have e2 := hl t (List.mem_cons_self ..)
      rw [List.map_cons, List.filterMap_cons]
      simp only [e1, e2]
      rw [ih (fun q hq => hy q (List.mem_cons_of_mem _ hq)) (fun q hq => hl q (List.mem_cons_of_mem _ hq))]
      simp
  have c1 : (!((ts.map fun t => Expr.Name t.1 t.2).length == 2 || (ts.map fun t => Expr.Name t.1 t.2).length == 3) || es.length != (ts.map fun t => Expr.Name t.1 t.2).length || env.blockKind != .function) = false := by
    rw [List.length_map, h2, hle, hbk]; simp
  have c2 : ((ts.map (·.1)).length != (ts.map fun t => Expr.Name t.1 t.2).length || (ts.map (·.1)).eraseDups.length != (ts.map (·.1)).length) = false := by
    rw [List.length_map, List.length_map, hn]; simp
  unfold swappedStores
  refine (if_neg (by rw [c1]; decide)).trans ?_
  refine (if_neg (fun z => Bool.noConfusion (hst.symm.trans z))).trans ?_
  refine (if_neg (fun z => ?_)).trans ?_
  · have z2 : (((ts.map fun t => Expr.Name t.1 t.2).filterMap fun
      | .Name id pos => if env.kindOf id == some .local && pos.line == (((ts.map fun t => Expr.Name t.1 t.2).head?).map (·.pos.line)).getD 0 then some id else none
      | _ => none).length != (ts.map fun t => Expr.Name t.1 t.2).length || ((ts.map fun t => Expr.Name t.1 t.2).filterMap fun
      | .Name id pos => if env.kindOf id == some .local && pos.line == (((ts.map fun t => Expr.Name t.1 t.2).head?).map (·.pos.line)).getD 0 then some id else none
      | _ => none).eraseDups.length != ((ts.map fun t => Expr.Name t.1 t.2).filterMap fun
      | .Name id pos => if env.kindOf id == some .local && pos.line == (((ts.map fun t => Expr.Name t.1 t.2).head?).map (·.pos.line)).getD 0 then some id else none
      | _ => none).length) = true := z
    rw [hline, hnm, c2] at z2; cases z2
  refine (if_neg (by rw [hf]; decide)).trans ?_
  refine (if_neg (by rw [hc]; decide)).trans ?_
  show pure (some _) = _
  have : ((ts.map fun t => Expr.Name t.1 t.2).filterMap fun
      | .Name id pos => if env.kindOf id == some .local && pos.line == (((ts.map fun t => Expr.Name t.1 t.2).head?).map (·.pos.line)).getD 0 then some id else none
      | _ => none) = ts.map (·.1) := by rw [hline]; exact hnm
  exact congrArg (fun z => pure (some z)) this
theorem fm_lt {α β : Type} {f : α → Option β} : ∀ {l : List α} {a : α}, a ∈ l → f a = none → (l.filterMap f).length < l.length
  | [], _, h, _ => by cases h
  | b :: l, a, h, e => by
    have hle : ∀ l : List α, (l.filterMap f).length ≤ l.length := fun l => List.length_filterMap_le f l
    rw [List.filterMap_cons]
    rcases List.mem_cons.mp h with rfl | h
    · rw [e]; exact Nat.lt_succ_of_le (hle l)
    · have := fm_lt h e
      split
      · exact Nat.lt_succ_of_lt this
      · rw [List.length_cons, List.length_cons]; exact Nat.succ_lt_succ this
/-- a target that is no plain local: nothing is swapped -/
theorem swapNo {env : Env} {ts : List Expr} {kt k2 : Nat} {es : List Expr} {pt p2 : Pos} {t : Expr} (ht : t ∈ ts) (hn : ∀ y p, t = .Name y p → env.scope.names.lookup y ≠ some .local) : swappedStores [.Tuple ts kt pt] (.Tuple es k2 p2) env = pure none := by
  unfold swappedStores
  show (if _ then _ else _) = _
  split
  · rfl
  · show (if _ then _ else _) = _
    split
    · rfl
    · refine if_pos ?_
      rw [Bool.or_eq_true]
      refine .inl ?_
      rw [bne_iff_ne]
      refine Nat.ne_of_lt (fm_lt ht ?_)
      cases t with
      | Name y p =>
        have h1 : (env.kindOf y == some .local) = false := by
          have := hn y p rfl
          exact Bool.eq_false_iff.mpr fun z => this (beq_iff_eq.mp z)
        simp only [h1, Bool.false_and]
        rfl
      | _ => rfl
theorem swapOther {tg e : Expr} {env : Env} (he : ∀ es k p, e ≠ .Tuple es k p) : swappedStores [tg] e env = pure none := by
  cases e with
  | Tuple es k p => exact absurd rfl (he es k p)
  | _ => cases tg <;> rfl
section
variable {G : Gm} {d : Nat} {x : Sx} {pos : Pos}
theorem ss_par2 {i j : Nat} {y z : Str} {py pz pt p2 : Pos} {kt k2 : Nat} {a b : Expr} {ps : List PX} (hh : x.hot = false) (hk : x.sc.kind = .function) (hi : x.N[i]? = some y) (hj : x.N[j]? = some z) (hy : locS x y = true) (hz : locS x z = true) (hl : (pz.line == py.line) = true) (hn : (y == z) = false) (hij : (i == j) = false)
    (hf : ([a, b].all (foldedForSure 8)) = false) (hc : ([a, b].all (constantsAlone 8)) = false) (ha : starB a = false) (hb : starB b = false) (hA : SA G d x [a, b] (evEs G ps)) :
    SS G d x (.Assign [.Tuple [.Name y py, .Name z pz] kt pt] (.Tuple [a, b] k2 p2) pos) (evS G (.par [i, j] ps)) := by
  intro Z X W D m H S ρ σ n h
  simp only [evS] at h
  have hly := locS_of n.ok.hs hy
  have hlz := locS_of n.ok.hs hz
  have hny : y ≠ z := fun e => by rw [e] at hn; simp at hn
  have hsw : swappedStores [.Tuple [.Name y py, .Name z pz] kt pt] (.Tuple [a, b] k2 p2) X.env = pure (some [y, z]) := by
    refine swapN (ts := [(y, py), (z, pz)]) (l := py.line) (by rw [n.ok.hs]; exact hk) (fun t ht => ?_) (fun t ht => ?_) rfl rfl ?_ hf hc (by rw [List.all_cons, List.all_cons, List.all_nil, ha, hb]; rfl)
    · rcases List.mem_cons.mp ht with rfl | ht
      · exact hly
      · cases List.mem_singleton.mp ht; exact hlz
    · rcases List.mem_cons.mp ht with rfl | ht
      · rfl
      · cases List.mem_singleton.mp ht; exact beq_iff_eq.mp hl
    · show (List.eraseDups [y, z]).length = 2
      have hzy : (z == y) = false := Bool.eq_false_iff.mpr fun q => hny (beq_iff_eq.mp q).symm
      simp [List.eraseDups, List.eraseDupsBy, List.eraseDupsBy.loop, hzy]
  refine PS.j (ps_par (n.ok.calm hh).1 n.ok.nd (by rw [n.ok.hN]; exact hi) (by rw [n.ok.hN]; exact hj) (by simpa using hij) hly hlz pa_j hsw) (hA Z X W m H S ρ σ _ n (PostS.toS n.env h fun vs S1 m1 H1 us e1 x1 R1 r1 q1 => ?_))
  split at q1
  · rename_i ρ1 e2
    cases r1 with
    | nil => simp [setAll] at e2
    | cons r1 rr =>
      cases rr with
      | nil => simp [setAll] at e2
      | cons r2 rr =>
        cases rr with
        | cons r3 rr => simp [setAll] at e2
        | nil =>
          simp only [setAll, Option.some.injEq] at e2
          subst e2
          exact ⟨_, _, rfl, q1 m1 H1 _ Ext.refl R1 (((n.env.ext x1).set r1).set r2)⟩
  · exact q1.elim
/-! ### lists under a name -/
theorem sls_of {i : Nat} {y : Str} {e : Expr} {py : Pos} {f : Sl → List PO → Out (List EV)} (hN : x.N[i]? = some y) (hl : locB x y = true) (ha : SL G d x e f) (hs : ∀ X : Cx, X.env.scope = x.sc → swapsWith e (some (.Name y py)) pos.line X.env = pure false) : SLs G d x (.Assign [.Name y py] e pos) i f := by
  intro Z X W D m H S ρ σ n h
  obtain ⟨h1, h2⟩ := loc_of n.ok.hs n.ok.hf hl
  exact PS.j (ps_set n.ok.nd (by rw [n.ok.hN]; exact hN) h1 pe_j (hs X n.ok.hs) h2) (ha Z X W m H S ρ σ (fun v H' => D.nx (σ.set i (some v)) H') n h)
theorem swapCell {elt : Expr} {gs : List Comprehension} {scope : Scope} {p py : Pos} {y : Str} {l : Nat} {env : Env} (h : env.scope.names.lookup y ≠ some .local) : swapsWith (.ListComp elt gs scope p) (some (.Name y py)) l env = pure false := by
  have hk : (env.kindOf y == some .local) = false := Bool.eq_false_iff.mpr fun z => h (beq_iff_eq.mp z)
  unfold swapsWith
  simp only [hk, Bool.and_false, Bool.false_and]
theorem swapLine {elt : Expr} {gs : List Comprehension} {scope : Scope} {p py : Pos} {y : Str} {l : Nat} {env : Env} (h : (py.line == p.line) = false) : swapsWith (.ListComp elt gs scope p) (some (.Name y py)) l env = pure false := by
  unfold swapsWith
  simp only [Expr.pos, h, Bool.and_false, Bool.false_and]
/-- name = [..] on one line -/
def bareB (scope : Scope) (y : Str) : Bool := !(scope.names.any fun (n, k) => n == y && (k == .local || k == .cell))
theorem sls_comp {i : Nat} {y : Str} {py p1 : Pos} {scope : Scope} {tg iter elt : Expr} {ifs : List Expr} {it : PIt} {t : PT} {is : List PB} {p : PX} {own : List (Str × Nat)} (hN : x.N[i]? = some y) (hy : locS x y = true) (hk : x.sc.kind = .function) (hl : (py.line == p1.line) = true) (hba : bareB scope y = true)
    (hh : x.hot = false) (hIt : SI G d x tg iter (evIt G it)) (hT : SG (blkX x scope) tg t) (hI : STs G d (blkX x scope) ifs (evTs G is)) (hE : SE G d (blkX x scope) elt (evE G p)) (hb : blkC x.N x.sc scope own = true) (ht : ∀ i ∈ slT t, i ∈ own.map (·.2)) (hs : noSet iter = true) :
    SLs G d x (.Assign [.Name y py] (.ListComp elt [⟨tg, iter, ifs, 0⟩] scope p1) pos) i (evL G (.comp (own.map (·.2)) p t it is)) := by
  intro Z X W D m H S ρ σ n h
  obtain ⟨hc, _, _⟩ := n.ok.calm hh
  have hyl := locS_of n.ok.hs hy
  refine PS.j (ps_setLc (g := gU X scope tg) (tt := tU X scope ifs) (te := eU X scope elt) hc n.ok.nd (by rw [n.ok.hN]; exact hN) hyl (sw_true (by rw [n.ok.hs]; exact hk) hyl hl (by unfold bareB at hba; simpa using hba)) pi_j (blkOk_by (by rw [n.ok.hN, n.ok.hs]; exact hb)) (fun s H C cl fp => ⟨fun pins s1 σ H v u Q I r h => h s _ C cl fp pins s1 u I r⟩) (fun s H C cl fp => ⟨fun pins s1 σ H Q I h => h s _ C cl fp pins s1 I⟩)
    (fun s H C cl fp => ⟨fun pins s1 σ H Q I h => h s _ C cl fp pins s1 I⟩) (fun y => fold_none hs y)) ?_
  exact comp_core (Q := fun x H1 => D.nx (σ.set i (some x)) H1) hh hT hI hE hb ht hs (fun R q => hIt Z X W m H S ρ σ R n q) n h
theorem sls_comp2 {i : Nat} {y : Str} {py p1 : Pos} {scope : Scope} {tg iter elt tg2 iter2 : Expr} {ifs ifs2 : List Expr} {it it2 : PIt} {t t2 : PT} {is is2 : List PB} {p : PX} {own : List (Str × Nat)} {vs1 : List Nat} (hN : x.N[i]? = some y) (hy : locS x y = true) (hk : x.sc.kind = .function) (hl : (py.line == p1.line) = true) (hba : bareB scope y = true)
    (hh : x.hot = false) (hIt : SI G d x tg iter (evIt G it)) (hT : SG (blkX x scope) tg t) (hI : STs G d (blkX x scope) ifs (evTs G is)) (hIt2 : SI G d (blkX x scope) tg2 iter2 (evIt G it2)) (hT2 : SG (blkX x scope) tg2 t2) (hI2 : STs G d (blkX x scope) ifs2 (evTs G is2)) (hE : SE G d (blkX x scope) elt (evE G p)) (hb : blkC x.N x.sc scope own = true)
    (ht : ∀ i ∈ slT t, i ∈ own.map (·.2)) (ht2 : ∀ i ∈ slT t2, i ∈ vs1) (hv : ∀ i ∈ vs1, i ∈ own.map (·.2)) (hs : noSet iter = true) (hs2 : noSet iter2 = true) :
    SLs G d x (.Assign [.Name y py] (.ListComp elt [⟨tg, iter, ifs, 0⟩, ⟨tg2, iter2, ifs2, 0⟩] scope p1) pos) i (evL G (.comp2 (own.map (·.2)) p t it is vs1 t2 it2 is2)) := by
  intro Z X W D m H S ρ σ n h
  obtain ⟨hc, _, _⟩ := n.ok.calm hh
  have hyl := locS_of n.ok.hs hy
  refine PS.j (ps_setLc2 (g := gU X scope tg) (tt := tU X scope ifs) (wi1 := iU X scope tg2 iter2) (g1 := gU X scope tg2) (tt1 := tU X scope ifs2) (te := eU X scope elt) hc n.ok.nd (by rw [n.ok.hN]; exact hN) hyl (sw_true (by rw [n.ok.hs]; exact hk) hyl hl (by unfold bareB at hba; simpa using hba)) pi_j (blkOk_by (by rw [n.ok.hN, n.ok.hs]; exact hb)) hv (fun s H C cl fp => ⟨fun pins s1 σ H v u Q I r h => h s _ C cl fp pins s1 u I r⟩) (fun s H C cl fp => ⟨fun pins s1 σ H Q I h => h s _ C cl fp pins s1 I⟩)
    (fun s H C cl fp => ⟨fun pins s1 σ H R I h => h s _ C cl fp pins s1 I⟩) (fun s H C cl fp => ⟨fun pins s1 σ H v u Q I r h => h s _ C cl fp pins s1 u I r⟩) (fun s H C cl fp => ⟨fun pins s1 σ H Q I h => h s _ C cl fp pins s1 I⟩)
    (fun s H C cl fp => ⟨fun pins s1 σ H Q I h => h s _ C cl fp pins s1 I⟩) (fun y => fold_none hs y) (fun env y => fold_none hs2 y)) ?_
  exact comp2_core (Q := fun x H1 => D.nx (σ.set i (some x)) H1) hh hT hI hIt2 hT2 hI2 hE hb ht ht2 hv hs hs2 (fun R q => hIt Z X W m H S ρ σ R n q) n h
/-! ### gcd -/
theorem bi_glob {y : Str} {id : String} {r : St0 → List V → Hp → VK → Prop} (hf : (y, id) ∈ G.bfs) (hg : glB x.sc y = true) (hd : (y == ("__debug__" : Str)) = false) (hc : ∀ Z X, XOk Z G d x X → CallR X (.builtin id) (r Z)) : BiOk G d x y r :=
  fun Z X e es t p pos ok ha h1 h2 => pe_callBfun (hc Z X ok) (gl_of ok.hs hg) (ok.bfs y id hf) ha hd (star_cons h1) (star_none h2)
end
end Rv
end PartRvV
section PartRvVa
set_option Elab.async false
set_option linter.all false
set_option maxRecDepth 100000
set_option autoImplicit false
/-! Rv, part Va: comprehensions over dicts, comprehensions that make dicts, under a name. -/
namespace Rv
open PySem PySem.Spec PyProof.Rows L2
section
variable {X : Cx}
theorem ps_setDc {i : Nat} {y : Str} {py : Pos} {kx vx tg iter : Expr} {ifs : List Expr} {scope : Scope} {own : List (Str × Nat)} {pos spos : Pos} {wi : TI} {g : TG} {tt : TT} {tk tv : TE} (hc : X.calm = true) (hN : X.N.Nodup) (hy : X.N[i]? = some y) (hyl : X.env.scope.names.lookup y = some .local)
    (hsw : swapsWith (.DictComp kx vx [⟨tg, iter, ifs, 0⟩] scope pos) (some (.Name y py)) spos.line X.env = pure true) (hi : PI X tg iter wi) (ok : BlkOk X.N X.env.scope scope own)
    (hg : ∀ s H C cl fp, PG (X.blk s H scope (compEnvC scope cl C X.env) fp) tg g) (ht : ∀ s H C cl fp, PTs (X.blk s H scope (compEnvC scope cl C X.env) fp) ifs tt)
    (hk : ∀ s H C cl fp, PE (X.blk s H scope (compEnvC scope cl C X.env) fp) kx tk) (he : ∀ s H C cl fp, PE (X.blk s H scope (compEnvC scope cl C X.env) fp) vx tv) (hs : ∀ x, foldedSetIterable iter X.env x = pure x) :
    L2.PS X (.Assign [.Name y py] (.DictComp kx vx [⟨tg, iter, ifs, 0⟩] scope pos) spos) (tAsg (tDc wi g tt tk tv (own.map (·.2))) (gName i)) := by
  refine ⟨fun pins s σ H D I h => ?_⟩
  rw [exec_Assign_Name_used _ _ _ _ hsw]
  refine wpAny_bind (wpAny_standAt (wpAny_bind ?_))
  show wpAny _ X.A (do let _ ← comprehension (.DictComp kx vx [⟨tg, iter, ifs, 0⟩] scope pos) scope X.env (firstIterPos [⟨tg, iter, ifs, 0⟩] pos) newDict false (eval iter X.env) (some (assign (.Name y py) X.env))) _ _ s
  have h : tDc wi g tt tk tv (own.map (·.2)) σ H (fun x H1 => gName i x σ H1 D.nx) := h
  refine wpAny_bind (thn (dc_core (Qf := fun _ s' => SP X pins D .next s') hc hN I hi ok hg ht hk he hs h fun L C s' m H' I' q hn f => ?_) fun _ s' hq => wpAny_pure (wpAny_pure hq))
  show wpAny _ _ (assign (.Name y py) X.env (.ref L)) _ _ _
  refine wpAny_assign_Name (store_ok2 (v := V.ref L) I' hN hy (.inl hyl) rfl (fun s2 I2 ⟨a, sb, ha⟩ => ?_) (.inr hyl))
  obtain ⟨f0, f1, f2, f3, f4, f5⟩ := f
  have hne : C ≠ a := ha.elim (fun z => by rw [z]; exact f1) fun z e => f4 y a z e.symm
  exact ⟨m, hn.sameBut sb hne, fun h3 sb3 => ⟨_, H', I2.turned (t' := s2.toks) (fun b o hb e => (sb3.2 b hb).trans e) f0 f1 f3 f4 f5, q⟩⟩
theorem sw_trueD {kx vx : Expr} {gs : List Comprehension} {scope : Scope} {pos py : Pos} {y : Str} {l : Nat} {env : Env} (hk : env.scope.kind = .function) (hy : env.scope.names.lookup y = some .local) (hl : (py.line == pos.line) = true) (ha : (scope.names.any fun (n, k) => n == y && (k == .local || k == .cell)) = false) :
    swapsWith (.DictComp kx vx gs scope pos) (some (.Name y py)) l env = pure true := by
  have ky : env.kindOf y = some .local := hy
  have kb : env.blockKind = .function := by unfold Env.blockKind; rw [hk]; rfl
  unfold swapsWith
  simp only [ky, kb, Expr.pos, hl, ha]
  rfl
theorem swapCellD {kx vx : Expr} {gs : List Comprehension} {scope : Scope} {p py : Pos} {y : Str} {l : Nat} {env : Env} (h : env.scope.names.lookup y ≠ some .local) : swapsWith (.DictComp kx vx gs scope p) (some (.Name y py)) l env = pure false := by
  have hk : (env.kindOf y == some .local) = false := Bool.eq_false_iff.mpr fun z => h (beq_iff_eq.mp z)
  unfold swapsWith
  simp only [hk, Bool.and_false, Bool.false_and]
end
section
variable {G : Gm} {d : Nat} {x : Sx} {pos : Pos}
/-- a statement that stores a new dict -/
def SDs (G : Gm) (d : Nat) (x : Sx) (st : Stmt) (i : Nat) (f : Sl → List PO → Out (List Key × List PV)) : Prop :=
  ∀ (Z : St0) (X : Cx) (W : WX) (D : Ends) (m : List Addr) (H : Hp) (S : List PO) (ρ : Sl) (σ : L2.St), Now Z G d x X W m H S ρ σ →
    Post Z G W (RpD Z) m H σ (f ρ S) (fun r H' => ∀ p, H' p = none → D.nx (σ.set i (some (.ref p))) (upd H' p (.dK (r.1.zip r.2)))) → jS X st D σ H
variable {scope : Scope} {tg : Expr} {ifs : List Expr} {kx vx : Expr} {t : PT} {is : List PB} {kp vp : PX} {own : List Nat} {it : PIt}
theorem ss_dcomp {i : Nat} {st : Stmt} {m : Bool} (ha : SDs G d x st i (evD G own kp vp t it is)) : SS G d x st (evS G (.asg (.nm i) (.dcomp m own kp vp t it is))) := by
  intro Z X W D mm H S ρ σ n h
  simp only [evS] at h
  rw [evE_dcomp] at h
  refine ha Z X W D mm H S ρ σ n ?_
  cases e : evD G own kp vp t it is ρ S with
  | ok q S1 =>
    rw [e] at h
    intro m1 H1 r x1 R1 ⟨r1, r2, r3⟩ p hp
    rw [r1]
    simp only [Out.bind] at h
    cases m with
    | false =>
      have ex := x1.trans (Ext.alloc (o := .dK (q.1.zip r.2)) hp)
      exact h m1 _ _ ex (R1.alloc hp) ((n.env.ext ex).set (.p (.dct (.inl upd_same) (fre_new R1 hp) r2 (r3.ext (Ext.alloc hp)))))
    | true =>
      have hm : (m1 ++ [p])[S1.length]? = some p := by
        rw [← R1.len, List.getElem?_append_right (Nat.le_refl _), Nat.sub_self]; rfl
      have ex := x1.trans (Ext.allocM (o := .dK (q.1.zip r.2)) hp)
      exact h (m1 ++ [p]) _ _ ex (R1.allocM hp ⟨r.2, upd_same, r2, r3.ext (Ext.allocM hp)⟩) ((n.env.ext ex).set (.ref hm))
  | exc c fs S1 =>
    rw [e] at h
    exact fun m1 H1 dd x1 R1 r1 => h m1 H1 σ dd x1 R1 (n.env.ext x1) r1
  | stuck => rw [e] at h; exact h
theorem sds_of {i : Nat} {y : Str} {e : Expr} {py : Pos} {f : Sl → List PO → Out (List Key × List PV)} (hN : x.N[i]? = some y) (hl : locB x y = true) (ha : SD G d x e f) (hs : ∀ X : Cx, X.env.scope = x.sc → swapsWith e (some (.Name y py)) pos.line X.env = pure false) : SDs G d x (.Assign [.Name y py] e pos) i f := by
  intro Z X W D m H S ρ σ n h
  obtain ⟨h1, h2⟩ := loc_of n.ok.hs n.ok.hf hl
  exact PS.j (ps_set n.ok.nd (by rw [n.ok.hN]; exact hN) h1 pe_j (hs X n.ok.hs) h2) (ha Z X W m H S ρ σ (fun v H' => D.nx (σ.set i (some v)) H') n h)
theorem sds_core {i : Nat} {y : Str} {py p1 : Pos} {iter : Expr} {own : List (Str × Nat)} (hN : x.N[i]? = some y) (hy : locS x y = true) (hk : x.sc.kind = .function) (hl : (py.line == p1.line) = true) (hba : bareB scope y = true)
    (hh : x.hot = false) (hT : SG (blkX x scope) tg t) (hI : STs G d (blkX x scope) ifs (evTs G is)) (hK : SE G d (blkX x scope) kx (evE G kp)) (hV : SE G d (blkX x scope) vx (evE G vp)) (hb : blkC x.N x.sc scope own = true) (ht : ∀ i ∈ slT t, i ∈ own.map (·.2)) (hs : noSet iter = true)
    {Z : St0} {X : Cx} {W : WX} {D : Ends} {m : List Addr} {H : Hp} {S : List PO} {ρ : Sl} {σ : L2.St} (hIt : ∀ R, Post Z G W (RI Z) m H σ (evIt G it ρ S) R → jI X tg iter σ H R) (n : Now Z G d x X W m H S ρ σ)
    (h : Post Z G W (RpD Z) m H σ (evD G (own.map (·.2)) kp vp t it is ρ S) (fun r H' => ∀ p, H' p = none → D.nx (σ.set i (some (.ref p))) (upd H' p (.dK (r.1.zip r.2))))) : jS X (.Assign [.Name y py] (.DictComp kx vx [⟨tg, iter, ifs, 0⟩] scope p1) pos) D σ H := by
  obtain ⟨hc, _, _⟩ := n.ok.calm hh
  have hyl := locS_of n.ok.hs hy
  refine PS.j (ps_setDc (g := gU X scope tg) (tt := tU X scope ifs) (tk := eU X scope kx) (tv := eU X scope vx) hc n.ok.nd (by rw [n.ok.hN]; exact hN) hyl (sw_trueD (by rw [n.ok.hs]; exact hk) hyl hl (by unfold bareB at hba; simpa using hba)) pi_j (blkOk_by (by rw [n.ok.hN, n.ok.hs]; exact hb)) (fun s H C cl fp => ⟨fun pins s1 σ H v u Q I r h => h s _ C cl fp pins s1 u I r⟩) (fun s H C cl fp => ⟨fun pins s1 σ H Q I h => h s _ C cl fp pins s1 I⟩)
    (fun s H C cl fp => ⟨fun pins s1 σ H Q I h => h s _ C cl fp pins s1 I⟩) (fun s H C cl fp => ⟨fun pins s1 σ H Q I h => h s _ C cl fp pins s1 I⟩) (fun y => fold_none hs y)) ?_
  exact dcomp_core (Q := fun x H1 => D.nx (σ.set i (some x)) H1) hh hT hI hK hV ht hIt n h
theorem sds_comp {i : Nat} {y : Str} {py p1 : Pos} {iter : Expr} {own : List (Str × Nat)} (hN : x.N[i]? = some y) (hy : locS x y = true) (hk : x.sc.kind = .function) (hl : (py.line == p1.line) = true) (hba : bareB scope y = true)
    (hh : x.hot = false) (hIt : SI G d x tg iter (evIt G it)) (hT : SG (blkX x scope) tg t) (hI : STs G d (blkX x scope) ifs (evTs G is)) (hK : SE G d (blkX x scope) kx (evE G kp)) (hV : SE G d (blkX x scope) vx (evE G vp)) (hb : blkC x.N x.sc scope own = true) (ht : ∀ i ∈ slT t, i ∈ own.map (·.2)) (hs : noSet iter = true) :
    SDs G d x (.Assign [.Name y py] (.DictComp kx vx [⟨tg, iter, ifs, 0⟩] scope p1) pos) i (evD G (own.map (·.2)) kp vp t it is) := fun Z X W D m H S ρ σ n h =>
  sds_core hN hy hk hl hba hh hT hI hK hV hb ht hs (fun R q => hIt Z X W m H S ρ σ R n q) n h
/-- under a lock -/
theorem stS_lk {st : Stmt} {α β : Type} {R : List Addr → Hp → α → β → Prop} {f : Sl → List PO → Out α} {mk : β → HO} {j i : Nat} {σ : L2.St} {Z : St0} {X : Cx} {W : WX} {D : Ends} {m : List Addr} {H : Hp} {S : List PO} {ρ : Sl}
    (hR : ∀ {m' : List Addr} {H' H2 : Hp} {a : Addr} {u : HO} {v : α} {w : β}, DkT u → Lkd a u H' H2 → R m' H' v w → R m' H2 v w) (n : Now Z G d x X W m H S ρ σ) (hf : f ρ S ≠ .stuck → hasD j ρ) (hx : ∀ c fs S', f ρ S ≠ .exc c fs S')
    (h : ∀ (D : Ends) (H : Hp), Now Z G d x X W m H S ρ σ → LkAt j m σ H → Post Z G W R m H σ (f ρ S) (fun r H' => ∀ p, H' p = none → D.nx (σ.set i (some (.ref p))) (upd H' p (mk r))) → jS X st D σ H)
    (q : Post Z G W R m H σ (f ρ S) (fun r H' => ∀ p, H' p = none → D.nx (σ.set i (some (.ref p))) (upd H' p (mk r)))) : jS X st D σ H := by
  have hd : hasD j ρ := hf fun z => by rw [z] at q; exact q
  obtain ⟨a, u, hσ, hu, hr, hm⟩ := hasD_rel n.env hd
  rcases hr with hr | ⟨o, hr⟩
  · refine PS.j (ps_lock ps_j) ⟨a, u, hr, by cases u <;> first | trivial | exact hu.elim, fun od => ?_⟩
    refine h _ (upd H a (.frz od u)) (n.lk hu (Lkd.to hr) hm) ⟨a, od, u, hσ, hu, upd_same, hm⟩ ?_
    cases e1 : f ρ S with
    | ok vs S1 =>
      rw [e1] at q
      intro m' H' r x' R' rr p hp
      obtain ⟨h1, h2, h3⟩ := lk_ext hr hm x'
      have L := Lkd.back h1
      have hpa : a ≠ p := fun z => by rw [← z, h1] at hp; cases hp
      refine ⟨by rw [upd_ne hpa]; exact h1, ?_⟩
      have hc : upd (upd H' p (mk r)) a u = upd (upd H' a u) p (mk r) := by
        funext b
        by_cases z1 : b = a
        · subst z1; rw [upd_same, upd_ne hpa, upd_same]
        · rw [upd_ne z1]
          by_cases z2 : b = p
          · subst z2; rw [upd_same, upd_same]
          · rw [upd_ne z2, upd_ne z2, upd_ne z1]
      rw [hc]
      exact q m' (upd H' a u) r h3 (lk_rel hu L h2 R') (hR hu L rr) p (by rw [upd_ne (Ne.symm hpa)]; exact hp)
    | exc c fs S1 => exact absurd e1 (hx _ _ _)
    | stuck => rw [e1] at q; exact q.elim
  · exact h D H n ⟨a, o, u, hσ, hu, hr, hm⟩ q
theorem sds_compD {k : DK} {j i : Nat} {y : Str} {py p1 : Pos} {iter : Expr} {own : List (Str × Nat)} (hN : x.N[i]? = some y) (hy : locS x y = true) (hk : x.sc.kind = .function) (hl : (py.line == p1.line) = true) (hba : bareB scope y = true)
    (hh : x.hot = false) (hIt : ditB x k j tg iter = true) (hT : SG (blkX x scope) tg t) (hI : STs G d (blkX x scope) ifs (evTs G is)) (hK : SE G d (blkX x scope) kx (evE G kp)) (hV : SE G d (blkX x scope) vx (evE G vp)) (hb : blkC x.N x.sc scope own = true) (ht : ∀ i ∈ slT t, i ∈ own.map (·.2)) :
    SDs G d x (.Assign [.Name y py] (.DictComp kx vx [⟨tg, iter, ifs, 0⟩] scope p1) pos) i (evD G (own.map (·.2)) kp vp t (.dit k j) is) := fun Z X W D m H S ρ σ n h =>
  stS_lk (R := RpD Z) (mk := fun r => .dK (r.1.zip r.2)) (f := evD G (own.map (·.2)) kp vp t (.dit k j) is) (fun hu L r => ⟨r.1, r.2.1, lk_rpA hu L r.2.2⟩) n (fun q => dit_has (evD_ns q)) (fun c fs S' => evD_nx fun _ _ _ => dit_noexc)
    (fun D H n lk q => sds_core hN hy hk hl hba hh hT hI hK hV hb ht (dit_nset hIt) (fun R q => ji_dit hIt n lk q) n q) h
theorem sls_compD {k : DK} {j i : Nat} {y : Str} {py p1 : Pos} {iter elt : Expr} {p : PX} {own : List (Str × Nat)} (hN : x.N[i]? = some y) (hy : locS x y = true) (hk : x.sc.kind = .function) (hl : (py.line == p1.line) = true) (hba : bareB scope y = true)
    (hh : x.hot = false) (hIt : ditB x k j tg iter = true) (hT : SG (blkX x scope) tg t) (hI : STs G d (blkX x scope) ifs (evTs G is)) (hE : SE G d (blkX x scope) elt (evE G p)) (hb : blkC x.N x.sc scope own = true) (ht : ∀ i ∈ slT t, i ∈ own.map (·.2)) :
    SLs G d x (.Assign [.Name y py] (.ListComp elt [⟨tg, iter, ifs, 0⟩] scope p1) pos) i (evL G (.comp (own.map (·.2)) p t (.dit k j) is)) := fun Z X W D m H S ρ σ n h =>
  stS_lk (R := ReA Z) (mk := fun us => .lst us) (f := evL G (.comp (own.map (·.2)) p t (.dit k j) is)) (fun hu L r => lk_reA hu L r) n (fun q => dit_has (comp_ns q)) (fun c fs S' => comp_nx fun _ _ _ => dit_noexc)
    (fun D H n lk q => by
      obtain ⟨hc, _, _⟩ := n.ok.calm hh
      have hyl := locS_of n.ok.hs hy
      refine PS.j (ps_setLc (g := gU X scope tg) (tt := tU X scope ifs) (te := eU X scope elt) hc n.ok.nd (by rw [n.ok.hN]; exact hN) hyl (sw_true (by rw [n.ok.hs]; exact hk) hyl hl (by unfold bareB at hba; simpa using hba)) pi_j (blkOk_by (by rw [n.ok.hN, n.ok.hs]; exact hb)) (fun s H C cl fp => ⟨fun pins s1 σ H v u Q I r h => h s _ C cl fp pins s1 u I r⟩) (fun s H C cl fp => ⟨fun pins s1 σ H Q I h => h s _ C cl fp pins s1 I⟩)
        (fun s H C cl fp => ⟨fun pins s1 σ H Q I h => h s _ C cl fp pins s1 I⟩) (fun y => fold_none (dit_nset hIt) y)) ?_
      exact comp_core (Q := fun x H1 => D.nx (σ.set i (some x)) H1) hh hT hI hE hb ht (dit_nset hIt) (fun R q => ji_dit hIt n lk q) n q) h
/-! ### a[i], b[j] = x, y -/
theorem ss_swapIx {o1 i1 o2 i2 a b : Expr} {p1 q1 p2 q2 : PX} {es : List PX} {t1 t2 pt p3 : Pos} {kt k2 : Nat} (hh : x.hot = false) (h1 : SE G d x o1 (evE G p1)) (h2 : SE G d x i1 (evE G q1)) (h3 : SE G d x o2 (evE G p2)) (h4 : SE G d x i2 (evE G q2)) (hA : SA G d x [a, b] (evEs G es)) (hs1 : noSlice i1 = true) (hs2 : noSlice i2 = true) :
    SS G d x (.Assign [.Tuple [.Subscript o1 i1 t1, .Subscript o2 i2 t2] kt pt] (.Tuple [a, b] k2 p3) pos) (evS G (.swapIx p1 q1 p2 q2 es)) := by
  intro Z X W D m H S ρ σ n h
  simp only [evS] at h
  have u1 := units1 n.ok.room
  refine PS.j (ps_asg (pe_tup pa_j) (pg_tup (n.ok.calm hh).1 (pgs_cons (pg_sub pe_j pe_j (set_any u1) (fun v => by cases i1 <;> first | rfl | (cases hs1))) (pgs_cons (pg_sub pe_j pe_j (set_any u1) (fun v => by cases i2 <;> first | rfl | (cases hs2))) pgs_nil))) rfl (swapNo (t := .Subscript o1 i1 t1) (List.mem_cons_self ..) (fun y p z => by cases z)) rfl) ?_
  refine hA Z X W m H S ρ σ _ n (PostS.toS n.env h fun vs S1 m1 H1 us e1 x1 R1 r1 q1 => ?_)
  split at q1
  · rename_i v1 v2
    cases r1 with
    | cons r1 rr =>
      cases rr with
      | cons r2 rr =>
        cases rr
        rename_i w1 w2
        refine ⟨by show 2 ≤ sizeLine; rw [sizeLine_eq]; decide, fun tp hp => ?_⟩
        have xa := Ext.alloc (m := m1) (o := .tup [w1, w2]) hp
        have n1 := (n.step x1 R1).step xa (R1.alloc hp)
        have q1 := PostS.ext q1 xa
        refine ⟨tp, [w1, w2], rfl, SqT.of upd_same, rfl, w1, [w2], rfl, ?_⟩
        refine h1 Z X W m1 _ S1 ρ σ _ n1 (PostS.toS n1.env q1 fun y1 S2 m2 H2 z1 e2 x2 R2 s1 q2 => ?_)
        have n2 := n1.step x2 R2
        refine h2 Z X W m2 H2 S2 ρ σ _ n2 (PostS.toS n2.env q2 fun k1 S3 m3 H3 z2 e3 x3 R3 s2 q3 => ?_)
        have n3 := n2.step x3 R3
        split at q3
        · rename_i S4 e4
          refine setV_rel R3 (s1.ext x3) s2 (((r1.ext xa).ext x2).ext x3) e4 fun H4 x4 R4 => ?_
          refine ⟨w2, [], rfl, ?_⟩
          have n4 := n3.step x4 R4
          have q4 := PostS.ext q3 x4
          refine h3 Z X W m3 H4 S4 ρ σ _ n4 (PostS.toS n4.env q4 fun y2 S5 m5 H5 z3 e5 x5 R5 s3 q5 => ?_)
          have n5 := n4.step x5 R5
          refine h4 Z X W m5 H5 S5 ρ σ _ n5 (PostS.toS n5.env q5 fun k3 S6 m6 H6 z4 e6 x6 R6 s4 q6 => ?_)
          have n6 := n5.step x6 R6
          split at q6
          · rename_i S7 e7
            refine setV_rel R6 (s3.ext x6) s4 ((((((r2.ext xa).ext x2).ext x3).ext x4).ext x5).ext x6) e7 fun H7 x7 R7 => ?_
            exact ⟨rfl, q6 m6 H7 σ x7 R7 (n6.env.ext x7)⟩
          · exact q6.elim
        · exact q3.elim
  · exact q1.elim
end
end Rv
end PartRvVa
section PartRvVc
set_option Elab.async false
set_option linter.all false
set_option maxRecDepth 100000
set_option autoImplicit false
/-! Rv, part Vc: a new dict with tuples as keys, under a name. -/
namespace Rv
open PySem PySem.Spec PyProof.Rows L2
section
variable {X : Cx}
theorem ps_setDcT {i : Nat} {y : Str} {py : Pos} {kx vx tg iter : Expr} {ifs : List Expr} {scope : Scope} {own : List (Str × Nat)} {pos spos : Pos} {wi : TI} {g : TG} {tt : TT} {tk tv : TE} (hu : X.A.units < cLine) (hc : X.calm = true) (hN : X.N.Nodup) (hy : X.N[i]? = some y) (hyl : X.env.scope.names.lookup y = some .local)
    (hsw : swapsWith (.DictComp kx vx [⟨tg, iter, ifs, 0⟩] scope pos) (some (.Name y py)) spos.line X.env = pure true) (hi : PI X tg iter wi) (ok : BlkOk X.N X.env.scope scope own)
    (hg : ∀ s H C cl fp, PG (X.blk s H scope (compEnvC scope cl C X.env) fp) tg g) (ht : ∀ s H C cl fp, PTs (X.blk s H scope (compEnvC scope cl C X.env) fp) ifs tt)
    (hk : ∀ s H C cl fp, PE (X.blk s H scope (compEnvC scope cl C X.env) fp) kx tk) (he : ∀ s H C cl fp, PE (X.blk s H scope (compEnvC scope cl C X.env) fp) vx tv) (hs : ∀ x, foldedSetIterable iter X.env x = pure x) :
    L2.PS X (.Assign [.Name y py] (.DictComp kx vx [⟨tg, iter, ifs, 0⟩] scope pos) spos) (tAsg (tDcT wi g tt tk tv (own.map (·.2))) (gName i)) := by
  refine ⟨fun pins s σ H D I h => ?_⟩
  rw [exec_Assign_Name_used _ _ _ _ hsw]
  refine wpAny_bind (wpAny_standAt (wpAny_bind ?_))
  show wpAny _ X.A (do let _ ← comprehension (.DictComp kx vx [⟨tg, iter, ifs, 0⟩] scope pos) scope X.env (firstIterPos [⟨tg, iter, ifs, 0⟩] pos) newDict false (eval iter X.env) (some (assign (.Name y py) X.env))) _ _ s
  have h : tDcT wi g tt tk tv (own.map (·.2)) σ H (fun x H1 => gName i x σ H1 D.nx) := h
  refine wpAny_bind (thn (run_dT (Qf := fun _ s' => SP X pins D .next s') hu hc hN I hi ok hg ht hk he hs h fun L C s' m H' I' q hn f => ?_) fun _ s' hq => wpAny_pure (wpAny_pure hq))
  show wpAny _ _ (assign (.Name y py) X.env (.ref L)) _ _ _
  refine wpAny_assign_Name (store_ok2 (v := V.ref L) I' hN hy (.inl hyl) rfl (fun s2 I2 ⟨a, sb, ha⟩ => ?_) (.inr hyl))
  obtain ⟨f0, f1, f2, f3, f4, f5⟩ := f
  have hne : C ≠ a := ha.elim (fun z => by rw [z]; exact f1) fun z e => f4 y a z e.symm
  exact ⟨m, hn.sameBut sb hne, fun h3 sb3 => ⟨_, H', I2.turned (t' := s2.toks) (fun b o hb e => (sb3.2 b hb).trans e) f0 f1 f3 f4 f5, q⟩⟩
end
section
variable {G : Gm} {d : Nat} {x : Sx} {pos : Pos}
/-- a statement that stores a new dict -/
def SDsT (G : Gm) (d : Nat) (x : Sx) (st : Stmt) (i : Nat) (f : Sl → List PO → Out (List (List Key) × List PV)) : Prop :=
  ∀ (Z : St0) (X : Cx) (W : WX) (D : Ends) (m : List Addr) (H : Hp) (S : List PO) (ρ : Sl) (σ : L2.St), Now Z G d x X W m H S ρ σ →
    Post Z G W (RpDT Z) m H σ (f ρ S) (fun r H' => ∀ p, H' p = none → D.nx (σ.set i (some (.ref p))) (upd H' p (.dT (r.1.zip r.2)))) → jS X st D σ H
variable {scope : Scope} {tg : Expr} {ifs : List Expr} {kx vx : Expr} {t : PT} {is : List PB} {kp vp : PX} {own : List Nat} {it : PIt}
theorem ss_dcompT {i : Nat} {st : Stmt} {m : Bool} (ha : SDsT G d x st i (evDT G own kp vp t it is)) : SS G d x st (evS G (.asg (.nm i) (.dcompT m own kp vp t it is))) := by
  intro Z X W D mm H S ρ σ n h
  simp only [evS] at h
  rw [evE_dcompT] at h
  refine ha Z X W D mm H S ρ σ n ?_
  cases e : evDT G own kp vp t it is ρ S with
  | ok q S1 =>
    rw [e] at h
    intro m1 H1 r x1 R1 ⟨r1, r2, r3⟩ p hp
    rw [r1]
    simp only [Out.bind] at h
    cases m with
    | false =>
      have ex := x1.trans (Ext.alloc (o := .dT (q.1.zip r.2)) hp)
      exact h m1 _ _ ex (R1.alloc hp) ((n.env.ext ex).set (.p (.dtt (.inl upd_same) (fre_new R1 hp) r2 (r3.ext (Ext.alloc hp)))))
    | true =>
      have hm : (m1 ++ [p])[S1.length]? = some p := by
        rw [← R1.len, List.getElem?_append_right (Nat.le_refl _), Nat.sub_self]; rfl
      have ex := x1.trans (Ext.allocM (o := .dT (q.1.zip r.2)) hp)
      exact h (m1 ++ [p]) _ _ ex (R1.allocM hp ⟨r.2, upd_same, r2, r3.ext (Ext.allocM hp)⟩) ((n.env.ext ex).set (.ref hm))
  | exc c fs S1 =>
    rw [e] at h
    exact fun m1 H1 dd x1 R1 r1 => h m1 H1 σ dd x1 R1 (n.env.ext x1) r1
  | stuck => rw [e] at h; exact h
theorem sds_ofT {i : Nat} {y : Str} {e : Expr} {py : Pos} {f : Sl → List PO → Out (List (List Key) × List PV)} (hN : x.N[i]? = some y) (hl : locB x y = true) (ha : SDT G d x e f) (hs : ∀ X : Cx, X.env.scope = x.sc → swapsWith e (some (.Name y py)) pos.line X.env = pure false) : SDsT G d x (.Assign [.Name y py] e pos) i f := by
  intro Z X W D m H S ρ σ n h
  obtain ⟨h1, h2⟩ := loc_of n.ok.hs n.ok.hf hl
  exact PS.j (ps_set n.ok.nd (by rw [n.ok.hN]; exact hN) h1 pe_j (hs X n.ok.hs) h2) (ha Z X W m H S ρ σ (fun v H' => D.nx (σ.set i (some v)) H') n h)
theorem sds_coreT {i : Nat} {y : Str} {py p1 : Pos} {iter : Expr} {own : List (Str × Nat)} (hN : x.N[i]? = some y) (hy : locS x y = true) (hk : x.sc.kind = .function) (hl : (py.line == p1.line) = true) (hba : bareB scope y = true)
    (hh : x.hot = false) (hT : SG (blkX x scope) tg t) (hI : STs G d (blkX x scope) ifs (evTs G is)) (hK : SE G d (blkX x scope) kx (evE G kp)) (hV : SE G d (blkX x scope) vx (evE G vp)) (hb : blkC x.N x.sc scope own = true) (ht : ∀ i ∈ slT t, i ∈ own.map (·.2)) (hs : noSet iter = true)
    {Z : St0} {X : Cx} {W : WX} {D : Ends} {m : List Addr} {H : Hp} {S : List PO} {ρ : Sl} {σ : L2.St} (hIt : ∀ R, Post Z G W (RI Z) m H σ (evIt G it ρ S) R → jI X tg iter σ H R) (n : Now Z G d x X W m H S ρ σ)
    (h : Post Z G W (RpDT Z) m H σ (evDT G (own.map (·.2)) kp vp t it is ρ S) (fun r H' => ∀ p, H' p = none → D.nx (σ.set i (some (.ref p))) (upd H' p (.dT (r.1.zip r.2))))) : jS X (.Assign [.Name y py] (.DictComp kx vx [⟨tg, iter, ifs, 0⟩] scope p1) pos) D σ H := by
  obtain ⟨hc, _, _⟩ := n.ok.calm hh
  have hyl := locS_of n.ok.hs hy
  refine PS.j (ps_setDcT (units0 n.ok.room) (g := gU X scope tg) (tt := tU X scope ifs) (tk := eU X scope kx) (tv := eU X scope vx) hc n.ok.nd (by rw [n.ok.hN]; exact hN) hyl (sw_trueD (by rw [n.ok.hs]; exact hk) hyl hl (by unfold bareB at hba; simpa using hba)) pi_j (blkOk_by (by rw [n.ok.hN, n.ok.hs]; exact hb)) (fun s H C cl fp => ⟨fun pins s1 σ H v u Q I r h => h s _ C cl fp pins s1 u I r⟩) (fun s H C cl fp => ⟨fun pins s1 σ H Q I h => h s _ C cl fp pins s1 I⟩)
    (fun s H C cl fp => ⟨fun pins s1 σ H Q I h => h s _ C cl fp pins s1 I⟩) (fun s H C cl fp => ⟨fun pins s1 σ H Q I h => h s _ C cl fp pins s1 I⟩) (fun y => fold_none hs y)) ?_
  exact dcomp_coreT (Q := fun x H1 => D.nx (σ.set i (some x)) H1) hh hT hI hK hV ht hIt n h
theorem sds_compT {i : Nat} {y : Str} {py p1 : Pos} {iter : Expr} {own : List (Str × Nat)} (hN : x.N[i]? = some y) (hy : locS x y = true) (hk : x.sc.kind = .function) (hl : (py.line == p1.line) = true) (hba : bareB scope y = true)
    (hh : x.hot = false) (hIt : SI G d x tg iter (evIt G it)) (hT : SG (blkX x scope) tg t) (hI : STs G d (blkX x scope) ifs (evTs G is)) (hK : SE G d (blkX x scope) kx (evE G kp)) (hV : SE G d (blkX x scope) vx (evE G vp)) (hb : blkC x.N x.sc scope own = true) (ht : ∀ i ∈ slT t, i ∈ own.map (·.2)) (hs : noSet iter = true) :
    SDsT G d x (.Assign [.Name y py] (.DictComp kx vx [⟨tg, iter, ifs, 0⟩] scope p1) pos) i (evDT G (own.map (·.2)) kp vp t it is) := fun Z X W D m H S ρ σ n h =>
  sds_coreT hN hy hk hl hba hh hT hI hK hV hb ht hs (fun R q => hIt Z X W m H S ρ σ R n q) n h
theorem sds_compDT {k : DK} {j i : Nat} {y : Str} {py p1 : Pos} {iter : Expr} {own : List (Str × Nat)} (hN : x.N[i]? = some y) (hy : locS x y = true) (hk : x.sc.kind = .function) (hl : (py.line == p1.line) = true) (hba : bareB scope y = true)
    (hh : x.hot = false) (hIt : ditB x k j tg iter = true) (hT : SG (blkX x scope) tg t) (hI : STs G d (blkX x scope) ifs (evTs G is)) (hK : SE G d (blkX x scope) kx (evE G kp)) (hV : SE G d (blkX x scope) vx (evE G vp)) (hb : blkC x.N x.sc scope own = true) (ht : ∀ i ∈ slT t, i ∈ own.map (·.2)) :
    SDsT G d x (.Assign [.Name y py] (.DictComp kx vx [⟨tg, iter, ifs, 0⟩] scope p1) pos) i (evDT G (own.map (·.2)) kp vp t (.dit k j) is) := fun Z X W D m H S ρ σ n h =>
  stS_lk (R := RpDT Z) (mk := fun r => .dT (r.1.zip r.2)) (f := evDT G (own.map (·.2)) kp vp t (.dit k j) is) (fun hu L r => ⟨r.1, r.2.1, lk_rpA hu L r.2.2⟩) n (fun q => dit_has (evD_nsT q)) (fun c fs S' => evD_nxT fun _ _ _ => dit_noexc)
    (fun D H n lk q => sds_coreT hN hy hk hl hba hh hT hI hK hV hb ht (dit_nset hIt) (fun R q => ji_dit hIt n lk q) n q) h
end
end Rv
end PartRvVc
section PartRvW
set_option Elab.async false
set_option linter.all false
set_option maxRecDepth 100000
set_option autoImplicit false
/-! Rv, part W: a term is a code's, by a test. -/
namespace Rv
open PySem PySem.Spec PyProof.Rows L2
def dbg (y : Str) : Bool := !(y == ("__debug__" : Str))
theorem dbg_of {y : Str} (h : dbg y = true) : (y == ("__debug__" : Str)) = false := by unfold dbg at h; simpa using h
def cdt (y : Str) : Bool := !(y == ("__classdict__" : Str))
theorem cdt_of {y : Str} (h : cdt y = true) : (y == ("__classdict__" : Str)) = false := by unfold cdt at h; simpa using h
def eqN (x : Sx) (i : Nat) (y : Str) : Bool := decide (x.N[i]? = some y)
def frB (G : Gm) (x : Sx) (y : Str) : Bool := decide (y ∈ G.free) && glB x.sc y
def opB : Operator → BOp → Bool
  | .Add, .add => true | .Sub, .sub => true | .Mult, .mul => true | .FloorDiv, .fdiv => true | .Mod, .mod => true | .Pow, .pow => true
  | _, _ => false
theorem opB_of {o : Operator} {b : BOp} (h : opB o b = true) : o = bopOf b := by cases o <;> cases b <;> first | rfl | (cases h)
def cpB : CmpOp → COp → Bool
  | .Eq, .eq => true | .NotEq, .ne => true | .Lt, .lt => true | .LtE, .le => true | .Gt, .gt => true | .GtE, .ge => true | .In, .isin => true | .NotIn, .notin => true | .Is, .is_ => true | .IsNot, .isnot => true
  | _, _ => false
theorem cpB_of {o : CmpOp} {b : COp} (h : cpB o b = true) : o = copOf b := by cases o <;> cases b <;> first | rfl | (cases h)
def isN (y : Str) (z : String) : Bool := decide (y = Str.ofString z)
/-- a built-in class -/
def tyB (t : String) (y : Str) : Bool := (t == "int" && isN y "int") || (t == "str" && isN y "str") || (t == "bool" && isN y "bool") || (t == "tuple" && isN y "tuple") || (t == "list" && isN y "list") || (t == "dict" && isN y "dict")
theorem tyB_of {t : String} {y : Str} (h : tyB t y = true) : bootBuiltins y = some (.type t) ∧ y ≠ "__name__" ∧ (y == ("__debug__" : Str)) = false := by
  unfold tyB isN at h
  simp only [Bool.or_eq_true, Bool.and_eq_true, beq_iff_eq, decide_eq_true_eq] at h
  rcases h with ((((⟨rfl, rfl⟩ | ⟨rfl, rfl⟩) | ⟨rfl, rfl⟩) | ⟨rfl, rfl⟩) | ⟨rfl, rfl⟩) | ⟨rfl, rfl⟩
  · exact ⟨PyProof.Rows.boot_int, by decide, by decide⟩
  · exact ⟨PyProof.Rows.boot_str, by decide, by decide⟩
  · exact ⟨PyProof.Rows.boot_bool, by decide, by decide⟩
  · exact ⟨PyProof.Rows.boot_tuple, by decide, by decide⟩
  · exact ⟨PyProof.Rows.boot_list, by decide, by decide⟩
  · exact ⟨PyProof.Rows.boot_dict, by decide, by decide⟩
/-- a built-in function -/
def biB (G : Gm) (x : Sx) (b : BI) (y : Str) : Bool := match b with
  | .len => isN y "len" && frB G x y
  | .abs => isN y "abs" && frB G x y
  | .int => isN y "int" && frB G x y
  | .all => isN y "all" && (frB G x y && !x.hot)
  | .any => isN y "any" && (frB G x y && !x.hot)
  | .sum => isN y "sum" && (frB G x y && !x.hot)
  | .min1 => isN y "min" && (frB G x y && !x.hot)
  | .max1 => isN y "max" && (frB G x y && !x.hot)
  | .min2 => isN y "min" && (frB G x y && !x.hot)
  | .max2 => isN y "max" && (frB G x y && !x.hot)
  | .isa => isN y "isinstance" && frB G x y
  | .gcd => isN y "gcd" && (decide ((y, "math.gcd") ∈ G.bfs) && glB x.sc y)
  | .tuple => isN y "tuple" && frB G x y
  | .str => isN y "str" && frB G x y
def blB (G : Gm) (x : Sx) (b : BL) (y : Str) : Bool := match b with
  | .list => isN y "list" && frB G x y
  | .listd => isN y "list" && (frB G x y && !x.hot)
  | .sorted => isN y "sorted" && (frB G x y && !x.hot)
theorem boot_sorted2 : bootBuiltins "sorted" = some (.builtin "sorted") := by decide +kernel
theorem boot_len2 : bootBuiltins "len" = some (.builtin "len") := by decide +kernel
theorem boot_all2 : bootBuiltins "all" = some (.builtin "all") := by decide +kernel
theorem boot_any2 : bootBuiltins "any" = some (.builtin "any") := by decide +kernel
theorem boot_sum2 : bootBuiltins "sum" = some (.builtin "sum") := by decide +kernel
theorem boot_min2 : bootBuiltins "min" = some (.builtin "min") := by decide +kernel
theorem boot_max2 : bootBuiltins "max" = some (.builtin "max") := by decide +kernel
section
variable {G : Gm} {d : Nat} {x : Sx}
theorem hotF {h : Bool} (e : (!h) = true) : h = false := by simpa using e
theorem fr_of {y : Str} (h : frB G x y = true) : y ∈ G.free ∧ glB x.sc y = true := by
  unfold frB at h
  rw [Bool.and_eq_true, decide_eq_true_eq] at h
  exact h
theorem biB_of {b : BI} {y : Str} (h : biB G x b y = true) : BiOk G d x y fun Z => rC Z (bi b) := by
  cases b <;> simp only [biB, Bool.and_eq_true] at h <;> try (cases h)
  all_goals (rename_i h1 h2; have e := of_decide_eq_true h1; subst e)
  · exact bi_fun (fr_of h2).1 (fr_of h2).2 boot_len2 (by decide) (by decide) fun Z X ok => run_len ok.hK
  · exact bi_fun (fr_of h2).1 (fr_of h2).2 PyProof.Rows.boot_abs (by decide) (by decide) fun Z X ok => run_abs
  · exact bi_ty (fr_of h2).1 (fr_of h2).2 PyProof.Rows.boot_int (by decide) (by decide) fun Z X ok => run_int
  · exact bi_ty (fr_of h2).1 (fr_of h2).2 PyProof.Rows.boot_str (by decide) (by decide) fun Z X ok => run_str
  · exact bi_fun (fr_of h2.1).1 (fr_of h2.1).2 boot_all2 (by decide) (by decide) fun Z X ok => run_all ok.hK (ok.calm (hotF h2.2)).1
  · exact bi_fun (fr_of h2.1).1 (fr_of h2.1).2 boot_any2 (by decide) (by decide) fun Z X ok => run_any ok.hK (ok.calm (hotF h2.2)).1
  · exact bi_fun (fr_of h2.1).1 (fr_of h2.1).2 boot_sum2 (by decide) (by decide) fun Z X ok => run_sum ok.hK (ok.calm (hotF h2.2)).1
  · exact bi_fun (fr_of h2.1).1 (fr_of h2.1).2 boot_min2 (by decide) (by decide) fun Z X ok => run_min1 ok.hK (ok.calm (hotF h2.2)).1 ok.room
  · exact bi_fun (fr_of h2.1).1 (fr_of h2.1).2 boot_max2 (by decide) (by decide) fun Z X ok => run_max1 ok.hK (ok.calm (hotF h2.2)).1 ok.room
  · exact bi_fun (fr_of h2.1).1 (fr_of h2.1).2 boot_min2 (by decide) (by decide) fun Z X ok => run_min2 (ok.calm (hotF h2.2)).1
  · exact bi_fun (fr_of h2.1).1 (fr_of h2.1).2 boot_max2 (by decide) (by decide) fun Z X ok => run_max2 (ok.calm (hotF h2.2)).1
  · exact bi_fun (fr_of h2).1 (fr_of h2).2 PyProof.Rows.boot_isinstance (by decide) (by decide) fun Z X ok => run_isa ok.hK
  · exact bi_glob (of_decide_eq_true h2.1) h2.2 (by decide) fun Z X ok => run_gcd
  · exact bi_ty (fr_of h2).1 (fr_of h2).2 PyProof.Rows.boot_tuple (by decide) (by decide) fun Z X ok => run_tuple ok.hK
theorem blB_of {b : BL} {y : Str} (h : blB G x b y = true) : BiOk G d x y fun Z => rCL Z (biL b) := by
  cases b <;> simp only [blB, Bool.and_eq_true] at h <;> try (cases h)
  all_goals (rename_i h1 h2; have e := of_decide_eq_true h1; subst e)
  · exact bi_ty (fr_of h2).1 (fr_of h2).2 PyProof.Rows.boot_list (by decide) (by decide) fun Z X ok => run_list ok.hK
  · exact bi_fun (fr_of h2.1).1 (fr_of h2.1).2 boot_sorted2 (by decide) (by decide) fun Z X ok => run_sorted ok.hK (ok.calm (hotF h2.2)).1 ok.room
  · exact bi_ty (fr_of h2.1).1 (fr_of h2.1).2 PyProof.Rows.boot_list (by decide) (by decide) fun Z X ok => run_listd (ok.calm (hotF h2.2)).1
theorem plainIx {b : Expr} (h : noSlice b = true) : PlainIx b := by
  intro o i
  cases b <;> first | rfl | (cases h)
end
/-! ### the tests -/
mutual
def ckG : PT → Sx → Expr → Bool
  | .nm i, x, e => match e with
    | .Name y _ => eqN x i y && locB x y
    | _ => false
  | .tup ts, x, e => match e with
    | .Tuple es _ _ => !x.hot && (ckGs ts x es && (decide (es.length = ts.length) && es.all fun e => !starB e))
    | _ => false
def ckGs : List PT → Sx → List Expr → Bool
  | [], _, es => match es with
    | [] => true
    | _ => false
  | t :: ts, x, es => match es with
    | [] => false
    | e :: es => ckG t x e && (ckGs ts x es && !starB e)
end
mutual
theorem ckG_ok : ∀ (t : PT) {x : Sx} {e : Expr}, ckG t x e = true → SG x e t
  | .nm i, x, e, h => by
    simp only [ckG] at h
    split at h
    · rw [Bool.and_eq_true] at h; exact sg_name (of_decide_eq_true h.1) h.2
    · cases h
  | .tup ts, x, e, h => by
    simp only [ckG] at h
    split at h
    · simp only [Bool.and_eq_true] at h; exact sg_tup (hotF h.1) (ckGs_ok ts h.2.1) (of_decide_eq_true h.2.2.1) h.2.2.2
    · cases h
theorem ckGs_ok : ∀ (t : List PT) {x : Sx} {e : List Expr}, ckGs t x e = true → SGs x e t
  | [], x, e, h => by
    simp only [ckGs] at h
    split at h
    · exact sgs_nil
    · cases h
  | t :: ts, x, e, h => by
    simp only [ckGs] at h
    split at h
    · cases h
    · simp only [Bool.and_eq_true] at h; exact sgs_cons (ckG_ok t h.1) (ckGs_ok ts h.2.1) (hotF h.2.2)
end
def ckC (G : Gm) (v : PV) (x : Sx) (e : Expr) : Bool := match v, e with
  | .int i, .Constant (.int j) _ _ => decide (i = j)
  | .str a, .Constant (.str b) _ _ => decide (a = b)
  | .bl a, .Constant (.bool b) _ _ => decide (a = b)
  | .non, .Constant .none _ _ => true
  | .fn i, .Name y _ => match G.fns[i]? with
    | some f => decide (f.name = y) && (glB x.sc y && dbg y)
    | none => false
  | .cls i, .Name y _ => match G.cls[i]? with
    | some f => decide (f.name = y) && (glB x.sc y && dbg y)
    | none => false
  | .ty t, .Name y _ => tyB t y && frB G x y
  | _, _ => false
theorem ckC_ok {G : Gm} {d : Nat} {x : Sx} {v : PV} {e : Expr} (h : ckC G v x e = true) : SE G d x e (evE G (.const v)) := by
  unfold ckC at h
  split at h
  · rw [of_decide_eq_true h]; exact se_int
  · rw [of_decide_eq_true h]; exact se_str
  · rw [of_decide_eq_true h]; exact se_bl
  · exact se_non
  · split at h
    · rename_i f hf
      simp only [Bool.and_eq_true] at h
      have e := of_decide_eq_true h.1
      subst e
      exact se_fn hf h.2.1 (dbg_of h.2.2)
    · cases h
  · split at h
    · rename_i f hf
      simp only [Bool.and_eq_true] at h
      have e := of_decide_eq_true h.1
      subst e
      exact se_cls hf h.2.1 (dbg_of h.2.2)
    · cases h
  · simp only [Bool.and_eq_true] at h
    obtain ⟨a, b, c⟩ := tyB_of h.1
    exact se_ty (fr_of h.2).1 (fr_of h.2).2 a b c
  · cases h
def ownP (x : Sx) (is : List Nat) : List (Str × Nat) := is.map fun i => (x.N.getD i "", i)
theorem ownP_snd (x : Sx) (is : List Nat) : (ownP x is).map (·.2) = is := by
  unfold ownP
  rw [List.map_map]
  exact List.map_id' is
/-- by which the store of a list just made is swapped -/
def swB (e : Expr) (y : Str) (py : Pos) : Bool := match e with
  | .ListComp _ _ sc p1 => (py.line == p1.line) && bareB sc y
  | _ => false
def SLw (G : Gm) (d : Nat) (x : Sx) (e : Expr) (f : Sl → List PO → Out (List EV)) : Prop :=
  SL G d x e f ∧ ∀ (i : Nat) (y : Str) (py pos : Pos), x.N[i]? = some y → locS x y = true → x.sc.kind = .function → swB e y py = true → SLs G d x (.Assign [.Name y py] e pos) i f
def subN (a b : List Nat) : Bool := a.all fun i => decide (i ∈ b)
theorem subN_of {a b : List Nat} (h : subN a b = true) : ∀ i ∈ a, i ∈ b := fun i hi => of_decide_eq_true (List.all_eq_true.mp h i hi)
def isTup : Expr → Bool
  | .Tuple _ _ _ => true
  | _ => false
def isBool : Expr → Bool
  | .BoolOp _ _ _ => true
  | _ => false
/-- a walk over a dict's slot, as it is written -/
def ckDit (x : Sx) (it : PIt) (tg e : Expr) : Bool := match it with
  | .dit k j => ditB x k j tg e
  | _ => false
theorem ckDit_of {x : Sx} {it : PIt} {tg e : Expr} (h : ckDit x it tg e = true) : ∃ k j, it = .dit k j ∧ ditB x k j tg e = true := by
  cases it <;> first | exact ⟨_, _, rfl, h⟩ | (cases h)
mutual
def ckE (G : Gm) : PX → Sx → Expr → Bool
  | .var i, x, e => match e with
    | .Name y _ => eqN x i y && (visB x.sc y && (dbg y && cdt y))
    | _ => false
  | .const v, x, e => ckC G v x e
  | .never, _, _ => true
  | .dnew _, _, e => match e with
    | .Dict [] [] _ => true
    | _ => false
  | .get1 p q, x, e => match e with
    | .Call (.Attribute r n ap) [a] [] cp => isN n "get" && (plainBase r && (!starB a && ((ap.endLine == cp.line) && (ckE G p x r && ckE G q x a))))
    | _ => false
  | .get2 p q w, x, e => match e with
    | .Call (.Attribute r n ap) [a, b] [] cp => isN n "get" && (plainBase r && (!starB a && (!starB b && ((ap.endLine == cp.line) && (ckE G p x r && (ckE G q x a && ckE G w x b))))))
    | _ => false
  | .disp1 p q, x, e => match e with
    | .Dict [some a] [b] _ => ckE G p x a && ckE G q x b
    | _ => false
  | .dcomp m own k v tg it ifs, x, e => match e with
    | .DictComp kx vx [⟨t, i, fs, n⟩] sc _ => decide (n = 0) && (!x.hot && (blkC x.N x.sc sc (ownP x own) && (ckG tg (blkX x sc) t && (subN (slT tg) own && ((ckDit x it t i || (ckIt G it x t i && noSet i)) && (ckTs G ifs (blkX x sc) fs && (ckE G k (blkX x sc) kx && ckE G v (blkX x sc) vx)))))))
    | _ => false
  | .dcompT m own k v tg it ifs, x, e => match e with
    | .DictComp kx vx [⟨t, i, fs, n⟩] sc _ => decide (n = 0) && (!x.hot && (blkC x.N x.sc sc (ownP x own) && (ckG tg (blkX x sc) t && (subN (slT tg) own && ((ckDit x it t i || (ckIt G it x t i && noSet i)) && (ckTs G ifs (blkX x sc) fs && (ckE G k (blkX x sc) kx && ckE G v (blkX x sc) vx)))))))
    | _ => false
  | .rev a, x, e => match e with
    | .Subscript l (.Slice none none (some (.UnaryOp .USub (.Constant (.int 1) _ _) _)) _) _ => ckE G a x l
    | _ => false
  | .trng p, x, e => match e with
    | .Call (.Name z _) [.Call (.Name y _) [a] [] _] [] _ => isN z "tuple" && (frB G x z && (isN y "range" && (frB G x y && (!x.hot && (ckE G p x a && !starB a)))))
    | _ => false
  | .dpop p q w, x, e => match e with
    | .Call (.Attribute r n ap) [a, b] [] cp => isN n "pop" && (plainBase r && (!starB a && (!starB b && ((ap.endLine == cp.line) && (ckE G p x r && (ckE G q x a && ckE G w x b))))))
    | _ => false
  | .cst k, x, e => match e with
    | .Name y _ => match G.csts[k]? with
      | some q => decide (q.1 = y) && (glB x.sc y && dbg y)
      | none => false
    | _ => false
  | .tup es, x, e => match e with
    | .Tuple l _ _ => ckEs G es x l && decide (es.length ≤ lim)
    | _ => false
  | .lst l, x, e => ckL G l x e
  | .mut l, x, e => ckL G l x e
  | .bin op a b, x, e => match e with
    | .BinOp l o r _ => opB o op && (ckE G a x l && ckE G b x r)
    | _ => false
  | .neg a, x, e => match e with
    | .UnaryOp .USub l _ => ckE G a x l
    | _ => false
  | .not a, x, e => match e with
    | .UnaryOp .Not l _ => ckE G a x l
    | _ => false
  | .and p q, x, e => match e with
    | .BoolOp .And (a :: b :: rest) pos => ckE G p x a && (match rest with
      | [] => ckE G q x b
      | c :: r => ckE G q x (.BoolOp .And (b :: c :: r) pos))
    | _ => false
  | .or p q, x, e => match e with
    | .BoolOp .Or (a :: b :: rest) pos => ckE G p x a && (match rest with
      | [] => ckE G q x b
      | c :: r => ckE G q x (.BoolOp .Or (b :: c :: r) pos))
    | _ => false
  | .cmp o p q, x, e => match e with
    | .Compare a [c] [b] _ => cpB c o && (ckE G p x a && (ckE G q x b && !(behindInMarks (copOf o) b)))
    | _ => false
  | .chain o1 o2 p q r, x, e => match e with
    | .Compare a [c1, c2] [b, c] _ => cpB c1 o1 && (cpB c2 o2 && (ckE G p x a && (ckE G q x b && (ckE G r x c && !(lastMarks [copOf o1, copOf o2] [b, c])))))
    | _ => false
  | .ife t p q, x, e => match e with
    | .IfExp c a b _ => ckT G t x c && (ckE G p x a && ckE G q x b)
    | _ => false
  | .call i es, x, e => match e with
    | .Call (.Name y _) (a :: as) [] _ => match G.fns[i]? with
      | some f => decide (f.name = y) && ((!x.hot || G.hot i) && (glB x.sc y && (dbg y && (ckEs G es x (a :: as) && (decide (es.length = f.ps.length) && (!starB a && as.all fun e => !starB e))))))
      | none => false
    | _ => false
  | .callv i es, x, e => match e with
    | .Call (.Name y _) (a :: as) [] _ => eqN x i y && (visB x.sc y && (dbg y && (cdt y && (!x.hot && (ckEs G es x (a :: as) && (!starB a && as.all fun e => !starB e))))))
    | _ => false
  | .bi b es, x, e => match e with
    | .Call (.Name y _) (a :: as) [] _ => biB G x b y && (ckEs G es x (a :: as) && (!starB a && as.all fun e => !starB e))
    | _ => false
  | .ix a b, x, e => match e with
    | .Subscript l r _ => ckE G a x l && (ckE G b x r && noSlice r)
    | _ => false
  | .sl a lo hi, x, e => match e with
    | .Subscript l (.Slice lo' hi' none _) _ => ckE G a x l && (ckO G lo x lo' && ckO G hi x hi')
    | _ => false
  | .isx p k, x, e => match e with
    | .Call (.Name y _) [a, .Name z _] [] _ => isN y "isinstance" && (frB G x y && (ckE G p x a && (!starB a && (match G.cls[k]? with
      | some ci => decide (ci.name = z) && (glB x.sc z && dbg z)
      | none => false))))
    | _ => false
  | .ist p, x, e => match e with
    | .Call (.Name y _) [a, .Name z _] [] _ => isN y "isinstance" && (frB G x y && (ckE G p x a && (!starB a && (isN z "ValueError" && frB G x z))))
    | _ => false
  | .meth k o es, x, e => match e with
    | .Call (.Attribute r n ap) as [] cp => ckE G o x r && (plainBase r && ((ap.endLine == cp.line) && (ckEs G es x as && (match k with
      | .append => isN n "append" && decide (as.length = 1)
      | .update => isN n "update" && decide (as.length = 1)
      | .extend => isN n "extend" && decide (as.length = 1)
      | .pop0 => isN n "pop" && decide (as.length = 0)
      | .popAt => isN n "pop" && decide (as.length = 1)
      | .index => isN n "index" && decide (as.length = 1)
      | .count => isN n "count" && decide (as.length = 1)
      | .join => isN n "join" && decide (as.length = 1)
      | .split => isN n "split" && decide (as.length = 1)
      | _ => false))))
    | _ => false
def ckT (G : Gm) : PB → Sx → Expr → Bool
  | .and p q, x, e => match e with
    | .BoolOp .And (a :: b :: rest) pos => ckT G p x a && (match rest with
      | [] => ckT G q x b
      | c :: r => ckT G q x (.BoolOp .And (b :: c :: r) pos))
    | _ => false
  | .or p q, x, e => match e with
    | .BoolOp .Or (a :: b :: rest) pos => ckT G p x a && (match rest with
      | [] => ckT G q x b
      | c :: r => ckT G q x (.BoolOp .Or (b :: c :: r) pos))
    | _ => false
  | .not a, x, e => match e with
    | .UnaryOp .Not l _ => ckT G a x l
    | _ => false
  | .cmp o p q, x, e => match e with
    | .Compare a [c] [b] _ => cpB c o && (ckE G p x a && (ckE G q x b && !(behindInMarks (copOf o) b)))
    | _ => false
  | .chain o1 o2 p q r, x, e => match e with
    | .Compare a [c1, c2] [b, c] _ => cpB c1 o1 && (cpB c2 o2 && (ckE G p x a && (ckE G q x b && (ckE G r x c && !(lastMarks [copOf o1, copOf o2] [b, c])))))
    | _ => false
  | .val p, x, e => ckE G p x e && plainTest e
def ckO (G : Gm) : Option PX → Sx → Option Expr → Bool
  | none, _, e => match e with
    | none => true
    | some _ => false
  | some p, x, e => match e with
    | none => false
    | some e => ckE G p x e
def ckEs (G : Gm) : List PX → Sx → List Expr → Bool
  | [], _, es => match es with
    | [] => true
    | _ :: _ => false
  | p :: ps, x, es => match es with
    | [] => false
    | e :: es => ckE G p x e && (ckEs G ps x es && !starB e)
def ckTs (G : Gm) : List PB → Sx → List Expr → Bool
  | [], _, es => match es with
    | [] => true
    | _ :: _ => false
  | p :: ps, x, es => match es with
    | [e] => ckT G p x e && (match ps with
      | [] => true
      | _ :: _ => false)
    | _ => false
def ckL (G : Gm) : PL → Sx → Expr → Bool
  | .disp es, x, e => match e with
    | .List l _ => ckEs G es x l && decide (es.length ≤ lim)
    | _ => false
  | .bin op a b, x, e => match e with
    | .BinOp l o r _ => opB o op && (ckE G a x l && ckE G b x r)
    | _ => false
  | .bi b es, x, e => match e with
    | .Call (.Name y _) (a :: as) [] _ => blB G x b y && (ckEs G es x (a :: as) && (!starB a && as.all fun e => !starB e))
    | _ => false
  | .sl a lo hi, x, e => match e with
    | .Subscript l (.Slice lo' hi' none _) _ => ckE G a x l && (ckO G lo x lo' && ckO G hi x hi')
    | _ => false
  | .rev a, x, e => match e with
    | .Subscript l (.Slice none none (some (.UnaryOp .USub (.Constant (.int 1) _ _) _)) _) _ => ckE G a x l
    | _ => false
  | .rng1 p, x, e => match e with
    | .Call (.Name z _) [.Call (.Name y _) [a] [] _] [] _ => isN z "list" && (frB G x z && (isN y "range" && (frB G x y && (!x.hot && (ckE G p x a && !starB a)))))
    | _ => false
  | .rng2 p q, x, e => match e with
    | .Call (.Name z _) [.Call (.Name y _) [a, b] [] _] [] _ => isN z "list" && (frB G x z && (isN y "range" && (frB G x y && (!x.hot && (ckE G p x a && (ckE G q x b && (!starB a && !starB b)))))))
    | _ => false
  | .comp own elt tg it ifs, x, e => match e with
    | .ListComp el [⟨t, i, fs, k⟩] sc _ => decide (k = 0) && (!x.hot && (blkC x.N x.sc sc (ownP x own) && (ckG tg (blkX x sc) t && (subN (slT tg) own && ((ckDit x it t i || (ckIt G it x t i && noSet i)) && (ckTs G ifs (blkX x sc) fs && ckE G elt (blkX x sc) el))))))
    | _ => false
  | .comp2 own elt tg it ifs own2 tg2 it2 ifs2, x, e => match e with
    | .ListComp el [⟨t, i, fs, k⟩, ⟨t2, i2, fs2, k2⟩] sc _ => decide (k = 0) && (decide (k2 = 0) && (!x.hot && (blkC x.N x.sc sc (ownP x own) && (ckG tg (blkX x sc) t && (subN (slT tg) own && (ckIt G it x t i && (ckTs G ifs (blkX x sc) fs && (ckE G elt (blkX x sc) el && (noSet i &&
      (ckG tg2 (blkX x sc) t2 && (subN (slT tg2) own2 && (subN own2 own && (ckIt G it2 (blkX x sc) t2 i2 && (ckTs G ifs2 (blkX x sc) fs2 && noSet i2))))))))))))))
    | _ => false
def ckIt (G : Gm) : PIt → Sx → Expr → Expr → Bool
  | .val p, x, _, e => ckE G p x e
  | .range1 p, x, _, e => match e with
    | .Call (.Name y _) [a] [] _ => isN y "range" && (frB G x y && (ckE G p x a && !starB a))
    | _ => false
  | .range2 p q, x, _, e => match e with
    | .Call (.Name y _) [a, b] [] _ => isN y "range" && (frB G x y && (ckE G p x a && (ckE G q x b && (!starB a && !starB b))))
    | _ => false
  | .enum p, x, t, e => match e with
    | .Call (.Name y _) [a] [] _ => isN y "enumerate" && (frB G x y && (ckE G p x a && (!starB a && isTup t)))
    | _ => false
  | .dit _ _, _, _, _ => false
  | .zip ps, x, t, e => match e with
    | .Call (.Name y _) [a, b] [] _ => isN y "zip" && (frB G x y && (ckEs G ps x [a, b] && (!starB a && (!starB b && isTup t))))
    | _ => false
end
end Rv
end PartRvW
section PartRvY
set_option Elab.async false
set_option linter.all false
set_option maxRecDepth 100000
set_option autoImplicit false
set_option maxHeartbeats 2000000
/-! Rv, part Y: the tests of expressions are right. -/
namespace Rv
open PySem PySem.Spec PyProof.Rows L2
theorem hotG {G : Gm} {x : Sx} {i : Nat} (h : (!x.hot || G.hot i) = true) : x.hot = false ∨ G.hot i = true := by
  rw [Bool.or_eq_true] at h
  exact h.imp hotF id
theorem notE0 {b : Bool} (h : (!b) = true) : b = false := by simpa using h
section
variable {G : Gm} {d : Nat}
def TW (G : Gm) (d : Nat) (x : Sx) (e : Expr) (f : Sl → List PO → Out Bool) : Prop := ST G d x e f ∧ (isBool e = true → SW G d x e f)
theorem TW.of {x : Sx} {e : Expr} {f : Sl → List PO → Out Bool} (w : SW G d x e f) : TW G d x e f := ⟨ST.of w, fun _ => w⟩
theorem isTup_of {e : Expr} (h : isTup e = true) : ∃ l k p, e = .Tuple l k p := by
  cases e <;> first | exact ⟨_, _, _, rfl⟩ | (cases h)
theorem swB_no {e : Expr} {y : Str} {py : Pos} (h : noSwap e = true) : swB e y py = false := by
  cases e <;> first | rfl | (cases h)
theorem SLw.of {x : Sx} {e : Expr} {f : Sl → List PO → Out (List EV)} (h : SL G d x e f) (hs : noSwap e = true) : SLw G d x e f := ⟨h, fun i y py pos _ _ _ q => by rw [swB_no hs] at q; cases q⟩
mutual
theorem ckE_ok : ∀ (p : PX) {x : Sx} {e : Expr}, ckE G p x e = true → SE G d x e (evE G p)
  | .var i, x, e, h => by
    simp only [ckE] at h
    split at h
    · simp only [Bool.and_eq_true] at h; exact se_var (of_decide_eq_true h.1) h.2.1 (dbg_of h.2.2.1) (cdt_of h.2.2.2)
    · cases h
  | .const v, x, e, h => by simp only [ckE] at h; exact ckC_ok h
  | .never, x, e, h => fun Z X W m H S ρ σ Q n q => by simp only [evE] at q; exact q.elim
  | .dnew t, x, e, h => by
    simp only [ckE] at h
    split at h
    · cases t
      · exact se_dnewK
      · exact se_dnewT
    · cases h
  | .get1 p q, x, e, h => by
    simp only [ckE] at h
    split at h
    · simp only [Bool.and_eq_true] at h
      obtain ⟨h1, h2, h3, h4, h5, h6⟩ := h
      have e1 := of_decide_eq_true h1
      subst e1
      exact se_get1 (ckE_ok p h5) (ckE_ok q h6) h2 (notE0 h3) h4
    · cases h
  | .get2 p q w, x, e, h => by
    simp only [ckE] at h
    split at h
    · simp only [Bool.and_eq_true] at h
      obtain ⟨h1, h2, h3, h4, h5, h6, h7, h8⟩ := h
      have e1 := of_decide_eq_true h1
      subst e1
      exact se_get2 (ckE_ok p h6) (ckE_ok q h7) (ckE_ok w h8) h2 (notE0 h3) (notE0 h4) h5
    · cases h
  | .disp1 p q, x, e, h => by
    simp only [ckE] at h
    split at h
    · rw [Bool.and_eq_true] at h; exact se_disp1 (ckE_ok p h.1) (ckE_ok q h.2)
    · cases h
  | .dcomp m own k v tg it ifs, x, e, h => by
    simp only [ckE] at h
    split at h
    · rename_i kx vx t i fs n sc pos
      simp only [Bool.and_eq_true, Bool.or_eq_true] at h
      obtain ⟨h0, h1, h2, h3, h4, h5, h6, h7, h8⟩ := h
      have e0 := of_decide_eq_true h0
      subst e0
      have ht : ∀ i ∈ slT tg, i ∈ (ownP x own).map (·.2) := by rw [ownP_snd]; exact subN_of h4
      have r : SD G d x (.DictComp kx vx [⟨t, i, fs, 0⟩] sc pos) (evD G ((ownP x own).map (·.2)) k v tg it ifs) := by
        rcases h5 with h5 | ⟨h5, h9⟩
        · obtain ⟨dk, j, rfl, hb⟩ := ckDit_of h5
          exact sd_compD (hotF h1) hb (ckG_ok tg h3) (ckTs_ok ifs h6) (ckE_ok k h7) (ckE_ok v h8) h2 ht
        · exact sd_comp (hotF h1) (ckIt_ok it h5) (ckG_ok tg h3) (ckTs_ok ifs h6) (ckE_ok k h7) (ckE_ok v h8) h2 ht h9
      rw [ownP_snd] at r
      exact se_dcomp r
    · cases h
  | .dcompT m own k v tg it ifs, x, e, h => by
    simp only [ckE] at h
    split at h
    · rename_i kx vx t i fs n sc pos
      simp only [Bool.and_eq_true, Bool.or_eq_true] at h
      obtain ⟨h0, h1, h2, h3, h4, h5, h6, h7, h8⟩ := h
      have e0 := of_decide_eq_true h0
      subst e0
      have ht : ∀ i ∈ slT tg, i ∈ (ownP x own).map (·.2) := by rw [ownP_snd]; exact subN_of h4
      have r : SDT G d x (.DictComp kx vx [⟨t, i, fs, 0⟩] sc pos) (evDT G ((ownP x own).map (·.2)) k v tg it ifs) := by
        rcases h5 with h5 | ⟨h5, h9⟩
        · obtain ⟨dk, j, rfl, hb⟩ := ckDit_of h5
          exact sd_compDT (hotF h1) hb (ckG_ok tg h3) (ckTs_ok ifs h6) (ckE_ok k h7) (ckE_ok v h8) h2 ht
        · exact sd_compT (hotF h1) (ckIt_ok it h5) (ckG_ok tg h3) (ckTs_ok ifs h6) (ckE_ok k h7) (ckE_ok v h8) h2 ht h9
      rw [ownP_snd] at r
      exact se_dcompT r
    · cases h
  | .rev a, x, e, h => by
    simp only [ckE] at h
    split at h
    · exact se_rev (ckE_ok a h)
    · cases h
  | .trng p, x, e, h => by
    simp only [ckE] at h
    split at h
    · simp only [Bool.and_eq_true] at h
      obtain ⟨h1, h2, h3, h4, h5, h6, h7⟩ := h
      have e1 := of_decide_eq_true h1
      subst e1
      have e3 := of_decide_eq_true h3
      subst e3
      exact se_trng (hotF h5) (fr_of h4).1 (fr_of h4).2 (fr_of h2).1 (fr_of h2).2 (ckE_ok p h6) (hotF h7)
    · cases h
  | .dpop p q w, x, e, h => by
    simp only [ckE] at h
    split at h
    · simp only [Bool.and_eq_true] at h
      obtain ⟨h1, h2, h3, h4, h5, h6, h7, h8⟩ := h
      have e1 := of_decide_eq_true h1
      subst e1
      exact se_dpop (ckE_ok p h6) (ckE_ok q h7) (ckE_ok w h8) h2 (notE0 h3) (notE0 h4) h5
    · cases h
  | .cst k, x, e, h => by
    simp only [ckE] at h
    split at h
    · split at h
      · rename_i q hq
        simp only [Bool.and_eq_true] at h
        obtain ⟨n, v⟩ := q
        have e1 := of_decide_eq_true h.1
        subst e1
        exact se_cst2 hq h.2.1 (dbg_of h.2.2)
      · cases h
    · cases h
  | .tup es, x, e, h => by
    simp only [ckE] at h
    split at h
    · rw [Bool.and_eq_true] at h; exact se_tup (ckEs_ok es h.1).1 (of_decide_eq_true h.2)
    · cases h
  | .lst l, x, e, h => by simp only [ckE] at h; exact se_lst (ckL_ok l h).1
  | .mut l, x, e, h => by simp only [ckE] at h; exact se_mut (ckL_ok l h).1
  | .bin op a b, x, e, h => by
    simp only [ckE] at h
    split at h
    · simp only [Bool.and_eq_true] at h; rw [opB_of h.1]; exact se_bin (ckE_ok a h.2.1) (ckE_ok b h.2.2)
    · cases h
  | .neg a, x, e, h => by
    simp only [ckE] at h
    split at h
    · exact se_neg (ckE_ok a h)
    · cases h
  | .not a, x, e, h => by
    simp only [ckE] at h
    split at h
    · exact se_not (ckE_ok a h)
    · cases h
  | .and p q, x, e, h => by
    simp only [ckE] at h
    split at h
    · rw [Bool.and_eq_true] at h
      obtain ⟨h1, h2⟩ := h
      split at h2
      · exact se_and (ckE_ok p h1) (se_one (ckE_ok q h2))
      · exact se_and (ckE_ok p h1) (ckE_ok q h2)
    · cases h
  | .or p q, x, e, h => by
    simp only [ckE] at h
    split at h
    · rw [Bool.and_eq_true] at h
      obtain ⟨h1, h2⟩ := h
      split at h2
      · exact se_or (ckE_ok p h1) (se_one (ckE_ok q h2))
      · exact se_or (ckE_ok p h1) (ckE_ok q h2)
    · cases h
  | .cmp o p q, x, e, h => by
    simp only [ckE] at h
    split at h
    · simp only [Bool.and_eq_true] at h; rw [cpB_of h.1]; exact se_cmp (ckE_ok p h.2.1) (ckE_ok q h.2.2.1) (hotF h.2.2.2)
    · cases h
  | .chain o1 o2 p q r, x, e, h => by
    simp only [ckE] at h
    split at h
    · simp only [Bool.and_eq_true] at h; rw [cpB_of h.1, cpB_of h.2.1]; exact se_chain (ckE_ok p h.2.2.1) (ckE_ok q h.2.2.2.1) (ckE_ok r h.2.2.2.2.1) (hotF h.2.2.2.2.2)
    · cases h
  | .ife t p q, x, e, h => by
    simp only [ckE] at h
    split at h
    · simp only [Bool.and_eq_true] at h; exact se_ife (ckT_ok t h.1).1 (ckE_ok p h.2.1) (ckE_ok q h.2.2)
    · cases h
  | .call i es, x, e, h => by
    simp only [ckE] at h
    split at h
    · split at h
      · rename_i f hf
        simp only [Bool.and_eq_true] at h
        obtain ⟨h1, h2, h3, h4, h5, h6, h7, h8⟩ := h
        have e1 := of_decide_eq_true h1
        subst e1
        exact se_call hf (hotG h2) h3 (dbg_of h4) (ckEs_ok es h5).1 (of_decide_eq_true h6) (hotF h7) h8
      · cases h
    · cases h
  | .callv i es, x, e, h => by
    simp only [ckE] at h
    split at h
    · simp only [Bool.and_eq_true] at h
      obtain ⟨h1, h2, h3, h4, h5, h6, h7, h8⟩ := h
      exact se_callv (of_decide_eq_true h1) h2 (dbg_of h3) (cdt_of h4) (hotF h5) (ckEs_ok es h6).1 (hotF h7) h8
    · cases h
  | .bi b es, x, e, h => by
    simp only [ckE] at h
    split at h
    · simp only [Bool.and_eq_true] at h; exact se_bi (biB_of h.1) (ckEs_ok es h.2.1).1 (hotF h.2.2.1) h.2.2.2
    · cases h
  | .ix a b, x, e, h => by
    simp only [ckE] at h
    split at h
    · simp only [Bool.and_eq_true] at h; exact se_ix (ckE_ok a h.1) (ckE_ok b h.2.1) (plainIx h.2.2)
    · cases h
  | .sl a lo hi, x, e, h => by
    simp only [ckE] at h
    split at h
    · simp only [Bool.and_eq_true] at h; exact se_sl (ckE_ok a h.1) (ckO_ok lo h.2.1) (ckO_ok hi h.2.2)
    · cases h
  | .isx p k, x, e, h => by
    simp only [ckE] at h
    split at h
    · simp only [Bool.and_eq_true] at h
      obtain ⟨h1, h2, h3, h4, h5⟩ := h
      have e1 := of_decide_eq_true h1
      subst e1
      split at h5
      · rename_i ci hci
        simp only [Bool.and_eq_true] at h5
        have e2 := of_decide_eq_true h5.1
        subst e2
        exact se_isx (fr_of h2).1 (fr_of h2).2 (ckE_ok p h3) (hotF h4) hci h5.2.1 (dbg_of h5.2.2)
      · cases h5
    · cases h
  | .ist p, x, e, h => by
    simp only [ckE] at h
    split at h
    · simp only [Bool.and_eq_true] at h
      obtain ⟨h1, h2, h3, h4, h5, h6⟩ := h
      have e1 := of_decide_eq_true h1
      subst e1
      have e2 := of_decide_eq_true h5
      subst e2
      exact se_ist (fr_of h2).1 (fr_of h2).2 (ckE_ok p h3) (hotF h4) (fr_of h6).1 (fr_of h6).2
    · cases h
  | .meth k o es, x, e, h => by
    simp only [ckE] at h
    split at h
    · rename_i r n ap as cp
      simp only [Bool.and_eq_true] at h
      obtain ⟨h1, h2, h3, h4, h5⟩ := h
      have ho := ckE_ok o h1
      have one : ∀ {as : List Expr}, as.length = 1 → ckEs G es x as = true → ∃ a q, as = [a] ∧ es = [q] ∧ SE G d x a (evE G q) ∧ starB a = false := fun {as} hl hc => by
        have := (ckEs_ok es hc).2
        match as, hl with
        | [a], _ =>
          obtain ⟨q, e2, h6, h7⟩ := this a rfl
          exact ⟨a, q, rfl, e2, h6, h7⟩
      cases k with
      | append =>
        simp only [Bool.and_eq_true] at h5
        have e1 := of_decide_eq_true h5.1
        subst e1
        obtain ⟨a, q, rfl, rfl, h6, h7⟩ := one (of_decide_eq_true h5.2) h4
        exact se_append ho h6 h2 h7 h3
      | update =>
        simp only [Bool.and_eq_true] at h5
        have e1 := of_decide_eq_true h5.1
        subst e1
        obtain ⟨a, q, rfl, rfl, h6, h7⟩ := one (of_decide_eq_true h5.2) h4
        exact se_update ho h6 h2 h7 h3
      | extend =>
        simp only [Bool.and_eq_true] at h5
        have e1 := of_decide_eq_true h5.1
        subst e1
        obtain ⟨a, q, rfl, rfl, h6, h7⟩ := one (of_decide_eq_true h5.2) h4
        exact se_extend ho h6 h2 h7 h3
      | popAt =>
        simp only [Bool.and_eq_true] at h5
        have e1 := of_decide_eq_true h5.1
        subst e1
        obtain ⟨a, q, rfl, rfl, h6, h7⟩ := one (of_decide_eq_true h5.2) h4
        exact se_popAt ho h6 h2 h7 h3
      | index =>
        simp only [Bool.and_eq_true] at h5
        have e1 := of_decide_eq_true h5.1
        subst e1
        obtain ⟨a, q, rfl, rfl, h6, h7⟩ := one (of_decide_eq_true h5.2) h4
        exact se_index ho h6 h2 h7 h3
      | count =>
        simp only [Bool.and_eq_true] at h5
        have e1 := of_decide_eq_true h5.1
        subst e1
        obtain ⟨a, q, rfl, rfl, h6, h7⟩ := one (of_decide_eq_true h5.2) h4
        exact se_count ho h6 h2 h7 h3
      | join =>
        simp only [Bool.and_eq_true] at h5
        have e1 := of_decide_eq_true h5.1
        subst e1
        obtain ⟨a, q, rfl, rfl, h6, h7⟩ := one (of_decide_eq_true h5.2) h4
        exact se_join ho h6 h2 h7 h3
      | split =>
        simp only [Bool.and_eq_true] at h5
        have e1 := of_decide_eq_true h5.1
        subst e1
        obtain ⟨a, q, rfl, rfl, h6, h7⟩ := one (of_decide_eq_true h5.2) h4
        exact se_split ho h6 h2 h7 h3
      | pop0 =>
        simp only [Bool.and_eq_true] at h5
        have e1 := of_decide_eq_true h5.1
        subst e1
        have hl := of_decide_eq_true h5.2
        have e2 := List.length_eq_zero_iff.mp hl
        subst e2
        have e3 : es = [] := by
          cases es with
          | nil => rfl
          | cons q es => simp only [ckEs] at h4; cases h4
        subst e3
        exact se_pop0 ho h2 h3
      | _ => cases h5
    · cases h
theorem ckT_ok : ∀ (p : PB) {x : Sx} {e : Expr}, ckT G p x e = true → TW G d x e (evT G p)
  | .and p q, x, e, h => by
    simp only [ckT] at h
    split at h
    · rw [Bool.and_eq_true] at h
      obtain ⟨h1, h2⟩ := h
      split at h2
      · exact TW.of (sw_and (ckT_ok p h1).1 (sw_one (ckT_ok q h2).1))
      · exact TW.of (sw_and (ckT_ok p h1).1 ((ckT_ok q h2).2 rfl))
    · cases h
  | .or p q, x, e, h => by
    simp only [ckT] at h
    split at h
    · rw [Bool.and_eq_true] at h
      obtain ⟨h1, h2⟩ := h
      split at h2
      · exact TW.of (sw_or (ckT_ok p h1).1 (sw_one (ckT_ok q h2).1))
      · exact TW.of (sw_or (ckT_ok p h1).1 ((ckT_ok q h2).2 rfl))
    · cases h
  | .not a, x, e, h => by
    simp only [ckT] at h
    split at h
    · exact ⟨st_not (ckT_ok a h).1, fun z => by cases z⟩
    · cases h
  | .cmp o p q, x, e, h => by
    simp only [ckT] at h
    split at h
    · simp only [Bool.and_eq_true] at h; rw [cpB_of h.1]; exact ⟨st_cmp (ckE_ok p h.2.1) (ckE_ok q h.2.2.1) (hotF h.2.2.2), fun z => by cases z⟩
    · cases h
  | .chain o1 o2 p q r, x, e, h => by
    simp only [ckT] at h
    split at h
    · simp only [Bool.and_eq_true] at h; rw [cpB_of h.1, cpB_of h.2.1]; exact ⟨st_chain (ckE_ok p h.2.2.1) (ckE_ok q h.2.2.2.1) (ckE_ok r h.2.2.2.2.1) (hotF h.2.2.2.2.2), fun z => by cases z⟩
    · cases h
  | .val p, x, e, h => by
    simp only [ckT, Bool.and_eq_true] at h
    refine ⟨st_val (ckE_ok p h.1) h.2, fun z => ?_⟩
    have h2 := h.2
    cases e <;> first | (cases z; done) | (cases h2; done)
theorem ckO_ok : ∀ (p : Option PX) {x : Sx} {e : Option Expr}, ckO G p x e = true → SO G d x e (evO G p)
  | none, x, e, h => by
    simp only [ckO] at h
    split at h
    · exact so_none
    · cases h
  | some p, x, e, h => by
    simp only [ckO] at h
    split at h
    · cases h
    · exact so_some (ckE_ok p h)
theorem ckEs_ok : ∀ (p : List PX) {x : Sx} {e : List Expr}, ckEs G p x e = true → SA G d x e (evEs G p) ∧ ∀ a, e = [a] → ∃ q, p = [q] ∧ SE G d x a (evE G q) ∧ starB a = false
  | [], x, e, h => by
    simp only [ckEs] at h
    split at h
    · exact ⟨sa_nil, fun a z => by cases z⟩
    · cases h
  | p :: ps, x, e, h => by
    simp only [ckEs] at h
    split at h
    · cases h
    · simp only [Bool.and_eq_true] at h
      obtain ⟨h1, h2, h3⟩ := h
      have a1 := ckE_ok p h1
      have a2 := ckEs_ok ps h2
      refine ⟨sa_cons a1 a2.1 (hotF h3), fun a z => ?_⟩
      cases z
      refine ⟨p, ?_, a1, hotF h3⟩
      cases ps with
      | nil => rfl
      | cons q ps => simp only [ckEs] at h2; cases h2
theorem ckTs_ok : ∀ (p : List PB) {x : Sx} {e : List Expr}, ckTs G p x e = true → STs G d x e (evTs G p)
  | [], x, e, h => by
    simp only [ckTs] at h
    split at h
    · exact sts_nil
    · cases h
  | p :: ps, x, e, h => by
    simp only [ckTs] at h
    split at h
    · rw [Bool.and_eq_true] at h
      obtain ⟨h1, h2⟩ := h
      cases ps with
      | nil => exact sts_one (ckT_ok p h1).1
      | cons q ps => cases h2
    · cases h
theorem ckL_ok : ∀ (p : PL) {x : Sx} {e : Expr}, ckL G p x e = true → SLw G d x e (evL G p)
  | .disp es, x, e, h => by
    simp only [ckL] at h
    split at h
    · rw [Bool.and_eq_true] at h; exact .of (sl_disp (ckEs_ok es h.1).1 (of_decide_eq_true h.2)) rfl
    · cases h
  | .bin op a b, x, e, h => by
    simp only [ckL] at h
    split at h
    · simp only [Bool.and_eq_true] at h; rw [opB_of h.1]; exact .of (sl_bin (ckE_ok a h.2.1) (ckE_ok b h.2.2)) rfl
    · cases h
  | .bi b es, x, e, h => by
    simp only [ckL] at h
    split at h
    · simp only [Bool.and_eq_true] at h; exact .of (sl_bi (blB_of h.1) (ckEs_ok es h.2.1).1 (hotF h.2.2.1) h.2.2.2) rfl
    · cases h
  | .sl a lo hi, x, e, h => by
    simp only [ckL] at h
    split at h
    · simp only [Bool.and_eq_true] at h; exact .of (sl_sl (ckE_ok a h.1) (ckO_ok lo h.2.1) (ckO_ok hi h.2.2)) rfl
    · cases h
  | .rev a, x, e, h => by
    simp only [ckL] at h
    split at h
    · exact .of (sl_rev (ckE_ok a h)) rfl
    · cases h
  | .rng1 p, x, e, h => by
    simp only [ckL] at h
    split at h
    · simp only [Bool.and_eq_true] at h
      obtain ⟨h1, h2, h3, h4, h5, h6, h7⟩ := h
      have e1 := of_decide_eq_true h1
      subst e1
      have e3 := of_decide_eq_true h3
      subst e3
      exact .of (sl_rng1 (hotF h5) (fr_of h4).1 (fr_of h4).2 (fr_of h2).1 (fr_of h2).2 (ckE_ok p h6) (hotF h7)) rfl
    · cases h
  | .rng2 p q, x, e, h => by
    simp only [ckL] at h
    split at h
    · simp only [Bool.and_eq_true] at h
      obtain ⟨h1, h2, h3, h4, h5, h6, h7, h8, h9⟩ := h
      have e1 := of_decide_eq_true h1
      subst e1
      have e3 := of_decide_eq_true h3
      subst e3
      exact .of (sl_rng2 (hotF h5) (fr_of h4).1 (fr_of h4).2 (fr_of h2).1 (fr_of h2).2 (ckE_ok p h6) (ckE_ok q h7) (hotF h8) (hotF h9)) rfl
    · cases h
  | .comp own elt tg it ifs, x, e, h => by
    simp only [ckL] at h
    split at h
    · rename_i el t i fs k sc pos
      simp only [Bool.and_eq_true, Bool.or_eq_true] at h
      obtain ⟨h0, h1, h2, h3, h4, h5, h6, h7⟩ := h
      have e0 := of_decide_eq_true h0
      subst e0
      have ht : ∀ i ∈ slT tg, i ∈ (ownP x own).map (·.2) := by rw [ownP_snd]; exact subN_of h4
      have r : SL G d x (.ListComp el [⟨t, i, fs, 0⟩] sc pos) (evL G (.comp ((ownP x own).map (·.2)) elt tg it ifs)) := by
        rcases h5 with h5 | ⟨h5, h9⟩
        · obtain ⟨dk, j, rfl, hb⟩ := ckDit_of h5
          exact sl_compD (hotF h1) hb (ckG_ok tg h3) (ckTs_ok ifs h6) (ckE_ok elt h7) h2 ht
        · exact sl_comp (own := ownP x own) (pos := pos) (hotF h1) (ckIt_ok it h5) (ckG_ok tg h3) (ckTs_ok ifs h6) (ckE_ok elt h7) h2 ht h9
      have r2 : ∀ (i0 : Nat) (y : Str) (py spos : Pos), x.N[i0]? = some y → locS x y = true → x.sc.kind = .function → swB (.ListComp el [⟨t, i, fs, 0⟩] sc pos) y py = true → SLs G d x (.Assign [.Name y py] (.ListComp el [⟨t, i, fs, 0⟩] sc pos) spos) i0 (evL G (.comp ((ownP x own).map (·.2)) elt tg it ifs)) := fun i0 y py spos a1 a2 a3 a4 => by
        unfold swB at a4
        rw [Bool.and_eq_true] at a4
        rcases h5 with h5 | ⟨h5, h9⟩
        · obtain ⟨dk, j, rfl, hb⟩ := ckDit_of h5
          exact sls_compD a1 a2 a3 a4.1 a4.2 (hotF h1) hb (ckG_ok tg h3) (ckTs_ok ifs h6) (ckE_ok elt h7) h2 ht
        · exact sls_comp (own := ownP x own) a1 a2 a3 a4.1 a4.2 (hotF h1) (ckIt_ok it h5) (ckG_ok tg h3) (ckTs_ok ifs h6) (ckE_ok elt h7) h2 ht h9
      rw [ownP_snd] at r r2
      exact ⟨r, r2⟩
    · cases h
  | .comp2 own elt tg it ifs own2 tg2 it2 ifs2, x, e, h => by
    simp only [ckL] at h
    split at h
    · rename_i el t i fs k t2 i2 fs2 k2 sc pos
      simp only [Bool.and_eq_true] at h
      obtain ⟨h0, h00, h1, h2, h3, h4, h5, h6, h7, h8, h9, h10, h11, h12, h13, h14⟩ := h
      have e0 := of_decide_eq_true h0
      subst e0
      have e00 := of_decide_eq_true h00
      subst e00
      have ht : ∀ i ∈ slT tg, i ∈ (ownP x own).map (·.2) := by rw [ownP_snd]; exact subN_of h4
      have hv : ∀ i ∈ own2, i ∈ (ownP x own).map (·.2) := by rw [ownP_snd]; exact subN_of h11
      have r := sl_comp2 (own := ownP x own) (pos := pos) (hotF h1) (ckIt_ok it h5) (ckG_ok tg h3) (ckTs_ok ifs h6) (ckIt_ok it2 h12) (ckG_ok tg2 h9) (ckTs_ok ifs2 h13) (ckE_ok elt h7) h2 ht (subN_of h10) hv h8 h14
      have r2 : ∀ (i0 : Nat) (y : Str) (py spos : Pos), x.N[i0]? = some y → locS x y = true → x.sc.kind = .function → swB (.ListComp el [⟨t, i, fs, 0⟩, ⟨t2, i2, fs2, 0⟩] sc pos) y py = true → SLs G d x (.Assign [.Name y py] (.ListComp el [⟨t, i, fs, 0⟩, ⟨t2, i2, fs2, 0⟩] sc pos) spos) i0 (evL G (.comp2 ((ownP x own).map (·.2)) elt tg it ifs own2 tg2 it2 ifs2)) := fun i0 y py spos a1 a2 a3 a4 => by
        unfold swB at a4
        rw [Bool.and_eq_true] at a4
        exact sls_comp2 (own := ownP x own) a1 a2 a3 a4.1 a4.2 (hotF h1) (ckIt_ok it h5) (ckG_ok tg h3) (ckTs_ok ifs h6) (ckIt_ok it2 h12) (ckG_ok tg2 h9) (ckTs_ok ifs2 h13) (ckE_ok elt h7) h2 ht (subN_of h10) hv h8 h14
      rw [ownP_snd] at r r2
      exact ⟨r, r2⟩
    · cases h
theorem ckIt_ok : ∀ (p : PIt) {x : Sx} {t e : Expr}, ckIt G p x t e = true → SI G d x t e (evIt G p)
  | .val p, x, t, e, h => by simp only [ckIt] at h; exact si_val (ckE_ok p h)
  | .range1 p, x, t, e, h => by
    simp only [ckIt] at h
    split at h
    · simp only [Bool.and_eq_true] at h
      have e1 := of_decide_eq_true h.1
      subst e1
      exact si_range1 (fr_of h.2.1).1 (fr_of h.2.1).2 (ckE_ok p h.2.2.1) (hotF h.2.2.2)
    · cases h
  | .range2 p q, x, t, e, h => by
    simp only [ckIt] at h
    split at h
    · simp only [Bool.and_eq_true] at h
      have e1 := of_decide_eq_true h.1
      subst e1
      exact si_range2 (fr_of h.2.1).1 (fr_of h.2.1).2 (ckE_ok p h.2.2.1) (ckE_ok q h.2.2.2.1) (hotF h.2.2.2.2.1) (hotF h.2.2.2.2.2)
    · cases h
  | .enum p, x, t, e, h => by
    simp only [ckIt] at h
    split at h
    · simp only [Bool.and_eq_true] at h
      have e1 := of_decide_eq_true h.1
      subst e1
      obtain ⟨l, k, pp, rfl⟩ := isTup_of h.2.2.2.2
      exact si_enum (fr_of h.2.1).1 (fr_of h.2.1).2 (ckE_ok p h.2.2.1) (hotF h.2.2.2.1)
    · cases h
  | .dit _ _, x, t, e, h => by simp only [ckIt] at h; cases h
  | .zip ps, x, t, e, h => by
    simp only [ckIt] at h
    split at h
    · simp only [Bool.and_eq_true] at h
      have e1 := of_decide_eq_true h.1
      subst e1
      obtain ⟨l, k, pp, rfl⟩ := isTup_of h.2.2.2.2.2
      exact si_zip (fr_of h.2.1).1 (fr_of h.2.1).2 (ckEs_ok ps h.2.2.1).1 (hotF h.2.2.2.1) (hotF h.2.2.2.2.1)
    · cases h
end
end
end Rv
end PartRvY
section PartRvZ
set_option Elab.async false
set_option linter.all false
set_option maxRecDepth 100000
set_option autoImplicit false
set_option maxHeartbeats 2000000
/-! Rv, part Z: the tests of statements; a program's facts. -/
namespace Rv
open PySem PySem.Spec PyProof.Rows L2
mutual
def ckH (G : Gm) : PH → Sx → Stmt → Bool
  | .ret e, x, st => match st with
    | .Return (some v) _ => ckE G e x v
    | _ => false
  | .ife c a b, x, st => match st with
    | .If t as bs _ => ckT G c x t && (ckHs G a x as && ckHs G b x bs)
    | _ => false
  | .pass, _, st => match st with
    | .Pass _ => true
    | _ => false
  | .brk, _, st => match st with
    | .Break _ => true
    | _ => false
  | .cont, _, st => match st with
    | .Continue _ => true
    | _ => false
def ckHs (G : Gm) : List PH → Sx → List Stmt → Bool
  | [], _, st => match st with
    | [] => true
    | _ :: _ => false
  | p :: ps, x, st => match st with
    | [] => false
    | s :: ss => ckH G p x s && ckHs G ps x ss
end
/-- a comprehension whose store is not swapped -/
def swN (x : Sx) (e : Expr) (y : Str) (py : Pos) : Bool := match e with
  | .ListComp _ _ _ p1 => !(locS x y) || !(py.line == p1.line)
  | _ => noSwap e
/-- a tuple of constants is one constant -/
theorem swapFold {env : Env} {ts : List Expr} {kt k2 : Nat} {es : List Expr} {pt p2 : Pos} (h : es.all (foldedForSure 8) = true) : swappedStores [.Tuple ts kt pt] (.Tuple es k2 p2) env = pure none := by
  unfold swappedStores
  show (if _ then _ else if _ then _ else if _ then _ else if _ then _ else _) = _
  rw [if_pos (c := es.all (foldedForSure 8) = true) h]
  split
  · rfl
  · split
    · rfl
    · split <;> rfl
def anyCell (x : Sx) (l : List Expr) : Bool := l.any fun t => match t with
  | .Name y _ => !(locS x y)
  | _ => true
def isFn (k : ScopeKind) : Bool := match k with
  | .function => true
  | _ => false
theorem isFn_of {k : ScopeKind} (h : isFn k = true) : k = .function := by cases k <;> first | rfl | (cases h)
/-- a dict comprehension whose store is not swapped; is -/
def swND (x : Sx) (e : Expr) (y : Str) : Bool := match e with
  | .DictComp _ _ _ _ _ => !(locS x y)
  | _ => false
def swBD (e : Expr) (y : Str) (py : Pos) : Bool := match e with
  | .DictComp _ _ _ sc p1 => (py.line == p1.line) && bareB sc y
  | _ => false
mutual
def ckS (G : Gm) : PS → Sx → Stmt → Bool
  | .asg t e, x, st => match st with
    | .Assign [tg] v _ => (match t with
      | .nm i => (match tg with
        | .Name y py => eqN x i y && (locB x y && (match e with
          | .lst l => ckL G l x v && (swN x v y py || (swB v y py && (locS x y && isFn x.sc.kind)))
          | .mut l => ckL G l x v && (swN x v y py || (swB v y py && (locS x y && isFn x.sc.kind)))
          | .dcomp m own k w tg it ifs => ckE G (.dcomp m own k w tg it ifs) x v && (swND x v y || (swBD v y py && (locS x y && isFn x.sc.kind)))
          | .dcompT m own k w tg it ifs => ckE G (.dcompT m own k w tg it ifs) x v && (swND x v y || (swBD v y py && (locS x y && isFn x.sc.kind)))
          | e => noSwap v && ckE G e x v))
        | _ => false)
      | .tup ts => (match tg with
        | .Tuple l k p => ckG (.tup ts) x (.Tuple l k p) && (ckE G e x v && (match v with
          | .Tuple es _ _ => anyCell x l || es.all (foldedForSure 8)
          | _ => true))
        | _ => false))
    | _ => false
  | .par is es, x, st => match st with
    | .Assign [.Tuple [.Name y py, .Name z pz] _ _] (.Tuple [a, b] _ _) _ => (match is with
      | [i, j] => !x.hot && (isFn x.sc.kind && (eqN x i y && (eqN x j z && (locS x y && (locS x z && ((pz.line == py.line) && (!(y == z) && (!(i == j) && (!([a, b].all (foldedForSure 8)) && (!([a, b].all (constantsAlone 8)) && (!starB a && (!starB b && ckEs G es x [a, b]))))))))))))
      | _ => false)
    | _ => false
  | .setIx o i e, x, st => match st with
    | .Assign [.Subscript p q _] v _ => ckE G o x p && (ckE G i x q && (ckE G e x v && noSlice q))
    | _ => false
  | .aug i e, x, st => match st with
    | .AugAssign (.Name y _) .Add v _ => eqN x i y && (locB x y && ckE G e x v)
    | _ => false
  | .augIx op o i e, x, st => match st with
    | .AugAssign (.Subscript p q _) c v _ => (match op with
      | .add => true
      | .sub => true
      | _ => false) && (opB c op && (ckE G o x p && (ckE G i x q && (ckE G e x v && noSlice q))))
    | _ => false
  | .swapIx o1 i1 o2 i2 es, x, st => match st with
    | .Assign [.Tuple [.Subscript p1 q1 _, .Subscript p2 q2 _] _ _] (.Tuple [a, b] _ _) _ => !x.hot && (ckE G o1 x p1 && (ckE G i1 x q1 && (ckE G o2 x p2 && (ckE G i2 x q2 && (ckEs G es x [a, b] && (noSlice q1 && noSlice q2))))))
    | _ => false
  | .loopD t k i body, x, st => match st with
    | .For tg it bs [] _ => !x.hot && (ditB x k i tg it && (ckG t x tg && ckSs G body x bs))
    | _ => false
  | .never, _, _ => true
  | .expr e, x, st => match st with
    | .Expr v _ => ckE G e x v && noSwap v
    | _ => false
  | .ret e, x, st => match st with
    | .Return (some v) _ => ckE G e x v
    | _ => false
  | .retT es, x, st => match st with
    | .Return (some (.Tuple l _ _)) _ => ckEs G es x l && decide (es.length ≤ lim)
    | _ => false
  | .retN, _, st => match st with
    | .Return none _ => true
    | _ => false
  | .ife c a b, x, st => match st with
    | .If t as bs _ => ckT G c x t && (ckSs G a x as && ckSs G b x bs)
    | _ => false
  | .loop t it body, x, st => match st with
    | .For tg i bs [] _ => !x.hot && (ckIt G it x tg i && (ckG t x tg && (ckSs G body x bs && noSet i)))
    | _ => false
  | .whl c body, x, st => match st with
    | .While t bs [] _ => ckT G c x t && ckSs G body x bs
    | _ => false
  | .raise c, x, st => match st with
    | .Raise (some (.Call (.Name y _) [] [] _)) none _ => (match G.cls[c]? with
      | some ci => decide (ci.name = y) && (!x.hot && (ci.nm.isEmpty && (glB x.sc y && dbg y)))
      | none => false)
    | _ => false
  | .tryE body c n suite, x, st => match st with
    | .Try bs [.ExceptHandler (some (.Name y _)) nm (b0 :: ss) _] [] [] _ => !x.hot && (x.top && (ckSs G body x bs && (ckHs G suite (hotX x) (b0 :: ss) && (match G.cls[c]? with
      | some ci => decide (ci.name = y) && (glB x.sc y && (dbg y && (match n with
        | none => (match nm with
          | none => true
          | some _ => false)
        | some i => (match nm with
          | none => false
          | some z => eqN x i z && locS x z))))
      | none => false))))
    | _ => false
  | .pass, _, st => match st with
    | .Pass _ => true
    | _ => false
  | .brk, _, st => match st with
    | .Break _ => true
    | _ => false
  | .cont, _, st => match st with
    | .Continue _ => true
    | _ => false
def ckSs (G : Gm) : List PS → Sx → List Stmt → Bool
  | [], _, st => match st with
    | [] => true
    | _ :: _ => false
  | p :: ps, x, st => match st with
    | [] => false
    | s :: ss => ckS G p x s && ckSs G ps x ss
end
section
variable {G : Gm} {d : Nat}
mutual
theorem ckH_ok : ∀ (p : PH) {x : Sx} {st : Stmt}, ckH G p x st = true → SH G d x st (evH G p)
  | .ret e, x, st, h => by
    simp only [ckH] at h
    split at h
    · exact sh_ret (ckE_ok e h)
    · cases h
  | .ife c a b, x, st, h => by
    simp only [ckH] at h
    split at h
    · simp only [Bool.and_eq_true] at h; exact sh_if (ckT_ok c h.1).1 (ckHs_ok a h.2.1) (ckHs_ok b h.2.2)
    · cases h
  | .pass, x, st, h => by
    simp only [ckH] at h
    split at h
    · exact sh_pass
    · cases h
  | .brk, x, st, h => by
    simp only [ckH] at h
    split at h
    · exact sh_brk
    · cases h
  | .cont, x, st, h => by
    simp only [ckH] at h
    split at h
    · exact sh_cont
    · cases h
theorem ckHs_ok : ∀ (p : List PH) {x : Sx} {st : List Stmt}, ckHs G p x st = true → SHs G d x st (evHs G p)
  | [], x, st, h => by
    simp only [ckHs] at h
    split at h
    · exact shs_nil
    · cases h
  | p :: ps, x, st, h => by
    simp only [ckHs] at h
    split at h
    · cases h
    · rw [Bool.and_eq_true] at h; exact shs_cons (ckH_ok p h.1) (ckHs_ok ps h.2)
end
theorem swN_of {x : Sx} {e : Expr} {y : Str} {py : Pos} {l : Nat} (h : swN x e y py = true) (X : Cx) (hs : X.env.scope = x.sc) : swapsWith e (some (.Name y py)) l X.env = pure false := by
  cases e with
  | ListComp elt gs sc p1 =>
    unfold swN at h
    rw [Bool.or_eq_true] at h
    rcases h with h | h
    · refine swapCell fun z => ?_
      have : locS x y = true := by unfold locS; rw [← hs, z]
      rw [this] at h; cases h
    · exact swapLine (by simpa using h)
  | _ => exact swap_none h
theorem anyCell_of {x : Sx} {l : List Expr} {X : Cx} {kt k2 : Nat} {es : List Expr} {pt p2 : Pos} (h : anyCell x l = true) (hs : X.env.scope = x.sc) : swappedStores [.Tuple l kt pt] (.Tuple es k2 p2) X.env = pure none := by
  unfold anyCell at h
  obtain ⟨t, ht, h⟩ := List.any_eq_true.mp h
  refine swapNo ht fun y p e z => ?_
  subst e
  have : locS x y = true := by unfold locS; rw [← hs, z]
  simp only [this] at h; cases h
theorem ckDC_ok {m : Bool} {own : List Nat} {k v : PX} {tg : PT} {it : PIt} {ifs : List PB} {x : Sx} {e : Expr} {i0 : Nat} {y : Str} {py spos : Pos} (hN : x.N[i0]? = some y) (hl : locB x y = true) (h : ckE G (.dcomp m own k v tg it ifs) x e = true) (hs : swND x e y = true ∨ (swBD e y py = true ∧ locS x y = true ∧ isFn x.sc.kind = true)) :
    SDs G d x (.Assign [.Name y py] e spos) i0 (evD G own k v tg it ifs) := by
  simp only [ckE] at h
  split at h
  · rename_i kx vx t i fs n sc pos
    simp only [Bool.and_eq_true, Bool.or_eq_true] at h
    obtain ⟨h0, h1, h2, h3, h4, h5, h6, h7, h8⟩ := h
    have e0 := of_decide_eq_true h0
    subst e0
    have ht : ∀ i ∈ slT tg, i ∈ (ownP x own).map (·.2) := by rw [ownP_snd]; exact subN_of h4
    rcases hs with hs | ⟨hs, hs2, hs3⟩
    · have r : SD G d x (.DictComp kx vx [⟨t, i, fs, 0⟩] sc pos) (evD G ((ownP x own).map (·.2)) k v tg it ifs) := by
        rcases h5 with h5 | ⟨h5, h9⟩
        · obtain ⟨dk, j, rfl, hb⟩ := ckDit_of h5
          exact sd_compD (hotF h1) hb (ckG_ok tg h3) (ckTs_ok ifs h6) (ckE_ok k h7) (ckE_ok v h8) h2 ht
        · exact sd_comp (hotF h1) (ckIt_ok it h5) (ckG_ok tg h3) (ckTs_ok ifs h6) (ckE_ok k h7) (ckE_ok v h8) h2 ht h9
      rw [ownP_snd] at r
      refine sds_of hN hl r fun X hX => swapCellD fun z => ?_
      unfold swND at hs
      have : locS x y = true := by unfold locS; rw [← hX, z]
      rw [this] at hs; cases hs
    · unfold swBD at hs
      rw [Bool.and_eq_true] at hs
      have r : SDs G d x (.Assign [.Name y py] (.DictComp kx vx [⟨t, i, fs, 0⟩] sc pos) spos) i0 (evD G ((ownP x own).map (·.2)) k v tg it ifs) := by
        rcases h5 with h5 | ⟨h5, h9⟩
        · obtain ⟨dk, j, rfl, hb⟩ := ckDit_of h5
          exact sds_compD hN hs2 (isFn_of hs3) hs.1 hs.2 (hotF h1) hb (ckG_ok tg h3) (ckTs_ok ifs h6) (ckE_ok k h7) (ckE_ok v h8) h2 ht
        · exact sds_comp hN hs2 (isFn_of hs3) hs.1 hs.2 (hotF h1) (ckIt_ok it h5) (ckG_ok tg h3) (ckTs_ok ifs h6) (ckE_ok k h7) (ckE_ok v h8) h2 ht h9
      rw [ownP_snd] at r
      exact r
  · cases h
theorem ckDCT_ok {m : Bool} {own : List Nat} {k v : PX} {tg : PT} {it : PIt} {ifs : List PB} {x : Sx} {e : Expr} {i0 : Nat} {y : Str} {py spos : Pos} (hN : x.N[i0]? = some y) (hl : locB x y = true) (h : ckE G (.dcompT m own k v tg it ifs) x e = true) (hs : swND x e y = true ∨ (swBD e y py = true ∧ locS x y = true ∧ isFn x.sc.kind = true)) :
    SDsT G d x (.Assign [.Name y py] e spos) i0 (evDT G own k v tg it ifs) := by
  simp only [ckE] at h
  split at h
  · rename_i kx vx t i fs n sc pos
    simp only [Bool.and_eq_true, Bool.or_eq_true] at h
    obtain ⟨h0, h1, h2, h3, h4, h5, h6, h7, h8⟩ := h
    have e0 := of_decide_eq_true h0
    subst e0
    have ht : ∀ i ∈ slT tg, i ∈ (ownP x own).map (·.2) := by rw [ownP_snd]; exact subN_of h4
    rcases hs with hs | ⟨hs, hs2, hs3⟩
    · have r : SDT G d x (.DictComp kx vx [⟨t, i, fs, 0⟩] sc pos) (evDT G ((ownP x own).map (·.2)) k v tg it ifs) := by
        rcases h5 with h5 | ⟨h5, h9⟩
        · obtain ⟨dk, j, rfl, hb⟩ := ckDit_of h5
          exact sd_compDT (hotF h1) hb (ckG_ok tg h3) (ckTs_ok ifs h6) (ckE_ok k h7) (ckE_ok v h8) h2 ht
        · exact sd_compT (hotF h1) (ckIt_ok it h5) (ckG_ok tg h3) (ckTs_ok ifs h6) (ckE_ok k h7) (ckE_ok v h8) h2 ht h9
      rw [ownP_snd] at r
      refine sds_ofT hN hl r fun X hX => swapCellD fun z => ?_
      unfold swND at hs
      have : locS x y = true := by unfold locS; rw [← hX, z]
      rw [this] at hs; cases hs
    · unfold swBD at hs
      rw [Bool.and_eq_true] at hs
      have r : SDsT G d x (.Assign [.Name y py] (.DictComp kx vx [⟨t, i, fs, 0⟩] sc pos) spos) i0 (evDT G ((ownP x own).map (·.2)) k v tg it ifs) := by
        rcases h5 with h5 | ⟨h5, h9⟩
        · obtain ⟨dk, j, rfl, hb⟩ := ckDit_of h5
          exact sds_compDT hN hs2 (isFn_of hs3) hs.1 hs.2 (hotF h1) hb (ckG_ok tg h3) (ckTs_ok ifs h6) (ckE_ok k h7) (ckE_ok v h8) h2 ht
        · exact sds_compT hN hs2 (isFn_of hs3) hs.1 hs.2 (hotF h1) (ckIt_ok it h5) (ckG_ok tg h3) (ckTs_ok ifs h6) (ckE_ok k h7) (ckE_ok v h8) h2 ht h9
      rw [ownP_snd] at r
      exact r
  · cases h
theorem notE {b : Bool} (h : (!b) = true) : b = false := by simpa using h
mutual
theorem ckS_ok : ∀ (p : PS) {x : Sx} {st : Stmt}, ckS G p x st = true → SS G d x st (evS G p)
  | .asg t e, x, st, h => by
    simp only [ckS] at h
    split at h
    · rename_i tg v pos
      cases t with
      | nm i =>
        simp only at h
        split at h
        · rename_i y py
          simp only [Bool.and_eq_true] at h
          obtain ⟨h1, h2, h3⟩ := h
          have hN := of_decide_eq_true h1
          have lst : ∀ {l : PL}, (ckL G l x v && (swN x v y py || (swB v y py && (locS x y && isFn x.sc.kind)))) = true → SLs G d x (.Assign [.Name y py] v pos) i (evL G l) := fun {l} h => by
            simp only [Bool.and_eq_true, Bool.or_eq_true] at h
            obtain ⟨a1, a2⟩ := h
            have hl := ckL_ok (d := d) l a1
            rcases a2 with a2 | ⟨a2, a3, a4⟩
            · exact sls_of hN h2 hl.1 fun X hs => swN_of a2 X hs
            · exact hl.2 i y py pos hN a3 (isFn_of a4) a2
          split at h3
          · exact ss_lst (lst h3)
          · exact ss_mut (lst h3)
          · rw [Bool.and_eq_true, Bool.or_eq_true] at h3
            exact ss_dcomp (ckDC_ok hN h2 h3.1 (h3.2.imp id fun z => by simpa only [Bool.and_eq_true] using z))
          · rw [Bool.and_eq_true, Bool.or_eq_true] at h3
            exact ss_dcompT (ckDCT_ok hN h2 h3.1 (h3.2.imp id fun z => by simpa only [Bool.and_eq_true] using z))
          · rw [Bool.and_eq_true] at h3
            exact ss_asg hN h2 (ckE_ok _ h3.2) h3.1
        · cases h
      | tup ts =>
        simp only at h
        split at h
        · rename_i l k p
          simp only [Bool.and_eq_true] at h
          obtain ⟨h1, h2, h3⟩ := h
          refine ss_asgT (ckG_ok _ h1) (ckE_ok e h2) (fun env l => by cases v <;> rfl) (fun X hs => ?_) rfl
          split at h3
          · rcases (Bool.or_eq_true _ _).mp h3 with h4 | h4
            · exact anyCell_of h4 hs
            · exact swapFold h4
          · rename_i hne
            exact swapOther fun es k p e => hne es k p e
        · cases h
    · cases h
  | .par is es, x, st, h => by
    simp only [ckS] at h
    split at h
    · split at h
      · simp only [Bool.and_eq_true] at h
        obtain ⟨h1, h2, h3, h4, h5, h6, h7, h8, h9, h10, h11, h12, h13, h14⟩ := h
        exact ss_par2 (notE h1) (isFn_of h2) (of_decide_eq_true h3) (of_decide_eq_true h4) h5 h6 h7 (notE h8) (notE h9) (notE h10) (notE h11) (notE h12) (notE h13) (ckEs_ok es h14).1
      · cases h
    · cases h
  | .setIx o i e, x, st, h => by
    simp only [ckS] at h
    split at h
    · simp only [Bool.and_eq_true] at h; exact ss_setIx (ckE_ok o h.1) (ckE_ok i h.2.1) (ckE_ok e h.2.2.1) h.2.2.2
    · cases h
  | .aug i e, x, st, h => by
    simp only [ckS] at h
    split at h
    · simp only [Bool.and_eq_true] at h; exact ss_aug (of_decide_eq_true h.1) h.2.1 (ckE_ok e h.2.2)
    · cases h
  | .augIx op o i e, x, st, h => by
    simp only [ckS] at h
    split at h
    · simp only [Bool.and_eq_true] at h
      obtain ⟨h0, h1, h2, h3, h4, h5⟩ := h
      rw [opB_of h1]
      exact ss_augIx (ckE_ok o h2) (ckE_ok i h3) (ckE_ok e h4) h5 (by cases op <;> first | exact .inl rfl | exact .inr rfl | (cases h0))
    · cases h
  | .swapIx o1 i1 o2 i2 es, x, st, h => by
    simp only [ckS] at h
    split at h
    · simp only [Bool.and_eq_true] at h
      obtain ⟨h0, h1, h2, h3, h4, h5, h6, h7⟩ := h
      exact ss_swapIx (notE h0) (ckE_ok o1 h1) (ckE_ok i1 h2) (ckE_ok o2 h3) (ckE_ok i2 h4) (ckEs_ok es h5).1 h6 h7
    · cases h
  | .loopD t k i body, x, st, h => by
    simp only [ckS] at h
    split at h
    · simp only [Bool.and_eq_true] at h; exact ss_forD (notE h.1) h.2.1 (ckG_ok t h.2.2.1) (ckSs_ok body h.2.2.2)
    · cases h
  | .never, x, st, h => fun Z X W D m H S ρ σ n q => by simp only [evS] at q; exact q.elim
  | .expr e, x, st, h => by
    simp only [ckS] at h
    split at h
    · rw [Bool.and_eq_true] at h; exact ss_expr (ckE_ok e h.1) h.2
    · cases h
  | .ret e, x, st, h => by
    simp only [ckS] at h
    split at h
    · exact ss_ret (ckE_ok e h)
    · cases h
  | .retT es, x, st, h => by
    simp only [ckS] at h
    split at h
    · rw [Bool.and_eq_true] at h; exact ss_retT (ckEs_ok es h.1).1 (of_decide_eq_true h.2)
    · cases h
  | .retN, x, st, h => by
    simp only [ckS] at h
    split at h
    · exact ss_retN
    · cases h
  | .ife c a b, x, st, h => by
    simp only [ckS] at h
    split at h
    · simp only [Bool.and_eq_true] at h; exact ss_if (ckT_ok c h.1).1 (ckSs_ok a h.2.1) (ckSs_ok b h.2.2)
    · cases h
  | .loop t it body, x, st, h => by
    simp only [ckS] at h
    split at h
    · simp only [Bool.and_eq_true] at h; exact ss_for (notE h.1) (ckIt_ok it h.2.1) (ckG_ok t h.2.2.1) (ckSs_ok body h.2.2.2.1) h.2.2.2.2
    · cases h
  | .whl c body, x, st, h => by
    simp only [ckS] at h
    split at h
    · rw [Bool.and_eq_true] at h; exact ss_while (ckT_ok c h.1).1 (ckSs_ok body h.2)
    · cases h
  | .raise c, x, st, h => by
    simp only [ckS] at h
    split at h
    · split at h
      · rename_i ci hci
        simp only [Bool.and_eq_true] at h
        obtain ⟨h1, h2, h3, h4, h5⟩ := h
        have e1 := of_decide_eq_true h1
        subst e1
        exact ss_raise (notE h2) hci (List.isEmpty_iff.mp h3) h4 (dbg_of h5)
      · cases h
    · cases h
  | .tryE body c n suite, x, st, h => by
    simp only [ckS] at h
    split at h
    · simp only [Bool.and_eq_true] at h
      obtain ⟨h1, h2, h3, h4, h5⟩ := h
      split at h5
      · rename_i ci hci
        simp only [Bool.and_eq_true] at h5
        obtain ⟨h6, h7, h8, h9⟩ := h5
        have e1 := of_decide_eq_true h6
        subst e1
        cases n with
        | none =>
          simp only at h9
          split at h9
          · exact ss_try (notE h1) h2 (ckSs_ok body h3) (ckHs_ok suite h4) hci h7 (dbg_of h8)
          · cases h9
        | some i =>
          simp only at h9
          split at h9
          · cases h9
          · rw [Bool.and_eq_true] at h9
            exact ss_tryAs (notE h1) h2 (ckSs_ok body h3) (ckHs_ok suite h4) hci h7 (dbg_of h8) (of_decide_eq_true h9.1) h9.2
      · cases h5
    · cases h
  | .pass, x, st, h => by
    simp only [ckS] at h
    split at h
    · exact ss_pass
    · cases h
  | .brk, x, st, h => by
    simp only [ckS] at h
    split at h
    · exact ss_brk
    · cases h
  | .cont, x, st, h => by
    simp only [ckS] at h
    split at h
    · exact ss_cont
    · cases h
theorem ckSs_ok : ∀ (p : List PS) {x : Sx} {st : List Stmt}, ckSs G p x st = true → SSs G d x st (evSs G p)
  | [], x, st, h => by
    simp only [ckSs] at h
    split at h
    · exact sss_nil
    · cases h
  | p :: ps, x, st, h => by
    simp only [ckSs] at h
    split at h
    · cases h
    · rw [Bool.and_eq_true] at h; exact sss_cons (ckS_ok p h.1) (ckSs_ok ps h.2)
end
end
end Rv
end PartRvZ
section PartRvFa
set_option Elab.async false
set_option linter.all false
set_option maxRecDepth 100000
set_option autoImplicit false
set_option maxHeartbeats 2000000
/-! Rv, part Fa: the head's facts, the law's end. -/
namespace Rv
open PySem PySem.Spec PyProof.Rows L2
def adr (G : Gm) (K : PySem.W.Frag) : Adr where
  fn := fun i => match G.fns[i]? with
    | some f => He.ga K f.name
    | none => 0
  cls := fun i => match G.cls[i]? with
    | some f => He.ga K f.name
    | none => 0
def nsB (K : PySem.W.Frag) (x : Str) (v : Option Value) : Bool := decide (PySem.W.nsIn K mainGlobals x = some v)
def excCB (K : PySem.W.Frag) (D : Addr) : Bool := decide (PySem.W.findIn K (.ref D) "__getattribute__" = some (some (.builtin "BaseException.__getattribute__"))) && (decide (PySem.W.findIn K (.ref D) "__getattr__" = some none) && (decide (PySem.W.subIn K (.ref D) (.type "BaseException") = some true) &&
  (PySem.W.hasDictIn K D && (decide (PySem.W.findIn K (.ref D) "__class__" = some (some (.builtin "object.__class__"))) && (decide (PySem.W.specialIn K (.builtin "object.__class__") "__get__" = some (some (.builtin "getset_descriptor.__get__"))) &&
  (decide (PySem.W.takesIn K (.builtin "object.__class__") = some true) && decide (PySem.W.mroIn K D (.type "object") = some true)))))))
theorem excC_of {K : PySem.W.Frag} {D : Addr} (h : excCB K D = true) : ExcC K D := by
  unfold excCB at h
  simp only [Bool.and_eq_true, decide_eq_true_eq] at h
  exact ⟨h.1, h.2.1, h.2.2.1, h.2.2.2.1, h.2.2.2.2.1, h.2.2.2.2.2.1, h.2.2.2.2.2.2.1, h.2.2.2.2.2.2.2⟩
def clB (K : PySem.W.Frag) (c : ClI) : Bool := nsB K c.name (some (.ref (He.ga K c.name))) && (PySem.W.keepIn K (.ref (He.ga K c.name)) && (decide (PySem.W.subIn K (.ref (He.ga K c.name)) (.type "BaseException") = some true) && (decide (PySem.W.typeIn K (.ref (He.ga K c.name)) = some (.type "type")) &&
  ((!c.nm.isEmpty || PySem.W.excIn K (He.ga K c.name) PySem.HandSPX.veTail "ValueError.__new__") && (excCB K (He.ga K c.name) && decide (PySem.W.kitOne K (.ref (He.ga K c.name)) (.type "ValueError") = some true))))))
def pairB (K : PySem.W.Frag) (c c2 : ClI) (b : Bool) : Bool := decide (PySem.W.kitOne K (.ref (He.ga K c.name)) (.ref (He.ga K c2.name)) = some b) && decide (PySem.W.exmOne K (.ref (He.ga K c.name)) (.ref (He.ga K c2.name)) = some b)
def cstB (K : PySem.W.Frag) (q : Str × PV) : Bool := match q.2 with
  | .int i => (match PySem.W.nsIn K mainGlobals q.1 with
    | some (some (.int j _)) => decide (j = i)
    | _ => false)
  | .str z => (match PySem.W.nsIn K mainGlobals q.1 with
    | some (some (.str y _)) => decide (y = z)
    | _ => false)
  | _ => false
def factB (G : Gm) (K : PySem.W.Frag) : Bool := (G.fns.all fun f => nsB K f.name (some (.ref (He.ga K f.name)))) && ((G.cls.all fun c => clB K c) && ((G.cls.zipIdx.all fun c => G.cls.zipIdx.all fun c2 => pairB K c.1 c2.1 (G.sub c.2 c2.2)) &&
  ((G.free.all fun y => nsB K y none) && ((G.bfs.all fun q => nsB K q.1 (some (.builtin q.2))) && G.csts.all fun q => cstB K q))))
/-! ### the Hook -/
def obsR (cb : PySem.W.Frag → Bool) (fn : List He.DefD) (K : PySem.W.Frag) : He.AlD := (cb K && fn.all fun d => d.ok K, fn.map fun d => He.fnW K d.at_)
def obsRG (n : Nat) (cb : PySem.W.Frag → Bool) (fn : List He.DefD) (g : Addr → Option Obj) : He.AlD := obsR cb fn (He.frG g (He.asD g n))
def SaysR (cb : PySem.W.Frag → Bool) (fn : List He.DefD) (K : PySem.W.Frag) : Prop := obsR cb fn K = He.valD fn
def hookR (n : Nat) (cb : PySem.W.Frag → Bool) (fn : List He.DefD) : PySem.W.Hook where
  α := He.AlD
  obs := fun s => obsRG n cb fn s.heap.get?
  val := fun _ => He.valD fn
  says := fun _ h => ∃ K : PySem.W.Frag, K.In h ∧ SaysR cb fn K
  of := fun _ _ e => ⟨_, He.frG_in, e⟩
  keeps := fun _ _ _ ⟨K, hK, c⟩ k => ⟨K, PySem.W.Frag.In.keeps hK k, c⟩
theorem obsRG_eq {n : Nat} {cb : PySem.W.Frag → Bool} {fn : List He.DefD} {g : Addr → Option Obj} {s : Shared} (h : ∀ a, g a = s.heap.get? a) : obsRG n cb fn g = (hookR n cb fn).obs s := by
  have e : g = s.heap.get? := funext h
  rw [e] <;> rfl
section
variable {cb : PySem.W.Frag → Bool} {fn : List He.DefD} {K : PySem.W.Frag}
theorem saysR_cb (c : SaysR cb fn K) : cb K = true := (He.ba (show (cb K && fn.all fun d => d.ok K) = true from congrArg (fun z : He.AlD => z.1) c)).1
theorem saysR_def (c : SaysR cb fn K) (i : Nat) {d : He.DefD} (h : fn[i]? = some d) : ∃ fd, FunD K d.name d.qual d.params d.body d.scope (d.dvs K) (d.kws K) (He.fAd K d.at_) fd := by
  have c2 := (He.ba (show (cb K && fn.all fun d => d.ok K) = true from congrArg (fun z : He.AlD => z.1) c)).2
  have e : fn.map (fun d => He.fnW K d.at_) = fn.map He.DefD.val := congrArg (fun z : He.AlD => z.2) c
  have e2 : (fn.map fun d => He.fnW K d.at_)[i]? = (fn.map He.DefD.val)[i]? := by rw [e]
  rw [List.getElem?_map, List.getElem?_map, h] at e2
  exact He.DefD.funD (Option.some.inj e2) (List.all_eq_true.mp c2 d (List.mem_of_getElem? h))
end
/-! ### the program's facts -/
/-- what is told of a def, beside the head -/
structure FnT (G : Gm) (bs : List (List PS)) (fn : List He.DefD) (i : Nat) (f : FnI) : Prop where
  ex : ∃ (dd : He.DefD) (b : List PS), fn[i]? = some dd ∧ dd.at_ = (f.name, none) ∧ dd.dfl = [] ∧ dd.kwd = [] ∧ FnScope f.N f.ps dd.scope ∧ bs[i]? = some b ∧
    (∀ (x : Str) (kV doc pm : Value) (an : Option Addr) (cdv ct : Value) (us : List Value), us.length = f.ps.length → bindArgs (PySem.W.fnOf x dd.qual dd.params dd.body dd.scope .none kV doc pm an cdv ct) ⟨us, []⟩ = pure (f.ps.zip us)) ∧
    (∀ d, ckSs (GD G bs d) b (sxOf f dd.scope false) dd.body = true) ∧ (G.hot i = true → ∀ d, ckSs (GD G bs d) b (sxOf f dd.scope true) dd.body = true)
theorem mem_zipIdx {α : Type} {l : List α} {i : Nat} {a : α} (h : l[i]? = some a) : (a, i) ∈ l.zipIdx := by
  rw [List.mem_zipIdx_iff_getElem?]; exact h
theorem prg_of {w : World} {P : Program} {K : PySem.W.Frag} {mg : Str → Option Value} {base h : Heap} {G : Gm} {bs : List (List PS)} {fn : List He.DefD} (X : K.In h) (N : h.Ns mainGlobals mg) (c : SaysR (factB G) fn K) (T : ∀ i f, G.fns[i]? = some f → FnT G bs fn i f) : Prg w P K mg base (adr G K) G bs := by
  have cb := saysR_cb c
  unfold factB at cb
  simp only [Bool.and_eq_true, List.all_eq_true] at cb
  obtain ⟨c1, c2, c3, c4, c5, c6⟩ := cb
  refine ⟨fun i f hi => ?_, fun i ci hi => ?_, fun y hy => PySem.W.mg_none_of X N (of_decide_eq_true (c4 y hy)), fun y id hy => PySem.W.mg_of X N (of_decide_eq_true (c5 (y, id) hy)), fun y v hy => ?_⟩
  · obtain ⟨dd, b, h1, h2, h3, h4, S, h5, hb, h6, h7⟩ := (T i f hi).ex
    obtain ⟨fd, F⟩ := saysR_def c i h1
    have e1 : (adr G K).fn i = He.ga K f.name := by simp only [adr, hi]
    have e2 : He.fAd K dd.at_ = He.ga K f.name := by rw [h2]; rfl
    have e3 : dd.dvs K = [] := by unfold He.DefD.dvs; rw [h3]; rfl
    have e4 : dd.kws K = [] := by unfold He.DefD.kws; rw [h4]; rfl
    rw [e2, e3, e4] at F
    rw [e1]
    exact ⟨fd, dd.name, dd.qual, dd.params, dd.body, dd.scope, b, F, S, F.bindsN fun kV doc pm an cdv ct us hl => hb _ kV doc pm an cdv ct us hl, PySem.W.mg_of X N (of_decide_eq_true (c1 f (List.mem_of_getElem? hi))), F.kp, h5, fun d => ckSs_ok b (h6 d), fun hh d => ckSs_ok b (h7 hh d)⟩
  · have e1 : (adr G K).cls i = He.ga K ci.name := by simp only [adr, hi]
    have q := c2 ci (List.mem_of_getElem? hi)
    unfold clB at q
    simp only [Bool.and_eq_true, Bool.or_eq_true, decide_eq_true_eq] at q
    obtain ⟨q1, q2, q3, q4, q5, q6, q7⟩ := q
    rw [e1]
    refine ⟨PySem.W.mg_of X N (of_decide_eq_true q1), q2, ⟨q3, q4⟩, fun hn => q5.resolve_left (by rw [hn]; decide), excC_of q6, q7, fun j c2' hj => ?_⟩
    have e2 : (adr G K).cls j = He.ga K c2'.name := by simp only [adr, hj]
    rw [e2]
    have p := c3 (ci, i) (mem_zipIdx hi) (c2', j) (mem_zipIdx hj)
    unfold pairB at p
    simp only [Bool.and_eq_true, decide_eq_true_eq] at p
    exact p
  · have q := c6 (y, v) hy
    unfold cstB at q
    simp only at q
    split at q
    · rename_i i
      split at q
      · rename_i j t hj
        have e := of_decide_eq_true q
        subst e
        exact ⟨.int j t, .int j, PySem.W.mg_of X N hj, ⟨t, rfl⟩, fun _ _ _ _ => .int j⟩
      · cases q
    · rename_i z
      split at q
      · rename_i y' t hj
        have e := of_decide_eq_true q
        subst e
        exact ⟨.str y' t, .str y', PySem.W.mg_of X N hj, ⟨t, rfl⟩, fun _ _ _ _ => .str y'⟩
      · cases q
    · cases q
/-! ### the law's end -/
theorem rpA_ints {Z : St0} {m : List Addr} {H : Hp} : ∀ ns : List Int, RpA Z m H (ns.map .int) (ns.map V.int)
  | [] => .nil
  | n :: ns => .cons (.int n) (rpA_ints ns)
/-- what the law's def does at a script -/
theorem law_sp {K : PySem.W.Frag} {ad : Adr} {G : Gm} {i : Nat} {H : Hp} {a : Addr} {ns : List Int} {S : List PO} (hS : SqL K H a (ns.map V.int)) (h : G.call i [.p (.rd (ns.map .int))] [] = .ok (.e (.p (.bl true))) S) :
    spOf K ad none G i 1 [.ref a] H (fun v _ => v = .bl true) fun _ _ _ => False := by
  refine ⟨fun _ => False, [], [], [.p (.rd (ns.map .int))], rfl, rel_nil (fun a f => f.elim), .cons (.p (.rd ?_ (rpA_ints ns))) .nil, ?_⟩
  · rcases hS with hS | hS
    · exact .inl ⟨hS, fun f => f, fun q => by cases q⟩
    · exact .inr hS
  · rw [h]
    intro m' H' u _ _ r
    cases r with
    | e r =>
      cases r with
      | p r => cases r; rfl
end Rv
namespace Rv
open PySem PySem.Spec PyProof.Rows L2
/-- what flies, the World aside -/
def CXw (P : Program) : CXT := fun outer H s E u s' => ∃ w, L2N.CX P w outer H s E u s'
theorem fnOk_cx {P : Program} {w : World} {K : PySem.W.Frag} {mg : Str → Option Value} {base : Heap} {k : Nat} {f : Addr} {fd : FuncData} {ps : List Str} {sp : Sp} (F : FnOk P w K mg base (L2N.CX P w) k f fd ps sp) : FnOk P w K mg base (CXw P) k f fd ps sp :=
  ⟨F.len, fun A outer s H args us vs Q E hr he hb hv hs => codeAny_mono (F.run A outer s H args us vs Q E hr he hb hv hs) fun r s' hq => by
    cases r with
    | error e => exact ⟨w, hq⟩
    | ok fl => cases fl <;> exact hq⟩
theorem cxw_no {P : Program} (H : Hp) (s : Shared) (e : Value) (s' : Shared) (h : CXw P [] H s (fun _ _ _ => False) e s') : False := by
  obtain ⟨w, a, B, H', cls, d, h1, h2, h3, h4, h5, h6, h7, h8⟩ := h
  exact h8
end Rv
end PartRvFa
section PartLE
set_option Elab.async false
set_option linter.all false
set_option maxRecDepth 100000
set_option autoImplicit false
/-! the evaluator's equations -/
namespace Rv
namespace Law
open PySem PySem.Spec PyProof.Rows L2
theorem qE1 : type_of% @evE.eq_1 := by intros; rw [evE.eq_1]
theorem qE2 : type_of% @evE.eq_2 := by intros; rw [evE.eq_2]
theorem qE3 : type_of% @evE.eq_3 := by intros; rw [evE.eq_3]
theorem qE4 : type_of% @evE.eq_4 := by intros; rw [evE.eq_4]
theorem qE5 : type_of% @evE.eq_5 := by intros; rw [evE.eq_5]
theorem qE6 : type_of% @evE.eq_6 := by intros; rw [evE.eq_6]
theorem qE7 : type_of% @evE.eq_7 := by intros; rw [evE.eq_7]
theorem qE8 : type_of% @evE.eq_8 := by intros; rw [evE.eq_8]
theorem qE9 : type_of% @evE.eq_9 := by intros; rw [evE.eq_9]
theorem qE10 : type_of% @evE.eq_10 := by intros; rw [evE.eq_10]
theorem qE11 : type_of% @evE.eq_11 := by intros; rw [evE.eq_11]
theorem qE12 : type_of% @evE.eq_12 := by intros; rw [evE.eq_12]
theorem qE13 : type_of% @evE.eq_13 := by intros; rw [evE.eq_13]
theorem qE14 : type_of% @evE.eq_14 := by intros; rw [evE.eq_14]
theorem qE15 : type_of% @evE.eq_15 := by intros; rw [evE.eq_15]
theorem qE16 : type_of% @evE.eq_16 := by intros; rw [evE.eq_16]
theorem qE17 : type_of% @evE.eq_17 := by intros; rw [evE.eq_17]
theorem qE18 : type_of% @evE.eq_18 := by intros; rw [evE.eq_18]
theorem qE19 : type_of% @evE.eq_19 := by intros; rw [evE.eq_19]
theorem qE20 : type_of% @evE.eq_20 := by intros; rw [evE.eq_20]
theorem qE21 : type_of% @evE.eq_21 := by intros; rw [evE.eq_21]
theorem qE22 : type_of% @evE.eq_22 := by intros; rw [evE.eq_22]
theorem qE23 : type_of% @evE.eq_23 := by intros; rw [evE.eq_23]
theorem qE24 : type_of% @evE.eq_24 := by intros; rw [evE.eq_24]
theorem qE25 : type_of% @evE.eq_25 := by intros; rw [evE.eq_25]
theorem qE26 : type_of% @evE.eq_26 := by intros; rw [evE.eq_26]
theorem qE27 : type_of% @evE.eq_27 := by intros; rw [evE.eq_27]
theorem qE28 : type_of% @evE.eq_28 := by intros; rw [evE.eq_28]
theorem qE29 : type_of% @evE.eq_29 := by intros; rw [evE.eq_29]
theorem qE30 : type_of% @evE.eq_30 := by intros; rw [evE.eq_30]
theorem qE31 : type_of% @evE.eq_31 := by intros; rw [evE.eq_31]
theorem qE32 : type_of% @evE.eq_32 := by intros; rw [evE.eq_32]
theorem qE33 : type_of% @evE.eq_33 := by intros; rw [evE.eq_33]
theorem qT1 : type_of% @evT.eq_1 := by intros; rw [evT.eq_1]
theorem qT2 : type_of% @evT.eq_2 := by intros; rw [evT.eq_2]
theorem qT3 : type_of% @evT.eq_3 := by intros; rw [evT.eq_3]
theorem qT4 : type_of% @evT.eq_4 := by intros; rw [evT.eq_4]
theorem qT5 : type_of% @evT.eq_5 := by intros; rw [evT.eq_5]
theorem qT6 : type_of% @evT.eq_6 := by intros; rw [evT.eq_6]
theorem qO1 : type_of% @evO.eq_1 := by intros; rw [evO.eq_1]
theorem qO2 : type_of% @evO.eq_2 := by intros; rw [evO.eq_2]
theorem qEs1 : type_of% @evEs.eq_1 := by intros; rw [evEs.eq_1]
theorem qEs2 : type_of% @evEs.eq_2 := by intros; rw [evEs.eq_2]
theorem qTs1 : type_of% @evTs.eq_1 := by intros; rw [evTs.eq_1]
theorem qTs2 : type_of% @evTs.eq_2 := by intros; rw [evTs.eq_2]
theorem qL1 : type_of% @evL.eq_1 := by intros; rw [evL.eq_1]
theorem qL2 : type_of% @evL.eq_2 := by intros; rw [evL.eq_2]
theorem qL3 : type_of% @evL.eq_3 := by intros; rw [evL.eq_3]
theorem qL4 : type_of% @evL.eq_4 := by intros; rw [evL.eq_4]
theorem qL5 : type_of% @evL.eq_5 := by intros; rw [evL.eq_5]
theorem qL6 : type_of% @evL.eq_6 := by intros; rw [evL.eq_6]
theorem qL7 : type_of% @evL.eq_7 := by intros; rw [evL.eq_7]
theorem qL8 : type_of% @evL.eq_8 := by intros; rw [evL.eq_8]
theorem qL9 : type_of% @evL.eq_9 := by intros; rw [evL.eq_9]
theorem qIt1 : type_of% @evIt.eq_1 := by intros; rw [evIt.eq_1]
theorem qIt2 : type_of% @evIt.eq_2 := by intros; rw [evIt.eq_2]
theorem qIt3 : type_of% @evIt.eq_3 := by intros; rw [evIt.eq_3]
theorem qIt4 : type_of% @evIt.eq_4 := by intros; rw [evIt.eq_4]
theorem qIt5 : type_of% @evIt.eq_5 := by intros; rw [evIt.eq_5]
theorem qIt6 : type_of% @evIt.eq_6 := by intros; rw [evIt.eq_6]
theorem qS1 : type_of% @evS.eq_1 := by intros; rw [evS.eq_1]
theorem qS2 : type_of% @evS.eq_2 := by intros; rw [evS.eq_2]
theorem qS3 : type_of% @evS.eq_3 := by intros; rw [evS.eq_3]
theorem qS4 : type_of% @evS.eq_4 := by intros; rw [evS.eq_4]
theorem qS5 : type_of% @evS.eq_5 := by intros; rw [evS.eq_5]
theorem qS6 : type_of% @evS.eq_6 := by intros; rw [evS.eq_6]
theorem qS7 : type_of% @evS.eq_7 := by intros; rw [evS.eq_7]
theorem qS8 : type_of% @evS.eq_8 := by intros; rw [evS.eq_8]
theorem qS9 : type_of% @evS.eq_9 := by intros; rw [evS.eq_9]
theorem qS10 : type_of% @evS.eq_10 := by intros; rw [evS.eq_10]
theorem qS11 : type_of% @evS.eq_11 := by intros; rw [evS.eq_11]
theorem qS12 : type_of% @evS.eq_12 := by intros; rw [evS.eq_12]
theorem qS13 : type_of% @evS.eq_13 := by intros; rw [evS.eq_13]
theorem qS14 : type_of% @evS.eq_14 := by intros; rw [evS.eq_14]
theorem qS15 : type_of% @evS.eq_15 := by intros; rw [evS.eq_15]
theorem qS16 : type_of% @evS.eq_16 := by intros; rw [evS.eq_16]
theorem qS17 : type_of% @evS.eq_17 := by intros; rw [evS.eq_17]
theorem qS18 : type_of% @evS.eq_18 := by intros; rw [evS.eq_18]
theorem qS19 : type_of% @evS.eq_19 := by intros; rw [evS.eq_19]
theorem qS20 : type_of% @evS.eq_20 := by intros; rw [evS.eq_20]
theorem qSs1 : type_of% @evSs.eq_1 := by intros; rw [evSs.eq_1]
theorem qSs2 : type_of% @evSs.eq_2 := by intros; rw [evSs.eq_2]
theorem qH1 : type_of% @evH.eq_1 := by intros; rw [evH.eq_1]
theorem qH2 : type_of% @evH.eq_2 := by intros; rw [evH.eq_2]
theorem qH3 : type_of% @evH.eq_3 := by intros; rw [evH.eq_3]
theorem qH4 : type_of% @evH.eq_4 := by intros; rw [evH.eq_4]
theorem qH5 : type_of% @evH.eq_5 := by intros; rw [evH.eq_5]
theorem qHs1 : type_of% @evHs.eq_1 := by intros; rw [evHs.eq_1]
theorem qHs2 : type_of% @evHs.eq_2 := by intros; rw [evHs.eq_2]
theorem toS_ok {α : Type} {a : α} {S : List PO} {ρ : Sl} {f : α → List PO → SR} : (Out.ok a S).toS ρ f = f a S := by rw [Out.toS]
theorem toS_exc {α : Type} {c : Nat} {fs : List PV} {S : List PO} {ρ : Sl} {f : α → List PO → SR} : (Out.exc c fs S : Out α).toS ρ f = .exc ρ c fs S := by rw [Out.toS]
theorem bind_ok {α β : Type} {a : α} {S : List PO} {f : α → List PO → Out β} : (Out.ok a S).bind f = f a S := by rw [Out.bind]
theorem bind_exc {α β : Type} {c : Nat} {fs : List PV} {S : List PO} {f : α → List PO → Out β} : (Out.exc c fs S : Out α).bind f = .exc c fs S := by rw [Out.bind]
theorem next_nx {ρ : Sl} {S : List PO} {f : Sl → List PO → SR} : (SR.nx ρ S).next f = f ρ S := by rw [SR.next]
theorem next_ct {ρ : Sl} {S : List PO} {f : Sl → List PO → SR} : (SR.ct ρ S).next f = .ct ρ S := by rw [SR.next]
theorem next_bk {ρ : Sl} {S : List PO} {f : Sl → List PO → SR} : (SR.bk ρ S).next f = .bk ρ S := by rw [SR.next]
theorem next_ret {v : RV} {S : List PO} {f : Sl → List PO → SR} : (SR.ret v S).next f = .ret v S := by rw [SR.next]
theorem next_exc {ρ : Sl} {c : Nat} {fs : List PV} {S : List PO} {f : Sl → List PO → SR} : (SR.exc ρ c fs S).next f = .exc ρ c fs S := by rw [SR.next]
theorem runB_ret {v : RV} {S : List PO} : runB (.ret v S) = .ok v S := by rw [runB]
theorem runB_nx {ρ : Sl} {S : List PO} : runB (.nx ρ S) = .ok (.e (.p .non)) S := by rw [runB]
theorem runB_exc {ρ : Sl} {c : Nat} {fs : List PV} {S : List PO} : runB (.exc ρ c fs S) = .exc c fs S := by rw [runB]
theorem noExc_nx {ρ : Sl} {S : List PO} : noExc (.nx ρ S) = .nx ρ S := by rw [noExc]; nofun
theorem noExc_ret {v : RV} {S : List PO} : noExc (.ret v S) = .ret v S := by rw [noExc]; nofun
end Law
end Rv
end PartLE
section PartLC
set_option Elab.async false
set_option linter.all false
set_option maxRecDepth 100000
set_option maxHeartbeats 4000000
namespace Rv
namespace Law
open PySem PySem.Spec PyProof.Rows L2
/-! ### runs -/
theorem call_eqG {G : Gm} {bs : List (List PS)} {d i : Nat} {f : FnI} {b : List PS} {args : List EV} {S : List PO} (h1 : G.fns[i]? = some f) (h2 : bs[i]? = some b) : callD G bs (d + 1) i args S = runB (evSs (GD G bs d) b (startSl f.N.length args) S) := by simp only [callD, h1, h2]
theorem nx {g : Gm} {s : PS} {ss : List PS} {ρ ρ' : Sl} {S S' : List PO} (h : evS g s ρ S = .nx ρ' S') : evSs g (s :: ss) ρ S = evSs g ss ρ' S' := by simp only [evSs, h, SR.next]
theorem rt {g : Gm} {s : PS} {ss : List PS} {ρ : Sl} {S S' : List PO} {v : RV} (h : evS g s ρ S = .ret v S') : evSs g (s :: ss) ρ S = .ret v S' := by simp only [evSs, h, SR.next]
theorem xc {g : Gm} {s : PS} {ss : List PS} {ρ ρ' : Sl} {S S' : List PO} {c : Nat} {fs : List PV} (h : evS g s ρ S = .exc ρ' c fs S') : evSs g (s :: ss) ρ S = .exc ρ' c fs S' := by simp only [evSs, h, SR.next]
theorem pcall_p {g : Gm} {i : Nat} {vs : List PV} {S : List PO} {v : PV} (h : g.call i (vs.map .p) [] = .ok (.e (.p v)) []) : pcall g i (vs.map .p) S = .ok (.p v) S := by
  unfold pcall
  rw [asPs_map]
  simp only [h, frzR, frzE]
theorem pcall_S {g : Gm} {i : Nat} {vs : List PV} {S S' : List PO} {r : RV} {v : PV} (h : g.call i (vs.map .p) [] = .ok r S') (hf : frzR S' r = some v) : pcall g i (vs.map .p) S = .ok (.p v) S := by
  unfold pcall
  rw [asPs_map]
  simp only [h, hf]
theorem pcall_x {g : Gm} {i : Nat} {vs : List PV} {S S' : List PO} {c : Nat} {fs : List PV} (h : g.call i (vs.map .p) [] = .exc c fs S') : pcall g i (vs.map .p) S = .exc c fs S := by
  unfold pcall
  rw [asPs_map]
  simp only [h]
section
variable {G : Gm} {bs : List (List PS)} {d i : Nat} {a b c e : PV} {v : PV} {S S' : List PO} {r : RV} {k : Nat} {fs : List PV}
theorem pD1 (h : callD G bs d i [.p a] [] = .ok (.e (.p v)) []) : pcall (GD G bs d) i [.p a] S = .ok (.p v) S := pcall_p (g := GD G bs d) (vs := [a]) h
theorem pD2 (h : callD G bs d i [.p a, .p b] [] = .ok (.e (.p v)) []) : pcall (GD G bs d) i [.p a, .p b] S = .ok (.p v) S := pcall_p (g := GD G bs d) (vs := [a, b]) h
theorem pD3 (h : callD G bs d i [.p a, .p b, .p c] [] = .ok (.e (.p v)) []) : pcall (GD G bs d) i [.p a, .p b, .p c] S = .ok (.p v) S := pcall_p (g := GD G bs d) (vs := [a, b, c]) h
theorem pD4 (h : callD G bs d i [.p a, .p b, .p c, .p e] [] = .ok (.e (.p v)) []) : pcall (GD G bs d) i [.p a, .p b, .p c, .p e] S = .ok (.p v) S := pcall_p (g := GD G bs d) (vs := [a, b, c, e]) h
theorem pS1 (h : callD G bs d i [.p a] [] = .ok r S') (hf : frzR S' r = some v) : pcall (GD G bs d) i [.p a] S = .ok (.p v) S := pcall_S (g := GD G bs d) (vs := [a]) h hf
theorem pS2 (h : callD G bs d i [.p a, .p b] [] = .ok r S') (hf : frzR S' r = some v) : pcall (GD G bs d) i [.p a, .p b] S = .ok (.p v) S := pcall_S (g := GD G bs d) (vs := [a, b]) h hf
theorem pS3 (h : callD G bs d i [.p a, .p b, .p c] [] = .ok r S') (hf : frzR S' r = some v) : pcall (GD G bs d) i [.p a, .p b, .p c] S = .ok (.p v) S := pcall_S (g := GD G bs d) (vs := [a, b, c]) h hf
theorem pS4 (h : callD G bs d i [.p a, .p b, .p c, .p e] [] = .ok r S') (hf : frzR S' r = some v) : pcall (GD G bs d) i [.p a, .p b, .p c, .p e] S = .ok (.p v) S := pcall_S (g := GD G bs d) (vs := [a, b, c, e]) h hf
theorem pX1 (h : callD G bs d i [.p a] [] = .exc k fs S') : pcall (GD G bs d) i [.p a] S = .exc k fs S := pcall_x (g := GD G bs d) (vs := [a]) h
theorem pX2 (h : callD G bs d i [.p a, .p b] [] = .exc k fs S') : pcall (GD G bs d) i [.p a, .p b] S = .exc k fs S := pcall_x (g := GD G bs d) (vs := [a, b]) h
end
theorem lim_eq : lim = 1000000 := rfl
theorem ltP_int (i j : Int) : ltP (.int i) (.int j) = some (decide (i < j)) := by
  show some (PySem.W.dataLt (.int i) (.int j)) = _
  rw [PySem.W.dataLt_int]
theorem eqP_int (i j : Int) : eqP (.int i) (.int j) = some (decide (i = j)) := by
  show some (PyData.eqv (.int i) (.int j)) = _
  simp only [PyData.eqv]
  congr 1
theorem neP_int (i j : Int) : (eqP (.int i) (.int j)).map (!·) = some (decide (i ≠ j)) := by
  rw [eqP_int]
  show some _ = some _
  congr 1
  by_cases h : i = j <;> simp [h]
theorem ne_nat (i j : Nat) : decide (((i : Nat) : Int) ≠ ((j : Nat) : Int)) = decide (i ≠ j) := decide_eq_decide.mpr ⟨fun h z => h (by rw [z]), fun h z => h (by omega)⟩
theorem eq_nat (i j : Nat) : decide (((i : Nat) : Int) = ((j : Nat) : Int)) = decide (i = j) := decide_eq_decide.mpr ⟨fun h => by omega, fun h => by rw [h]⟩
/-! ### what is walked -/
theorem compL_mapA {α : Type} {F : EV → List PO → Out (List EV)} {f h : α → PV} {S : List PO} : ∀ ks : List α, (∀ k ∈ ks, F (.p (f k)) S = .ok [.p (h k)] S) → compL F ((ks.map f).map .p) S = .ok ((ks.map h).map .p) S
  | [], _ => rfl
  | x :: xs, hf => by
    rw [List.map_cons, List.map_cons, compL, hf x (List.mem_cons_self ..)]
    simp only
    rw [compL_mapA xs fun y hy => hf y (List.mem_cons_of_mem _ hy)]
    rfl
theorem compL_flatA {α : Type} {F : EV → List PO → Out (List EV)} {f : α → PV} {h : α → List PV} {S : List PO} : ∀ ks : List α, (∀ k ∈ ks, F (.p (f k)) S = .ok ((h k).map .p) S) → compL F ((ks.map f).map .p) S = .ok ((ks.flatMap h).map .p) S
  | [], _ => rfl
  | x :: xs, hf => by
    rw [List.map_cons, List.map_cons, compL, hf x (List.mem_cons_self ..)]
    simp only
    rw [compL_flatA xs fun y hy => hf y (List.mem_cons_of_mem _ hy)]
    simp
theorem compL_map {f : EV → List PO → Out (List EV)} {h : PV → PV} {S : List PO} : ∀ xs : List PV, (∀ x ∈ xs, f (.p x) S = .ok [.p (h x)] S) → compL f (xs.map .p) S = .ok ((xs.map h).map .p) S
  | [], _ => rfl
  | x :: xs, hf => by
    rw [List.map_cons, compL, hf x (List.mem_cons_self ..)]
    simp only
    rw [compL_map xs fun y hy => hf y (List.mem_cons_of_mem _ hy)]
    rfl
/-- each turn gives some items -/
theorem compL_flat {f : EV → List PO → Out (List EV)} {h : PV → List PV} {S : List PO} : ∀ xs : List PV, (∀ x ∈ xs, f (.p x) S = .ok ((h x).map .p) S) → compL f (xs.map .p) S = .ok ((xs.flatMap h).map .p) S
  | [], _ => rfl
  | x :: xs, hf => by
    rw [List.map_cons, compL, hf x (List.mem_cons_self ..)]
    simp only
    rw [compL_flat xs fun y hy => hf y (List.mem_cons_of_mem _ hy)]
    simp
section
variable {g : Gm}
theorem comp_list {own : List Nat} {elt : PX} {tg : PT} {it : PIt} {ρ : Sl} {S : List PO} {xs : List PV} {h : PV → PV} (hit : evIt g it ρ S = .ok (.l (xs.map .p)) S) (hl : xs.length ≤ lim) (hf : ∀ x ∈ xs, ∃ ρ1, bindT tg (wipeP ρ own) (.p x) = some ρ1 ∧ evE g elt ρ1 S = .ok (.p (h x)) S) :
    evL g (.comp own elt tg it []) ρ S = .ok ((xs.map h).map .p) S := by
  simp only [evL, hit, Out.bind, compI]
  rw [compL_map (h := h) xs fun x hx => by
    obtain ⟨ρ1, e1, e2⟩ := hf x hx
    simp only [e1, evTs, e2, Out.bind]]
  simp only [lenOk, List.length_map, hl, if_true]
theorem comp_if {own : List Nat} {elt : PX} {tg : PT} {it : PIt} {c : PB} {ρ : Sl} {S : List PO} {xs : List PV} {h : PV → PV} {t : PV → Bool} (hit : evIt g it ρ S = .ok (.l (xs.map .p)) S) (hl : xs.length ≤ lim) (hf : ∀ x ∈ xs, ∃ ρ1, bindT tg (wipeP ρ own) (.p x) = some ρ1 ∧ evT g c ρ1 S = .ok (t x) S ∧ (t x = true → evE g elt ρ1 S = .ok (.p (h x)) S)) :
    evL g (.comp own elt tg it [c]) ρ S = .ok (((xs.filter t).map h).map .p) S := by
  simp only [evL, hit, Out.bind, compI]
  rw [compL_flat (h := fun x => if t x = true then [h x] else []) xs fun x hx => by
    obtain ⟨ρ1, e1, e2, e3⟩ := hf x hx
    cases ht : t x with
    | true => simp only [e1, evTs, e2, ht, e3 ht, Out.bind, if_true, List.map_cons, List.map_nil]
    | false => simp only [e1, evTs, e2, ht, Out.bind, Bool.false_eq_true, if_false, List.map_nil]]
  have e : xs.flatMap (fun x => if t x = true then [h x] else []) = (xs.filter t).map h := by
    clear hf hl hit
    induction xs with
    | nil => rfl
    | cons x xs ih =>
      rw [List.flatMap_cons, ih]
      cases ht : t x with
      | true => simp [ht]
      | false => simp [ht]
  rw [e]
  have hl2 : ((xs.filter t).map h).length ≤ lim := by rw [List.length_map]; exact Nat.le_trans (List.length_filter_le _ _) hl
  simp only [lenOk, List.length_map, hl2, if_true] at hl2 ⊢
  rw [if_pos hl2]
theorem comp2_list {own own2 : List Nat} {elt : PX} {tg tg2 : PT} {it it2 : PIt} {ρ : Sl} {S : List PO} {xs : List PV} {Y : PV → List PV} {h : PV → PV → PV} (hit : evIt g it ρ S = .ok (.l (xs.map .p)) S) (hl : (xs.flatMap fun x => (Y x).map (h x)).length ≤ lim)
    (hf : ∀ x ∈ xs, ∃ ρ1, bindT tg (wipeP ρ own) (.p x) = some ρ1 ∧ evIt g it2 ρ1 S = .ok (.l ((Y x).map .p)) S ∧ ∀ y ∈ Y x, ∃ ρ2, bindT tg2 (wipeP ρ1 own2) (.p y) = some ρ2 ∧ evE g elt ρ2 S = .ok (.p (h x y)) S) :
    evL g (.comp2 own elt tg it [] own2 tg2 it2 []) ρ S = .ok ((xs.flatMap fun x => (Y x).map (h x)).map .p) S := by
  simp only [evL, hit, Out.bind, compI]
  rw [compL_flat (h := fun x => (Y x).map (h x)) xs fun x hx => by
    obtain ⟨ρ1, e1, e2, e3⟩ := hf x hx
    simp only [e1, evTs, e2, Out.bind, compI]
    exact compL_map (h := h x) (Y x) fun y hy => by
      obtain ⟨ρ2, f1, f2⟩ := e3 y hy
      simp only [f1, evTs, f2, Out.bind]]
  simp only [lenOk, List.length_map, hl, if_true]
theorem comp_listA {α : Type} {own : List Nat} {elt : PX} {tg : PT} {it : PIt} {ρ : Sl} {S : List PO} {ks : List α} {f : α → PV} (h : α → PV) (hit : evIt g it ρ S = .ok (.l ((ks.map f).map .p)) S) (hl : ks.length ≤ lim) (hf : ∀ k ∈ ks, ∃ ρ1, bindT tg (wipeP ρ own) (.p (f k)) = some ρ1 ∧ evE g elt ρ1 S = .ok (.p (h k)) S) :
    evL g (.comp own elt tg it []) ρ S = .ok ((ks.map h).map .p) S := by
  simp only [evL, hit, Out.bind, compI]
  rw [compL_mapA (h := h) ks fun x hx => by
    obtain ⟨ρ1, e1, e2⟩ := hf x hx
    simp only [e1, evTs, e2, Out.bind]]
  simp only [lenOk, List.length_map, hl, if_true]
theorem comp_ifA {α : Type} {own : List Nat} {elt : PX} {tg : PT} {it : PIt} {c : PB} {ρ : Sl} {S : List PO} {ks : List α} {f : α → PV} (h : α → PV) (t : α → Bool) (hit : evIt g it ρ S = .ok (.l ((ks.map f).map .p)) S) (hl : ks.length ≤ lim) (hf : ∀ k ∈ ks, ∃ ρ1, bindT tg (wipeP ρ own) (.p (f k)) = some ρ1 ∧ evT g c ρ1 S = .ok (t k) S ∧ (t k = true → evE g elt ρ1 S = .ok (.p (h k)) S)) :
    evL g (.comp own elt tg it [c]) ρ S = .ok (((ks.filter t).map h).map .p) S := by
  simp only [evL, hit, Out.bind, compI]
  rw [compL_flatA (h := fun x => if t x = true then [h x] else []) ks fun x hx => by
    obtain ⟨ρ1, e1, e2, e3⟩ := hf x hx
    cases ht : t x with
    | true => simp only [e1, evTs, e2, ht, e3 ht, Out.bind, if_true, List.map_cons, List.map_nil]
    | false => simp only [e1, evTs, e2, ht, Out.bind, Bool.false_eq_true, if_false, List.map_nil]]
  have e : ks.flatMap (fun x => if t x = true then [h x] else []) = (ks.filter t).map h := by
    clear hf hl hit
    induction ks with
    | nil => rfl
    | cons x xs ih =>
      rw [List.flatMap_cons, ih]
      cases ht : t x with
      | true => simp [ht]
      | false => simp [ht]
  rw [e]
  have hl2 : (ks.filter t).length ≤ lim := Nat.le_trans (List.length_filter_le _ _) hl
  simp only [lenOk, List.length_map, hl2, if_true]
theorem and_of {a b : PB} {ρ : Sl} {S : List PO} {x y : Bool} (ha : evT g a ρ S = .ok x S) (hb : x = true → evT g b ρ S = .ok y S) : evT g (.and a b) ρ S = .ok (x && y) S := by
  simp only [evT, ha, Out.bind]
  cases x with
  | true => exact hb rfl
  | false => rfl
theorem or_of {a b : PB} {ρ : Sl} {S : List PO} {x y : Bool} (ha : evT g a ρ S = .ok x S) (hb : x = false → evT g b ρ S = .ok y S) : evT g (.or a b) ρ S = .ok (x || y) S := by
  simp only [evT, ha, Out.bind]
  cases x with
  | true => rfl
  | false => exact hb rfl
theorem lst_of {l : PL} {ρ : Sl} {S S' : List PO} {vs : List PV} (h : evL g l ρ S = .ok (vs.map .p) S') : evE g (.lst l) ρ S = .ok (.p (.lst vs)) S' := by
  simp only [evE, h, asPs_map]
theorem mut_of {l : PL} {ρ : Sl} {S S' : List PO} {vs : List PV} (h : evL g l ρ S = .ok (vs.map .p) S') : evE g (.mut l) ρ S = .ok (.ref S'.length) (S' ++ [.lst vs]) := by
  simp only [evE, h, asPs_map]
theorem it_val {j : Nat} {ρ : Sl} {S : List PO} {v : PV} {xs : List PV} (h : ρ[j]? = some (some (.p v))) (hs : seqOf v = some xs) : evIt g (.val (.var j)) ρ S = .ok (.l (xs.map .p)) S := by
  simp only [evIt, evE, h, Out.bind, itemsOf, hs]
end
theorem rng_nat {i n : Nat} (h : i ≤ n) (hn : n ≤ 1000000) : rng (i : Int) (n : Int) = some ((List.range (n - i)).map fun (k : Nat) => PV.int ((i + k : Nat) : Int)) := by
  unfold rng
  have e1 : ((n : Int) - (i : Int)).toNat = n - i := by omega
  rw [if_pos]
  · unfold rangeV
    rw [e1]
    congr 1
  · have : lim = 1000000 := rfl
    simp only [Bool.and_eq_true, decide_eq_true_eq]
    exact ⟨by omega, by omega, by omega, by omega, by omega⟩
theorem rng_nat0 {n : Nat} (hn : n ≤ 1000000) : rng 0 (n : Int) = some ((List.range n).map fun (k : Nat) => PV.int (k : Int)) := by
  have := rng_nat (i := 0) (n := n) (Nat.zero_le _) hn
  simpa using this
section
variable {g : Gm} {ρ : Sl} {S S1 : List PO}
theorem loop_of {t : PT} {it : PIt} {body : List PS} {xs : List PV} {r : SR} (hit : evIt g it ρ S = .ok (.l (xs.map .p)) S) (h : forL t (fun ρ S => evSs g body ρ S) (xs.map .p) ρ S = r) : evS g (.loop t it body) ρ S = r := by
  simp only [evS, hit, Out.toS, forI]
  exact h
theorem it_rangeJ {a : PX} {j : Int} {l : List PV} (ha : evE g a ρ S = .ok (.p (.int j)) S) (hr : rng 0 j = some l) : evIt g (.range1 a) ρ S = .ok (.l (l.map .p)) S := by
  simp only [evIt, ha, Out.bind, hr]
theorem it_rangeIJ {a b : PX} {i j : Int} {l : List PV} (ha : evE g a ρ S = .ok (.p (.int i)) S) (hb : evE g b ρ S = .ok (.p (.int j)) S) (hr : rng i j = some l) : evIt g (.range2 a b) ρ S = .ok (.l (l.map .p)) S := by
  simp only [evIt, ha, hb, Out.bind, hr]
theorem it_range1 {a : PX} {n : Nat} (ha : evE g a ρ S = .ok (.p (.int ((n : Nat) : Int))) S) (hn : n ≤ 1000000) : evIt g (.range1 a) ρ S = .ok (.l (((List.range n).map fun (k : Nat) => PV.int (k : Int)).map .p)) S :=
  it_rangeJ ha (rng_nat0 hn)
theorem it_range2 {a b : PX} {i n : Nat} (ha : evE g a ρ S = .ok (.p (.int ((i : Nat) : Int))) S) (hb : evE g b ρ S = .ok (.p (.int ((n : Nat) : Int))) S) (hi : i ≤ n) (hn : n ≤ 1000000) :
    evIt g (.range2 a b) ρ S = .ok (.l (((List.range (n - i)).map fun (k : Nat) => PV.int ((i + k : Nat) : Int)).map .p)) S := it_rangeIJ ha hb (rng_nat hi hn)
theorem it_call {f : Nat} {es : List PX} {v : PV} {xs : List PV} (h : evE g (.call f es) ρ S = .ok (.p v) S) (hs : seqOf v = some xs) : evIt g (.val (.call f es)) ρ S = .ok (.l (xs.map .p)) S := by
  simp only [evIt, h, Out.bind, itemsOf, hs]
theorem whl_of {c : PB} {body : List PS} {r : SR} (h : whileL (evT g c) (fun ρ S => evSs g body ρ S) lim ρ S = r) : evS g (.whl c body) ρ S = r := by
  simp only [evS]
  exact h
theorem len_var {i : Nat} {v : PV} {n : Nat} (h : ρ[i]? = some (some (.p v))) (hb : bi .len [v] = some (.int (n : Nat))) : evE g (.bi .len [.var i]) ρ S = .ok (.p (.int ((n : Nat) : Int))) S := by
  simp only [evE, evEs, h, Out.bind, sees, see, hb]
theorem var_ok {i : Nat} {v : EV} (h : ρ[i]? = some (some v)) : evE g (.var i) ρ S = .ok v S := by simp only [evE, h]
end
/-- a loop with an invariant: all turns go on -/
theorem forL_inv {t : PT} {b : Sl → List PO → SR} (P : Nat → Sl → List PO → Prop) : ∀ (xs : List PV) (k : Nat) (ρ : Sl) (S : List PO), P k ρ S →
    (∀ j x ρ S, xs[j]? = some x → P (k + j) ρ S → ∃ ρ1, bindT t ρ (.p x) = some ρ1 ∧ ∃ ρ2 S2, (b ρ1 S = .nx ρ2 S2 ∨ b ρ1 S = .ct ρ2 S2) ∧ P (k + j + 1) ρ2 S2) →
    ∃ ρ' S', forL t b (xs.map .p) ρ S = .nx ρ' S' ∧ P (k + xs.length) ρ' S'
  | [], k, ρ, S, h0, _ => ⟨ρ, S, rfl, h0⟩
  | x :: xs, k, ρ, S, h0, hs => by
    obtain ⟨ρ1, e1, ρ2, S2, e2, p⟩ := hs 0 x ρ S rfl h0
    obtain ⟨ρ', S', e3, p'⟩ := forL_inv P xs (k + 1) ρ2 S2 p fun j y ρ S hj q => by
      have := hs (j + 1) y ρ S (by simpa using hj) (by rw [show k + (j + 1) = k + 1 + j by omega]; exact q)
      rw [show k + (j + 1) = k + 1 + j by omega] at this
      exact this
    refine ⟨ρ', S', ?_, by rw [List.length_cons, show k + (xs.length + 1) = k + 1 + xs.length by omega]; exact p'⟩
    rw [List.map_cons, forL, e1]
    rcases e2 with e2 | e2 <;> simp only [e2, e3]
/-- a loop that folds -/
theorem forL_fold {α β : Type} {t : PT} {b : Sl → List PO → SR} {en : β → PV} {f : α → β → α} (P : α → Sl → List PO → Prop) : ∀ (xs : List β) (a : α) (ρ : Sl) (S : List PO), P a ρ S →
    (∀ a x ρ S, x ∈ xs → P a ρ S → ∃ ρ1, bindT t ρ (.p (en x)) = some ρ1 ∧ ∃ ρ2 S2, b ρ1 S = .nx ρ2 S2 ∧ P (f a x) ρ2 S2) →
    ∃ ρ' S', forL t b ((xs.map en).map .p) ρ S = .nx ρ' S' ∧ P (xs.foldl f a) ρ' S'
  | [], a, ρ, S, h0, _ => ⟨ρ, S, rfl, h0⟩
  | x :: xs, a, ρ, S, h0, hs => by
    obtain ⟨ρ1, e1, ρ2, S2, e2, p⟩ := hs a x ρ S (List.mem_cons_self ..) h0
    obtain ⟨ρ', S', e3, p'⟩ := forL_fold (f := f) P xs (f a x) ρ2 S2 p fun a y ρ S hy q => hs a y ρ S (List.mem_cons_of_mem _ hy) q
    refine ⟨ρ', S', ?_, p'⟩
    rw [List.map_cons, List.map_cons, forL, e1]
    simp only [e2, e3]
theorem loopD_of {g : Gm} {t : PT} {k : DK} {i : Nat} {body : List PS} {ρ : Sl} {S : List PO} {v : PV} {xs : List PV} {r : SR} (h0 : ρ[i]? = some (some (.p v))) (hd : ditems k v = some xs) (h : forL t (fun ρ S => evSs g body ρ S) (xs.map .p) ρ S = r) (hr : noExc r = r) : evS g (.loopD t k i body) ρ S = r := by
  simp only [evS, evIt, h0, hd, Out.toS, forI]
  rw [h, hr]
theorem it_dit {g : Gm} {k : DK} {i : Nat} {ρ : Sl} {S : List PO} {v : PV} {xs : List PV} (h0 : ρ[i]? = some (some (.p v))) (hd : ditems k v = some xs) : evIt g (.dit k i) ρ S = .ok (.l (xs.map .p)) S := by
  simp only [evIt, h0, hd]
theorem look_not {κ : Type} [DecidableEq κ] : ∀ {ks : List κ} {vs : List PV} {k : κ}, k ∉ ks → lookP ks vs k = none
  | [], _, _, _ => by simp [lookP]
  | j :: ks, [], k, _ => by simp [lookP]
  | j :: ks, v :: vs, k, h => by
    simp only [List.mem_cons, not_or] at h
    simp only [lookP]
    rw [if_neg fun z => h.1 z.symm]
    exact look_not h.2
theorem dstore_nodup {α : Type} {kp vp : α → PV} {key : α → Key} : ∀ (ks : List α) (K : List Key) (V : List PV), (K ++ ks.map key).Nodup → (∀ k ∈ ks, keyOf (kp k) = some (key k)) → dstore K V (ks.flatMap fun k => [.p (kp k), .p (vp k)]) = some (K ++ ks.map key, V ++ ks.map vp)
  | [], K, V, _, _ => by simp [dstore]
  | k :: ks, K, V, nd, hk => by
    have h1 := hk k (List.mem_cons_self ..)
    have hn : key k ∉ K := fun z => by
      rw [List.nodup_append] at nd
      exact nd.2.2 _ z _ (by simp) rfl
    have hp : putP K V (key k) (vp k) = (K ++ [key k], V ++ [vp k]) := by
      unfold putP
      rw [look_not hn]
    rw [List.flatMap_cons]
    simp only [List.cons_append, List.nil_append, dstore, asP, Option.bind_some, h1, hp]
    rw [dstore_nodup ks (K ++ [key k]) (V ++ [vp k]) (by simpa using nd) fun j hj => hk j (List.mem_cons_of_mem _ hj)]
    simp
theorem compL_flatE {α : Type} {F : EV → List PO → Out (List EV)} {f : α → PV} {h : α → List EV} {S : List PO} : ∀ ks : List α, (∀ k ∈ ks, F (.p (f k)) S = .ok (h k) S) → compL F ((ks.map f).map .p) S = .ok (ks.flatMap h) S
  | [], _ => rfl
  | x :: xs, hf => by
    rw [List.map_cons, List.map_cons, compL, hf x (List.mem_cons_self ..)]
    simp only
    rw [compL_flatE xs fun y hy => hf y (List.mem_cons_of_mem _ hy)]
    simp
theorem dcomp_of {α : Type} {g : Gm} {own : List Nat} {kx vx : PX} {tg : PT} {it : PIt} {ρ : Sl} {S : List PO} {ks : List α} {f : α → PV} (kp vp : α → PV) (key : α → Key) (hit : evIt g it ρ S = .ok (.l ((ks.map f).map .p)) S) (hl : ks.length ≤ 100000) (nd : (ks.map key).Nodup)
    (hf : ∀ k ∈ ks, ∃ ρ1, bindT tg (wipeP ρ own) (.p (f k)) = some ρ1 ∧ evE g kx ρ1 S = .ok (.p (kp k)) S ∧ evE g vx ρ1 S = .ok (.p (vp k)) S ∧ keyOf (kp k) = some (key k)) :
    evE g (.dcomp false own kx vx tg it []) ρ S = .ok (.p (.dct (ks.map key) (ks.map vp))) S := by
  have h1 := compL_flatE (F := fCd g (wipeP ρ own) kx vx tg []) (f := f) (h := fun k => [.p (kp k), .p (vp k)]) (S := S) ks fun k hk => by
    obtain ⟨ρ1, e1, e2, e3, e4⟩ := hf k hk
    unfold fCd
    simp only [e1, evTs, e2, e3, Out.bind, asP, Option.bind_some, e4]
  have h2 := dstore_nodup (kp := kp) (vp := vp) (key := key) ks [] [] (by simpa using nd) fun k hk => (hf k hk).choose_spec.2.2.2
  have h3 : ∀ ks : List α, (ks.flatMap fun k => [EV.p (kp k), EV.p (vp k)]).length = 2 * ks.length := fun ks => by
    induction ks with
    | nil => rfl
    | cons k ks ih => rw [List.flatMap_cons, List.length_append, ih, List.length_cons, List.length_cons, List.length_cons, List.length_nil]; omega
  rw [evE_dcomp]
  have h4 : evD g own kx vx tg it [] ρ S = .ok (ks.map key, ks.map vp) S := by
    unfold evD
    rw [hit]
    simp only [Out.bind, compI, h1, lenOk, h3]
    rw [if_pos (by rw [lim_eq]; omega)]
    simp only [h2, List.nil_append]
  rw [h4]
  rfl
theorem whileL_inv {c : Sl → List PO → Out Bool} {b : Sl → List PO → SR} (P : Nat → Sl → List PO → Prop) (E : Sl → List PO → Prop) (hs : ∀ k ρ S, P k ρ S → (c ρ S = .ok false S ∧ E ρ S) ∨ (c ρ S = .ok true S ∧ ∃ ρ2 S2 k2, (b ρ S = .nx ρ2 S2 ∨ b ρ S = .ct ρ2 S2) ∧ k2 < k ∧ P k2 ρ2 S2)) :
    ∀ (n k : Nat) (ρ : Sl) (S : List PO), k < n → P k ρ S → ∃ ρ' S', whileL c b n ρ S = .nx ρ' S' ∧ E ρ' S'
  | 0, k, ρ, S, h, _ => by omega
  | n + 1, k, ρ, S, h, p => by
    rcases hs k ρ S p with ⟨e1, e⟩ | ⟨e1, ρ2, S2, k2, e2, hk, p2⟩
    · exact ⟨ρ, S, by simp only [whileL, e1], e⟩
    · obtain ⟨ρ', S', e3, p'⟩ := whileL_inv P E hs n k2 ρ2 S2 (by omega) p2
      refine ⟨ρ', S', ?_, p'⟩
      rcases e2 with e2 | e2 <;> simp only [whileL, e1, e2, e3]
theorem startSl_eq (n : Nat) (args : List EV) (r : Sl) (h : r = args.map some ++ List.replicate (n - args.length) none) : startSl n args = r := h.symm
/-! ### rows and tables -/
def eL (l : List Int) : PV := .tup (l.map .int)
def eT (T : List (List Int)) : PV := .tup (T.map eL)
def en (T : List (List Int)) (i j : Nat) : Int := (T.getD i []).getD j 0
structure Sq (n : Nat) (T : List (List Int)) : Prop where
  len : T.length = n
  row : ∀ r ∈ T, r.length = n
theorem Sq.get {n : Nat} {T : List (List Int)} (h : Sq n T) {i : Nat} (hi : i < n) : (T.getD i []).length = n := by
  rw [List.getD_eq_getElem?_getD, List.getElem?_eq_getElem (by rw [h.len]; exact hi)]
  exact h.row _ (List.getElem_mem _)
theorem atI_k {α : Type} {xs : List α} {k : Nat} (h : k < xs.length) : atI xs ((k : Nat) : Int) = some xs[k] := by
  unfold atI ixN
  rw [if_pos (by omega), if_pos (by omega)]
  simp [h]
theorem ixE_L {S : List PO} {l : List Int} {k : Nat} (h : k < l.length) : ixE S (.p (eL l)) (.p (.int ((k : Nat) : Int))) = some (.p (.int (l.getD k 0))) := by
  simp only [ixE, see2, see1, see, eL, ixP]
  rw [atI_k (by rw [List.length_map]; exact h)]
  simp [List.getD_eq_getElem?_getD, List.getElem?_eq_getElem h]
theorem ixE_T {S : List PO} {T : List (List Int)} {k : Nat} (h : k < T.length) : ixE S (.p (eT T)) (.p (.int ((k : Nat) : Int))) = some (.p (eL (T.getD k []))) := by
  simp only [ixE, see2, see1, see, eT, ixP]
  rw [atI_k (by rw [List.length_map]; exact h)]
  simp [List.getD_eq_getElem?_getD, List.getElem?_eq_getElem h]
theorem len_L (l : List Int) : bi .len [eL l] = some (.int (l.length : Nat)) := by simp [bi, eL]
theorem len_T (T : List (List Int)) : bi .len [eT T] = some (.int (T.length : Nat)) := by simp [bi, eT]
theorem isa_tupL (l : List Int) : bi .isa [eL l, .ty "tuple"] = some (.bl true) := rfl
theorem isa_tupT (T : List (List Int)) : bi .isa [eT T, .ty "tuple"] = some (.bl true) := rfl
theorem allB_true {α : Type} : ∀ xs : List α, allB (xs.map fun _ => PV.bl true) = some true
  | [] => rfl
  | x :: xs => by simp [allB, tb, allB_true xs]
theorem allB_of : ∀ xs : List PV, (∀ x ∈ xs, x = .bl true) → allB xs = some true
  | [], _ => rfl
  | x :: xs, h => by
    rw [h x (List.mem_cons_self ..)]
    simp [allB, tb, allB_of xs fun y hy => h y (List.mem_cons_of_mem _ hy)]
theorem seqL (l : List Int) : seqOf (eL l) = some (l.map .int) := rfl
theorem seqT (T : List (List Int)) : seqOf (eT T) = some (T.map eL) := rfl
end Law
end Rv
end PartLC
section PartPlawk48
set_option Elab.async false
set_option linter.all false
set_option maxRecDepth 100000
set_option maxHeartbeats 0
namespace Rv
namespace Law
open PySem PySem.Spec PyProof.Rows L2
def top (i : Nat) : Stmt := PySem.Challenge.pw_turnedseeds_k48_sums_and_products.main.body.getD i (.Pass ⟨0, 0, 0, 0⟩)
def mkD (i : Nat) (x : Str) : He.DefD := ⟨(x, none), x, x, defArgs (top i), defBody (top i), defScope (top i), [], []⟩
abbrev I_is_integer : Nat := 0
abbrev I_is_between : Nat := 1
abbrev I_is_tuple_of : Nat := 2
abbrev I_are_powers : Nat := 3
abbrev I_is_pair : Nat := 4
abbrev I_is_right_poly : Nat := 5
abbrev I_poly_of : Nat := 6
abbrev I_constant : Nat := 7
abbrev I_powers_plus : Nat := 8
abbrev I_summed : Nat := 9
abbrev I_scaled : Nat := 10
abbrev I_lessened : Nat := 11
abbrev I_multiplied : Nat := 12
abbrev I_need_many : Nat := 13
abbrev I_need_poly : Nat := 14
abbrev I_need_polys : Nat := 15
abbrev I_need_short : Nat := 16
abbrev I_need_let : Nat := 17
abbrev I_is_poly : Nat := 18
abbrev I_poly_sum : Nat := 19
abbrev I_poly_less : Nat := 20
abbrev I_poly_product : Nat := 21
abbrev I_poly_power : Nat := 22
abbrev I__law_at : Nat := 23
abbrev I__law_mixed : Nat := 24
abbrev I__law_row : Nat := 25
abbrev I__law_whole : Nat := 26
abbrev I__law_whole_row : Nat := 27
abbrev I__law_poly : Nat := 28
abbrev I__law_summed : Nat := 29
abbrev I__law_drawn_poly : Nat := 30
abbrev I__law_part_one : Nat := 31
abbrev I__law_product : Nat := 32
abbrev I__law_part_two : Nat := 33
abbrev I_law : Nat := 34
abbrev C_SeedError : Nat := 0
abbrev C_NoMany : Nat := 1
abbrev C_NoPoly : Nat := 2
abbrev C_NoTimes : Nat := 3
abbrev K_MOST_LETTERS : Nat := 0
abbrev K_MOST_PAIRS : Nat := 1
abbrev K_MOST_TIMES : Nat := 2
abbrev K_MOST_POWER : Nat := 3
/-- is_integer -/
def f_is_integer : FnI := ⟨"is_integer", ["thing"], ["thing"]⟩
def b_is_integer : List PS := [.ret (.and (.bi .isa [(.var 0), (.const (.ty "int"))]) (.not (.bi .isa [(.var 0), (.const (.ty "bool"))])))]
def d_is_integer : He.DefD := mkD 8 "is_integer"
/-- is_between -/
def f_is_between : FnI := ⟨"is_between", ["thing", "least", "most"], ["thing", "least", "most"]⟩
def b_is_between : List PS := [.ret (.and (.call I_is_integer [(.var 0)]) (.chain .le .le (.var 1) (.var 0) (.var 2)))]
def d_is_between : He.DefD := mkD 9 "is_between"
/-- is_tuple_of -/
def f_is_tuple_of : FnI := ⟨"is_tuple_of", ["thing", "many"], ["thing", "many"]⟩
def b_is_tuple_of : List PS := [.ret (.and (.bi .isa [(.var 0), (.const (.ty "tuple"))]) (.cmp .eq (.bi .len [(.var 0)]) (.var 1)))]
def d_is_tuple_of : He.DefD := mkD 10 "is_tuple_of"
/-- are_powers -/
def f_are_powers : FnI := ⟨"are_powers", ["many", "thing"], ["many", "thing", "one"]⟩
def b_are_powers : List PS := [.ife (.not (.val (.call I_is_tuple_of [(.var 1), (.var 0)]))) [.ret (.const (.bl false))] [], .ret (.bi .all [(.lst (.comp [2] (.call I_is_between [(.var 2), (.neg (.cst K_MOST_POWER)), (.cst K_MOST_POWER)]) (.nm 2) (.val (.var 1)) []))])]
def d_are_powers : He.DefD := mkD 16 "are_powers"
/-- is_pair -/
def f_is_pair : FnI := ⟨"is_pair", ["many", "thing"], ["many", "thing"]⟩
def b_is_pair : List PS := [.ife (.or (.not (.val (.call I_is_tuple_of [(.var 1), (.const (.int (2)))]))) (.not (.val (.call I_are_powers [(.var 0), (.ix (.var 1) (.const (.int (0))))])))) [.ret (.const (.bl false))] [], .ret (.and (.call I_is_integer [(.ix (.var 1) (.const (.int (1))))]) (.cmp .ne (.ix (.var 1) (.const (.int (1)))) (.const (.int (0)))))]
def d_is_pair : He.DefD := mkD 17 "is_pair"
/-- is_right_poly -/
def f_is_right_poly : FnI := ⟨"is_right_poly", ["many", "thing"], ["many", "thing", "pair", "at"]⟩
def b_is_right_poly : List PS := [.ife (.or (.not (.val (.bi .isa [(.var 1), (.const (.ty "tuple"))]))) (.cmp .gt (.bi .len [(.var 1)]) (.cst K_MOST_PAIRS))) [.ret (.const (.bl false))] [], .ife (.not (.val (.bi .all [(.lst (.comp [2] (.call I_is_pair [(.var 0), (.var 2)]) (.nm 2) (.val (.var 1)) []))]))) [.ret (.const (.bl false))] [], .ret (.bi .all [(.lst (.comp [3] (.cmp .lt (.ix (.ix (.var 1) (.bin .sub (.var 3) (.const (.int (1))))) (.const (.int (0)))) (.ix (.ix (.var 1) (.var 3)) (.const (.int (0))))) (.nm 3) (.range2 (.const (.int (1))) (.bi .len [(.var 1)])) []))])]
def d_is_right_poly : He.DefD := mkD 18 "is_right_poly"
/-- poly_of -/
def f_poly_of : FnI := ⟨"poly_of", ["numbers"], ["numbers", "powers", "number"]⟩
def b_poly_of : List PS := [.ret (.bi .tuple [(.lst (.bi .sorted [(.lst (.comp [1, 2] (.tup [(.var 1), (.var 2)]) (.tup [(.nm 1), (.nm 2)]) (.dit .its 0) [(.cmp .ne (.var 2) (.const (.int (0))))]))]))])]
def d_poly_of : He.DefD := mkD 19 "poly_of"
/-- constant -/
def f_constant : FnI := ⟨"constant", ["many", "number"], ["many", "number"]⟩
def b_constant : List PS := [.ret (.ife (.cmp .ne (.var 1) (.const (.int (0)))) (.tup [(.tup [(.bin .mul (.tup [(.const (.int (0)))]) (.var 0)), (.var 1)])]) (.tup []))]
def d_constant : He.DefD := mkD 20 "constant"
/-- powers_plus -/
def f_powers_plus : FnI := ⟨"powers_plus", ["powers", "more"], ["powers", "more", "one", "other"]⟩
def b_powers_plus : List PS := [.ret (.bi .tuple [(.lst (.comp [2, 3] (.bin .add (.var 2) (.var 3)) (.tup [(.nm 2), (.nm 3)]) (.zip [(.var 0), (.var 1)]) []))])]
def d_powers_plus : He.DefD := mkD 21 "powers_plus"
/-- summed -/
def f_summed : FnI := ⟨"summed", ["one", "other"], ["one", "other", "numbers", "powers", "number"]⟩
def b_summed : List PS := [.asg (.nm 2) (.dcompT true [3, 4] (.var 3) (.var 4) (.tup [(.nm 3), (.nm 4)]) (.val (.var 0)) []), .loop (.tup [(.nm 3), (.nm 4)]) (.val (.var 1)) [.setIx (.var 2) (.var 3) (.bin .add (.get2 (.var 2) (.var 3) (.const (.int (0)))) (.var 4))], .ret (.call I_poly_of [(.var 2)])]
def d_summed : He.DefD := mkD 22 "summed"
/-- scaled -/
def f_scaled : FnI := ⟨"scaled", ["one", "number"], ["one", "number", "powers", "here"]⟩
def b_scaled : List PS := [.ret (.ife (.cmp .ne (.var 1) (.const (.int (0)))) (.bi .tuple [(.lst (.comp [2, 3] (.tup [(.var 2), (.bin .mul (.var 1) (.var 3))]) (.tup [(.nm 2), (.nm 3)]) (.val (.var 0)) []))]) (.tup []))]
def d_scaled : He.DefD := mkD 23 "scaled"
/-- lessened -/
def f_lessened : FnI := ⟨"lessened", ["one", "other"], ["one", "other"]⟩
def b_lessened : List PS := [.ret (.call I_summed [(.var 0), (.call I_scaled [(.var 1), (.neg (.const (.int (1))))])])]
def d_lessened : He.DefD := mkD 24 "lessened"
/-- multiplied -/
def f_multiplied : FnI := ⟨"multiplied", ["one", "other"], ["one", "other", "numbers", "powers", "number", "more", "here", "both"]⟩
def b_multiplied : List PS := [.asg (.nm 2) (.dnew true), .loop (.tup [(.nm 3), (.nm 4)]) (.val (.var 0)) [.loop (.tup [(.nm 5), (.nm 6)]) (.val (.var 1)) [.asg (.nm 7) (.call I_powers_plus [(.var 3), (.var 5)]), .setIx (.var 2) (.var 7) (.bin .add (.get2 (.var 2) (.var 7) (.const (.int (0)))) (.bin .mul (.var 4) (.var 6)))]], .ret (.call I_poly_of [(.var 2)])]
def d_multiplied : He.DefD := mkD 25 "multiplied"
/-- need_many -/
def f_need_many : FnI := ⟨"need_many", ["many"], ["many"]⟩
def b_need_many : List PS := [.ife (.not (.val (.call I_is_between [(.var 0), (.const (.int (1))), (.cst K_MOST_LETTERS)]))) [.raise C_NoMany] []]
def d_need_many : He.DefD := mkD 26 "need_many"
/-- need_poly -/
def f_need_poly : FnI := ⟨"need_poly", ["many", "thing"], ["many", "thing"]⟩
def b_need_poly : List PS := [.ife (.not (.val (.call I_is_right_poly [(.var 0), (.var 1)]))) [.raise C_NoPoly] []]
def d_need_poly : He.DefD := mkD 27 "need_poly"
/-- need_polys -/
def f_need_polys : FnI := ⟨"need_polys", ["many", "one", "other"], ["many", "one", "other"]⟩
def b_need_polys : List PS := [.expr (.call I_need_many [(.var 0)]), .expr (.call I_need_poly [(.var 0), (.var 1)]), .expr (.call I_need_poly [(.var 0), (.var 2)])]
def d_need_polys : He.DefD := mkD 28 "need_polys"
/-- need_short -/
def f_need_short : FnI := ⟨"need_short", ["poly", "most"], ["poly", "most"]⟩
def b_need_short : List PS := [.ife (.cmp .gt (.bi .len [(.var 0)]) (.var 1)) [.never] [], .ret (.var 0)]
def d_need_short : He.DefD := mkD 29 "need_short"
/-- need_let -/
def f_need_let : FnI := ⟨"need_let", ["poly"], ["poly", "powers", "_"]⟩
def b_need_let : List PS := [.expr (.call I_need_short [(.var 0), (.cst K_MOST_PAIRS)]), .loop (.tup [(.nm 1), (.nm 2)]) (.val (.var 0)) [.ife (.or (.cmp .gt (.bi .max1 [(.var 1)]) (.cst K_MOST_POWER)) (.cmp .lt (.bi .min1 [(.var 1)]) (.neg (.cst K_MOST_POWER)))) [.never] []], .ret (.var 0)]
def d_need_let : He.DefD := mkD 30 "need_let"
/-- is_poly -/
def f_is_poly : FnI := ⟨"is_poly", ["many", "thing"], ["many", "thing"]⟩
def b_is_poly : List PS := [.expr (.call I_need_many [(.var 0)]), .ret (.call I_is_right_poly [(.var 0), (.var 1)])]
def d_is_poly : He.DefD := mkD 31 "is_poly"
/-- poly_sum -/
def f_poly_sum : FnI := ⟨"poly_sum", ["many", "one", "other"], ["many", "one", "other"]⟩
def b_poly_sum : List PS := [.expr (.call I_need_polys [(.var 0), (.var 1), (.var 2)]), .ret (.call I_need_let [(.call I_summed [(.var 1), (.var 2)])])]
def d_poly_sum : He.DefD := mkD 32 "poly_sum"
/-- poly_less -/
def f_poly_less : FnI := ⟨"poly_less", ["many", "one", "other"], ["many", "one", "other"]⟩
def b_poly_less : List PS := [.expr (.call I_need_polys [(.var 0), (.var 1), (.var 2)]), .ret (.call I_need_let [(.call I_lessened [(.var 1), (.var 2)])])]
def d_poly_less : He.DefD := mkD 33 "poly_less"
/-- poly_product -/
def f_poly_product : FnI := ⟨"poly_product", ["many", "one", "other"], ["many", "one", "other"]⟩
def b_poly_product : List PS := [.expr (.call I_need_polys [(.var 0), (.var 1), (.var 2)]), .ret (.call I_need_let [(.call I_multiplied [(.var 1), (.var 2)])])]
def d_poly_product : He.DefD := mkD 34 "poly_product"
/-- poly_power -/
def f_poly_power : FnI := ⟨"poly_power", ["many", "one", "times"], ["many", "one", "times", "found", "_"]⟩
def b_poly_power : List PS := [.expr (.call I_need_many [(.var 0)]), .expr (.call I_need_poly [(.var 0), (.var 1)]), .ife (.not (.val (.call I_is_between [(.var 2), (.const (.int (0))), (.cst K_MOST_TIMES)]))) [.raise C_NoTimes] [], .asg (.nm 3) (.call I_constant [(.var 0), (.const (.int (1)))]), .loop (.nm 4) (.range1 (.var 2)) [.asg (.nm 3) (.call I_need_let [(.call I_multiplied [(.var 3), (.var 1)])])], .ret (.var 3)]
def d_poly_power : He.DefD := mkD 35 "poly_power"
/-- _law_at -/
def f__law_at : FnI := ⟨"_law_at", ["script", "k"], ["script", "k"]⟩
def b__law_at : List PS := [.ife (.cmp .lt (.var 1) (.bi .len [(.var 0)])) [.ret (.bi .int [(.ix (.var 0) (.var 1))])] [], .ret (.bin .add (.const (.int (5))) (.bin .mul (.const (.int (3))) (.var 1)))]
def d__law_at : He.DefD := mkD 37 "_law_at"
/-- _law_mixed -/
def f__law_mixed : FnI := ⟨"_law_mixed", ["cell", "k"], ["cell", "k", "first"]⟩
def b__law_mixed : List PS := [.asg (.nm 2) (.bin .add (.bin .add (.bin .mul (.bi .int [(.var 0)]) (.const (.int (48271)))) (.bin .mul (.var 1) (.const (.int (69621))))) (.const (.int (11)))), .ret (.bin .mod (.bi .int [(.bin .add (.bin .mul (.var 2) (.const (.int (16807)))) (.bin .fdiv (.var 2) (.const (.int (8191)))))]) (.const (.int (2147483647))))]
def d__law_mixed : He.DefD := mkD 38 "_law_mixed"
/-- _law_row -/
def f__law_row : FnI := ⟨"_law_row", ["cell", "many", "top"], ["cell", "many", "top", "found", "left", "great", "k"]⟩
def b__law_row : List PS := [.asg (.nm 3) (.mut (.disp [])), .asg (.nm 4) (.bi .int [(.var 0)]), .asg (.nm 5) (.cmp .ge (.var 4) (.const (.int (1000000000000000000)))), .loop (.nm 6) (.range1 (.var 1)) [.ife (.val (.var 5)) [.expr (.meth .append (.var 3) [(.bin .mod (.bi .int [(.var 4)]) (.var 2))]), .asg (.nm 4) (.bin .fdiv (.var 4) (.var 2))] [.expr (.meth .append (.var 3) [(.bin .mod (.bin .fdiv (.call I__law_mixed [(.var 0), (.var 6)]) (.const (.int (7)))) (.var 2))])]], .ret (.var 3)]
def d__law_row : He.DefD := mkD 39 "_law_row"
/-- _law_whole -/
def f__law_whole : FnI := ⟨"_law_whole", ["found"], ["found"]⟩
def b__law_whole : List PS := [.ret (.and (.bi .isa [(.var 0), (.const (.ty "int"))]) (.not (.bi .isa [(.var 0), (.const (.ty "bool"))])))]
def d__law_whole : He.DefD := mkD 40 "_law_whole"
/-- _law_whole_row -/
def f__law_whole_row : FnI := ⟨"_law_whole_row", ["found", "many"], ["found", "many", "one"]⟩
def b__law_whole_row : List PS := [.ife (.or (.not (.val (.bi .isa [(.var 0), (.const (.ty "tuple"))]))) (.cmp .ne (.bi .len [(.var 0)]) (.var 1))) [.ret (.const (.bl false))] [], .ret (.bi .all [(.lst (.comp [2] (.call I__law_whole [(.var 2)]) (.nm 2) (.val (.var 0)) []))])]
def d__law_whole_row : He.DefD := mkD 41 "_law_whole_row"
/-- _law_poly -/
def f__law_poly : FnI := ⟨"_law_poly", ["found", "many"], ["found", "many", "pair", "k"]⟩
def b__law_poly : List PS := [.ife (.not (.val (.bi .isa [(.var 0), (.const (.ty "tuple"))]))) [.ret (.const (.bl false))] [], .loop (.nm 2) (.val (.var 0)) [.ife (.or (.not (.val (.bi .isa [(.var 2), (.const (.ty "tuple"))]))) (.cmp .ne (.bi .len [(.var 2)]) (.const (.int (2))))) [.ret (.const (.bl false))] [], .ife (.or (.not (.val (.call I__law_whole_row [(.ix (.var 2) (.const (.int (0)))), (.var 1)]))) (.or (.not (.val (.call I__law_whole [(.ix (.var 2) (.const (.int (1))))]))) (.cmp .eq (.ix (.var 2) (.const (.int (1)))) (.const (.int (0)))))) [.ret (.const (.bl false))] []], .ret (.bi .all [(.lst (.comp [3] (.cmp .lt (.ix (.ix (.var 0) (.bin .sub (.var 3) (.const (.int (1))))) (.const (.int (0)))) (.ix (.ix (.var 0) (.var 3)) (.const (.int (0))))) (.nm 3) (.range2 (.const (.int (1))) (.bi .len [(.var 0)])) []))])]
def d__law_poly : He.DefD := mkD 42 "_law_poly"
/-- _law_summed -/
def f__law_summed : FnI := ⟨"_law_summed", ["pairs"], ["pairs", "told", "pair", "found", "powers"]⟩
def b__law_summed : List PS := [.asg (.nm 1) (.dnew true), .loop (.nm 2) (.val (.var 0)) [.setIx (.var 1) (.ix (.var 2) (.const (.int (0)))) (.bin .add (.get2 (.var 1) (.ix (.var 2) (.const (.int (0)))) (.const (.int (0)))) (.ix (.var 2) (.const (.int (1)))))], .asg (.nm 3) (.mut (.disp [])), .loop (.nm 4) (.val (.lst (.bi .sorted [(.var 1)]))) [.ife (.cmp .ne (.ix (.var 1) (.var 4)) (.const (.int (0)))) [.expr (.meth .append (.var 3) [(.tup [(.var 4), (.ix (.var 1) (.var 4))])])] []], .ret (.bi .tuple [(.var 3)])]
def d__law_summed : He.DefD := mkD 43 "_law_summed"
/-- _law_drawn_poly -/
def f__law_drawn_poly : FnI := ⟨"_law_drawn_poly", ["cell", "many", "most", "spread"], ["cell", "many", "most", "spread", "size", "digits", "pairs", "at", "here", "one"]⟩
def b__law_drawn_poly : List PS := [.asg (.nm 4) (.ix (.call I__law_row [(.var 0), (.const (.int (1))), (.bin .add (.var 2) (.const (.int (1))))]) (.const (.int (0)))), .asg (.nm 5) (.call I__law_row [(.bin .add (.bin .fdiv (.bi .int [(.var 0)]) (.const (.int (3)))) (.const (.int (1)))), (.bin .mul (.var 4) (.bin .add (.var 1) (.const (.int (1))))), (.bin .add (.bin .mul (.const (.int (2))) (.var 3)) (.const (.int (1))))]), .asg (.nm 6) (.mut (.disp [])), .loop (.nm 7) (.range1 (.var 4)) [.asg (.nm 8) (.lst (.sl (.var 5) (some (.bin .mul (.var 7) (.bin .add (.var 1) (.const (.int (1)))))) (some (.bin .mul (.bin .add (.var 7) (.const (.int (1)))) (.bin .add (.var 1) (.const (.int (1)))))))), .expr (.meth .append (.var 6) [(.tup [(.bi .tuple [(.lst (.comp [9] (.bin .sub (.var 9) (.var 3)) (.nm 9) (.val (.lst (.sl (.var 8) none (some (.var 1))))) []))]), (.bin .sub (.ix (.var 8) (.var 1)) (.var 3))])])], .ret (.call I__law_summed [(.var 6)])]
def d__law_drawn_poly : He.DefD := mkD 44 "_law_drawn_poly"
/-- _law_part_one -/
def f__law_part_one : FnI := ⟨"_law_part_one", ["script"], ["script", "many", "one", "other", "minus", "pair", "found", "less", "k"]⟩
def b__law_part_one : List PS := [.asg (.nm 1) (.bin .add (.const (.int (1))) (.ix (.call I__law_row [(.call I__law_at [(.var 0), (.const (.int (0)))]), (.const (.int (1))), (.const (.int (6)))]) (.const (.int (0))))), .asg (.nm 2) (.call I__law_drawn_poly [(.call I__law_at [(.var 0), (.const (.int (1)))]), (.var 1), (.const (.int (9))), (.const (.int (6)))]), .asg (.nm 3) (.call I__law_drawn_poly [(.call I__law_at [(.var 0), (.const (.int (2)))]), (.var 1), (.const (.int (9))), (.const (.int (6)))]), .asg (.nm 4) (.bi .tuple [(.lst (.comp [5] (.tup [(.ix (.var 5) (.const (.int (0)))), (.bin .sub (.const (.int (0))) (.ix (.var 5) (.const (.int (1)))))]) (.nm 5) (.val (.var 2)) []))]), .ife (.cmp .eq (.ix (.call I__law_row [(.call I__law_at [(.var 0), (.const (.int (3)))]), (.const (.int (1))), (.const (.int (3)))]) (.const (.int (0)))) (.const (.int (0)))) [.asg (.nm 3) (.var 4)] [], .ife (.cmp .eq (.ix (.call I__law_row [(.call I__law_at [(.var 0), (.const (.int (3)))]), (.const (.int (1))), (.const (.int (3)))]) (.const (.int (0)))) (.const (.int (1)))) [.asg (.nm 3) (.call I__law_summed [(.lst (.bin .add (.lst (.bi .list [(.var 3)])) (.lst (.bi .list [(.sl (.var 4) none (some (.const (.int (2)))))]))))])] [], .asg (.nm 6) (.call I_poly_sum [(.var 1), (.var 2), (.var 3)]), .asg (.nm 7) (.call I_poly_less [(.var 1), (.var 3), (.var 2)]), .ife (.or (.not (.val (.call I__law_poly [(.var 6), (.var 1)]))) (.not (.val (.call I__law_poly [(.var 7), (.var 1)])))) [.ret (.const (.bl false))] [], .ife (.or (.cmp .ne (.var 6) (.call I__law_summed [(.lst (.bin .add (.lst (.bi .list [(.var 2)])) (.lst (.bi .list [(.var 3)]))))])) (.cmp .ne (.var 7) (.call I__law_summed [(.lst (.bin .add (.lst (.bi .list [(.var 3)])) (.lst (.bi .list [(.var 4)]))))]))) [.ret (.const (.bl false))] [], .ife (.or (.cmp .isnot (.call I_is_poly [(.var 1), (.var 6)]) (.const (.bl true))) (.cmp .isnot (.call I_is_poly [(.var 1), (.bin .add (.var 6) (.tup [(.tup [(.bi .tuple [(.lst (.comp [8] (.const (.int (0))) (.nm 8) (.range1 (.var 1)) []))]), (.const (.int (0)))])]))]) (.const (.bl false)))) [.ret (.const (.bl false))] [], .ret (.and (.cmp .eq (.call I_poly_sum [(.var 1), (.var 2), (.var 7)]) (.var 3)) (.cmp .eq (.call I_poly_sum [(.var 1), (.var 2), (.var 3)]) (.var 6)))]
def d__law_part_one : He.DefD := mkD 45 "_law_part_one"
/-- _law_product -/
def f__law_product : FnI := ⟨"_law_product", ["one", "other"], ["one", "other", "pairs", "pair", "more", "powers", "k"]⟩
def b__law_product : List PS := [.asg (.nm 2) (.mut (.disp [])), .loop (.nm 3) (.val (.var 0)) [.loop (.nm 4) (.val (.var 1)) [.asg (.nm 5) (.bi .tuple [(.lst (.comp [6] (.bin .add (.ix (.ix (.var 3) (.const (.int (0)))) (.var 6)) (.ix (.ix (.var 4) (.const (.int (0)))) (.var 6))) (.nm 6) (.range1 (.bi .len [(.ix (.var 3) (.const (.int (0))))])) []))]), .expr (.meth .append (.var 2) [(.tup [(.var 5), (.bin .mul (.ix (.var 3) (.const (.int (1)))) (.ix (.var 4) (.const (.int (1)))))])])]], .ret (.call I__law_summed [(.var 2)])]
def d__law_product : He.DefD := mkD 46 "_law_product"
/-- _law_part_two -/
def f__law_part_two : FnI := ⟨"_law_part_two", ["script"], ["script", "many", "one", "other", "found", "small", "due", "k", "times", "told"]⟩
def b__law_part_two : List PS := [.asg (.nm 1) (.bin .add (.const (.int (1))) (.ix (.call I__law_row [(.call I__law_at [(.var 0), (.const (.int (0)))]), (.const (.int (1))), (.const (.int (6)))]) (.const (.int (0))))), .asg (.nm 2) (.call I__law_drawn_poly [(.call I__law_at [(.var 0), (.const (.int (1)))]), (.var 1), (.const (.int (8))), (.const (.int (5)))]), .asg (.nm 3) (.call I__law_drawn_poly [(.call I__law_at [(.var 0), (.const (.int (2)))]), (.var 1), (.const (.int (8))), (.const (.int (5)))]), .asg (.nm 4) (.call I_poly_product [(.var 1), (.var 2), (.var 3)]), .ife (.or (.not (.val (.call I__law_poly [(.var 4), (.var 1)]))) (.cmp .ne (.var 4) (.call I__law_product [(.var 2), (.var 3)]))) [.ret (.const (.bl false))] [], .ife (.cmp .ne (.call I_poly_product [(.var 1), (.var 3), (.var 2)]) (.var 4)) [.ret (.const (.bl false))] [], .asg (.nm 5) (.sl (.var 2) none (some (.const (.int (3))))), .asg (.nm 6) (.tup [(.tup [(.bi .tuple [(.lst (.comp [7] (.const (.int (0))) (.nm 7) (.range1 (.var 1)) []))]), (.const (.int (1)))])]), .loop (.nm 8) (.range1 (.const (.int (5)))) [.asg (.nm 9) (.call I_poly_power [(.var 1), (.var 5), (.var 8)]), .ife (.or (.not (.val (.call I__law_poly [(.var 9), (.var 1)]))) (.cmp .ne (.var 9) (.var 6))) [.ret (.const (.bl false))] [], .asg (.nm 6) (.call I__law_product [(.var 6), (.var 5)])], .ret (.const (.bl true))]
def d__law_part_two : He.DefD := mkD 47 "_law_part_two"
/-- law -/
def f_law : FnI := ⟨"law", ["script"], ["script"]⟩
def b_law : List PS := [.ret (.and (.call I__law_part_one [(.var 0)]) (.call I__law_part_two [(.lst (.bin .add (.lst (.rev (.var 0))) (.lst (.sl (.var 0) none (some (.const (.int (3))))))))]))]
def d_law : He.DefD := mkD 48 "law"
def fn : List He.DefD := [d_is_integer, d_is_between, d_is_tuple_of, d_are_powers, d_is_pair, d_is_right_poly, d_poly_of, d_constant, d_powers_plus, d_summed, d_scaled, d_lessened, d_multiplied, d_need_many, d_need_poly, d_need_polys, d_need_short, d_need_let, d_is_poly, d_poly_sum] ++ [d_poly_less, d_poly_product, d_poly_power, d__law_at, d__law_mixed, d__law_row, d__law_whole, d__law_whole_row, d__law_poly, d__law_summed, d__law_drawn_poly, d__law_part_one, d__law_product, d__law_part_two, d_law]
def fnsL : List FnI := [f_is_integer, f_is_between, f_is_tuple_of, f_are_powers, f_is_pair, f_is_right_poly, f_poly_of, f_constant, f_powers_plus, f_summed, f_scaled, f_lessened, f_multiplied, f_need_many, f_need_poly, f_need_polys, f_need_short, f_need_let, f_is_poly, f_poly_sum] ++ [f_poly_less, f_poly_product, f_poly_power, f__law_at, f__law_mixed, f__law_row, f__law_whole, f__law_whole_row, f__law_poly, f__law_summed, f__law_drawn_poly, f__law_part_one, f__law_product, f__law_part_two, f_law]
def bs : List (List PS) := [b_is_integer, b_is_between, b_is_tuple_of, b_are_powers, b_is_pair, b_is_right_poly, b_poly_of, b_constant, b_powers_plus, b_summed, b_scaled, b_lessened, b_multiplied, b_need_many, b_need_poly, b_need_polys, b_need_short, b_need_let, b_is_poly, b_poly_sum] ++ [b_poly_less, b_poly_product, b_poly_power, b__law_at, b__law_mixed, b__law_row, b__law_whole, b__law_whole_row, b__law_poly, b__law_summed, b__law_drawn_poly, b__law_part_one, b__law_product, b__law_part_two, b_law]
def clsL : List ClI := [⟨"SeedError", []⟩, ⟨"NoMany", []⟩, ⟨"NoPoly", []⟩, ⟨"NoTimes", []⟩]
def subL : List (List Bool) := [[true, false, false, false], [true, true, false, false], [true, false, true, false], [true, false, false, true]]
def freeL : List Str := ["all", "bool", "int", "isinstance", "len", "list", "max", "min", "range", "sorted", "tuple", "zip"]
def cstL : List (Str × PV) := [("MOST_LETTERS", .int (6)), ("MOST_PAIRS", .int (4000)), ("MOST_TIMES", .int (12)), ("MOST_POWER", .int (10000))]
def G : Gm := { fns := fnsL, cls := clsL, free := freeL, csts := cstL, sub := fun i j => (subL.getD i []).getD j false, call := fun _ _ _ => .stuck, hot := fun i => decide (i ∈ ([] : List Nat)), bfs := [] }
theorem t_is_integer : FnT G bs fn 0 f_is_integer := ⟨d_is_integer, b_is_integer, rfl, rfl, rfl, rfl, ⟨rfl, rfl, rfl, by decide +kernel, rfl, by decide +kernel, by decide +kernel⟩, rfl, fun x kV doc pm an cdv ct us hl => (match us, hl with | [_], _ => rfl), fun d => by kernel_rfl, fun hh => absurd hh (by decide)⟩
theorem t_is_between : FnT G bs fn 1 f_is_between := ⟨d_is_between, b_is_between, rfl, rfl, rfl, rfl, ⟨rfl, rfl, rfl, by decide +kernel, rfl, by decide +kernel, by decide +kernel⟩, rfl, fun x kV doc pm an cdv ct us hl => (match us, hl with | [_, _, _], _ => rfl), fun d => by kernel_rfl, fun hh => absurd hh (by decide)⟩
theorem t_is_tuple_of : FnT G bs fn 2 f_is_tuple_of := ⟨d_is_tuple_of, b_is_tuple_of, rfl, rfl, rfl, rfl, ⟨rfl, rfl, rfl, by decide +kernel, rfl, by decide +kernel, by decide +kernel⟩, rfl, fun x kV doc pm an cdv ct us hl => (match us, hl with | [_, _], _ => rfl), fun d => by kernel_rfl, fun hh => absurd hh (by decide)⟩
theorem t_are_powers : FnT G bs fn 3 f_are_powers := ⟨d_are_powers, b_are_powers, rfl, rfl, rfl, rfl, ⟨rfl, rfl, rfl, by decide +kernel, rfl, by decide +kernel, by decide +kernel⟩, rfl, fun x kV doc pm an cdv ct us hl => (match us, hl with | [_, _], _ => rfl), fun d => by kernel_rfl, fun hh => absurd hh (by decide)⟩
theorem t_is_pair : FnT G bs fn 4 f_is_pair := ⟨d_is_pair, b_is_pair, rfl, rfl, rfl, rfl, ⟨rfl, rfl, rfl, by decide +kernel, rfl, by decide +kernel, by decide +kernel⟩, rfl, fun x kV doc pm an cdv ct us hl => (match us, hl with | [_, _], _ => rfl), fun d => by kernel_rfl, fun hh => absurd hh (by decide)⟩
theorem t_is_right_poly : FnT G bs fn 5 f_is_right_poly := ⟨d_is_right_poly, b_is_right_poly, rfl, rfl, rfl, rfl, ⟨rfl, rfl, rfl, by decide +kernel, rfl, by decide +kernel, by decide +kernel⟩, rfl, fun x kV doc pm an cdv ct us hl => (match us, hl with | [_, _], _ => rfl), fun d => by kernel_rfl, fun hh => absurd hh (by decide)⟩
theorem t_poly_of : FnT G bs fn 6 f_poly_of := ⟨d_poly_of, b_poly_of, rfl, rfl, rfl, rfl, ⟨rfl, rfl, rfl, by decide +kernel, rfl, by decide +kernel, by decide +kernel⟩, rfl, fun x kV doc pm an cdv ct us hl => (match us, hl with | [_], _ => rfl), fun d => by kernel_rfl, fun hh => absurd hh (by decide)⟩
theorem t_constant : FnT G bs fn 7 f_constant := ⟨d_constant, b_constant, rfl, rfl, rfl, rfl, ⟨rfl, rfl, rfl, by decide +kernel, rfl, by decide +kernel, by decide +kernel⟩, rfl, fun x kV doc pm an cdv ct us hl => (match us, hl with | [_, _], _ => rfl), fun d => by kernel_rfl, fun hh => absurd hh (by decide)⟩
theorem t_powers_plus : FnT G bs fn 8 f_powers_plus := ⟨d_powers_plus, b_powers_plus, rfl, rfl, rfl, rfl, ⟨rfl, rfl, rfl, by decide +kernel, rfl, by decide +kernel, by decide +kernel⟩, rfl, fun x kV doc pm an cdv ct us hl => (match us, hl with | [_, _], _ => rfl), fun d => by kernel_rfl, fun hh => absurd hh (by decide)⟩
theorem t_summed : FnT G bs fn 9 f_summed := ⟨d_summed, b_summed, rfl, rfl, rfl, rfl, ⟨rfl, rfl, rfl, by decide +kernel, rfl, by decide +kernel, by decide +kernel⟩, rfl, fun x kV doc pm an cdv ct us hl => (match us, hl with | [_, _], _ => rfl), fun d => by kernel_rfl, fun hh => absurd hh (by decide)⟩
theorem t_scaled : FnT G bs fn 10 f_scaled := ⟨d_scaled, b_scaled, rfl, rfl, rfl, rfl, ⟨rfl, rfl, rfl, by decide +kernel, rfl, by decide +kernel, by decide +kernel⟩, rfl, fun x kV doc pm an cdv ct us hl => (match us, hl with | [_, _], _ => rfl), fun d => by kernel_rfl, fun hh => absurd hh (by decide)⟩
theorem t_lessened : FnT G bs fn 11 f_lessened := ⟨d_lessened, b_lessened, rfl, rfl, rfl, rfl, ⟨rfl, rfl, rfl, by decide +kernel, rfl, by decide +kernel, by decide +kernel⟩, rfl, fun x kV doc pm an cdv ct us hl => (match us, hl with | [_, _], _ => rfl), fun d => by kernel_rfl, fun hh => absurd hh (by decide)⟩
theorem t_multiplied : FnT G bs fn 12 f_multiplied := ⟨d_multiplied, b_multiplied, rfl, rfl, rfl, rfl, ⟨rfl, rfl, rfl, by decide +kernel, rfl, by decide +kernel, by decide +kernel⟩, rfl, fun x kV doc pm an cdv ct us hl => (match us, hl with | [_, _], _ => rfl), fun d => by kernel_rfl, fun hh => absurd hh (by decide)⟩
theorem t_need_many : FnT G bs fn 13 f_need_many := ⟨d_need_many, b_need_many, rfl, rfl, rfl, rfl, ⟨rfl, rfl, rfl, by decide +kernel, rfl, by decide +kernel, by decide +kernel⟩, rfl, fun x kV doc pm an cdv ct us hl => (match us, hl with | [_], _ => rfl), fun d => by kernel_rfl, fun hh => absurd hh (by decide)⟩
theorem t_need_poly : FnT G bs fn 14 f_need_poly := ⟨d_need_poly, b_need_poly, rfl, rfl, rfl, rfl, ⟨rfl, rfl, rfl, by decide +kernel, rfl, by decide +kernel, by decide +kernel⟩, rfl, fun x kV doc pm an cdv ct us hl => (match us, hl with | [_, _], _ => rfl), fun d => by kernel_rfl, fun hh => absurd hh (by decide)⟩
theorem t_need_polys : FnT G bs fn 15 f_need_polys := ⟨d_need_polys, b_need_polys, rfl, rfl, rfl, rfl, ⟨rfl, rfl, rfl, by decide +kernel, rfl, by decide +kernel, by decide +kernel⟩, rfl, fun x kV doc pm an cdv ct us hl => (match us, hl with | [_, _, _], _ => rfl), fun d => by kernel_rfl, fun hh => absurd hh (by decide)⟩
theorem t_need_short : FnT G bs fn 16 f_need_short := ⟨d_need_short, b_need_short, rfl, rfl, rfl, rfl, ⟨rfl, rfl, rfl, by decide +kernel, rfl, by decide +kernel, by decide +kernel⟩, rfl, fun x kV doc pm an cdv ct us hl => (match us, hl with | [_, _], _ => rfl), fun d => by kernel_rfl, fun hh => absurd hh (by decide)⟩
theorem t_need_let : FnT G bs fn 17 f_need_let := ⟨d_need_let, b_need_let, rfl, rfl, rfl, rfl, ⟨rfl, rfl, rfl, by decide +kernel, rfl, by decide +kernel, by decide +kernel⟩, rfl, fun x kV doc pm an cdv ct us hl => (match us, hl with | [_], _ => rfl), fun d => by kernel_rfl, fun hh => absurd hh (by decide)⟩
theorem t_is_poly : FnT G bs fn 18 f_is_poly := ⟨d_is_poly, b_is_poly, rfl, rfl, rfl, rfl, ⟨rfl, rfl, rfl, by decide +kernel, rfl, by decide +kernel, by decide +kernel⟩, rfl, fun x kV doc pm an cdv ct us hl => (match us, hl with | [_, _], _ => rfl), fun d => by kernel_rfl, fun hh => absurd hh (by decide)⟩
theorem t_poly_sum : FnT G bs fn 19 f_poly_sum := ⟨d_poly_sum, b_poly_sum, rfl, rfl, rfl, rfl, ⟨rfl, rfl, rfl, by decide +kernel, rfl, by decide +kernel, by decide +kernel⟩, rfl, fun x kV doc pm an cdv ct us hl => (match us, hl with | [_, _, _], _ => rfl), fun d => by kernel_rfl, fun hh => absurd hh (by decide)⟩
theorem t_poly_less : FnT G bs fn 20 f_poly_less := ⟨d_poly_less, b_poly_less, rfl, rfl, rfl, rfl, ⟨rfl, rfl, rfl, by decide +kernel, rfl, by decide +kernel, by decide +kernel⟩, rfl, fun x kV doc pm an cdv ct us hl => (match us, hl with | [_, _, _], _ => rfl), fun d => by kernel_rfl, fun hh => absurd hh (by decide)⟩
theorem t_poly_product : FnT G bs fn 21 f_poly_product := ⟨d_poly_product, b_poly_product, rfl, rfl, rfl, rfl, ⟨rfl, rfl, rfl, by decide +kernel, rfl, by decide +kernel, by decide +kernel⟩, rfl, fun x kV doc pm an cdv ct us hl => (match us, hl with | [_, _, _], _ => rfl), fun d => by kernel_rfl, fun hh => absurd hh (by decide)⟩
theorem t_poly_power : FnT G bs fn 22 f_poly_power := ⟨d_poly_power, b_poly_power, rfl, rfl, rfl, rfl, ⟨rfl, rfl, rfl, by decide +kernel, rfl, by decide +kernel, by decide +kernel⟩, rfl, fun x kV doc pm an cdv ct us hl => (match us, hl with | [_, _, _], _ => rfl), fun d => by kernel_rfl, fun hh => absurd hh (by decide)⟩
theorem t__law_at : FnT G bs fn 23 f__law_at := ⟨d__law_at, b__law_at, rfl, rfl, rfl, rfl, ⟨rfl, rfl, rfl, by decide +kernel, rfl, by decide +kernel, by decide +kernel⟩, rfl, fun x kV doc pm an cdv ct us hl => (match us, hl with | [_, _], _ => rfl), fun d => by kernel_rfl, fun hh => absurd hh (by decide)⟩
theorem t__law_mixed : FnT G bs fn 24 f__law_mixed := ⟨d__law_mixed, b__law_mixed, rfl, rfl, rfl, rfl, ⟨rfl, rfl, rfl, by decide +kernel, rfl, by decide +kernel, by decide +kernel⟩, rfl, fun x kV doc pm an cdv ct us hl => (match us, hl with | [_, _], _ => rfl), fun d => by kernel_rfl, fun hh => absurd hh (by decide)⟩
theorem t__law_row : FnT G bs fn 25 f__law_row := ⟨d__law_row, b__law_row, rfl, rfl, rfl, rfl, ⟨rfl, rfl, rfl, by decide +kernel, rfl, by decide +kernel, by decide +kernel⟩, rfl, fun x kV doc pm an cdv ct us hl => (match us, hl with | [_, _, _], _ => rfl), fun d => by kernel_rfl, fun hh => absurd hh (by decide)⟩
theorem t__law_whole : FnT G bs fn 26 f__law_whole := ⟨d__law_whole, b__law_whole, rfl, rfl, rfl, rfl, ⟨rfl, rfl, rfl, by decide +kernel, rfl, by decide +kernel, by decide +kernel⟩, rfl, fun x kV doc pm an cdv ct us hl => (match us, hl with | [_], _ => rfl), fun d => by kernel_rfl, fun hh => absurd hh (by decide)⟩
theorem t__law_whole_row : FnT G bs fn 27 f__law_whole_row := ⟨d__law_whole_row, b__law_whole_row, rfl, rfl, rfl, rfl, ⟨rfl, rfl, rfl, by decide +kernel, rfl, by decide +kernel, by decide +kernel⟩, rfl, fun x kV doc pm an cdv ct us hl => (match us, hl with | [_, _], _ => rfl), fun d => by kernel_rfl, fun hh => absurd hh (by decide)⟩
theorem t__law_poly : FnT G bs fn 28 f__law_poly := ⟨d__law_poly, b__law_poly, rfl, rfl, rfl, rfl, ⟨rfl, rfl, rfl, by decide +kernel, rfl, by decide +kernel, by decide +kernel⟩, rfl, fun x kV doc pm an cdv ct us hl => (match us, hl with | [_, _], _ => rfl), fun d => by kernel_rfl, fun hh => absurd hh (by decide)⟩
theorem t__law_summed : FnT G bs fn 29 f__law_summed := ⟨d__law_summed, b__law_summed, rfl, rfl, rfl, rfl, ⟨rfl, rfl, rfl, by decide +kernel, rfl, by decide +kernel, by decide +kernel⟩, rfl, fun x kV doc pm an cdv ct us hl => (match us, hl with | [_], _ => rfl), fun d => by kernel_rfl, fun hh => absurd hh (by decide)⟩
theorem t__law_drawn_poly : FnT G bs fn 30 f__law_drawn_poly := ⟨d__law_drawn_poly, b__law_drawn_poly, rfl, rfl, rfl, rfl, ⟨rfl, rfl, rfl, by decide +kernel, rfl, by decide +kernel, by decide +kernel⟩, rfl, fun x kV doc pm an cdv ct us hl => (match us, hl with | [_, _, _, _], _ => rfl), fun d => by kernel_rfl, fun hh => absurd hh (by decide)⟩
theorem t__law_part_one : FnT G bs fn 31 f__law_part_one := ⟨d__law_part_one, b__law_part_one, rfl, rfl, rfl, rfl, ⟨rfl, rfl, rfl, by decide +kernel, rfl, by decide +kernel, by decide +kernel⟩, rfl, fun x kV doc pm an cdv ct us hl => (match us, hl with | [_], _ => rfl), fun d => by kernel_rfl, fun hh => absurd hh (by decide)⟩
theorem t__law_product : FnT G bs fn 32 f__law_product := ⟨d__law_product, b__law_product, rfl, rfl, rfl, rfl, ⟨rfl, rfl, rfl, by decide +kernel, rfl, by decide +kernel, by decide +kernel⟩, rfl, fun x kV doc pm an cdv ct us hl => (match us, hl with | [_, _], _ => rfl), fun d => by kernel_rfl, fun hh => absurd hh (by decide)⟩
theorem t__law_part_two : FnT G bs fn 33 f__law_part_two := ⟨d__law_part_two, b__law_part_two, rfl, rfl, rfl, rfl, ⟨rfl, rfl, rfl, by decide +kernel, rfl, by decide +kernel, by decide +kernel⟩, rfl, fun x kV doc pm an cdv ct us hl => (match us, hl with | [_], _ => rfl), fun d => by kernel_rfl, fun hh => absurd hh (by decide)⟩
theorem t_law : FnT G bs fn 34 f_law := ⟨d_law, b_law, rfl, rfl, rfl, rfl, ⟨rfl, rfl, rfl, by decide +kernel, rfl, by decide +kernel, by decide +kernel⟩, rfl, fun x kV doc pm an cdv ct us hl => (match us, hl with | [_], _ => rfl), fun d => by kernel_rfl, fun hh => absurd hh (by decide)⟩
theorem tAll : ∀ i f, G.fns[i]? = some f → FnT G bs fn i f
  | 0, f, h => by cases h; exact t_is_integer
  | 1, f, h => by cases h; exact t_is_between
  | 2, f, h => by cases h; exact t_is_tuple_of
  | 3, f, h => by cases h; exact t_are_powers
  | 4, f, h => by cases h; exact t_is_pair
  | 5, f, h => by cases h; exact t_is_right_poly
  | 6, f, h => by cases h; exact t_poly_of
  | 7, f, h => by cases h; exact t_constant
  | 8, f, h => by cases h; exact t_powers_plus
  | 9, f, h => by cases h; exact t_summed
  | 10, f, h => by cases h; exact t_scaled
  | 11, f, h => by cases h; exact t_lessened
  | 12, f, h => by cases h; exact t_multiplied
  | 13, f, h => by cases h; exact t_need_many
  | 14, f, h => by cases h; exact t_need_poly
  | 15, f, h => by cases h; exact t_need_polys
  | 16, f, h => by cases h; exact t_need_short
  | 17, f, h => by cases h; exact t_need_let
  | 18, f, h => by cases h; exact t_is_poly
  | 19, f, h => by cases h; exact t_poly_sum
  | 20, f, h => by cases h; exact t_poly_less
  | 21, f, h => by cases h; exact t_poly_product
  | 22, f, h => by cases h; exact t_poly_power
  | 23, f, h => by cases h; exact t__law_at
  | 24, f, h => by cases h; exact t__law_mixed
  | 25, f, h => by cases h; exact t__law_row
  | 26, f, h => by cases h; exact t__law_whole
  | 27, f, h => by cases h; exact t__law_whole_row
  | 28, f, h => by cases h; exact t__law_poly
  | 29, f, h => by cases h; exact t__law_summed
  | 30, f, h => by cases h; exact t__law_drawn_poly
  | 31, f, h => by cases h; exact t__law_part_one
  | 32, f, h => by cases h; exact t__law_product
  | 33, f, h => by cases h; exact t__law_part_two
  | 34, f, h => by cases h; exact t_law
  | n + 35, f, h => by cases h
def loose : List PySem.Str := (["SeedError", "NoMany", "NoPoly", "NoTimes", "TooLong", "TooFar", "is_integer", "is_between", "is_tuple_of", "MOST_LETTERS", "MOST_PAIRS", "MOST_TIMES", "MOST_POWER", "are_powers", "is_pair", "is_right_poly", "poly_of", "constant", "powers_plus", "summed"] : List PySem.Str) ++ (["scaled", "lessened", "multiplied", "need_many", "need_poly", "need_polys", "need_short", "need_let", "is_poly", "poly_sum", "poly_less", "poly_product", "poly_power", "_law_at", "_law_mixed", "_law_row", "_law_whole", "_law_whole_row", "_law_poly", "_law_summed"] : List PySem.Str) ++ (["_law_drawn_poly", "_law_part_one", "_law_product", "_law_part_two"] : List PySem.Str)
end Law
end Rv
end PartPlawk48
section PartPb
set_option Elab.async false
set_option linter.all false
set_option maxRecDepth 100000
set_option maxHeartbeats 4000000
set_option exponentiation.threshold 5000
namespace Rv
namespace Law
open PySem PySem.Spec PyProof.Rows L2
theorem log_lt9 {g : Nat} (h : g < 2 ^ 4000) : g.log2 < 9000 := by
  by_cases h0 : g = 0
  · subst h0; decide
  · have := (Nat.log2_lt (k := 4000) h0).mpr h
    omega
def natP (k : Nat) : PV := .int (k : Int)
theorem mod_int {i j : Int} (h : 0 < j) : binop .mod (.int i) (.int j) = some (.int (i % j)) := by simp only [binop, h, if_true]
theorem log_le {i : Nat} (h : i < 2 ^ 2000) : i.log2 < 2000 := by
  by_cases h0 : i = 0
  · subst h0; decide
  · exact (Nat.log2_lt h0).mpr h
theorem mul_int {i j : Int} (hi : i.natAbs < 2 ^ 2000) (hj : j.natAbs < 2 ^ 2000) : binop .mul (.int i) (.int j) = some (.int (i * j)) := by
  have h1 := log_le hi
  have h2 := log_le hj
  have : mulOk i j = true := by
    unfold mulOk
    simp only [Bool.or_eq_true, decide_eq_true_eq]
    exact .inr (.inr (by omega))
  simp only [binop, this, if_true]
theorem add_int (i j : Int) : binop .add (.int i) (.int j) = some (.int (i + j)) := rfl
theorem sub_int (i j : Int) : binop .sub (.int i) (.int j) = some (.int (i - j)) := rfl
theorem eqvI : ∀ r s : List Int, PyData.eqvAll (r.map .int) (s.map .int) = decide (r = s)
  | [], [] => by simp [PyData.eqvAll]
  | [], _ :: _ => by simp [PyData.eqvAll]
  | _ :: _, [] => by simp [PyData.eqvAll]
  | x :: r, y :: s => by
    rw [List.map_cons, List.map_cons, PyData.eqvAll, eqvI r s, PyData.eqv]
    by_cases h : x = y <;> by_cases h2 : r = s <;> simp [h, h2]
def tD (T : List (List Int)) : List PyData := T.map fun r => .tuple (r.map .int)
theorem eqvT : ∀ A B : List (List Int), PyData.eqvAll (tD A) (tD B) = decide (A = B)
  | [], [] => by simp [tD, PyData.eqvAll]
  | [], _ :: _ => by simp [tD, PyData.eqvAll]
  | _ :: _, [] => by simp [tD, PyData.eqvAll]
  | x :: r, y :: s => by
    have ih := eqvT r s
    unfold tD at ih ⊢
    rw [List.map_cons, List.map_cons, PyData.eqvAll, ih, PyData.eqv, eqvI]
    by_cases h : x = y <;> by_cases h2 : r = s <;> simp [h, h2]
theorem toDI (m : Nat) : ∀ r : List Int, (r.map PV.int).mapM (toD m) = some (r.map .int)
  | [] => rfl
  | x :: r => by
    rw [List.map_cons, List.mapM_cons, toDI m r]
    cases m <;> rfl
theorem toDT (m : Nat) : ∀ A : List (List Int), (A.map eL).mapM (toD (m + 1)) = some (tD A)
  | [] => rfl
  | x :: A => by
    have e1 : toD (m + 1) (eL x) = some (.tuple (x.map .int)) := by
      unfold eL
      simp only [toD, toDI, Option.map_some]
    rw [List.map_cons, List.mapM_cons, toDT m A, e1]
    rfl
theorem intsOf_map : ∀ l : List Int, intsOf (l.map .int) = some l
  | [] => rfl
  | x :: l => by rw [List.map_cons]; simp only [intsOf, intsOf_map l]
theorem maxI_fold : ∀ (l : List Int) (x : Int), let m := l.foldl (fun a b => if b > a then b else a) x; (m = x ∨ m ∈ l) ∧ x ≤ m ∧ ∀ t ∈ l, t ≤ m
  | [], x => ⟨.inl rfl, Int.le_refl _, fun t h => by simp at h⟩
  | y :: l, x => by
    obtain ⟨h1, h2, h3⟩ := maxI_fold l (if y > x then y else x)
    simp only [List.foldl_cons]
    refine ⟨?_, ?_, fun t ht => ?_⟩
    · rcases h1 with h | h
      · by_cases hc : y > x
        · rw [if_pos hc] at h ⊢; exact .inr (by rw [h]; exact List.mem_cons_self ..)
        · rw [if_neg hc] at h ⊢; exact .inl h
      · exact .inr (List.mem_cons_of_mem _ h)
    · refine Int.le_trans ?_ h2
      by_cases hc : y > x
      · rw [if_pos hc]; omega
      · rw [if_neg hc]; omega
    · rcases List.mem_cons.mp ht with h | h
      · rw [h]
        refine Int.le_trans ?_ h2
        by_cases hc : y > x
        · rw [if_pos hc]; omega
        · rw [if_neg hc]; omega
      · exact h3 t h
theorem minI_fold : ∀ (l : List Int) (x : Int), let m := l.foldl (fun a b => if b < a then b else a) x; (m = x ∨ m ∈ l) ∧ m ≤ x ∧ ∀ t ∈ l, m ≤ t
  | [], x => ⟨.inl rfl, Int.le_refl _, fun t h => by simp at h⟩
  | y :: l, x => by
    obtain ⟨h1, h2, h3⟩ := minI_fold l (if y < x then y else x)
    simp only [List.foldl_cons]
    refine ⟨?_, ?_, fun t ht => ?_⟩
    · rcases h1 with h | h
      · by_cases hc : y < x
        · rw [if_pos hc] at h ⊢; exact .inr (by rw [h]; exact List.mem_cons_self ..)
        · rw [if_neg hc] at h ⊢; exact .inl h
      · exact .inr (List.mem_cons_of_mem _ h)
    · refine Int.le_trans h2 ?_
      by_cases hc : y < x
      · rw [if_pos hc]; omega
      · rw [if_neg hc]; omega
    · rcases List.mem_cons.mp ht with h | h
      · rw [h]
        refine Int.le_trans h2 ?_
        by_cases hc : y < x
        · rw [if_pos hc]; omega
        · rw [if_neg hc]; omega
      · exact h3 t h
theorem max_L {l : List Int} (h : l ≠ []) : ∃ m, bi .max1 [eL l] = some (.int m) ∧ m ∈ l ∧ ∀ t ∈ l, t ≤ m := by
  cases l with
  | nil => exact absurd rfl h
  | cons x l =>
    obtain ⟨h1, h2, h3⟩ := maxI_fold l x
    refine ⟨l.foldl (fun a b => if b > a then b else a) x, by simp only [bi, seqL, Option.bind, intsOf_map, maxI, Option.map_some], ?_, fun t ht => ?_⟩
    · rcases h1 with h | h
      · rw [h]; exact List.mem_cons_self ..
      · exact List.mem_cons_of_mem _ h
    · rcases List.mem_cons.mp ht with h | h
      · rw [h]; exact h2
      · exact h3 t h
theorem min_L {l : List Int} (h : l ≠ []) : ∃ m, bi .min1 [eL l] = some (.int m) ∧ m ∈ l ∧ ∀ t ∈ l, m ≤ t := by
  cases l with
  | nil => exact absurd rfl h
  | cons x l =>
    obtain ⟨h1, h2, h3⟩ := minI_fold l x
    refine ⟨l.foldl (fun a b => if b < a then b else a) x, by simp only [bi, seqL, Option.bind, intsOf_map, minI, Option.map_some], ?_, fun t ht => ?_⟩
    · rcases h1 with h | h
      · rw [h]; exact List.mem_cons_self ..
      · exact List.mem_cons_of_mem _ h
    · rcases List.mem_cons.mp ht with h | h
      · rw [h]; exact h2
      · exact h3 t h
theorem all_ok {zs : List PV} (h : ∀ x ∈ zs, x = .bl true) : bi .all [.lst zs] = some (.bl true) := by
  simp only [bi, seqOf, Option.bind, allB_of zs h]; rfl
def rD (a : List Int) : PyData := .tuple (a.map .int)
def ltR (a b : List Int) : Bool := PySem.W.dataLt (rD a) (rD b)
theorem toks_int (x : Int) (xs : List PyData) : PySem.W.keyToksAll (.int x :: xs) = .inl 1 :: .inl x :: PySem.W.keyToksAll xs := by
  rw [PySem.W.keyToksAll, PySem.W.keyToks]
  rfl
theorem toks_rowInj : ∀ (a b : List Int) (r t : List (Int ⊕ List Nat)), PySem.W.keyToksAll (a.map .int) ++ r = PySem.W.keyToksAll (b.map .int) ++ t → a = b ∧ r = t
  | [], [], r, t, h => by
    simp only [List.map_nil, PySem.W.keyToksAll, List.cons_append, List.nil_append] at h
    injection h with _ h
    exact ⟨rfl, h⟩
  | [], y :: b, r, t, h => by
    rw [List.map_nil, List.map_cons, toks_int] at h
    simp only [PySem.W.keyToksAll, List.cons_append, List.nil_append] at h
    injection h with h _
    injection h with h
    omega
  | x :: a, [], r, t, h => by
    rw [List.map_nil, List.map_cons, toks_int] at h
    simp only [PySem.W.keyToksAll, List.cons_append, List.nil_append] at h
    injection h with h _
    injection h with h
    omega
  | x :: a, y :: b, r, t, h => by
    rw [List.map_cons, List.map_cons, toks_int, toks_int] at h
    simp only [List.cons_append] at h
    injection h with _ h
    injection h with h1 h
    injection h1 with h1
    obtain ⟨e1, e2⟩ := toks_rowInj a b r t h
    exact ⟨by rw [h1, e1], e2⟩
theorem ltR_trans {S T U : List Int} (h1 : ltR S T = true) (h2 : ltR T U = true) : ltR S U = true := lex_trans _ _ _ h1 h2
theorem ltR_irrefl (S : List Int) : ltR S S = false := lex_irrefl _
theorem ltR_total {S T : List Int} (h1 : ltR S T = false) (h2 : ltR T S = false) : S = T := by
  have h : PySem.W.keyToks (rD S) = PySem.W.keyToks (rD T) := lex_total _ _ h1 h2
  unfold rD at h
  rw [PySem.W.keyToks, PySem.W.keyToks] at h
  exact (toks_rowInj S T [] [] (by rw [List.append_nil, List.append_nil]; exact h)).1
def sortI (r : List Int) : List Int := isortB (fun a b => decide (a ≤ b)) r
theorem sortI_eq (l : List Int) : sortI l = l.mergeSort fun a b => decide (a ≤ b) := isort_eq (fun a b c h1 h2 => by
  have := of_decide_eq_true h1
  have := of_decide_eq_true h2
  exact decide_eq_true (by omega)) (fun a b => by
  rw [Bool.or_eq_true, decide_eq_true_eq, decide_eq_true_eq]; omega) l
theorem sortI_perm (l : List Int) : (sortI l).Perm l := by
  rw [sortI_eq]
  exact List.mergeSort_perm _ _
def sortK (ks : List (List Int)) : List (List Int) := isortB (fun a b => !ltR b a) ks
theorem toD_keys : ∀ ks : List (List Int), (ks.map eL).mapM (toD 9) = some (ks.map rD)
  | [] => rfl
  | k :: ks => by
    have e1 : toD 9 (eL k) = some (rD k) := by
      unfold eL rD
      simp only [toD, toDI, Option.map_some]
    rw [List.map_cons, List.mapM_cons, toD_keys ks, e1]; rfl
theorem sortPV_key {n : Nat} (h1 : 1 ≤ n) (ks : List (List Int)) (hk : ∀ k ∈ ks, k.length = n) : sortPV (ks.map eL) = some ((sortK ks).map eL) := by
  unfold sortPV
  rw [toD_keys]
  have h2 : sortOk (ks.map rD) = true := by
    unfold sortOk
    have a1 : ((ks.map rD).all fun d => (ks.map rD).all fun e => PySem.W.alike d e) = true := by
      refine List.all_eq_true.mpr fun d hd => List.all_eq_true.mpr fun e he => ?_
      obtain ⟨a, _, rfl⟩ := List.mem_map.mp hd
      obtain ⟨b, _, rfl⟩ := List.mem_map.mp he
      unfold rD
      simp only [PySem.W.alike, alike_row]
    have a2 : (ks.map rD).all tup1D = true := by
      refine List.all_eq_true.mpr fun d hd => ?_
      obtain ⟨a, ha, rfl⟩ := List.mem_map.mp hd
      have := hk a ha
      cases a with
      | nil => simp at this; omega
      | cons x a => rfl
    rw [a1, a2]
    simp
  simp only [h2, if_true]
  have h3 : (ks.map eL).zip (ks.map rD) = ks.map fun k => (eL k, rD k) := by rw [List.zip_map']
  rw [h3]
  have h4 := isortB_map (f := fun (k : List Int) => (eL k, rD k)) (le := fun a b => !ltR b a) (le' := leD) (fun a b => rfl) ks
  unfold sortK
  rw [← h4, List.map_map]
  rfl
theorem sortK_eq (l : List (List Int)) : sortK l = l.mergeSort fun a b => !ltR b a := isort_eq (fun a b c h1 h2 => by
  have e1 : ltR b a = false := by simpa using h1
  have e2 : ltR c b = false := by simpa using h2
  have : ltR c a = false := Bool.eq_false_iff.mpr fun z => by
    by_cases y : ltR a b = true
    · have := ltR_trans z y
      rw [e2] at this; cases this
    · have := ltR_total (Bool.eq_false_iff.mpr y) e1
      rw [← this] at e2
      rw [e2] at z; cases z
  rw [this]; rfl) (fun a b => by
  rw [Bool.or_eq_true]
  cases h : ltR b a with
  | false => exact .inl rfl
  | true =>
    right
    have : ltR a b = false := Bool.eq_false_iff.mpr fun z => by
      have := ltR_trans z h
      rw [ltR_irrefl] at this; cases this
    rw [this]; rfl) l
theorem sortK_perm (l : List (List Int)) : (sortK l).Perm l := by
  rw [sortK_eq]
  exact List.mergeSort_perm _ _
theorem sortK_pair (l : List (List Int)) : (sortK l).Pairwise fun a b => ltR b a = false := by
  rw [sortK_eq]
  have := List.pairwise_mergeSort (le := fun a b : List Int => !ltR b a) (fun a b c h1 h2 => by
    have e1 : ltR b a = false := by simpa using h1
    have e2 : ltR c b = false := by simpa using h2
    have : ltR c a = false := Bool.eq_false_iff.mpr fun z => by
      by_cases y : ltR a b = true
      · have := ltR_trans z y
        rw [e2] at this; cases this
      · have := ltR_total (Bool.eq_false_iff.mpr y) e1
        rw [← this] at e2
        rw [e2] at z; cases z
    rw [this]; rfl) (fun a b => by
    rw [Bool.or_eq_true]
    cases h : ltR b a with
    | false => exact .inl rfl
    | true =>
      right
      have : ltR a b = false := Bool.eq_false_iff.mpr fun z => by
        have := ltR_trans z h
        rw [ltR_irrefl] at this; cases this
      rw [this]; rfl) l
  exact this.imp fun h => by simpa using h
theorem sortK_of {a b : List (List Int)} (h : a.Perm b) : sortK a = sortK b :=
  List.Perm.eq_of_pairwise (le := fun a b => ltR b a = false) (fun a b _ _ h1 h2 => ltR_total h2 h1) (sortK_pair a) (sortK_pair b) ((sortK_perm a).trans (h.trans (sortK_perm b).symm))
theorem range_get {n i : Nat} {f : Nat → PV} {x : PV} (h : ((List.range n).map f)[i]? = some x) : i < n ∧ x = f i := by
  rw [List.getElem?_map] at h
  obtain ⟨y, h1, rfl⟩ := Option.map_eq_some_iff.mp h
  obtain ⟨h2, h3⟩ := List.getElem?_eq_some_iff.mp h1
  rw [List.getElem_range] at h3
  exact ⟨by simpa using h2, by rw [← h3]⟩
def addV (a b : List Int) : List Int := List.zipWith (· + ·) a b
theorem ext_getD {a b : List Int} (hl : a.length = b.length) (h : ∀ j < a.length, a.getD j 0 = b.getD j 0) : a = b := by
  refine List.ext_getElem hl fun j h1 h2 => ?_
  have := h j h1
  rw [List.getD_eq_getElem?_getD, List.getD_eq_getElem?_getD, List.getElem?_eq_getElem h1, List.getElem?_eq_getElem h2] at this
  exact this
theorem addV_len {a b : List Int} (h : a.length = b.length) : (addV a b).length = a.length := by
  unfold addV
  rw [List.length_zipWith, h, Nat.min_self]
theorem addV_get {a b : List Int} (h : a.length = b.length) (j : Nat) : (addV a b).getD j 0 = a.getD j 0 + b.getD j 0 := by
  unfold addV
  simp only [List.getD_eq_getElem?_getD, List.getElem?_zipWith]
  by_cases hj : j < a.length
  · rw [List.getElem?_eq_getElem hj, List.getElem?_eq_getElem (h ▸ hj)]; rfl
  · rw [List.getElem?_eq_none (by omega), List.getElem?_eq_none (by omega)]; rfl
theorem nx1 {g : Gm} {s : PS} {ρ ρ' : Sl} {S S' : List PO} (h : evS g s ρ S = .nx ρ' S') : evSs g [s] ρ S = .nx ρ' S' := by rw [nx h, evSs]
theorem ife_t {g : Gm} {c : PB} {a b : List PS} {ρ : Sl} {S S' : List PO} (h : evT g c ρ S = .ok true S') : evS g (.ife c a b) ρ S = evSs g a ρ S' := by simp only [evS, h, toS_ok]
theorem ife_f {g : Gm} {c : PB} {a b : List PS} {ρ : Sl} {S S' : List PO} (h : evT g c ρ S = .ok false S') : evS g (.ife c a b) ρ S = evSs g b ρ S' := by simp only [evS, h, toS_ok]
def keyI (k : List Int) : List Key := k.map Sum.inl
theorem keysOf_ints : ∀ k : List Int, keysOf (k.map .int) = some (keyI k)
  | [] => rfl
  | x :: k => by
    show (keysOf (k.map .int)).map (Sum.inl x :: ·) = _
    rw [keysOf_ints k]; rfl
theorem keyI_inj {a b : List Int} (h : keyI a = keyI b) : a = b := by
  unfold keyI at h
  exact (List.map_inj_right fun x y z => Sum.inl.inj z).mp h
theorem keyP (k : List Int) : PV.tup ((keyI k).map kP) = eL k := by
  unfold keyI eL
  rw [List.map_map]
  rfl
theorem keysP (ks : List (List Int)) : (ks.map keyI).map (fun k => PV.tup (k.map kP)) = ks.map eL := by
  rw [List.map_map]
  exact List.map_congr_left fun k _ => keyP k
end Law
end Rv
end PartPb
section PartPl
set_option Elab.async false
set_option linter.all false
set_option maxRecDepth 100000
set_option maxHeartbeats 4000000
set_option exponentiation.threshold 5000
namespace Rv
namespace Law
open PySem PySem.Spec PyProof.Rows L2
/-! ### polynomials, plainly -/
abbrev Pol := List (List Int × Int)
def tot : Pol → List Int → Int
  | [], _ => 0
  | q :: P, k => (if q.1 = k then q.2 else 0) + tot P k
def addK (ks : List (List Int)) (k : List Int) : List (List Int) := if k ∈ ks then ks else ks ++ [k]
def keyL (P : Pol) : List (List Int) := P.foldl (fun ks q => addK ks q.1) []
def canon (P : Pol) : Pol := ((sortK (keyL P)).map fun k => (k, tot P k)).filter fun q => decide (q.2 ≠ 0)
theorem tot_app (P Q : Pol) (k : List Int) : tot (P ++ Q) k = tot P k + tot Q k := by
  induction P with
  | nil => simp [tot]
  | cons p P ih => simp only [List.cons_append, tot, ih]; omega
theorem tot_none {P : Pol} {k : List Int} (h : ∀ q ∈ P, q.1 ≠ k) : tot P k = 0 := by
  induction P with
  | nil => rfl
  | cons p P ih =>
    simp only [tot]
    rw [if_neg (h p (List.mem_cons_self ..)), ih fun q hq => h q (List.mem_cons_of_mem _ hq)]
    rfl
theorem addK_mem {ks : List (List Int)} {k j : List Int} : j ∈ addK ks k ↔ j ∈ ks ∨ j = k := by
  unfold addK
  split
  · rename_i h
    exact ⟨.inl, fun z => z.elim id fun e => e ▸ h⟩
  · rw [List.mem_append, List.mem_singleton]
theorem addK_nd {ks : List (List Int)} {k : List Int} (h : ks.Nodup) : (addK ks k).Nodup := by
  unfold addK
  split
  · exact h
  · rename_i hk
    rw [List.nodup_append]
    refine ⟨h, List.nodup_cons.mpr ⟨List.not_mem_nil, List.nodup_nil⟩, fun a ha b hb => ?_⟩
    rw [List.mem_singleton] at hb
    subst hb
    exact fun e => hk (e ▸ ha)
theorem keys_foldl {P : Pol} : ∀ {ks : List (List Int)}, ks.Nodup → (P.foldl (fun ks q => addK ks q.1) ks).Nodup ∧ ∀ j, j ∈ P.foldl (fun ks q => addK ks q.1) ks ↔ j ∈ ks ∨ ∃ q ∈ P, q.1 = j := by
  induction P with
  | nil => exact fun {ks} h => ⟨h, fun j => ⟨.inl, fun z => z.elim id fun ⟨q, hq, _⟩ => by cases hq⟩⟩
  | cons p P ih =>
    intro ks h
    obtain ⟨h1, h2⟩ := ih (addK_nd (k := p.1) h)
    refine ⟨h1, fun j => ?_⟩
    rw [List.foldl_cons, h2 j, addK_mem]
    constructor
    · rintro ((a | a) | ⟨q, hq, e⟩)
      · exact .inl a
      · exact .inr ⟨p, List.mem_cons_self .., a.symm⟩
      · exact .inr ⟨q, List.mem_cons_of_mem _ hq, e⟩
    · rintro (a | ⟨q, hq, e⟩)
      · exact .inl (.inl a)
      · rcases List.mem_cons.mp hq with rfl | hq
        · exact .inl (.inr e.symm)
        · exact .inr ⟨q, hq, e⟩
theorem keyL_nd (P : Pol) : (keyL P).Nodup := (keys_foldl List.nodup_nil).1
theorem keyL_mem {P : Pol} {j : List Int} : j ∈ keyL P ↔ ∃ q ∈ P, q.1 = j := by
  have := (keys_foldl (P := P) (ks := []) List.nodup_nil).2 j
  unfold keyL
  rw [this]
  exact ⟨fun z => z.elim (fun e => by cases e) id, .inr⟩
theorem keyL_app (P Q : Pol) : keyL (P ++ Q) = Q.foldl (fun ks q => addK ks q.1) (keyL P) := by unfold keyL; rw [List.foldl_append]
theorem sortK_strict {ks : List (List Int)} (h : ks.Nodup) : (sortK ks).Pairwise fun a b => ltR a b = true := by
  have h1 := sortK_pair ks
  have h2 : (sortK ks).Nodup := (sortK_perm ks).nodup_iff.mpr h
  refine (h1.and h2).imp fun {a b} ⟨x, y⟩ => ?_
  cases e : ltR a b with
  | true => rfl
  | false => exact absurd (ltR_total e x) y
/-- a polynomial as it is told -/
structure IsPol (n : Nat) (P : Pol) : Prop where
  len : ∀ q ∈ P, q.1.length = n
  nz : ∀ q ∈ P, q.2 ≠ 0
  up : P.Pairwise fun a b => ltR a.1 b.1 = true
theorem canon_mem {P : Pol} {q : List Int × Int} : q ∈ canon P ↔ q.2 = tot P q.1 ∧ q.2 ≠ 0 := by
  unfold canon
  rw [List.mem_filter, List.mem_map, decide_eq_true_eq]
  constructor
  · rintro ⟨⟨k, _, rfl⟩, h⟩
    exact ⟨rfl, h⟩
  · rintro ⟨h1, h2⟩
    refine ⟨⟨q.1, ?_, by rw [← h1]⟩, h2⟩
    rw [(sortK_perm _).mem_iff, keyL_mem]
    by_cases c : ∃ p ∈ P, p.1 = q.1
    · exact c
    · refine absurd (tot_none (P := P) (k := q.1) fun p hp e => c ⟨p, hp, e⟩) ?_
      rw [← h1]; exact h2
theorem canon_up (P : Pol) : (canon P).Pairwise fun a b => ltR a.1 b.1 = true := by
  unfold canon
  exact (List.pairwise_map.mpr (sortK_strict (keyL_nd P))).filter _
theorem canon_pol {n : Nat} {P : Pol} (h : ∀ q ∈ P, q.1.length = n) : IsPol n (canon P) := by
  refine ⟨fun q hq => ?_, fun q hq => (canon_mem.mp hq).2, canon_up P⟩
  obtain ⟨h1, h2⟩ := canon_mem.mp hq
  by_cases c : ∃ p ∈ P, p.1 = q.1
  · obtain ⟨p, hp, e⟩ := c
    rw [← e]; exact h p hp
  · exact absurd (tot_none (P := P) (k := q.1) fun p hp e => c ⟨p, hp, e⟩) (by rw [← h1]; exact h2)
theorem up_nd {P : Pol} (h : P.Pairwise fun a b => ltR a.1 b.1 = true) : P.Nodup := h.imp fun {a b} x e => by
  subst e
  rw [ltR_irrefl] at x; cases x
theorem up_eq {P Q : Pol} (hp : P.Pairwise fun a b => ltR a.1 b.1 = true) (hq : Q.Pairwise fun a b => ltR a.1 b.1 = true) (h : ∀ q, q ∈ P ↔ q ∈ Q) : P = Q := by
  have hperm : P.Perm Q := (List.perm_ext_iff_of_nodup (up_nd hp) (up_nd hq)).mpr h
  refine List.Perm.eq_of_pairwise (le := fun a b : List Int × Int => ltR a.1 b.1 = true) (fun a b _ _ h1 h2 => ?_) hp hq hperm
  have := ltR_trans h1 h2
  rw [ltR_irrefl] at this; cases this
theorem canon_ext {P Q : Pol} (h : ∀ k, tot P k = tot Q k) : canon P = canon Q := up_eq (canon_up P) (canon_up Q) fun q => by rw [canon_mem, canon_mem, h]
theorem tot_pol {n : Nat} {P : Pol} (h : IsPol n P) {q : List Int × Int} (hq : q ∈ P) : tot P q.1 = q.2 := by
  obtain ⟨h1, h2, h3⟩ := h
  induction P with
  | nil => cases hq
  | cons p P ih =>
    rw [List.pairwise_cons] at h3
    simp only [tot]
    rcases List.mem_cons.mp hq with rfl | hq
    · rw [if_pos rfl, tot_none fun r hr e => ?_, Int.add_zero]
      have := h3.1 r hr
      rw [e, ltR_irrefl] at this; cases this
    · rw [if_neg fun e => ?_, Int.zero_add]
      · exact ih hq (fun r hr => h1 r (List.mem_cons_of_mem _ hr)) (fun r hr => h2 r (List.mem_cons_of_mem _ hr)) h3.2
      · have := h3.1 q hq
        rw [e, ltR_irrefl] at this; cases this
theorem canon_self {n : Nat} {P : Pol} (h : IsPol n P) : canon P = P := up_eq (canon_up P) h.up fun q => by
  rw [canon_mem]
  constructor
  · rintro ⟨h1, h2⟩
    by_cases c : ∃ p ∈ P, p.1 = q.1
    · obtain ⟨p, hp, e⟩ := c
      have := tot_pol h hp
      rw [e, ← h1] at this
      rw [show q = p from Prod.ext e.symm this]
      exact hp
    · exact absurd (tot_none (P := P) (k := q.1) fun p hp e => c ⟨p, hp, e⟩) (by rw [← h1]; exact h2)
  · intro hq
    exact ⟨(tot_pol h hq).symm, h.nz q hq⟩
theorem tot_canon (P : Pol) (k : List Int) : tot (canon P) k = tot P k := by
  by_cases c : tot P k = 0
  · rw [c]
    refine tot_none fun q hq e => ?_
    obtain ⟨h1, h2⟩ := canon_mem.mp hq
    rw [e, c] at h1
    exact h2 h1
  · have hm : (k, tot P k) ∈ canon P := canon_mem.mpr ⟨rfl, c⟩
    have hu := canon_up P
    generalize canon P = Q at *
    generalize tot P k = v at *
    induction Q with
    | nil => cases hm
    | cons p Q ih =>
      rw [List.pairwise_cons] at hu
      simp only [tot]
      rcases List.mem_cons.mp hm with rfl | hq
      · rw [if_pos rfl, tot_none fun r hr e => ?_, Int.add_zero]
        have := hu.1 r hr
        rw [e, ltR_irrefl] at this; cases this
      · rw [if_neg fun e => ?_, Int.zero_add]
        · exact ih hu.2 hq
        · have := hu.1 _ hq
          rw [e, ltR_irrefl] at this; cases this
def negP (P : Pol) : Pol := P.map fun q => (q.1, -q.2)
theorem tot_neg (P : Pol) (k : List Int) : tot (negP P) k = -tot P k := by
  induction P with
  | nil => rfl
  | cons p P ih =>
    unfold negP at *
    simp only [List.map_cons, tot, ih]
    split <;> omega
theorem neg_pol {n : Nat} {P : Pol} (h : IsPol n P) : IsPol n (negP P) := by
  unfold negP
  refine ⟨fun q hq => ?_, fun q hq => ?_, List.pairwise_map.mpr h.up⟩
  · obtain ⟨p, hp, rfl⟩ := List.mem_map.mp hq
    exact h.len p hp
  · obtain ⟨p, hp, rfl⟩ := List.mem_map.mp hq
    have := h.nz p hp
    show -p.2 ≠ 0
    omega
/-- the one and the other less the one -/
theorem sum_less {n : Nat} {P Q : Pol} (hq : IsPol n Q) : canon (P ++ canon (Q ++ negP P)) = Q := by
  rw [← canon_self hq]
  refine canon_ext fun k => ?_
  rw [canon_self hq, tot_app, tot_canon, tot_app, tot_neg]
  omega
def prodP (P Q : Pol) : Pol := P.flatMap fun p => Q.map fun q => (addV p.1 q.1, p.2 * q.2)
/-- sums over pairs, the other way round -/
theorem tot_map {p : List Int × Int} {Q : Pol} {k : List Int} : tot (Q.map fun q => (addV p.1 q.1, p.2 * q.2)) k = (Q.map fun q => if addV p.1 q.1 = k then p.2 * q.2 else 0).sum := by
  induction Q with
  | nil => rfl
  | cons q Q ih => simp only [List.map_cons, tot, List.sum_cons, ih]
theorem tot_prod {P Q : Pol} {k : List Int} : tot (prodP P Q) k = (P.map fun p => (Q.map fun q => if addV p.1 q.1 = k then p.2 * q.2 else 0).sum).sum := by
  induction P with
  | nil => rfl
  | cons p P ih =>
    unfold prodP at *
    rw [List.flatMap_cons, tot_app, ih, tot_map, List.map_cons, List.sum_cons]
theorem sum_add {α : Type} {f g : α → Int} : ∀ l : List α, (l.map fun x => f x + g x).sum = (l.map f).sum + (l.map g).sum
  | [] => rfl
  | x :: l => by
    simp only [List.map_cons, List.sum_cons, sum_add l]
    omega
theorem sum_zero {α : Type} : ∀ l : List α, (l.map fun _ => (0 : Int)).sum = 0
  | [] => rfl
  | x :: l => by simp only [List.map_cons, List.sum_cons, sum_zero l]; rfl
theorem sum_swap {α β : Type} {f : α → β → Int} : ∀ (l : List α) (r : List β), (l.map fun x => (r.map fun y => f x y).sum).sum = (r.map fun y => (l.map fun x => f x y).sum).sum
  | [], r => by
    simp only [List.map_nil, List.sum_nil]
    exact (sum_zero r).symm
  | x :: l, r => by
    simp only [List.map_cons, List.sum_cons, sum_swap l r]
    rw [← sum_add]
theorem addV_comm (a b : List Int) : addV a b = addV b a := by
  unfold addV
  rw [List.zipWith_comm]
  exact congrArg (fun f => List.zipWith f b a) (funext fun x => funext fun y => Int.add_comm _ _)
theorem prod_comm (P Q : Pol) : canon (prodP P Q) = canon (prodP Q P) := canon_ext fun k => by
  rw [tot_prod, tot_prod, sum_swap]
  refine congrArg List.sum (List.map_congr_left fun q _ => congrArg List.sum (List.map_congr_left fun p _ => ?_))
  rw [addV_comm, Int.mul_comm]
end Law
end Rv
end PartPl
section PartPq
set_option Elab.async false
set_option linter.all false
set_option maxRecDepth 100000
set_option maxHeartbeats 4000000
set_option exponentiation.threshold 5000
namespace Rv
namespace Law
open PySem PySem.Spec PyProof.Rows L2
/-! ### polynomials as values -/
def pP (q : List Int × Int) : PV := .tup [eL q.1, .int q.2]
def vP (P : Pol) : PV := .tup (P.map pP)
def lP (P : Pol) : PV := .lst (P.map pP)
def qD (q : List Int × Int) : PyData := .tuple [rD q.1, .int q.2]
def ltQ (p q : List Int × Int) : Bool := PySem.W.dataLt (qD p) (qD q)
theorem toD_pair (q : List Int × Int) : toD 9 (pP q) = some (qD q) := by
  have h : (q.1.map PV.int).mapM (toD 7) = some (q.1.map .int) := toDI 7 q.1
  unfold pP qD rD eL
  simp only [toD, List.mapM_cons, List.mapM_nil, h, Option.map_some, Option.bind_eq_bind, Option.bind_some, Option.pure_def]
theorem toD_pairs : ∀ P : Pol, (P.map pP).mapM (toD 9) = some (P.map qD)
  | [] => rfl
  | q :: P => by rw [List.map_cons, List.mapM_cons, toD_pairs P, toD_pair]; rfl
theorem lex_rows : ∀ a b : List Int, a.length = b.length → ∀ r t : List (Int ⊕ List Nat), PyProof.Rows.lexLt itemOrd (PySem.W.keyToksAll (a.map .int)) (PySem.W.keyToksAll (b.map .int)) = true → PyProof.Rows.lexLt itemOrd (PySem.W.keyToksAll (a.map .int) ++ r) (PySem.W.keyToksAll (b.map .int) ++ t) = true
  | [], [], _, r, t, h => by
    rw [lex_irrefl] at h; cases h
  | [], _ :: _, h, _, _, _ => by simp at h
  | _ :: _, [], h, _, _, _ => by simp at h
  | x :: a, y :: b, hl, r, t, h => by
    rw [List.map_cons, List.map_cons, toks_int, toks_int] at h ⊢
    simp only [List.cons_append]
    rw [lex_self (O := itemOrd)] at h ⊢
    by_cases c : x = y
    · subst c
      rw [lex_self (O := itemOrd)] at h ⊢
      exact lex_rows a b (by simpa using hl) r t h
    · have c2 : (Sum.inl x : Int ⊕ List Nat) ≠ .inl y := fun e => c (Sum.inl.inj e)
      rw [lex_diff (O := itemOrd) c2] at h ⊢
      exact h
theorem ltQ_keys {a b : List Int × Int} (hl : a.1.length = b.1.length) (h : ltR a.1 b.1 = true) : ltQ a b = true := by
  unfold ltR PySem.W.dataLt rD at h
  rw [PySem.W.keyToks, PySem.W.keyToks] at h
  unfold ltQ qD PySem.W.dataLt rD
  simp only [PySem.W.keyToks, PySem.W.keyToksAll]
  rw [lex_self (O := itemOrd)]
  exact lex_rows _ _ hl _ _ h
theorem ltQ_trans {a b c : List Int × Int} (h1 : ltQ a b = true) (h2 : ltQ b c = true) : ltQ a c = true := lex_trans _ _ _ h1 h2
theorem ltQ_irrefl (a : List Int × Int) : ltQ a a = false := lex_irrefl _
theorem ltQ_total {a b : List Int × Int} (h1 : ltQ a b = false) (h2 : ltQ b a = false) : a = b := by
  have h : PySem.W.keyToks (qD a) = PySem.W.keyToks (qD b) := lex_total _ _ h1 h2
  unfold qD rD at h
  simp only [PySem.W.keyToks, PySem.W.keyToksAll] at h
  injection h with _ h
  obtain ⟨e1, e2⟩ := toks_rowInj _ _ _ _ h
  injection e2 with _ e2
  simp only [List.cons_append, List.nil_append] at e2
  injection e2 with e2 _
  injection e2 with e2
  exact Prod.ext e1 e2
def sortQ (P : Pol) : Pol := isortB (fun a b => !ltQ b a) P
theorem sortQ_eq (l : Pol) : sortQ l = l.mergeSort fun a b => !ltQ b a := isort_eq (fun a b c h1 h2 => by
  rw [Bool.not_eq_true'] at *
  cases h : ltQ c a with
  | false => rfl
  | true =>
    cases h3 : ltQ a b with
    | true => rw [ltQ_trans h h3] at h2; cases h2
    | false => rw [ltQ_total h3 h1] at h; rw [h] at h2; cases h2) (fun a b => by
  cases h : ltQ b a with
  | false => rfl
  | true =>
    cases h2 : ltQ a b with
    | false => rfl
    | true =>
      have := ltQ_trans h h2
      rw [ltQ_irrefl] at this; cases this) l
theorem sortQ_perm (l : Pol) : (sortQ l).Perm l := by
  rw [sortQ_eq]
  exact List.mergeSort_perm _ _
theorem sortQ_pair (l : Pol) : (sortQ l).Pairwise fun a b => ltQ b a = false := by
  rw [sortQ_eq]
  have := List.pairwise_mergeSort (le := fun a b : List Int × Int => !ltQ b a) (fun a b c h1 h2 => by
    rw [Bool.not_eq_true'] at *
    cases h : ltQ c a with
    | false => rfl
    | true =>
      cases h3 : ltQ a b with
      | true => rw [ltQ_trans h h3] at h2; cases h2
      | false => rw [ltQ_total h3 h1] at h; rw [h] at h2; cases h2) (fun a b => by
    cases h : ltQ b a with
    | false => rfl
    | true =>
      cases h2 : ltQ a b with
      | false => rfl
      | true =>
        have := ltQ_trans h h2
        rw [ltQ_irrefl] at this; cases this) l
  exact this.imp fun h => by rw [Bool.not_eq_true'] at h; exact h
/-- what is sorted by its keys already -/
theorem sortQ_of {n : Nat} {L P : Pol} (hp : P.Perm L) (hl : ∀ q ∈ P, q.1.length = n) (hu : P.Pairwise fun a b => ltR a.1 b.1 = true) : sortQ L = P := by
  have h2 : P.Pairwise fun a b => ltQ b a = false := by
    refine List.Pairwise.imp_of_mem (R := fun a b => ltR a.1 b.1 = true) (fun {a b} ha hb h => ?_) hu
    have h1 := ltQ_keys (by rw [hl a ha, hl b hb]) h
    cases e : ltQ b a with
    | false => rfl
    | true =>
      have := ltQ_trans h1 e
      rw [ltQ_irrefl] at this; cases this
  exact List.Perm.eq_of_pairwise (le := fun a b => ltQ b a = false) (fun a b _ _ h1 h2 => ltQ_total h2 h1) (sortQ_pair L) h2 ((sortQ_perm L).trans hp.symm)
theorem sortPV_pairs {n : Nat} (h1 : 1 ≤ n) (P : Pol) (hk : ∀ q ∈ P, q.1.length = n) : sortPV (P.map pP) = some ((sortQ P).map pP) := by
  unfold sortPV
  rw [toD_pairs]
  have h2 : sortOk (P.map qD) = true := by
    unfold sortOk
    have a1 : ((P.map qD).all fun d => (P.map qD).all fun e => PySem.W.alike d e) = true := by
      refine List.all_eq_true.mpr fun d hd => List.all_eq_true.mpr fun e he => ?_
      obtain ⟨a, _, rfl⟩ := List.mem_map.mp hd
      obtain ⟨b, _, rfl⟩ := List.mem_map.mp he
      unfold qD rD
      simp only [PySem.W.alike, PySem.W.alikeAll, alike_row, Bool.and_self]
    have a2 : (P.map qD).all tup1D = true := by
      refine List.all_eq_true.mpr fun d hd => ?_
      obtain ⟨a, _, rfl⟩ := List.mem_map.mp hd
      rfl
    rw [a1, a2]
    simp
  simp only [h2, if_true]
  have h3 : (P.map pP).zip (P.map qD) = P.map fun k => (pP k, qD k) := by rw [List.zip_map']
  rw [h3]
  have h4 := isortB_map (f := fun (k : List Int × Int) => (pP k, qD k)) (le := fun a b => !ltQ b a) (le' := leD) (fun a b => rfl) P
  unfold sortQ
  rw [← h4, List.map_map]
  rfl
/-- the dict of totals, told as a polynomial -/
theorem dict_canon {n : Nat} {P : Pol} (hl : ∀ q ∈ P, q.1.length = n) : sortQ (((keyL P).map fun k => (k, tot P k)).filter fun q => decide (q.2 ≠ 0)) = canon P :=
  sortQ_of (n := n) (by
    unfold canon
    exact ((sortK_perm (keyL P)).map _).filter _) (canon_pol hl).len (canon_up P)
end Law
end Rv
end PartPq
section PartPc
set_option Elab.async false
set_option linter.all false
set_option maxRecDepth 100000
set_option maxHeartbeats 4000000
set_option exponentiation.threshold 5000
namespace Rv
namespace Law
open PySem PySem.Spec PyProof.Rows L2
def scr (ns : List Int) : PV := .rd (ns.map .int)
theorem int_int (i : Int) : bi .int [.int i] = some (.int i) := rfl
theorem div_int {i : Int} {j : Nat} (h0 : 0 < j) (h : j < 2 ^ 4000) : binop .fdiv (.int i) (.int (j : Nat)) = some (.int (i / (j : Int))) := by
  have h1 := log_lt9 h
  simp only [binop, Int.natAbs_natCast]
  rw [if_pos (by rw [Bool.and_eq_true, decide_eq_true_eq, decide_eq_true_eq]; exact ⟨by omega, h1⟩)]
theorem div_nat {a g : Nat} (h0 : 0 < g) (hg : g < 2 ^ 4000) : binop .fdiv (.int (a : Nat)) (.int (g : Nat)) = some (.int ((a / g : Nat) : Int)) := by
  have h1 := log_lt9 hg
  simp only [binop, Int.natAbs_natCast]
  rw [if_pos (by rw [Bool.and_eq_true, decide_eq_true_eq, decide_eq_true_eq]; exact ⟨by omega, h1⟩), Int.natCast_ediv]
theorem mul_small {i : Int} {j : Int} (h : j.natAbs < 2 ^ 64) : binop .mul (.int i) (.int j) = some (.int (i * j)) := by
  have : mulOk i j = true := by
    unfold mulOk
    simp only [Bool.or_eq_true, decide_eq_true_eq]
    exact .inr (.inl h)
  simp only [binop, this, if_true]
theorem lawMixedW (d : Nat) (c : Int) (k : Nat) (hk : k ≤ 1000) : ∃ v : Nat, callD G bs (d + 1) I__law_mixed [.p (.int c), .p (.int (k : Nat))] [] = .ok (.e (.p (.int (v : Nat)))) [] := by
  rw [call_eqG (f := f__law_mixed) (b := b__law_mixed) rfl rfl]
  have hS : startSl f__law_mixed.N.length [.p (.int c), .p (.int (k : Nat))] = [some (.p (.int c)), some (.p (.int (k : Nat))), none] := rfl
  rw [hS]
  generalize GD G bs d = g
  have m1 := mul_small (i := c) (j := 48271) (by decide)
  have m2 := mul_small (i := ((k : Nat) : Int)) (j := 69621) (by decide)
  generalize hf : c * 48271 + ((k : Nat) : Int) * 69621 + 11 = f
  have m3 := mul_small (i := f) (j := 16807) (by decide)
  have d1 : binop .fdiv (.int f) (.int 8191) = some (.int (f / 8191)) := div_int (j := 8191) (by decide) (by decide)
  generalize hq : f * 16807 + f / 8191 = q
  have r1 := mod_int (i := q) (j := 2147483647) (by decide)
  have r0 := Int.emod_nonneg q (show (2147483647 : Int) ≠ 0 by decide)
  obtain ⟨v, hv⟩ := Int.eq_ofNat_of_zero_le r0
  refine ⟨v, ?_⟩
  rw [hv] at r1
  have s1 : evS g (.asg (.nm 2) (.bin .add (.bin .add (.bin .mul (.bi .int [(.var 0)]) (.const (.int (48271)))) (.bin .mul (.var 1) (.const (.int (69621))))) (.const (.int (11))))) [some (.p (.int c)), some (.p (.int (k : Nat))), none] [] = .nx [some (.p (.int c)), some (.p (.int (k : Nat))), some (.p (.int f))] [] := by
    simp only [qSs1, qSs2, qS1, qS2, qS3, qS4, qS5, qS6, qS7, qS8, qS9, qS10, qS11, qS12, qS13, qS14, qS15, qS16, qS17, qS18, qS19, qS20, qE1, qE2, qE3, qE4, qE5, qE6, qE7, qE8, qE9, qE10, qE11, qE12, qE13, qE14, qE15, qE16, qE17, qE18, qE19, qE20, qE21, qE22, qE23, qE24, qE25, qE26, qE27, qE28, qE29, qE30, qE31, qE32, qE33, qEs1, qEs2, qT1, qT2, qT3, qT4, qT5, qT6, qTs1, qTs2, qO1, qO2, toS_ok, toS_exc, bind_ok, bind_exc, next_nx, next_ct, next_bk, next_ret, next_exc, runB_ret, runB_nx, runB_exc, noExc_nx, noExc_ret, see2, see1, see, sees, truth, cmpop, List.getElem?_cons_zero, List.getElem?_cons_succ, List.set_cons_zero, List.set_cons_succ, bindT, bindTs, wipeP, asPs, asP, asPs_map, int_int, m1, m2, add_int, hf]
  show runB (evSs g [_, .ret (.bin .mod (.bi .int [(.bin .add (.bin .mul (.var 2) (.const (.int (16807)))) (.bin .fdiv (.var 2) (.const (.int (8191)))))]) (.const (.int (2147483647))))] _ _) = _
  rw [nx s1]
  simp only [qSs1, qSs2, qS1, qS2, qS3, qS4, qS5, qS6, qS7, qS8, qS9, qS10, qS11, qS12, qS13, qS14, qS15, qS16, qS17, qS18, qS19, qS20, qE1, qE2, qE3, qE4, qE5, qE6, qE7, qE8, qE9, qE10, qE11, qE12, qE13, qE14, qE15, qE16, qE17, qE18, qE19, qE20, qE21, qE22, qE23, qE24, qE25, qE26, qE27, qE28, qE29, qE30, qE31, qE32, qE33, qEs1, qEs2, qT1, qT2, qT3, qT4, qT5, qT6, qTs1, qTs2, qO1, qO2, toS_ok, toS_exc, bind_ok, bind_exc, next_nx, next_ct, next_bk, next_ret, next_exc, runB_ret, runB_nx, runB_exc, noExc_nx, noExc_ret, see2, see1, see, sees, truth, cmpop, List.getElem?_cons_zero, List.getElem?_cons_succ, List.set_cons_zero, List.set_cons_succ, bindT, bindTs, wipeP, asPs, asP, asPs_map, m3, d1, add_int, hq, int_int, r1]
def rhoW (c : Int) (m t : Nat) (left : Int) (gr : Bool) (k : Option EV) : Sl := [some (.p (.int c)), some (.p (.int (m : Nat))), some (.p (.int (t : Nat))), some (.ref 0), some (.p (.int left)), some (.p (.bl gr)), k]
def bodyRw : List PS := [.ife (.val (.var 5)) [.expr (.meth .append (.var 3) [(.bin .mod (.bi .int [(.var 4)]) (.var 2))]), .asg (.nm 4) (.bin .fdiv (.var 4) (.var 2))] [.expr (.meth .append (.var 3) [(.bin .mod (.bin .fdiv (.call I__law_mixed [(.var 0), (.var 6)]) (.const (.int (7)))) (.var 2))])]]
theorem lawRowW (d : Nat) (c : Int) {m t : Nat} (hm : m ≤ 1000) (ht0 : 0 < t) (ht : t ≤ 100000) : ∃ l : List Nat, l.length = m ∧ (∀ x ∈ l, x < t) ∧ callD G bs (d + 2) I__law_row [.p (.int c), .p (.int (m : Nat)), .p (.int (t : Nat))] [] = .ok (.e (.ref 0)) [.lst (l.map natP)] := by
  rw [call_eqG (f := f__law_row) (b := b__law_row) rfl rfl]
  have hS : startSl f__law_row.N.length [.p (.int c), .p (.int (m : Nat)), .p (.int (t : Nat))] = [some (.p (.int c)), some (.p (.int (m : Nat))), some (.p (.int (t : Nat))), none, none, none, none] := rfl
  rw [hS]
  have hmx : ∀ k : Nat, k ≤ 1000 → ∀ S, ∃ v : Nat, pcall (GD G bs (d + 1)) I__law_mixed [.p (.int c), .p (.int (k : Nat))] S = .ok (.p (.int (v : Nat))) S := fun k hk S => by
    obtain ⟨v, hv⟩ := lawMixedW d c k hk
    exact ⟨v, pD2 hv⟩
  generalize GD G bs (d + 1) = g at hmx
  have htI : (0 : Int) < ((t : Nat) : Int) := by omega
  have step : ∀ (gr : Bool) (left : Int) (k : Nat) (l : List Nat), k ≤ 1000 → l.length ≤ 1000 → ∃ (left' : Int) (x : Nat), x < t ∧ evSs g bodyRw (rhoW c m t left gr (some (.p (.int (k : Nat))))) [.lst (l.map natP)] = .nx (rhoW c m t left' gr (some (.p (.int (k : Nat))))) [.lst ((l ++ [x]).map natP)] := fun gr left k l hk hl => by
    have hlen : (l.map natP).length < lim := by rw [List.length_map, lim_eq]; omega
    cases gr with
    | true =>
      have r1 := mod_int (i := left) htI
      have r0 := Int.emod_nonneg left (show ((t : Nat) : Int) ≠ 0 by omega)
      have r2 := Int.emod_lt_of_pos left htI
      obtain ⟨x, hx⟩ := Int.eq_ofNat_of_zero_le r0
      rw [hx] at r1 r2
      have d1 := div_int (i := left) ht0 (Nat.lt_of_le_of_lt ht (by decide))
      refine ⟨left / ((t : Nat) : Int), x, Int.ofNat_lt.mp r2, ?_⟩
      have happ : (l ++ [x]).map natP = l.map natP ++ [.int (x : Nat)] := by simp [natP]
      rw [happ]
      unfold rhoW bodyRw
      simp only [qSs1, qSs2, qS1, qS2, qS3, qS4, qS5, qS6, qS7, qS8, qS9, qS10, qS11, qS12, qS13, qS14, qS15, qS16, qS17, qS18, qS19, qS20, qE1, qE2, qE3, qE4, qE5, qE6, qE7, qE8, qE9, qE10, qE11, qE12, qE13, qE14, qE15, qE16, qE17, qE18, qE19, qE20, qE21, qE22, qE23, qE24, qE25, qE26, qE27, qE28, qE29, qE30, qE31, qE32, qE33, qEs1, qEs2, qT1, qT2, qT3, qT4, qT5, qT6, qTs1, qTs2, qO1, qO2, toS_ok, toS_exc, bind_ok, bind_exc, next_nx, next_ct, next_bk, next_ret, next_exc, runB_ret, runB_nx, runB_exc, noExc_nx, noExc_ret, see2, see1, see, sees, truth, cmpop, List.getElem?_cons_zero, List.getElem?_cons_succ, List.set_cons_zero, List.set_cons_succ, bindT, bindTs, wipeP, asPs, asP, asPs_map, recvOk, tyM, beq_self_eq_true, int_int, r1, methV, hlen, if_true, d1]
    | false =>
      obtain ⟨v, hv⟩ := hmx k hk [.lst (l.map natP)]
      have d1 : binop .fdiv (.int (v : Nat)) (.int 7) = some (.int ((v / 7 : Nat) : Int)) := div_nat (g := 7) (by decide) (by decide)
      have r1 : binop .mod (.int ((v / 7 : Nat) : Int)) (.int (t : Nat)) = some (.int ((v / 7 % t : Nat) : Int)) := by rw [mod_int htI]; rfl
      refine ⟨left, v / 7 % t, Nat.mod_lt _ ht0, ?_⟩
      have happ : (l ++ [v / 7 % t]).map natP = l.map natP ++ [.int ((v / 7 % t : Nat) : Int)] := by simp [natP]
      rw [happ]
      unfold rhoW bodyRw
      simp only [qSs1, qSs2, qS1, qS2, qS3, qS4, qS5, qS6, qS7, qS8, qS9, qS10, qS11, qS12, qS13, qS14, qS15, qS16, qS17, qS18, qS19, qS20, qE1, qE2, qE3, qE4, qE5, qE6, qE7, qE8, qE9, qE10, qE11, qE12, qE13, qE14, qE15, qE16, qE17, qE18, qE19, qE20, qE21, qE22, qE23, qE24, qE25, qE26, qE27, qE28, qE29, qE30, qE31, qE32, qE33, qEs1, qEs2, qT1, qT2, qT3, qT4, qT5, qT6, qTs1, qTs2, qO1, qO2, toS_ok, toS_exc, bind_ok, bind_exc, next_nx, next_ct, next_bk, next_ret, next_exc, runB_ret, runB_nx, runB_exc, noExc_nx, noExc_ret, see2, see1, see, sees, truth, cmpop, List.getElem?_cons_zero, List.getElem?_cons_succ, List.set_cons_zero, List.set_cons_succ, bindT, bindTs, wipeP, asPs, asP, asPs_map, recvOk, tyM, beq_self_eq_true, hv, d1, r1, methV, hlen, if_true]
  have hgr : ∃ gr : Bool, (ltP (.int c) (.int 1000000000000000000)).map (!·) = some gr := ⟨!decide (c < 1000000000000000000), by rw [ltP_int]; rfl⟩
  obtain ⟨gr, hgr⟩ := hgr
  obtain ⟨ρ', S', e1, left', k', l, f1, f2, f3, f4⟩ := forL_inv (t := .nm 6) (b := fun ρ S => evSs g bodyRw ρ S)
    (fun j ρ S => ∃ (left' : Int) (k' : Option EV) (l : List Nat), ρ = rhoW c m t left' gr k' ∧ S = [.lst (l.map natP)] ∧ l.length = j ∧ ∀ x ∈ l, x < t) ((List.range m).map fun (k : Nat) => PV.int (k : Int)) 0 (rhoW c m t c gr none) [.lst (([] : List Nat).map natP)] ⟨c, none, [], rfl, rfl, rfl, fun x hx => by simp at hx⟩ fun j x ρ S hx ⟨left', k', l, f1, f2, f3, f4⟩ => by
      subst f1 f2
      obtain ⟨hj, rfl⟩ := range_get hx
      rw [Nat.zero_add] at f3 ⊢
      obtain ⟨left2, y, hy, hb⟩ := step gr left' j l (by omega) (by omega)
      refine ⟨rhoW c m t left' gr (some (.p (.int (j : Nat)))), rfl, _, _, .inl hb, left2, _, l ++ [y], rfl, rfl, by rw [List.length_append, f3]; rfl, fun z hz => ?_⟩
      rcases List.mem_append.mp hz with r | r
      · exact f4 z r
      · rw [List.mem_singleton.mp r]; exact hy
  rw [Nat.zero_add, List.length_map, List.length_range] at f3
  refine ⟨l, f3, f4, ?_⟩
  have s1 : evS g (.asg (.nm 3) (.mut (.disp []))) [some (.p (.int c)), some (.p (.int (m : Nat))), some (.p (.int (t : Nat))), none, none, none, none] [] = .nx [some (.p (.int c)), some (.p (.int (m : Nat))), some (.p (.int (t : Nat))), some (.ref 0), none, none, none] [.lst (([] : List Nat).map natP)] := by
    simp only [qSs1, qSs2, qS1, qS2, qS3, qS4, qS5, qS6, qS7, qS8, qS9, qS10, qS11, qS12, qS13, qS14, qS15, qS16, qS17, qS18, qS19, qS20, qE1, qE2, qE3, qE4, qE5, qE6, qE7, qE8, qE9, qE10, qE11, qE12, qE13, qE14, qE15, qE16, qE17, qE18, qE19, qE20, qE21, qE22, qE23, qE24, qE25, qE26, qE27, qE28, qE29, qE30, qE31, qE32, qE33, qEs1, qEs2, qT1, qT2, qT3, qT4, qT5, qT6, qTs1, qTs2, qO1, qO2, toS_ok, toS_exc, bind_ok, bind_exc, next_nx, next_ct, next_bk, next_ret, next_exc, runB_ret, runB_nx, runB_exc, noExc_nx, noExc_ret, see2, see1, see, sees, truth, cmpop, List.getElem?_cons_zero, List.getElem?_cons_succ, List.set_cons_zero, List.set_cons_succ, bindT, bindTs, wipeP, asPs, asP, asPs_map, qL1]
    rfl
  have s2 : evS g (.asg (.nm 4) (.bi .int [(.var 0)])) [some (.p (.int c)), some (.p (.int (m : Nat))), some (.p (.int (t : Nat))), some (.ref 0), none, none, none] [.lst (([] : List Nat).map natP)] = .nx [some (.p (.int c)), some (.p (.int (m : Nat))), some (.p (.int (t : Nat))), some (.ref 0), some (.p (.int c)), none, none] [.lst (([] : List Nat).map natP)] := by
    simp only [qSs1, qSs2, qS1, qS2, qS3, qS4, qS5, qS6, qS7, qS8, qS9, qS10, qS11, qS12, qS13, qS14, qS15, qS16, qS17, qS18, qS19, qS20, qE1, qE2, qE3, qE4, qE5, qE6, qE7, qE8, qE9, qE10, qE11, qE12, qE13, qE14, qE15, qE16, qE17, qE18, qE19, qE20, qE21, qE22, qE23, qE24, qE25, qE26, qE27, qE28, qE29, qE30, qE31, qE32, qE33, qEs1, qEs2, qT1, qT2, qT3, qT4, qT5, qT6, qTs1, qTs2, qO1, qO2, toS_ok, toS_exc, bind_ok, bind_exc, next_nx, next_ct, next_bk, next_ret, next_exc, runB_ret, runB_nx, runB_exc, noExc_nx, noExc_ret, see2, see1, see, sees, truth, cmpop, List.getElem?_cons_zero, List.getElem?_cons_succ, List.set_cons_zero, List.set_cons_succ, bindT, bindTs, wipeP, asPs, asP, asPs_map, int_int]
  have s3 : evS g (.asg (.nm 5) (.cmp .ge (.var 4) (.const (.int (1000000000000000000))))) [some (.p (.int c)), some (.p (.int (m : Nat))), some (.p (.int (t : Nat))), some (.ref 0), some (.p (.int c)), none, none] [.lst (([] : List Nat).map natP)] = .nx (rhoW c m t c gr none) [.lst (([] : List Nat).map natP)] := by
    unfold rhoW
    simp only [qSs1, qSs2, qS1, qS2, qS3, qS4, qS5, qS6, qS7, qS8, qS9, qS10, qS11, qS12, qS13, qS14, qS15, qS16, qS17, qS18, qS19, qS20, qE1, qE2, qE3, qE4, qE5, qE6, qE7, qE8, qE9, qE10, qE11, qE12, qE13, qE14, qE15, qE16, qE17, qE18, qE19, qE20, qE21, qE22, qE23, qE24, qE25, qE26, qE27, qE28, qE29, qE30, qE31, qE32, qE33, qEs1, qEs2, qT1, qT2, qT3, qT4, qT5, qT6, qTs1, qTs2, qO1, qO2, toS_ok, toS_exc, bind_ok, bind_exc, next_nx, next_ct, next_bk, next_ret, next_exc, runB_ret, runB_nx, runB_exc, noExc_nx, noExc_ret, see2, see1, see, sees, truth, cmpop, List.getElem?_cons_zero, List.getElem?_cons_succ, List.set_cons_zero, List.set_cons_succ, bindT, bindTs, wipeP, asPs, asP, asPs_map, hgr]
  have s4 : evS g (.loop (.nm 6) (.range1 (.var 1)) bodyRw) (rhoW c m t c gr none) [.lst (([] : List Nat).map natP)] = .nx (rhoW c m t left' gr k') [.lst (l.map natP)] := loop_of (it_range1 (var_ok rfl) (by omega)) (by rw [e1, f1, f2])
  show runB (evSs g [_, _, _, .loop (.nm 6) (.range1 (.var 1)) bodyRw, .ret (.var 3)] _ _) = _
  rw [nx s1, nx s2, nx s3, nx s4]
  unfold rhoW
  simp only [qSs1, qSs2, qS1, qS2, qS3, qS4, qS5, qS6, qS7, qS8, qS9, qS10, qS11, qS12, qS13, qS14, qS15, qS16, qS17, qS18, qS19, qS20, qE1, qE2, qE3, qE4, qE5, qE6, qE7, qE8, qE9, qE10, qE11, qE12, qE13, qE14, qE15, qE16, qE17, qE18, qE19, qE20, qE21, qE22, qE23, qE24, qE25, qE26, qE27, qE28, qE29, qE30, qE31, qE32, qE33, qEs1, qEs2, qT1, qT2, qT3, qT4, qT5, qT6, qTs1, qTs2, qO1, qO2, toS_ok, toS_exc, bind_ok, bind_exc, next_nx, next_ct, next_bk, next_ret, next_exc, runB_ret, runB_nx, runB_exc, noExc_nx, noExc_ret, see2, see1, see, sees, truth, cmpop, List.getElem?_cons_zero, List.getElem?_cons_succ, List.set_cons_zero, List.set_cons_succ, bindT, bindTs, wipeP, asPs, asP, asPs_map]
end Law
end Rv
end PartPc
section PartPw1
set_option Elab.async false
set_option linter.all false
set_option maxRecDepth 100000
set_option maxHeartbeats 4000000
set_option exponentiation.threshold 5000
namespace Rv
namespace Law
open PySem PySem.Spec PyProof.Rows L2
theorem cst_power : G.csts[K_MOST_POWER]? = some (("MOST_POWER" : Str), PV.int 10000) := rfl
theorem cst_pairs : G.csts[K_MOST_PAIRS]? = some (("MOST_PAIRS" : Str), PV.int 4000) := rfl
theorem cst_letters : G.csts[K_MOST_LETTERS]? = some (("MOST_LETTERS" : Str), PV.int 6) := rfl
theorem isBetween (d : Nat) (i lo hi : Int) : callD G bs (d + 2) I_is_between [.p (.int i), .p (.int lo), .p (.int hi)] [] = .ok (.e (.p (.bl (decide (lo ≤ i ∧ i ≤ hi))))) [] := by
  rw [call_eqG (f := f_is_between) (b := b_is_between) rfl rfl]
  have hS : startSl f_is_between.N.length [.p (.int i), .p (.int lo), .p (.int hi)] = [some (.p (.int i)), some (.p (.int lo)), some (.p (.int hi))] := rfl
  rw [hS]
  have p0 : pcall (GD G bs (d + 1)) I_is_integer [.p (.int i)] [] = .ok (.p (.bl true)) [] := pD1 (by kernel_rfl)
  generalize GD G bs (d + 1) = g at *
  have e1 : (ltP (.int i) (.int lo)).map (!·) = some (decide (lo ≤ i)) := by
    rw [ltP_int]
    show some (!decide (i < lo)) = _
    rw [← decide_not]
    exact congrArg some (decide_eq_decide.mpr ⟨fun h => by omega, fun h => by omega⟩)
  have e2 : (ltP (.int hi) (.int i)).map (!·) = some (decide (i ≤ hi)) := by
    rw [ltP_int]
    show some (!decide (hi < i)) = _
    rw [← decide_not]
    exact congrArg some (decide_eq_decide.mpr ⟨fun h => by omega, fun h => by omega⟩)
  rw [b_is_between]
  by_cases c : lo ≤ i
  · rw [decide_eq_true c] at e1
    have e3 : decide (lo ≤ i ∧ i ≤ hi) = decide (i ≤ hi) := decide_eq_decide.mpr ⟨fun h => h.2, fun h => ⟨c, h⟩⟩
    rw [e3]
    simp only [qSs1, qSs2, qS1, qS2, qS3, qS4, qS5, qS6, qS7, qS8, qS9, qS10, qS11, qS12, qS13, qS14, qS15, qS16, qS17, qS18, qS19, qS20, qE1, qE2, qE3, qE4, qE5, qE6, qE7, qE8, qE9, qE10, qE11, qE12, qE13, qE14, qE15, qE16, qE17, qE18, qE19, qE20, qE21, qE22, qE23, qE24, qE25, qE26, qE27, qE28, qE29, qE30, qE31, qE32, qE33, qEs1, qEs2, qT1, qT2, qT3, qT4, qT5, qT6, qTs1, qTs2, qO1, qO2, toS_ok, toS_exc, bind_ok, bind_exc, next_nx, next_ct, next_bk, next_ret, next_exc, runB_ret, runB_nx, runB_exc, noExc_nx, noExc_ret, see2, see1, see, sees, truth, cmpop, List.getElem?_cons_zero, List.getElem?_cons_succ, List.set_cons_zero, List.set_cons_succ, bindT, bindTs, wipeP, asPs, asP, asPs_map, p0, e1, e2]
  · rw [decide_eq_false c] at e1
    have e3 : decide (lo ≤ i ∧ i ≤ hi) = false := decide_eq_false fun h => c h.1
    rw [e3]
    simp only [qSs1, qSs2, qS1, qS2, qS3, qS4, qS5, qS6, qS7, qS8, qS9, qS10, qS11, qS12, qS13, qS14, qS15, qS16, qS17, qS18, qS19, qS20, qE1, qE2, qE3, qE4, qE5, qE6, qE7, qE8, qE9, qE10, qE11, qE12, qE13, qE14, qE15, qE16, qE17, qE18, qE19, qE20, qE21, qE22, qE23, qE24, qE25, qE26, qE27, qE28, qE29, qE30, qE31, qE32, qE33, qEs1, qEs2, qT1, qT2, qT3, qT4, qT5, qT6, qTs1, qTs2, qO1, qO2, toS_ok, toS_exc, bind_ok, bind_exc, next_nx, next_ct, next_bk, next_ret, next_exc, runB_ret, runB_nx, runB_exc, noExc_nx, noExc_ret, see2, see1, see, sees, truth, cmpop, List.getElem?_cons_zero, List.getElem?_cons_succ, List.set_cons_zero, List.set_cons_succ, bindT, bindTs, wipeP, asPs, asP, asPs_map, p0, e1]
theorem isTupleOf (d : Nat) (xs : List PV) (n : Nat) : callD G bs (d + 1) I_is_tuple_of [.p (.tup xs), .p (.int (n : Nat))] [] = .ok (.e (.p (.bl (decide (xs.length = n))))) [] := by
  rw [call_eqG (f := f_is_tuple_of) (b := b_is_tuple_of) rfl rfl]
  have hS : startSl f_is_tuple_of.N.length [.p (.tup xs), .p (.int (n : Nat))] = [some (.p (.tup xs)), some (.p (.int (n : Nat)))] := rfl
  rw [hS]
  generalize GD G bs d = g
  have e1 : bi .isa [.tup xs, .ty "tuple"] = some (.bl true) := rfl
  have e2 : bi .len [.tup xs] = some (.int ((xs.length : Nat) : Int)) := by simp [bi]
  have e3 : eqP (.int ((xs.length : Nat) : Int)) (.int (n : Nat)) = some (decide (xs.length = n)) := by rw [eqP_int, eq_nat]
  rw [b_is_tuple_of]
  simp only [qSs1, qSs2, qS1, qS2, qS3, qS4, qS5, qS6, qS7, qS8, qS9, qS10, qS11, qS12, qS13, qS14, qS15, qS16, qS17, qS18, qS19, qS20, qE1, qE2, qE3, qE4, qE5, qE6, qE7, qE8, qE9, qE10, qE11, qE12, qE13, qE14, qE15, qE16, qE17, qE18, qE19, qE20, qE21, qE22, qE23, qE24, qE25, qE26, qE27, qE28, qE29, qE30, qE31, qE32, qE33, qEs1, qEs2, qT1, qT2, qT3, qT4, qT5, qT6, qTs1, qTs2, qO1, qO2, toS_ok, toS_exc, bind_ok, bind_exc, next_nx, next_ct, next_bk, next_ret, next_exc, runB_ret, runB_nx, runB_exc, noExc_nx, noExc_ret, see2, see1, see, sees, truth, cmpop, List.getElem?_cons_zero, List.getElem?_cons_succ, List.set_cons_zero, List.set_cons_succ, bindT, bindTs, wipeP, asPs, asP, asPs_map, e1, e2, e3]
theorem allB_map {α : Type} {f : α → Bool} : ∀ l : List α, allB (l.map fun x => PV.bl (f x)) = some (l.all f)
  | [] => rfl
  | x :: l => by
    simp only [List.map_cons, allB, tb, allB_map l, List.all_cons]
theorem all_map {α : Type} {f : α → Bool} (l : List α) : bi .all [.lst (l.map fun x => PV.bl (f x))] = some (.bl (l.all f)) := by
  simp only [bi, seqOf, Option.bind, allB_map]; rfl
def powB (l : List Int) : Bool := l.all fun x => decide (-10000 ≤ x ∧ x ≤ 10000)
theorem arePowers (d : Nat) {n : Nat} {l : List Int} (hl : l.length ≤ 1000) : callD G bs (d + 3) I_are_powers [.p (.int (n : Nat)), .p (eL l)] [] = .ok (.e (.p (.bl (decide (l.length = n) && powB l)))) [] := by
  rw [call_eqG (f := f_are_powers) (b := b_are_powers) rfl rfl]
  have hS : startSl f_are_powers.N.length [.p (.int (n : Nat)), .p (eL l)] = [some (.p (.int (n : Nat))), some (.p (eL l)), none] := rfl
  rw [hS]
  have p0 : pcall (GD G bs (d + 2)) I_is_tuple_of [.p (eL l), .p (.int (n : Nat))] [] = .ok (.p (.bl (decide ((l.map PV.int).length = n)))) [] := pD2 (isTupleOf (d + 1) (l.map .int) n)
  rw [List.length_map] at p0
  have p1 : ∀ x : Int, pcall (GD G bs (d + 2)) I_is_between [.p (.int x), .p (.int (-10000)), .p (.int 10000)] [] = .ok (.p (.bl (decide (-10000 ≤ x ∧ x ≤ 10000)))) [] := fun x => pD3 (isBetween d x _ _)
  have hcst : (GD G bs (d + 2)).csts[K_MOST_POWER]? = some (("MOST_POWER" : Str), PV.int 10000) := cst_power
  generalize GD G bs (d + 2) = g at *
  rw [b_are_powers]
  by_cases c : l.length = n
  · rw [decide_eq_true c] at p0 ⊢
    have hc := comp_listA (g := g) (own := [2]) (elt := .call I_is_between [(.var 2), (.neg (.cst K_MOST_POWER)), (.cst K_MOST_POWER)]) (tg := .nm 2) (it := .val (.var 1)) (ρ := [some (.p (.int (n : Nat))), some (.p (eL l)), none]) (S := []) (ks := l) (f := .int) (fun x => .bl (decide (-10000 ≤ x ∧ x ≤ 10000))) (it_val rfl rfl) (by rw [lim_eq]; omega) fun x hx => by
      have q := p1 x
      exact ⟨[some (.p (.int (n : Nat))), some (.p (eL l)), some (.p (.int x))], rfl, by simp only [qSs1, qSs2, qS1, qS2, qS3, qS4, qS5, qS6, qS7, qS8, qS9, qS10, qS11, qS12, qS13, qS14, qS15, qS16, qS17, qS18, qS19, qS20, qE1, qE2, qE3, qE4, qE5, qE6, qE7, qE8, qE9, qE10, qE11, qE12, qE13, qE14, qE15, qE16, qE17, qE18, qE19, qE20, qE21, qE22, qE23, qE24, qE25, qE26, qE27, qE28, qE29, qE30, qE31, qE32, qE33, qEs1, qEs2, qT1, qT2, qT3, qT4, qT5, qT6, qTs1, qTs2, qO1, qO2, toS_ok, toS_exc, bind_ok, bind_exc, next_nx, next_ct, next_bk, next_ret, next_exc, runB_ret, runB_nx, runB_exc, noExc_nx, noExc_ret, see2, see1, see, sees, truth, cmpop, List.getElem?_cons_zero, List.getElem?_cons_succ, List.set_cons_zero, List.set_cons_succ, bindT, bindTs, wipeP, asPs, asP, asPs_map, hcst, q]⟩
    have ha := all_map (f := fun x => decide (-10000 ≤ x ∧ x ≤ 10000)) l
    have e : (true && powB l) = l.all fun x => decide (-10000 ≤ x ∧ x ≤ 10000) := rfl
    rw [e]
    generalize l.map (fun x => PV.bl (decide (-10000 ≤ x ∧ x ≤ 10000))) = bl at *
    simp only [qSs1, qSs2, qS1, qS2, qS3, qS4, qS5, qS6, qS7, qS8, qS9, qS10, qS11, qS12, qS13, qS14, qS15, qS16, qS17, qS18, qS19, qS20, qE1, qE2, qE3, qE4, qE5, qE6, qE7, qE8, qE9, qE10, qE11, qE12, qE13, qE14, qE15, qE16, qE17, qE18, qE19, qE20, qE21, qE22, qE23, qE24, qE25, qE26, qE27, qE28, qE29, qE30, qE31, qE32, qE33, qEs1, qEs2, qT1, qT2, qT3, qT4, qT5, qT6, qTs1, qTs2, qO1, qO2, toS_ok, toS_exc, bind_ok, bind_exc, next_nx, next_ct, next_bk, next_ret, next_exc, runB_ret, runB_nx, runB_exc, noExc_nx, noExc_ret, see2, see1, see, sees, truth, cmpop, List.getElem?_cons_zero, List.getElem?_cons_succ, List.set_cons_zero, List.set_cons_succ, bindT, bindTs, wipeP, asPs, asP, asPs_map, p0, hc, ha, Bool.not_true]
  · rw [decide_eq_false c] at p0 ⊢
    simp only [qSs1, qSs2, qS1, qS2, qS3, qS4, qS5, qS6, qS7, qS8, qS9, qS10, qS11, qS12, qS13, qS14, qS15, qS16, qS17, qS18, qS19, qS20, qE1, qE2, qE3, qE4, qE5, qE6, qE7, qE8, qE9, qE10, qE11, qE12, qE13, qE14, qE15, qE16, qE17, qE18, qE19, qE20, qE21, qE22, qE23, qE24, qE25, qE26, qE27, qE28, qE29, qE30, qE31, qE32, qE33, qEs1, qEs2, qT1, qT2, qT3, qT4, qT5, qT6, qTs1, qTs2, qO1, qO2, toS_ok, toS_exc, bind_ok, bind_exc, next_nx, next_ct, next_bk, next_ret, next_exc, runB_ret, runB_nx, runB_exc, noExc_nx, noExc_ret, see2, see1, see, sees, truth, cmpop, List.getElem?_cons_zero, List.getElem?_cons_succ, List.set_cons_zero, List.set_cons_succ, bindT, bindTs, wipeP, asPs, asP, asPs_map, p0, Bool.not_false, Bool.false_and]
def pairB (n : Nat) (q : List Int × Int) : Bool := (decide (q.1.length = n) && powB q.1) && decide (q.2 ≠ 0)
theorem isPair (d : Nat) {n : Nat} {q : List Int × Int} (hl : q.1.length ≤ 1000) : callD G bs (d + 4) I_is_pair [.p (.int (n : Nat)), .p (pP q)] [] = .ok (.e (.p (.bl (pairB n q)))) [] := by
  rw [call_eqG (f := f_is_pair) (b := b_is_pair) rfl rfl]
  have hS : startSl f_is_pair.N.length [.p (.int (n : Nat)), .p (pP q)] = [some (.p (.int (n : Nat))), some (.p (pP q))] := rfl
  rw [hS]
  have p0 : pcall (GD G bs (d + 3)) I_is_tuple_of [.p (pP q), .p (.int 2)] [] = .ok (.p (.bl true)) [] := pD2 (isTupleOf (d + 2) [eL q.1, .int q.2] 2)
  have p1 : pcall (GD G bs (d + 3)) I_are_powers [.p (.int (n : Nat)), .p (eL q.1)] [] = .ok (.p (.bl (decide (q.1.length = n) && powB q.1))) [] := pD2 (arePowers d hl)
  have p2 : pcall (GD G bs (d + 3)) I_is_integer [.p (.int q.2)] [] = .ok (.p (.bl true)) [] := pD1 (by kernel_rfl)
  have i1 : ixE [] (.p (pP q)) (.p (.int 0)) = some (.p (eL q.1)) := rfl
  have i2 : ixE [] (.p (pP q)) (.p (.int 1)) = some (.p (.int q.2)) := rfl
  have e1 : (eqP (.int q.2) (.int 0)).map (!·) = some (decide (q.2 ≠ 0)) := neP_int _ _
  unfold pairB
  generalize pP q = v at *
  generalize (decide (q.1.length = n) && powB q.1) = b1 at *
  generalize decide (q.2 ≠ 0) = b2 at *
  generalize GD G bs (d + 3) = g at *
  rw [b_is_pair]
  cases b1
  · simp only [qSs1, qSs2, qS1, qS2, qS3, qS4, qS5, qS6, qS7, qS8, qS9, qS10, qS11, qS12, qS13, qS14, qS15, qS16, qS17, qS18, qS19, qS20, qE1, qE2, qE3, qE4, qE5, qE6, qE7, qE8, qE9, qE10, qE11, qE12, qE13, qE14, qE15, qE16, qE17, qE18, qE19, qE20, qE21, qE22, qE23, qE24, qE25, qE26, qE27, qE28, qE29, qE30, qE31, qE32, qE33, qEs1, qEs2, qT1, qT2, qT3, qT4, qT5, qT6, qTs1, qTs2, qO1, qO2, toS_ok, toS_exc, bind_ok, bind_exc, next_nx, next_ct, next_bk, next_ret, next_exc, runB_ret, runB_nx, runB_exc, noExc_nx, noExc_ret, see2, see1, see, sees, truth, cmpop, List.getElem?_cons_zero, List.getElem?_cons_succ, List.set_cons_zero, List.set_cons_succ, bindT, bindTs, wipeP, asPs, asP, asPs_map, p0, i1, p1, Bool.not_true, Bool.not_false, Bool.false_and]
  · simp only [qSs1, qSs2, qS1, qS2, qS3, qS4, qS5, qS6, qS7, qS8, qS9, qS10, qS11, qS12, qS13, qS14, qS15, qS16, qS17, qS18, qS19, qS20, qE1, qE2, qE3, qE4, qE5, qE6, qE7, qE8, qE9, qE10, qE11, qE12, qE13, qE14, qE15, qE16, qE17, qE18, qE19, qE20, qE21, qE22, qE23, qE24, qE25, qE26, qE27, qE28, qE29, qE30, qE31, qE32, qE33, qEs1, qEs2, qT1, qT2, qT3, qT4, qT5, qT6, qTs1, qTs2, qO1, qO2, toS_ok, toS_exc, bind_ok, bind_exc, next_nx, next_ct, next_bk, next_ret, next_exc, runB_ret, runB_nx, runB_exc, noExc_nx, noExc_ret, see2, see1, see, sees, truth, cmpop, List.getElem?_cons_zero, List.getElem?_cons_succ, List.set_cons_zero, List.set_cons_succ, bindT, bindTs, wipeP, asPs, asP, asPs_map, p0, i1, i2, p1, p2, e1, Bool.not_true, Bool.true_and]
theorem vP_len (P : Pol) : bi .len [vP P] = some (.int ((P.length : Nat) : Int)) := by simp [bi, vP]
theorem ixE_V {P : Pol} {k : Nat} (h : k < P.length) : ixE [] (.p (vP P)) (.p (.int ((k : Nat) : Int))) = some (.p (pP P[k])) := by
  unfold vP
  simp only [ixE, see2, see1, see, ixP]
  rw [atI_k (by rw [List.length_map]; exact h)]
  simp
/-- the powers ascend -/
def upB (P : Pol) : Bool := (List.range (P.length - 1)).all fun k => match P[k]?, P[k + 1]? with
  | some a, some b => ltR a.1 b.1
  | _, _ => false
theorem upB_ok {P : Pol} (h : P.Pairwise fun a b => ltR a.1 b.1 = true) : upB P = true := by
  unfold upB
  refine List.all_eq_true.mpr fun k hk => ?_
  have hk := List.mem_range.mp hk
  rw [List.getElem?_eq_getElem (show k < P.length by omega), List.getElem?_eq_getElem (show k + 1 < P.length by omega)]
  exact List.pairwise_iff_getElem.mp h k (k + 1) (by omega) (by omega) (by omega)
theorem lt_rows {a b : List Int} : ltP (eL a) (eL b) = some (ltR a b) := by
  have h : ∀ a : List Int, toD 9 (eL a) = some (rD a) := fun a => by
    unfold eL rD
    simp only [toD, toDI, Option.map_some]
  unfold ltP
  rw [h a, h b]
  unfold rD
  simp only [PySem.W.alike, alike_row, if_true]
  rfl
theorem isRight (d : Nat) {n : Nat} {P : Pol} (hs : P.length ≤ 4000) (hl : ∀ q ∈ P, q.1.length ≤ 1000) : callD G bs (d + 5) I_is_right_poly [.p (.int (n : Nat)), .p (vP P)] [] = .ok (.e (.p (.bl (P.all (pairB n) && upB P)))) [] := by
  rw [call_eqG (f := f_is_right_poly) (b := b_is_right_poly) rfl rfl]
  have hS : startSl f_is_right_poly.N.length [.p (.int (n : Nat)), .p (vP P)] = [some (.p (.int (n : Nat))), some (.p (vP P)), none, none] := rfl
  rw [hS]
  have p1 : ∀ q ∈ P, pcall (GD G bs (d + 4)) I_is_pair [.p (.int (n : Nat)), .p (pP q)] [] = .ok (.p (.bl (pairB n q))) [] := fun q hq => pD2 (isPair d (hl q hq))
  have hcst : (GD G bs (d + 4)).csts[K_MOST_PAIRS]? = some (("MOST_PAIRS" : Str), PV.int 4000) := cst_pairs
  generalize GD G bs (d + 4) = g at *
  have e0 : bi .isa [vP P, .ty "tuple"] = some (.bl true) := rfl
  have e1 := vP_len P
  have e2 : ltP (.int 4000) (.int ((P.length : Nat) : Int)) = some false := by
    rw [ltP_int]
    exact congrArg some (decide_eq_false (by omega))
  have hc := comp_listA (g := g) (own := [2]) (elt := .call I_is_pair [(.var 0), (.var 2)]) (tg := .nm 2) (it := .val (.var 1)) (ρ := [some (.p (.int (n : Nat))), some (.p (vP P)), none, none]) (S := []) (ks := P) (f := pP) (fun q => .bl (pairB n q)) (it_val rfl rfl) (by rw [lim_eq]; omega) fun q hq => by
    have p := p1 q hq
    refine ⟨[some (.p (.int (n : Nat))), some (.p (vP P)), some (.p (pP q)), none], rfl, ?_⟩
    generalize pP q = v at *
    simp only [qSs1, qSs2, qS1, qS2, qS3, qS4, qS5, qS6, qS7, qS8, qS9, qS10, qS11, qS12, qS13, qS14, qS15, qS16, qS17, qS18, qS19, qS20, qE1, qE2, qE3, qE4, qE5, qE6, qE7, qE8, qE9, qE10, qE11, qE12, qE13, qE14, qE15, qE16, qE17, qE18, qE19, qE20, qE21, qE22, qE23, qE24, qE25, qE26, qE27, qE28, qE29, qE30, qE31, qE32, qE33, qEs1, qEs2, qT1, qT2, qT3, qT4, qT5, qT6, qTs1, qTs2, qO1, qO2, toS_ok, toS_exc, bind_ok, bind_exc, next_nx, next_ct, next_bk, next_ret, next_exc, runB_ret, runB_nx, runB_exc, noExc_nx, noExc_ret, see2, see1, see, sees, truth, cmpop, List.getElem?_cons_zero, List.getElem?_cons_succ, List.set_cons_zero, List.set_cons_succ, bindT, bindTs, wipeP, asPs, asP, asPs_map, p]
  have ha := all_map (f := pairB n) P
  have hcl := lst_of hc
  generalize hbl : P.map (fun q => PV.bl (pairB n q)) = bl at *
  have s1 : evS g (.ife (.or (.not (.val (.bi .isa [(.var 1), (.const (.ty "tuple"))]))) (.cmp .gt (.bi .len [(.var 1)]) (.cst K_MOST_PAIRS))) [.ret (.const (.bl false))] []) [some (.p (.int (n : Nat))), some (.p (vP P)), none, none] [] = .nx [some (.p (.int (n : Nat))), some (.p (vP P)), none, none] [] := by
    generalize vP P = v at *
    simp only [qSs1, qSs2, qS1, qS2, qS3, qS4, qS5, qS6, qS7, qS8, qS9, qS10, qS11, qS12, qS13, qS14, qS15, qS16, qS17, qS18, qS19, qS20, qE1, qE2, qE3, qE4, qE5, qE6, qE7, qE8, qE9, qE10, qE11, qE12, qE13, qE14, qE15, qE16, qE17, qE18, qE19, qE20, qE21, qE22, qE23, qE24, qE25, qE26, qE27, qE28, qE29, qE30, qE31, qE32, qE33, qEs1, qEs2, qT1, qT2, qT3, qT4, qT5, qT6, qTs1, qTs2, qO1, qO2, toS_ok, toS_exc, bind_ok, bind_exc, next_nx, next_ct, next_bk, next_ret, next_exc, runB_ret, runB_nx, runB_exc, noExc_nx, noExc_ret, see2, see1, see, sees, truth, cmpop, List.getElem?_cons_zero, List.getElem?_cons_succ, List.set_cons_zero, List.set_cons_succ, bindT, bindTs, wipeP, asPs, asP, asPs_map, e0, e1, hcst, e2, Bool.not_true]
  rw [b_is_right_poly, nx s1]
  by_cases hb : P.all (pairB n) = true
  · rw [hb] at ha ⊢
    have s2 : evS g (.ife (.not (.val (.bi .all [(.lst (.comp [2] (.call I_is_pair [(.var 0), (.var 2)]) (.nm 2) (.val (.var 1)) []))]))) [.ret (.const (.bl false))] []) [some (.p (.int (n : Nat))), some (.p (vP P)), none, none] [] = .nx [some (.p (.int (n : Nat))), some (.p (vP P)), none, none] [] := by
      generalize vP P = v at *
      simp only [qSs1, qSs2, qS1, qS2, qS3, qS4, qS5, qS6, qS7, qS8, qS9, qS10, qS11, qS12, qS13, qS14, qS15, qS16, qS17, qS18, qS19, qS20, qE1, qE2, qE3, qE4, qE5, qE6, qE7, qE8, qE9, qE10, qE11, qE12, qE13, qE14, qE15, qE16, qE17, qE18, qE19, qE20, qE21, qE22, qE23, qE24, qE25, qE26, qE27, qE28, qE29, qE30, qE31, qE32, qE33, qEs1, qEs2, qT1, qT2, qT3, qT4, qT5, qT6, qTs1, qTs2, qO1, qO2, toS_ok, toS_exc, bind_ok, bind_exc, next_nx, next_ct, next_bk, next_ret, next_exc, runB_ret, runB_nx, runB_exc, noExc_nx, noExc_ret, see2, see1, see, sees, truth, cmpop, List.getElem?_cons_zero, List.getElem?_cons_succ, List.set_cons_zero, List.set_cons_succ, bindT, bindTs, wipeP, asPs, asP, asPs_map, hc, ha, Bool.not_true]
    rw [nx s2]
    have ix : ∀ k < P.length, ixE [] (.p (vP P)) (.p (.int ((k : Nat) : Int))) = some (.p (pP (P[k]?.getD ([], 0)))) := fun k hk => by
      rw [ixE_V hk, List.getElem?_eq_getElem hk]; rfl
    have i0 : ∀ q : List Int × Int, ixE [] (.p (pP q)) (.p (.int 0)) = some (.p (eL q.1)) := fun q => rfl
    have hc2 := comp_listA (g := g) (own := [3]) (elt := .cmp .lt (.ix (.ix (.var 1) (.bin .sub (.var 3) (.const (.int (1))))) (.const (.int (0)))) (.ix (.ix (.var 1) (.var 3)) (.const (.int (0))))) (tg := .nm 3) (it := .range2 (.const (.int (1))) (.bi .len [(.var 1)])) (ρ := [some (.p (.int (n : Nat))), some (.p (vP P)), none, none]) (S := []) (ks := List.range (P.length - 1)) (f := fun k => .int ((1 + k : Nat) : Int)) (fun k => .bl (match P[k]?, P[k + 1]? with
      | some a, some b => ltR a.1 b.1
      | _, _ => false)) (by
        by_cases hp : P.length = 0
        · have hz : P = [] := List.eq_nil_of_length_eq_zero hp
          subst hz
          simp only [evIt, evE, evEs, Out.bind, sees, see, List.getElem?_cons_succ, List.getElem?_cons_zero, e1]
          rfl
        · have h1 : evE g (.const (.int 1)) [some (.p (.int (n : Nat))), some (.p (vP P)), none, none] [] = .ok (.p (.int ((1 : Nat) : Int))) [] := rfl
          exact it_range2 h1 (len_var rfl e1) (by omega) (by omega)) (by rw [List.length_range, lim_eq]; omega) fun k hk => by
      have hk := List.mem_range.mp hk
      have es : binop .sub (.int ((1 + k : Nat) : Int)) (.int 1) = some (.int ((k : Nat) : Int)) := by
        rw [sub_int]
        exact congrArg (fun z => some (PV.int z)) (by omega)
      have j1 := ix k (by omega)
      have j2 := ix (1 + k) (by omega)
      have hlt := lt_rows (a := (P[k]?.getD ([], 0)).1) (b := (P[1 + k]?.getD ([], 0)).1)
      have em : (match P[k]?, P[k + 1]? with
        | some a, some b => ltR a.1 b.1
        | _, _ => false) = ltR (P[k]?.getD ([], 0)).1 (P[1 + k]?.getD ([], 0)).1 := by
        rw [Nat.add_comm 1 k, List.getElem?_eq_getElem (show k < P.length by omega), List.getElem?_eq_getElem (show k + 1 < P.length by omega)]
        rfl
      rw [em]
      have k1 := i0 (P[k]?.getD ([], 0))
      have k2 := i0 (P[1 + k]?.getD ([], 0))
      refine ⟨[some (.p (.int (n : Nat))), some (.p (vP P)), none, some (.p (.int ((1 + k : Nat) : Int)))], rfl, ?_⟩
      generalize P[k]?.getD ([], 0) = a at *
      generalize P[1 + k]?.getD ([], 0) = b at *
      generalize vP P = v at *
      generalize pP a = va at *
      generalize pP b = vb at *
      simp only [qSs1, qSs2, qS1, qS2, qS3, qS4, qS5, qS6, qS7, qS8, qS9, qS10, qS11, qS12, qS13, qS14, qS15, qS16, qS17, qS18, qS19, qS20, qE1, qE2, qE3, qE4, qE5, qE6, qE7, qE8, qE9, qE10, qE11, qE12, qE13, qE14, qE15, qE16, qE17, qE18, qE19, qE20, qE21, qE22, qE23, qE24, qE25, qE26, qE27, qE28, qE29, qE30, qE31, qE32, qE33, qEs1, qEs2, qT1, qT2, qT3, qT4, qT5, qT6, qTs1, qTs2, qO1, qO2, toS_ok, toS_exc, bind_ok, bind_exc, next_nx, next_ct, next_bk, next_ret, next_exc, runB_ret, runB_nx, runB_exc, noExc_nx, noExc_ret, see2, see1, see, sees, truth, cmpop, List.getElem?_cons_zero, List.getElem?_cons_succ, List.set_cons_zero, List.set_cons_succ, bindT, bindTs, wipeP, asPs, asP, asPs_map, es, j1, j2, k1, k2, hlt]
    have ha2 := all_map (f := fun k => match P[k]?, P[k + 1]? with
      | some a, some b => ltR a.1 b.1
      | _, _ => false) (List.range (P.length - 1))
    have eu : (true && upB P) = (List.range (P.length - 1)).all fun k => match P[k]?, P[k + 1]? with
      | some a, some b => ltR a.1 b.1
      | _, _ => false := rfl
    rw [eu]
    generalize (List.range (P.length - 1)).map (fun k => PV.bl (match P[k]?, P[k + 1]? with
      | some a, some b => ltR a.1 b.1
      | _, _ => false)) = bl2 at *
    generalize vP P = v at *
    simp only [qSs1, qSs2, qS1, qS2, qS3, qS4, qS5, qS6, qS7, qS8, qS9, qS10, qS11, qS12, qS13, qS14, qS15, qS16, qS17, qS18, qS19, qS20, qE1, qE2, qE3, qE4, qE5, qE6, qE7, qE8, qE9, qE10, qE11, qE12, qE13, qE14, qE15, qE16, qE17, qE18, qE19, qE20, qE21, qE22, qE23, qE24, qE25, qE26, qE27, qE28, qE29, qE30, qE31, qE32, qE33, qEs1, qEs2, qT1, qT2, qT3, qT4, qT5, qT6, qTs1, qTs2, qO1, qO2, toS_ok, toS_exc, bind_ok, bind_exc, next_nx, next_ct, next_bk, next_ret, next_exc, runB_ret, runB_nx, runB_exc, noExc_nx, noExc_ret, see2, see1, see, sees, truth, cmpop, List.getElem?_cons_zero, List.getElem?_cons_succ, List.set_cons_zero, List.set_cons_succ, bindT, bindTs, wipeP, asPs, asP, asPs_map, hc2, ha2]
  · have hb : P.all (pairB n) = false := by simpa using hb
    rw [hb] at ha ⊢
    generalize vP P = v at *
    simp only [qSs1, qSs2, qS1, qS2, qS3, qS4, qS5, qS6, qS7, qS8, qS9, qS10, qS11, qS12, qS13, qS14, qS15, qS16, qS17, qS18, qS19, qS20, qE1, qE2, qE3, qE4, qE5, qE6, qE7, qE8, qE9, qE10, qE11, qE12, qE13, qE14, qE15, qE16, qE17, qE18, qE19, qE20, qE21, qE22, qE23, qE24, qE25, qE26, qE27, qE28, qE29, qE30, qE31, qE32, qE33, qEs1, qEs2, qT1, qT2, qT3, qT4, qT5, qT6, qTs1, qTs2, qO1, qO2, toS_ok, toS_exc, bind_ok, bind_exc, next_nx, next_ct, next_bk, next_ret, next_exc, runB_ret, runB_nx, runB_exc, noExc_nx, noExc_ret, see2, see1, see, sees, truth, cmpop, List.getElem?_cons_zero, List.getElem?_cons_succ, List.set_cons_zero, List.set_cons_succ, bindT, bindTs, wipeP, asPs, asP, asPs_map, hc, ha, Bool.not_false, Bool.false_and]
end Law
end Rv
end PartPw1
section PartPw2
set_option Elab.async false
set_option linter.all false
set_option maxRecDepth 100000
set_option maxHeartbeats 4000000
set_option exponentiation.threshold 5000
namespace Rv
namespace Law
open PySem PySem.Spec PyProof.Rows L2
/-! ### dicts of totals -/
theorem look_tot {f : List Int → Int} {k : List Int} : ∀ ks : List (List Int), lookP (ks.map keyI) (ks.map fun j => PV.int (f j)) (keyI k) = if k ∈ ks then some (.int (f k)) else none
  | [] => rfl
  | j :: ks => by
    simp only [List.map_cons, lookP]
    by_cases c : j = k
    · subst c
      rw [if_pos rfl, if_pos (List.mem_cons_self ..)]
    · rw [if_neg fun z => c (keyI_inj z), look_tot ks]
      by_cases h : k ∈ ks
      · rw [if_pos h, if_pos (List.mem_cons_of_mem _ h)]
      · rw [if_neg h, if_neg fun z => (List.mem_cons.mp z).elim (fun e => c e.symm) h]
theorem zip_put {f : List Int → Int} {k : List Int} {v : Int} : ∀ ks : List (List Int), List.zipWith (fun j u => if j = keyI k then PV.int v else u) (ks.map keyI) (ks.map fun j => PV.int (f j)) = ks.map fun j => .int (if j = k then v else f j)
  | [] => rfl
  | j :: ks => by
    simp only [List.map_cons, List.zipWith_cons_cons, zip_put ks]
    by_cases c : j = k
    · subst c
      rw [if_pos rfl, if_pos rfl]
    · rw [if_neg fun z => c (keyI_inj z), if_neg c]
theorem put_tot {f : List Int → Int} {k : List Int} {v : Int} {ks : List (List Int)} : putP (ks.map keyI) (ks.map fun j => PV.int (f j)) (keyI k) (.int v) = ((addK ks k).map keyI, (addK ks k).map fun j => .int (if j = k then v else f j)) := by
  unfold putP addK
  rw [look_tot]
  by_cases h : k ∈ ks
  · rw [if_pos h, if_pos h]
    simp only
    rw [zip_put]
  · rw [if_neg h, if_neg h]
    simp only [List.map_append, List.map_cons, List.map_nil, if_true]
    refine Prod.ext rfl ?_
    show _ ++ _ = _ ++ _
    refine congrArg (· ++ [PV.int v]) (List.map_congr_left fun j hj => ?_)
    rw [if_neg fun e : j = k => h (e ▸ hj)]
def dK (L : Pol) : List (List Key) := (keyL L).map keyI
def dV (L : Pol) : List PV := (keyL L).map fun k => .int (tot L k)
def dO (L : Pol) : PO := .dtt (dK L) (dV L)
theorem keyL_snoc (L : Pol) (q : List Int × Int) : keyL (L ++ [q]) = addK (keyL L) q.1 := by rw [keyL_app]; rfl
theorem put_dict (L : Pol) (k : List Int) (v : Int) : putP (dK L) (dV L) (keyI k) (.int (tot L k + v)) = (dK (L ++ [(k, v)]), dV (L ++ [(k, v)])) := by
  unfold dK dV
  rw [put_tot, keyL_snoc]
  refine Prod.ext rfl (List.map_congr_left fun j hj => ?_)
  rw [tot_app]
  simp only [tot]
  by_cases c : j = k
  · subst c
    rw [if_pos rfl, if_pos rfl, Int.add_zero]
  · rw [if_neg c, if_neg fun e => c e.symm]
    simp
theorem get_dict (L : Pol) (k : List Int) : (lookP (dK L) (dV L) (keyI k)).getD (.int 0) = .int (tot L k) := by
  unfold dK dV
  rw [look_tot]
  by_cases h : k ∈ keyL L
  · rw [if_pos h]; rfl
  · rw [if_neg h, tot_none fun q hq e => h (keyL_mem.mpr ⟨q, hq, e⟩)]; rfl
theorem keyL_len (L : Pol) : (keyL L).length ≤ L.length := by
  have h : ∀ (P : Pol) (ks : List (List Int)), (P.foldl (fun ks q => addK ks q.1) ks).length ≤ ks.length + P.length := fun P => by
    induction P with
    | nil => exact fun ks => Nat.le_refl _
    | cons p P ih =>
      intro ks
      rw [List.foldl_cons, List.length_cons]
      have := ih (addK ks p.1)
      have h2 : (addK ks p.1).length ≤ ks.length + 1 := by
        unfold addK
        split
        · omega
        · rw [List.length_append, List.length_singleton]; omega
      omega
  have := h L []
  rw [List.length_nil, Nat.zero_add] at this
  exact this
/-- one more pair comes to the dict in slot i's object j -/
theorem set_dict {S : List PO} {j : Nat} {L : Pol} {k : List Int} {v : Int} (h : S[j]? = some (dO L)) (hl : L.length ≤ 100000) : setV S (.ref j) (.p (eL k)) (.p (.int (tot L k + v))) = some (S.set j (dO (L ++ [(k, v)]))) := by
  have hk := keyL_len L
  have hlen : (dK L).length < lim := by unfold dK; rw [List.length_map, lim_eq]; omega
  unfold dO at h
  simp only [setV, h, eL, keysOf_ints, put_dict, if_pos hlen]
  rfl
theorem getv_dict {S : List PO} {j : Nat} {L : Pol} {k : List Int} (h : S[j]? = some (dO L)) : getV S (.ref j) (.p (eL k)) = some (lookP (dK L) (dV L) (keyI k)) := by
  unfold dO at h
  simp only [getV, see, h, eL, keysOf_ints]
theorem dct_dict {S : List PO} {j : Nat} {L : Pol} (h : S[j]? = some (dO L)) : dctS S (.ref j) = true := by
  unfold dO at h
  simp only [dctS, see, h]
theorem zipV_pairs : ∀ ks : List (List Int), ∀ f : List Int → Int, zipV ((ks.map keyI).map fun k => PV.tup (k.map kP)) (ks.map fun k => .int (f k)) = ks.map fun k => pP (k, f k)
  | [], _ => rfl
  | k :: ks, f => by
    simp only [List.map_cons, zipV, zipV_pairs ks f, keyP]
    rfl
theorem polyOf (d : Nat) {n : Nat} (h1 : 1 ≤ n) {L : Pol} (hl : ∀ q ∈ L, q.1.length = n) (hs : L.length ≤ 100000) : callD G bs (d + 1) I_poly_of [.p (.dtt (dK L) (dV L))] [] = .ok (.e (.p (vP (canon L)))) [] := by
  rw [call_eqG (f := f_poly_of) (b := b_poly_of) rfl rfl]
  have hS : startSl f_poly_of.N.length [.p (.dtt (dK L) (dV L))] = [some (.p (.dtt (dK L) (dV L))), none, none] := rfl
  rw [hS]
  generalize GD G bs d = g
  have hk := keyL_len L
  have hit : evIt g (.dit .its 0) [some (.p (.dtt (dK L) (dV L))), none, none] [] = .ok (.l (((keyL L).map fun k => pP (k, tot L k)).map .p)) [] := by
    refine it_dit rfl ?_
    simp only [ditems]
    unfold dK dV
    rw [zipV_pairs]
  have hc := comp_ifA (g := g) (own := [1, 2]) (elt := .tup [(.var 1), (.var 2)]) (tg := .tup [(.nm 1), (.nm 2)]) (it := .dit .its 0) (c := .cmp .ne (.var 2) (.const (.int (0)))) (ρ := [some (.p (.dtt (dK L) (dV L))), none, none]) (S := []) (ks := keyL L) (f := fun k => pP (k, tot L k)) (fun k => pP (k, tot L k)) (fun k => decide (tot L k ≠ 0)) hit (by rw [lim_eq]; omega) fun k hk => by
    have e := neP_int (tot L k) 0
    refine ⟨[some (.p (.dtt (dK L) (dV L))), some (.p (eL k)), some (.p (.int (tot L k)))], rfl, ?_, fun _ => ?_⟩
    · generalize PV.dtt (dK L) (dV L) = D at *
      generalize tot L k = t at *
      simp only [qSs1, qSs2, qS1, qS2, qS3, qS4, qS5, qS6, qS7, qS8, qS9, qS10, qS11, qS12, qS13, qS14, qS15, qS16, qS17, qS18, qS19, qS20, qE1, qE2, qE3, qE4, qE5, qE6, qE7, qE8, qE9, qE10, qE11, qE12, qE13, qE14, qE15, qE16, qE17, qE18, qE19, qE20, qE21, qE22, qE23, qE24, qE25, qE26, qE27, qE28, qE29, qE30, qE31, qE32, qE33, qEs1, qEs2, qT1, qT2, qT3, qT4, qT5, qT6, qTs1, qTs2, qO1, qO2, toS_ok, toS_exc, bind_ok, bind_exc, next_nx, next_ct, next_bk, next_ret, next_exc, runB_ret, runB_nx, runB_exc, noExc_nx, noExc_ret, see2, see1, see, sees, truth, cmpop, List.getElem?_cons_zero, List.getElem?_cons_succ, List.set_cons_zero, List.set_cons_succ, bindT, bindTs, wipeP, asPs, asP, asPs_map, e]
    · generalize PV.dtt (dK L) (dV L) = D at *
      simp only [qSs1, qSs2, qS1, qS2, qS3, qS4, qS5, qS6, qS7, qS8, qS9, qS10, qS11, qS12, qS13, qS14, qS15, qS16, qS17, qS18, qS19, qS20, qE1, qE2, qE3, qE4, qE5, qE6, qE7, qE8, qE9, qE10, qE11, qE12, qE13, qE14, qE15, qE16, qE17, qE18, qE19, qE20, qE21, qE22, qE23, qE24, qE25, qE26, qE27, qE28, qE29, qE30, qE31, qE32, qE33, qEs1, qEs2, qT1, qT2, qT3, qT4, qT5, qT6, qTs1, qTs2, qO1, qO2, toS_ok, toS_exc, bind_ok, bind_exc, next_nx, next_ct, next_bk, next_ret, next_exc, runB_ret, runB_nx, runB_exc, noExc_nx, noExc_ret, see2, see1, see, sees, truth, cmpop, List.getElem?_cons_zero, List.getElem?_cons_succ, List.set_cons_zero, List.set_cons_succ, bindT, bindTs, wipeP, asPs, asP, asPs_map]
      rfl
  have e1 : ((keyL L).filter fun k => decide (tot L k ≠ 0)).map (fun k => pP (k, tot L k)) = (((keyL L).map fun k => (k, tot L k)).filter fun q => decide (q.2 ≠ 0)).map pP := by
    rw [List.filter_map, List.map_map]
    rfl
  rw [e1] at hc
  have hM : ∀ q ∈ ((keyL L).map fun k => (k, tot L k)).filter (fun q => decide (q.2 ≠ 0)), q.1.length = n := fun q hq => by
    obtain ⟨k, hk, rfl⟩ := List.mem_map.mp (List.mem_filter.mp hq).1
    obtain ⟨p, hp, e⟩ := keyL_mem.mp hk
    show k.length = n
    rw [← e]; exact hl p hp
  have hMl : (((keyL L).map fun k => (k, tot L k)).filter fun q => decide (q.2 ≠ 0)).length ≤ 100000 := by
    have := List.length_filter_le (fun q : List Int × Int => decide (q.2 ≠ 0)) ((keyL L).map fun k => (k, tot L k))
    rw [List.length_map] at this
    omega
  have e2 := sortPV_pairs h1 _ hM
  have e3 := dict_canon hl
  rw [e3] at e2
  have hb : biL .sorted [.lst ((((keyL L).map fun k => (k, tot L k)).filter fun q => decide (q.2 ≠ 0)).map pP)] = some ((canon L).map pP) := by
    show (if ((((keyL L).map fun k => (k, tot L k)).filter fun q => decide (q.2 ≠ 0)).map pP).length ≤ lim then sortPV ((((keyL L).map fun k => (k, tot L k)).filter fun q => decide (q.2 ≠ 0)).map pP) else none) = _
    rw [if_pos (by rw [List.length_map, lim_eq]; omega), e2]
  have hc := lst_of hc
  generalize (((keyL L).map fun k => (k, tot L k)).filter fun q => decide (q.2 ≠ 0)).map pP = raw at *
  generalize hρ : ([some (.p (.dtt (dK L) (dV L))), none, none] : Sl) = ρ at *
  have hl1 : evL g (.bi .sorted [(.lst (.comp [1, 2] (.tup [(.var 1), (.var 2)]) (.tup [(.nm 1), (.nm 2)]) (.dit .its 0) [(.cmp .ne (.var 2) (.const (.int (0))))]))]) ρ [] = .ok (((canon L).map pP).map .p) [] := by
    simp only [qL3, qEs1, qEs2, hc, bind_ok, sees, see, hb]
  have hl2 := lst_of hl1
  have hs : evEs g [.lst (.bi .sorted [(.lst (.comp [1, 2] (.tup [(.var 1), (.var 2)]) (.tup [(.nm 1), (.nm 2)]) (.dit .its 0) [(.cmp .ne (.var 2) (.const (.int (0))))]))])] ρ [] = .ok [.p (.lst ((canon L).map pP))] [] := by simp only [qEs2, hl2, bind_ok, qEs1]
  have he : evE g (.bi .tuple [.lst (.bi .sorted [(.lst (.comp [1, 2] (.tup [(.var 1), (.var 2)]) (.tup [(.nm 1), (.nm 2)]) (.dit .its 0) [(.cmp .ne (.var 2) (.const (.int (0))))]))])]) ρ [] = .ok (.p (vP (canon L))) [] := by
    rw [evE.eq_def]
    simp only [hs, bind_ok, sees, see]
    rfl
  rw [b_poly_of]
  simp only [evSs, evS, he, toS_ok, next_ret, runB_ret]
/-- the flatness of what is told -/
theorem flat_vP (P : Pol) : flatR (vP P) = true := by
  unfold vP flatR
  refine List.all_eq_true.mpr fun v hv => ?_
  obtain ⟨q, _, rfl⟩ := List.mem_map.mp hv
  unfold pP eL
  simp only [flatN, List.all_cons, List.all_nil, List.all_map, Bool.and_true, flatP]
  exact List.all_eq_true.mpr fun _ _ => rfl
theorem pcall_see {g : Gm} {i : Nat} {S : List PO} {j : Nat} {w v : PV} {S' : List PO} (h : see S (.ref j) = some w) (hc : g.call i [.p w] [] = .ok (.e (.p v)) S') (hf : flatR v = true) : pcall g i [.ref j] S = .ok (.p v) S := by
  unfold pcall
  simp only [asPs, asP, sees, h, List.map_cons, List.map_nil, hc, frzR, frzE, hf, if_true]
end Law
end Rv
end PartPw2
section PartPw3
set_option Elab.async false
set_option linter.all false
set_option maxRecDepth 100000
set_option maxHeartbeats 4000000
set_option exponentiation.threshold 5000
namespace Rv
namespace Law
open PySem PySem.Spec PyProof.Rows L2
/-- tuples from comprehensions -/
theorem tup_comp {g : Gm} {ρ : Sl} {S : List PO} {l : PL} {vs : List PV} (h : evL g l ρ S = .ok (vs.map .p) S) : evE g (.bi .tuple [.lst l]) ρ S = .ok (.p (.tup vs)) S := by
  have h := lst_of h
  have hs : evEs g [.lst l] ρ S = .ok [.p (.lst vs)] S := by simp only [qEs2, h, bind_ok, qEs1]
  rw [evE.eq_def]
  simp only [hs, bind_ok, sees, see]
  rfl
theorem ret_of {g : Gm} {e : PX} {ρ : Sl} {S S' : List PO} {v : EV} (h : evE g e ρ S = .ok v S') : evS g (.ret e) ρ S = .ret (.e v) S' := by simp only [evS, h, toS_ok]
theorem scaledN (d : Nat) {P : Pol} (hs : P.length ≤ 100000) (hb : ∀ q ∈ P, q.2.natAbs < 2 ^ 2000) : callD G bs (d + 1) I_scaled [.p (vP P), .p (.int (-1))] [] = .ok (.e (.p (vP (negP P)))) [] := by
  rw [call_eqG (f := f_scaled) (b := b_scaled) rfl rfl]
  have hS : startSl f_scaled.N.length [.p (vP P), .p (.int (-1))] = [some (.p (vP P)), some (.p (.int (-1))), none, none] := rfl
  rw [hS]
  generalize GD G bs d = g
  have hc := comp_listA (g := g) (own := [2, 3]) (elt := .tup [(.var 2), (.bin .mul (.var 1) (.var 3))]) (tg := .tup [(.nm 2), (.nm 3)]) (it := .val (.var 0)) (ρ := [some (.p (vP P)), some (.p (.int (-1))), none, none]) (S := []) (ks := P) (f := pP) (fun q => pP (q.1, -q.2)) (it_val rfl rfl) (by rw [lim_eq]; omega) fun q hq => by
    have hm := mul_int (i := -1) (j := q.2) (by decide) (hb q hq)
    rw [Int.neg_one_mul] at hm
    refine ⟨[some (.p (vP P)), some (.p (.int (-1))), some (.p (eL q.1)), some (.p (.int q.2))], rfl, ?_⟩
    generalize vP P = v
    simp only [qSs1, qSs2, qS1, qS2, qS3, qS4, qS5, qS6, qS7, qS8, qS9, qS10, qS11, qS12, qS13, qS14, qS15, qS16, qS17, qS18, qS19, qS20, qE1, qE2, qE3, qE4, qE5, qE6, qE7, qE8, qE9, qE10, qE11, qE12, qE13, qE14, qE15, qE16, qE17, qE18, qE19, qE20, qE21, qE22, qE23, qE24, qE25, qE26, qE27, qE28, qE29, qE30, qE31, qE32, qE33, qEs1, qEs2, qT1, qT2, qT3, qT4, qT5, qT6, qTs1, qTs2, qO1, qO2, toS_ok, toS_exc, bind_ok, bind_exc, next_nx, next_ct, next_bk, next_ret, next_exc, runB_ret, runB_nx, runB_exc, noExc_nx, noExc_ret, see2, see1, see, sees, truth, cmpop, List.getElem?_cons_zero, List.getElem?_cons_succ, List.set_cons_zero, List.set_cons_succ, bindT, bindTs, wipeP, asPs, asP, asPs_map, hm]
    rfl
  have e1 : P.map (fun q => pP (q.1, -q.2)) = (negP P).map pP := by unfold negP; rw [List.map_map]; rfl
  rw [e1] at hc
  have ht := tup_comp hc
  have e2 : (eqP (.int (-1)) (.int 0)).map (!·) = some true := rfl
  show runB (evSs g b_scaled _ _) = .ok (.e (.p (.tup ((negP P).map pP)))) []
  generalize (negP P).map pP = R at *
  have hc0 : evT g (.cmp .ne (.var 1) (.const (.int (0)))) [some (.p (vP P)), some (.p (.int (-1))), none, none] [] = .ok true [] := by
    generalize vP P = v
    simp only [qSs1, qSs2, qS1, qS2, qS3, qS4, qS5, qS6, qS7, qS8, qS9, qS10, qS11, qS12, qS13, qS14, qS15, qS16, qS17, qS18, qS19, qS20, qE1, qE2, qE3, qE4, qE5, qE6, qE7, qE8, qE9, qE10, qE11, qE12, qE13, qE14, qE15, qE16, qE17, qE18, qE19, qE20, qE21, qE22, qE23, qE24, qE25, qE26, qE27, qE28, qE29, qE30, qE31, qE32, qE33, qEs1, qEs2, qT1, qT2, qT3, qT4, qT5, qT6, qTs1, qTs2, qO1, qO2, toS_ok, toS_exc, bind_ok, bind_exc, next_nx, next_ct, next_bk, next_ret, next_exc, runB_ret, runB_nx, runB_exc, noExc_nx, noExc_ret, see2, see1, see, sees, truth, cmpop, List.getElem?_cons_zero, List.getElem?_cons_succ, List.set_cons_zero, List.set_cons_succ, bindT, bindTs, wipeP, asPs, asP, asPs_map, e2]
  have he : evE g (.ife (.cmp .ne (.var 1) (.const (.int (0)))) (.bi .tuple [(.lst (.comp [2, 3] (.tup [(.var 2), (.bin .mul (.var 1) (.var 3))]) (.tup [(.nm 2), (.nm 3)]) (.val (.var 0)) []))]) (.tup [])) [some (.p (vP P)), some (.p (.int (-1))), none, none] [] = .ok (.p (.tup R)) [] := by
    rw [evE.eq_def]
    simp only [hc0, bind_ok, ht]
  rw [b_scaled, rt (ret_of he), runB_ret]
theorem zipV_add : ∀ a b : List Int, zipV (a.map .int) (b.map .int) = (a.zip b).map fun q => .tup [.int q.1, .int q.2]
  | [], _ => by simp [zipV]
  | _ :: _, [] => by simp [zipV]
  | x :: a, y :: b => by
    simp only [List.map_cons, zipV, List.zip_cons_cons, zipV_add a b]
theorem powersPlus (d : Nat) {a b : List Int} (h : a.length ≤ 1000) : callD G bs (d + 1) I_powers_plus [.p (eL a), .p (eL b)] [] = .ok (.e (.p (eL (addV a b)))) [] := by
  rw [call_eqG (f := f_powers_plus) (b := b_powers_plus) rfl rfl]
  have hS : startSl f_powers_plus.N.length [.p (eL a), .p (eL b)] = [some (.p (eL a)), some (.p (eL b)), none, none] := rfl
  rw [hS]
  generalize GD G bs d = g
  have hz : evIt g (.zip [(.var 0), (.var 1)]) [some (.p (eL a)), some (.p (eL b)), none, none] [] = .ok (.l ((zipV (a.map .int) (b.map .int)).map .p)) [] := rfl
  rw [zipV_add] at hz
  have hc := comp_listA (g := g) (own := [2, 3]) (elt := .bin .add (.var 2) (.var 3)) (tg := .tup [(.nm 2), (.nm 3)]) (it := .zip [(.var 0), (.var 1)]) (ρ := [some (.p (eL a)), some (.p (eL b)), none, none]) (S := []) (ks := a.zip b) (f := fun q => .tup [.int q.1, .int q.2]) (fun q => .int (q.1 + q.2)) hz (by rw [List.length_zip, lim_eq]; omega) fun q hq => ⟨[some (.p (eL a)), some (.p (eL b)), some (.p (.int q.1)), some (.p (.int q.2))], rfl, by simp only [qSs1, qSs2, qS1, qS2, qS3, qS4, qS5, qS6, qS7, qS8, qS9, qS10, qS11, qS12, qS13, qS14, qS15, qS16, qS17, qS18, qS19, qS20, qE1, qE2, qE3, qE4, qE5, qE6, qE7, qE8, qE9, qE10, qE11, qE12, qE13, qE14, qE15, qE16, qE17, qE18, qE19, qE20, qE21, qE22, qE23, qE24, qE25, qE26, qE27, qE28, qE29, qE30, qE31, qE32, qE33, qEs1, qEs2, qT1, qT2, qT3, qT4, qT5, qT6, qTs1, qTs2, qO1, qO2, toS_ok, toS_exc, bind_ok, bind_exc, next_nx, next_ct, next_bk, next_ret, next_exc, runB_ret, runB_nx, runB_exc, noExc_nx, noExc_ret, see2, see1, see, sees, truth, cmpop, List.getElem?_cons_zero, List.getElem?_cons_succ, List.set_cons_zero, List.set_cons_succ, bindT, bindTs, wipeP, asPs, asP, asPs_map, add_int]⟩
  have e1 : (a.zip b).map (fun q => PV.int (q.1 + q.2)) = (addV a b).map .int := by
    unfold addV
    rw [List.zip_eq_zipWith, List.map_zipWith, List.map_zipWith]
  rw [e1] at hc
  have ht := tup_comp hc
  show runB (evSs g b_powers_plus _ _) = .ok (.e (.p (.tup ((addV a b).map .int)))) []
  generalize (addV a b).map PV.int = R at *
  rw [b_powers_plus, rt (ret_of ht), runB_ret]
def stSm (L : Pol) : List PO := [dO L]
def rhoSm (A B : Pol) (k v : Option EV) : Sl := [some (.p (vP A)), some (.p (vP B)), some (.ref 0), k, v]
def bodySm : List PS := [.setIx (.var 2) (.var 3) (.bin .add (.get2 (.var 2) (.var 3) (.const (.int (0)))) (.var 4))]
theorem dst_nodup : ∀ (P K : Pol), ((K ++ P).map (·.1)).Nodup → dstoreT ((K.map (·.1)).map keyI) (K.map fun q => PV.int q.2) (P.flatMap fun q => [EV.p (eL q.1), EV.p (.int q.2)]) = some (((K ++ P).map (·.1)).map keyI, (K ++ P).map fun q => .int q.2)
  | [], K, _ => by simp [dstoreT]
  | q :: P, K, nd => by
    have h1 : tkOf (eL q.1) = some (keyI q.1) := keysOf_ints q.1
    have hn : (K.map (·.1)).map keyI = (K.map (·.1)).map keyI := rfl
    have hk : keyI q.1 ∉ (K.map (·.1)).map keyI := fun z => by
      obtain ⟨k, hk, e⟩ := List.mem_map.mp z
      have e := keyI_inj e
      subst e
      rw [List.map_append, List.nodup_append] at nd
      exact nd.2.2 _ hk _ (by rw [List.map_cons]; exact List.mem_cons_self ..) rfl
    have hp : putP ((K.map (·.1)).map keyI) (K.map fun q => PV.int q.2) (keyI q.1) (.int q.2) = (((K ++ [q]).map (·.1)).map keyI, (K ++ [q]).map fun q => .int q.2) := by
      unfold putP
      rw [look_not hk]
      simp
    rw [List.flatMap_cons]
    simp only [List.cons_append, List.nil_append, dstoreT, asP, Option.bind_some, h1, hp]
    rw [dst_nodup P (K ++ [q]) (by simpa using nd)]
    simp
theorem keyL_of {P : Pol} (h : (P.map (·.1)).Nodup) : keyL P = P.map (·.1) := by
  have : ∀ (P K : Pol), ((K ++ P).map (·.1)).Nodup → P.foldl (fun ks q => addK ks q.1) (K.map (·.1)) = (K ++ P).map (·.1) := fun P => by
    induction P with
    | nil => exact fun K _ => by rw [List.foldl_nil, List.append_nil]
    | cons p P ih =>
      intro K nd
      have hk : p.1 ∉ K.map (·.1) := fun z => by
        rw [List.map_append, List.nodup_append] at nd
        exact nd.2.2 _ z _ (by rw [List.map_cons]; exact List.mem_cons_self ..) rfl
      rw [List.foldl_cons]
      have e : addK (K.map (·.1)) p.1 = (K ++ [p]).map (·.1) := by
        unfold addK
        rw [if_neg hk, List.map_append]; rfl
      rw [e, ih (K ++ [p]) (by simpa using nd)]
      simp
  have h2 := this P [] h
  unfold keyL
  exact h2
theorem pol_nd {n : Nat} {P : Pol} (h : IsPol n P) : (P.map (·.1)).Nodup := List.pairwise_map.mpr (h.up.imp fun {a b} x e => by
  rw [e, ltR_irrefl] at x; cases x)
theorem dO_pol {n : Nat} {P : Pol} (h : IsPol n P) : dO P = .dtt ((P.map (·.1)).map keyI) (P.map fun q => .int q.2) := by
  unfold dO dK dV
  rw [keyL_of (pol_nd h)]
  refine congrArg (PO.dtt _) ?_
  rw [List.map_map]
  exact List.map_congr_left fun q hq => congrArg PV.int (tot_pol h hq)
theorem bodySm_ok {g : Gm} {A B L : Pol} {q : List Int × Int} (hl : L.length ≤ 100000) : evSs g bodySm (rhoSm A B (some (.p (eL q.1))) (some (.p (.int q.2)))) (stSm L) = .nx (rhoSm A B (some (.p (eL q.1))) (some (.p (.int q.2)))) (stSm (L ++ [q])) := by
  have h0 : (stSm L)[0]? = some (dO L) := rfl
  have e1 := dct_dict h0
  have e2 := getv_dict (k := q.1) h0
  have e3 := get_dict L q.1
  have e4 := set_dict (k := q.1) (v := q.2) h0 hl
  have e5 : (stSm L).set 0 (dO (L ++ [(q.1, q.2)])) = stSm (L ++ [q]) := rfl
  rw [e5] at e4
  generalize lookP (dK L) (dV L) (keyI q.1) = o at *
  generalize tot L q.1 = t at *
  generalize stSm L = S at *
  generalize stSm (L ++ [q]) = S2 at *
  unfold bodySm rhoSm
  generalize vP A = va
  generalize vP B = vb
  generalize eL q.1 = ke at *
  simp only [qSs1, qSs2, qS1, qS2, qS3, qS4, qS5, qS6, qS7, qS8, qS9, qS10, qS11, qS12, qS13, qS14, qS15, qS16, qS17, qS18, qS19, qS20, qE1, qE2, qE3, qE4, qE5, qE6, qE7, qE8, qE9, qE10, qE11, qE12, qE13, qE14, qE15, qE16, qE17, qE18, qE19, qE20, qE21, qE22, qE23, qE24, qE25, qE26, qE27, qE28, qE29, qE30, qE31, qE32, qE33, qEs1, qEs2, qT1, qT2, qT3, qT4, qT5, qT6, qTs1, qTs2, qO1, qO2, toS_ok, toS_exc, bind_ok, bind_exc, next_nx, next_ct, next_bk, next_ret, next_exc, runB_ret, runB_nx, runB_exc, noExc_nx, noExc_ret, see2, see1, see, sees, truth, cmpop, List.getElem?_cons_zero, List.getElem?_cons_succ, List.set_cons_zero, List.set_cons_succ, bindT, bindTs, wipeP, asPs, asP, asPs_map, e1, e2, e3, e4, add_int, if_true]
theorem summedOk (d : Nat) {n : Nat} (h1 : 1 ≤ n) {A B : Pol} (hA : IsPol n A) (hB : ∀ q ∈ B, q.1.length = n) (la : A.length ≤ 10000) (lb : B.length ≤ 10000) : ∃ S, callD G bs (d + 2) I_summed [.p (vP A), .p (vP B)] [] = .ok (.e (.p (vP (canon (A ++ B))))) S := by
  rw [call_eqG (f := f_summed) (b := b_summed) rfl rfl]
  have hS : startSl f_summed.N.length [.p (vP A), .p (vP B)] = [some (.p (vP A)), some (.p (vP B)), none, none, none] := rfl
  rw [hS]
  have hall : ∀ q ∈ A ++ B, q.1.length = n := fun q hq => (List.mem_append.mp hq).elim (hA.len q) (hB q)
  have hp := polyOf d h1 hall (by rw [List.length_append]; omega)
  have hpc : pcall (GD G bs (d + 1)) I_poly_of [.ref 0] (stSm (A ++ B)) = .ok (.p (vP (canon (A ++ B)))) (stSm (A ++ B)) := pcall_see (w := .dtt (dK (A ++ B)) (dV (A ++ B))) rfl hp (flat_vP _)
  generalize GD G bs (d + 1) = g at *
  have hit : evIt g (.val (.var 0)) [some (.p (vP A)), some (.p (vP B)), none, none, none] [] = .ok (.l ((A.map pP).map .p)) [] := it_val rfl rfl
  have s1 : evS g (.asg (.nm 2) (.dcompT true [3, 4] (.var 3) (.var 4) (.tup [(.nm 3), (.nm 4)]) (.val (.var 0)) [])) [some (.p (vP A)), some (.p (vP B)), none, none, none] [] = .nx (rhoSm A B none none) (stSm A) := by
    have hcl := compL_flatE (F := fCdT g (wipeP [some (.p (vP A)), some (.p (vP B)), none, none, none] [3, 4]) (.var 3) (.var 4) (.tup [(.nm 3), (.nm 4)]) []) (f := pP) (h := fun q => [.p (eL q.1), .p (.int q.2)]) (S := []) A fun q hq => by
      have h1 : tkOf (eL q.1) = some (keyI q.1) := keysOf_ints q.1
      have hb : bindT (.tup [(.nm 3), (.nm 4)]) (wipeP [some (.p (vP A)), some (.p (vP B)), none, none, none] [3, 4]) (.p (pP q)) = some [some (.p (vP A)), some (.p (vP B)), none, some (.p (eL q.1)), some (.p (.int q.2))] := rfl
      unfold fCdT
      generalize vP A = va at *
      generalize vP B = vb at *
      generalize eL q.1 = ke at *
      simp only [hb, evTs, evE, List.getElem?_cons_zero, List.getElem?_cons_succ, Out.bind, asP, Option.bind_some, h1]
    have h3 : ∀ ks : Pol, (ks.flatMap fun q => [EV.p (eL q.1), EV.p (.int q.2)]).length = 2 * ks.length := fun ks => by
      induction ks with
      | nil => rfl
      | cons k ks ih => rw [List.flatMap_cons, List.length_append, ih, List.length_cons, List.length_cons, List.length_cons, List.length_nil]; omega
    have hd := dst_nodup A [] (pol_nd hA)
    simp only [List.map_nil, List.nil_append] at hd
    have h4 : evDT g [3, 4] (.var 3) (.var 4) (.tup [(.nm 3), (.nm 4)]) (.val (.var 0)) [] [some (.p (vP A)), some (.p (vP B)), none, none, none] [] = .ok ((A.map (·.1)).map keyI, A.map fun q => .int q.2) [] := by
      unfold evDT
      rw [hit]
      simp only [Out.bind, compI, hcl, lenOk, h3]
      rw [if_pos (by rw [lim_eq]; omega)]
      simp only [hd]
    have he : evE g (.dcompT true [3, 4] (.var 3) (.var 4) (.tup [(.nm 3), (.nm 4)]) (.val (.var 0)) []) [some (.p (vP A)), some (.p (vP B)), none, none, none] [] = .ok (.ref 0) [.dtt ((A.map (·.1)).map keyI) (A.map fun q => .int q.2)] := by
      rw [evE_dcompT, h4]; rfl
    rw [← dO_pol hA] at he
    simp only [qS1, he, toS_ok, bindT]
    rfl
  obtain ⟨ρ', S', e1, k', v', f1, f2⟩ := forL_inv (t := .tup [(.nm 3), (.nm 4)]) (b := fun ρ S => evSs g bodySm ρ S)
    (fun j ρ S => ∃ k' v', ρ = rhoSm A B k' v' ∧ S = stSm (A ++ B.take j)) (B.map pP) 0 (rhoSm A B none none) (stSm A) ⟨none, none, rfl, by rw [List.take_zero, List.append_nil]⟩ fun j x ρ S hx ⟨k', v', f1, f2⟩ => by
      subst f1 f2
      rw [Nat.zero_add]
      rw [List.getElem?_map] at hx
      obtain ⟨q, h2, rfl⟩ := Option.map_eq_some_iff.mp hx
      obtain ⟨hj, h3⟩ := List.getElem?_eq_some_iff.mp h2
      refine ⟨rhoSm A B (some (.p (eL q.1))) (some (.p (.int q.2))), rfl, _, _, .inl (bodySm_ok (by rw [List.length_append, List.length_take]; omega)), _, _, rfl, ?_⟩
      rw [List.take_add_one, h2, ← List.append_assoc]
      rfl
  rw [Nat.zero_add, List.length_map, List.take_length] at f2
  have s2 : evS g (.loop (.tup [(.nm 3), (.nm 4)]) (.val (.var 1)) bodySm) (rhoSm A B none none) (stSm A) = .nx (rhoSm A B k' v') (stSm (A ++ B)) := loop_of (it_val (v := vP B) rfl rfl) (by rw [e1, f1, f2])
  have s3 : evS g (.ret (.call I_poly_of [(.var 2)])) (rhoSm A B k' v') (stSm (A ++ B)) = .ret (.e (.p (vP (canon (A ++ B))))) (stSm (A ++ B)) := by
    generalize stSm (A ++ B) = S at *
    generalize vP (canon (A ++ B)) = R at *
    unfold rhoSm
    simp only [qSs1, qSs2, qS1, qS2, qS3, qS4, qS5, qS6, qS7, qS8, qS9, qS10, qS11, qS12, qS13, qS14, qS15, qS16, qS17, qS18, qS19, qS20, qE1, qE2, qE3, qE4, qE5, qE6, qE7, qE8, qE9, qE10, qE11, qE12, qE13, qE14, qE15, qE16, qE17, qE18, qE19, qE20, qE21, qE22, qE23, qE24, qE25, qE26, qE27, qE28, qE29, qE30, qE31, qE32, qE33, qEs1, qEs2, qT1, qT2, qT3, qT4, qT5, qT6, qTs1, qTs2, qO1, qO2, toS_ok, toS_exc, bind_ok, bind_exc, next_nx, next_ct, next_bk, next_ret, next_exc, runB_ret, runB_nx, runB_exc, noExc_nx, noExc_ret, see2, see1, see, sees, truth, cmpop, List.getElem?_cons_zero, List.getElem?_cons_succ, List.set_cons_zero, List.set_cons_succ, bindT, bindTs, wipeP, asPs, asP, asPs_map, hpc]
  refine ⟨stSm (A ++ B), ?_⟩
  show runB (evSs g [_, .loop (.tup [(.nm 3), (.nm 4)]) (.val (.var 1)) bodySm, .ret (.call I_poly_of [(.var 2)])] _ _) = _
  rw [nx s1, nx s2, rt s3, runB_ret]
end Law
end Rv
end PartPw3
section PartPw4
set_option Elab.async false
set_option linter.all false
set_option maxRecDepth 100000
set_option maxHeartbeats 4000000
set_option exponentiation.threshold 5000
namespace Rv
namespace Law
open PySem PySem.Spec PyProof.Rows L2
/-! ### how great polynomials are -/
structure Fit (n : Nat) (P : Pol) (l b c : Nat) : Prop where
  pol : IsPol n P
  len : P.length ≤ l
  pw : ∀ q ∈ P, ∀ x ∈ q.1, x.natAbs ≤ b
  nr : ∀ q ∈ P, q.2.natAbs ≤ c
/-- the same of pairs in any order -/
structure Raw48 (n : Nat) (P : Pol) (l b c : Nat) : Prop where
  ln : ∀ q ∈ P, q.1.length = n
  len : P.length ≤ l
  pw : ∀ q ∈ P, ∀ x ∈ q.1, x.natAbs ≤ b
  nr : ∀ q ∈ P, q.2.natAbs ≤ c
theorem Fit.raw {n : Nat} {P : Pol} {l b c : Nat} (h : Fit n P l b c) : Raw48 n P l b c := ⟨h.pol.len, h.len, h.pw, h.nr⟩
theorem tot_bd {P : Pol} {c : Nat} (h : ∀ q ∈ P, q.2.natAbs ≤ c) (k : List Int) : (tot P k).natAbs ≤ P.length * c := by
  induction P with
  | nil => simp [tot]
  | cons p P ih =>
    have h1 := ih fun q hq => h q (List.mem_cons_of_mem _ hq)
    have h2 := h p (List.mem_cons_self ..)
    simp only [tot]
    rw [List.length_cons, Nat.add_mul, Nat.one_mul]
    have := Int.natAbs_add_le (if p.1 = k then p.2 else 0) (tot P k)
    split at this <;> rename_i hh
    · rw [if_pos hh]; omega
    · rw [if_neg hh]; simp only [Int.natAbs_zero] at this; omega
theorem canon_len (P : Pol) : (canon P).length ≤ P.length := by
  unfold canon
  refine Nat.le_trans (List.length_filter_le _ _) ?_
  rw [List.length_map, (sortK_perm _).length_eq]
  exact keyL_len P
theorem canon_key {P : Pol} {q : List Int × Int} (h : q ∈ canon P) : ∃ p ∈ P, p.1 = q.1 := by
  obtain ⟨h1, h2⟩ := canon_mem.mp h
  by_cases c : ∃ p ∈ P, p.1 = q.1
  · exact c
  · exact absurd (tot_none (P := P) (k := q.1) fun p hp e => c ⟨p, hp, e⟩) (by rw [← h1]; exact h2)
theorem Raw48.canon {n : Nat} {P : Pol} {l b c : Nat} (h : Raw48 n P l b c) : Fit n (canon P) l b (l * c) := by
  refine ⟨canon_pol h.ln, Nat.le_trans (canon_len P) h.len, fun q hq => ?_, fun q hq => ?_⟩
  · obtain ⟨p, hp, e⟩ := canon_key hq
    rw [← e]; exact h.pw p hp
  · rw [(canon_mem.mp hq).1]
    exact Nat.le_trans (tot_bd h.nr _) (Nat.mul_le_mul_right _ h.len)
theorem Fit.mono {n : Nat} {P : Pol} {l b c l2 b2 c2 : Nat} (h : Fit n P l b c) (h1 : l ≤ l2) (h2 : b ≤ b2) (h3 : c ≤ c2) : Fit n P l2 b2 c2 :=
  ⟨h.pol, Nat.le_trans h.len h1, fun q hq x hx => Nat.le_trans (h.pw q hq x hx) h2, fun q hq => Nat.le_trans (h.nr q hq) h3⟩
theorem Raw48.app {n : Nat} {P Q : Pol} {l b c l2 : Nat} (h : Raw48 n P l b c) (h2 : Raw48 n Q l2 b c) : Raw48 n (P ++ Q) (l + l2) b c :=
  ⟨fun q hq => (List.mem_append.mp hq).elim (h.ln q) (h2.ln q), by rw [List.length_append]; have := h.len; have := h2.len; omega, fun q hq => (List.mem_append.mp hq).elim (h.pw q) (h2.pw q), fun q hq => (List.mem_append.mp hq).elim (h.nr q) (h2.nr q)⟩
theorem Raw48.neg {n : Nat} {P : Pol} {l b c : Nat} (h : Raw48 n P l b c) : Raw48 n (negP P) l b c := by
  unfold negP
  refine ⟨fun q hq => ?_, by rw [List.length_map]; exact h.len, fun q hq => ?_, fun q hq => ?_⟩
  all_goals obtain ⟨p, hp, rfl⟩ := List.mem_map.mp hq
  · exact h.ln p hp
  · exact h.pw p hp
  · show (-p.2).natAbs ≤ c
    rw [Int.natAbs_neg]; exact h.nr p hp
theorem Fit.neg {n : Nat} {P : Pol} {l b c : Nat} (h : Fit n P l b c) : Fit n (negP P) l b c := ⟨neg_pol h.pol, h.raw.neg.len, h.raw.neg.pw, h.raw.neg.nr⟩
theorem prodP_len (P Q : Pol) : (prodP P Q).length = P.length * Q.length := by
  induction P with
  | nil => simp [prodP]
  | cons p P ih =>
    unfold prodP at *
    rw [List.flatMap_cons, List.length_append, ih, List.length_map, List.length_cons, Nat.add_mul, Nat.one_mul, Nat.add_comm]
theorem Raw48.prod {n : Nat} {P Q : Pol} {l b c l2 b2 c2 : Nat} (h : Raw48 n P l b c) (h2 : Raw48 n Q l2 b2 c2) : Raw48 n (prodP P Q) (l * l2) (b + b2) (c * c2) := by
  refine ⟨fun r hr => ?_, ?_, fun r hr => ?_, fun r hr => ?_⟩
  · unfold prodP at hr
    obtain ⟨p, hp, hr⟩ := List.mem_flatMap.mp hr
    obtain ⟨q, hq, rfl⟩ := List.mem_map.mp hr
    show (addV p.1 q.1).length = n
    rw [addV_len (by rw [h.ln p hp, h2.ln q hq]), h.ln p hp]
  · rw [prodP_len]
    exact Nat.mul_le_mul h.len h2.len
  · unfold prodP at hr
    obtain ⟨p, hp, hr⟩ := List.mem_flatMap.mp hr
    obtain ⟨q, hq, rfl⟩ := List.mem_map.mp hr
    intro x hx
    unfold addV at hx
    rw [List.mem_iff_getElem] at hx
    obtain ⟨i, hi, rfl⟩ := hx
    rw [List.length_zipWith] at hi
    rw [List.getElem_zipWith]
    have a1 := h.pw p hp _ (List.getElem_mem (show i < p.1.length by omega))
    have a2 := h2.pw q hq _ (List.getElem_mem (show i < q.1.length by omega))
    have := Int.natAbs_add_le p.1[i] q.1[i]
    omega
  · unfold prodP at hr
    obtain ⟨p, hp, hr⟩ := List.mem_flatMap.mp hr
    obtain ⟨q, hq, rfl⟩ := List.mem_map.mp hr
    show (p.2 * q.2).natAbs ≤ c * c2
    rw [Int.natAbs_mul]
    exact Nat.mul_le_mul (h.nr p hp) (h2.nr q hq)
theorem small_of {c : Nat} (hc : c ≤ 2 ^ 900) {x : Int} (h : x.natAbs ≤ c) : x.natAbs < 2 ^ 2000 := Nat.lt_of_le_of_lt (Nat.le_trans h hc) (by decide)
/-! ### what the program does with them -/
theorem right_of {n : Nat} {P : Pol} {l b c : Nat} (h : Fit n P l b c) (hb : b ≤ 10000) : (P.all (pairB n) && upB P) = true := by
  rw [upB_ok h.pol.up, Bool.and_true]
  refine List.all_eq_true.mpr fun q hq => ?_
  unfold pairB powB
  rw [decide_eq_true (h.pol.len q hq), decide_eq_true (h.pol.nz q hq), Bool.true_and, Bool.and_true]
  exact List.all_eq_true.mpr fun x hx => decide_eq_true (by have := h.pw q hq x hx; omega)
theorem needMany (d : Nat) {n : Nat} (h1 : 1 ≤ n) (h6 : n ≤ 6) : callD G bs (d + 3) I_need_many [.p (natP n)] [] = .ok (.e (.p .non)) [] := by
  rw [call_eqG (f := f_need_many) (b := b_need_many) rfl rfl]
  have hS : startSl f_need_many.N.length [.p (natP n)] = [some (.p (natP n))] := rfl
  rw [hS]
  have p0 : pcall (GD G bs (d + 2)) I_is_between [.p (natP n), .p (.int 1), .p (.int 6)] [] = .ok (.p (.bl (decide ((1 : Int) ≤ (n : Int) ∧ (n : Int) ≤ 6)))) [] := pD3 (isBetween d _ _ _)
  rw [decide_eq_true (by omega)] at p0
  have hcst : (GD G bs (d + 2)).csts[K_MOST_LETTERS]? = some (("MOST_LETTERS" : Str), PV.int 6) := cst_letters
  generalize GD G bs (d + 2) = g at *
  rw [b_need_many]
  simp only [qSs1, qSs2, qS1, qS2, qS3, qS4, qS5, qS6, qS7, qS8, qS9, qS10, qS11, qS12, qS13, qS14, qS15, qS16, qS17, qS18, qS19, qS20, qE1, qE2, qE3, qE4, qE5, qE6, qE7, qE8, qE9, qE10, qE11, qE12, qE13, qE14, qE15, qE16, qE17, qE18, qE19, qE20, qE21, qE22, qE23, qE24, qE25, qE26, qE27, qE28, qE29, qE30, qE31, qE32, qE33, qEs1, qEs2, qT1, qT2, qT3, qT4, qT5, qT6, qTs1, qTs2, qO1, qO2, toS_ok, toS_exc, bind_ok, bind_exc, next_nx, next_ct, next_bk, next_ret, next_exc, runB_ret, runB_nx, runB_exc, noExc_nx, noExc_ret, see2, see1, see, sees, truth, cmpop, List.getElem?_cons_zero, List.getElem?_cons_succ, List.set_cons_zero, List.set_cons_succ, bindT, bindTs, wipeP, asPs, asP, asPs_map, hcst, p0, Bool.not_true]
theorem needPoly (d : Nat) {n : Nat} {P : Pol} {l b c : Nat} (h6 : n ≤ 6) (h : Fit n P l b c) (hl : l ≤ 4000) (hb : b ≤ 10000) : callD G bs (d + 6) I_need_poly [.p (natP n), .p (vP P)] [] = .ok (.e (.p .non)) [] := by
  rw [call_eqG (f := f_need_poly) (b := b_need_poly) rfl rfl]
  have hS : startSl f_need_poly.N.length [.p (natP n), .p (vP P)] = [some (.p (natP n)), some (.p (vP P))] := rfl
  rw [hS]
  have p0 : pcall (GD G bs (d + 5)) I_is_right_poly [.p (natP n), .p (vP P)] [] = .ok (.p (.bl (P.all (pairB n) && upB P))) [] := pD2 (isRight d (Nat.le_trans h.len hl) fun q hq => by rw [h.pol.len q hq]; omega)
  rw [right_of h hb] at p0
  generalize GD G bs (d + 5) = g at *
  generalize vP P = v at *
  rw [b_need_poly]
  simp only [qSs1, qSs2, qS1, qS2, qS3, qS4, qS5, qS6, qS7, qS8, qS9, qS10, qS11, qS12, qS13, qS14, qS15, qS16, qS17, qS18, qS19, qS20, qE1, qE2, qE3, qE4, qE5, qE6, qE7, qE8, qE9, qE10, qE11, qE12, qE13, qE14, qE15, qE16, qE17, qE18, qE19, qE20, qE21, qE22, qE23, qE24, qE25, qE26, qE27, qE28, qE29, qE30, qE31, qE32, qE33, qEs1, qEs2, qT1, qT2, qT3, qT4, qT5, qT6, qTs1, qTs2, qO1, qO2, toS_ok, toS_exc, bind_ok, bind_exc, next_nx, next_ct, next_bk, next_ret, next_exc, runB_ret, runB_nx, runB_exc, noExc_nx, noExc_ret, see2, see1, see, sees, truth, cmpop, List.getElem?_cons_zero, List.getElem?_cons_succ, List.set_cons_zero, List.set_cons_succ, bindT, bindTs, wipeP, asPs, asP, asPs_map, p0, Bool.not_true]
theorem needPolys (d : Nat) {n : Nat} {P Q : Pol} {l b c l2 b2 c2 : Nat} (h1 : 1 ≤ n) (h6 : n ≤ 6) (h : Fit n P l b c) (h2 : Fit n Q l2 b2 c2) (hl : l ≤ 4000) (hb : b ≤ 10000) (hl2 : l2 ≤ 4000) (hb2 : b2 ≤ 10000) : callD G bs (d + 7) I_need_polys [.p (natP n), .p (vP P), .p (vP Q)] [] = .ok (.e (.p .non)) [] := by
  rw [call_eqG (f := f_need_polys) (b := b_need_polys) rfl rfl]
  have hS : startSl f_need_polys.N.length [.p (natP n), .p (vP P), .p (vP Q)] = [some (.p (natP n)), some (.p (vP P)), some (.p (vP Q))] := rfl
  rw [hS]
  have p0 : pcall (GD G bs (d + 6)) I_need_many [.p (natP n)] [] = .ok (.p .non) [] := pD1 (needMany (d + 3) h1 h6)
  have p1 : pcall (GD G bs (d + 6)) I_need_poly [.p (natP n), .p (vP P)] [] = .ok (.p .non) [] := pD2 (needPoly d h6 h hl hb)
  have p2 : pcall (GD G bs (d + 6)) I_need_poly [.p (natP n), .p (vP Q)] [] = .ok (.p .non) [] := pD2 (needPoly d h6 h2 hl2 hb2)
  generalize GD G bs (d + 6) = g at *
  generalize vP P = v at *
  generalize vP Q = w at *
  rw [b_need_polys]
  simp only [qSs1, qSs2, qS1, qS2, qS3, qS4, qS5, qS6, qS7, qS8, qS9, qS10, qS11, qS12, qS13, qS14, qS15, qS16, qS17, qS18, qS19, qS20, qE1, qE2, qE3, qE4, qE5, qE6, qE7, qE8, qE9, qE10, qE11, qE12, qE13, qE14, qE15, qE16, qE17, qE18, qE19, qE20, qE21, qE22, qE23, qE24, qE25, qE26, qE27, qE28, qE29, qE30, qE31, qE32, qE33, qEs1, qEs2, qT1, qT2, qT3, qT4, qT5, qT6, qTs1, qTs2, qO1, qO2, toS_ok, toS_exc, bind_ok, bind_exc, next_nx, next_ct, next_bk, next_ret, next_exc, runB_ret, runB_nx, runB_exc, noExc_nx, noExc_ret, see2, see1, see, sees, truth, cmpop, List.getElem?_cons_zero, List.getElem?_cons_succ, List.set_cons_zero, List.set_cons_succ, bindT, bindTs, wipeP, asPs, asP, asPs_map, p0, p1, p2]
theorem needShort (d : Nat) {P : Pol} (h : P.length ≤ 4000) : callD G bs (d + 1) I_need_short [.p (vP P), .p (.int 4000)] [] = .ok (.e (.p (vP P))) [] := by
  rw [call_eqG (f := f_need_short) (b := b_need_short) rfl rfl]
  have hS : startSl f_need_short.N.length [.p (vP P), .p (.int 4000)] = [some (.p (vP P)), some (.p (.int 4000))] := rfl
  rw [hS]
  generalize GD G bs d = g
  have e1 := vP_len P
  have e2 : ltP (.int 4000) (.int ((P.length : Nat) : Int)) = some false := by
    rw [ltP_int]
    exact congrArg some (decide_eq_false (by omega))
  generalize vP P = v at *
  rw [b_need_short]
  simp only [qSs1, qSs2, qS1, qS2, qS3, qS4, qS5, qS6, qS7, qS8, qS9, qS10, qS11, qS12, qS13, qS14, qS15, qS16, qS17, qS18, qS19, qS20, qE1, qE2, qE3, qE4, qE5, qE6, qE7, qE8, qE9, qE10, qE11, qE12, qE13, qE14, qE15, qE16, qE17, qE18, qE19, qE20, qE21, qE22, qE23, qE24, qE25, qE26, qE27, qE28, qE29, qE30, qE31, qE32, qE33, qEs1, qEs2, qT1, qT2, qT3, qT4, qT5, qT6, qTs1, qTs2, qO1, qO2, toS_ok, toS_exc, bind_ok, bind_exc, next_nx, next_ct, next_bk, next_ret, next_exc, runB_ret, runB_nx, runB_exc, noExc_nx, noExc_ret, see2, see1, see, sees, truth, cmpop, List.getElem?_cons_zero, List.getElem?_cons_succ, List.set_cons_zero, List.set_cons_succ, bindT, bindTs, wipeP, asPs, asP, asPs_map, e1, e2]
def rhoNl (P : Pol) (a b : Option EV) : Sl := [some (.p (vP P)), a, b]
theorem needLet (d : Nat) {n : Nat} {P : Pol} {l b c : Nat} (h1 : 1 ≤ n) (h : Fit n P l b c) (hl : l ≤ 4000) (hb : b ≤ 10000) : callD G bs (d + 2) I_need_let [.p (vP P)] [] = .ok (.e (.p (vP P))) [] := by
  rw [call_eqG (f := f_need_let) (b := b_need_let) rfl rfl]
  have hS : startSl f_need_let.N.length [.p (vP P)] = rhoNl P none none := rfl
  rw [hS]
  have p0 : pcall (GD G bs (d + 1)) I_need_short [.p (vP P), .p (.int 4000)] [] = .ok (.p (vP P)) [] := pD2 (needShort d (Nat.le_trans h.len hl))
  have hcst : (GD G bs (d + 1)).csts[K_MOST_POWER]? = some (("MOST_POWER" : Str), PV.int 10000) := cst_power
  have hcst2 : (GD G bs (d + 1)).csts[K_MOST_PAIRS]? = some (("MOST_PAIRS" : Str), PV.int 4000) := cst_pairs
  generalize GD G bs (d + 1) = g at *
  have s0 : evS g (.expr (.call I_need_short [(.var 0), (.cst K_MOST_PAIRS)])) (rhoNl P none none) [] = .nx (rhoNl P none none) [] := by
    unfold rhoNl
    generalize vP P = v at *
    simp only [qSs1, qSs2, qS1, qS2, qS3, qS4, qS5, qS6, qS7, qS8, qS9, qS10, qS11, qS12, qS13, qS14, qS15, qS16, qS17, qS18, qS19, qS20, qE1, qE2, qE3, qE4, qE5, qE6, qE7, qE8, qE9, qE10, qE11, qE12, qE13, qE14, qE15, qE16, qE17, qE18, qE19, qE20, qE21, qE22, qE23, qE24, qE25, qE26, qE27, qE28, qE29, qE30, qE31, qE32, qE33, qEs1, qEs2, qT1, qT2, qT3, qT4, qT5, qT6, qTs1, qTs2, qO1, qO2, toS_ok, toS_exc, bind_ok, bind_exc, next_nx, next_ct, next_bk, next_ret, next_exc, runB_ret, runB_nx, runB_exc, noExc_nx, noExc_ret, see2, see1, see, sees, truth, cmpop, List.getElem?_cons_zero, List.getElem?_cons_succ, List.set_cons_zero, List.set_cons_succ, bindT, bindTs, wipeP, asPs, asP, asPs_map, hcst2, p0]
  obtain ⟨ρ', S', e1, a', b', f1, f2⟩ := forL_inv (t := .tup [(.nm 1), (.nm 2)]) (b := fun ρ S => evSs g [.ife (.or (.cmp .gt (.bi .max1 [(.var 1)]) (.cst K_MOST_POWER)) (.cmp .lt (.bi .min1 [(.var 1)]) (.neg (.cst K_MOST_POWER)))) [.never] []] ρ S)
    (fun j ρ S => ∃ a' b', ρ = rhoNl P a' b' ∧ S = []) (P.map pP) 0 (rhoNl P none none) [] ⟨none, none, rfl, rfl⟩ fun j x ρ S hx ⟨a', b', f1, f2⟩ => by
      subst f1 f2
      rw [List.getElem?_map] at hx
      obtain ⟨q, h2, rfl⟩ := Option.map_eq_some_iff.mp hx
      have hq := List.mem_of_getElem? h2
      have hne : q.1 ≠ [] := fun e => by
        have := h.pol.len q hq
        rw [e] at this; simp at this; omega
      obtain ⟨M, m1, m2, _⟩ := max_L hne
      obtain ⟨N, n1, n2, _⟩ := min_L hne
      have b1 := h.pw q hq M m2
      have b2 := h.pw q hq N n2
      have t1 : ltP (.int 10000) (.int M) = some false := by
        rw [ltP_int]
        exact congrArg some (decide_eq_false (by omega))
      have t2 : ltP (.int N) (.int (-10000)) = some false := by
        rw [ltP_int]
        exact congrArg some (decide_eq_false (by omega))
      refine ⟨rhoNl P (some (.p (eL q.1))) (some (.p (.int q.2))), rfl, rhoNl P (some (.p (eL q.1))) (some (.p (.int q.2))), [], .inl ?_, _, _, rfl, rfl⟩
      unfold rhoNl
      generalize vP P = v at *
      generalize eL q.1 = ke at *
      simp only [qSs1, qSs2, qS1, qS2, qS3, qS4, qS5, qS6, qS7, qS8, qS9, qS10, qS11, qS12, qS13, qS14, qS15, qS16, qS17, qS18, qS19, qS20, qE1, qE2, qE3, qE4, qE5, qE6, qE7, qE8, qE9, qE10, qE11, qE12, qE13, qE14, qE15, qE16, qE17, qE18, qE19, qE20, qE21, qE22, qE23, qE24, qE25, qE26, qE27, qE28, qE29, qE30, qE31, qE32, qE33, qEs1, qEs2, qT1, qT2, qT3, qT4, qT5, qT6, qTs1, qTs2, qO1, qO2, toS_ok, toS_exc, bind_ok, bind_exc, next_nx, next_ct, next_bk, next_ret, next_exc, runB_ret, runB_nx, runB_exc, noExc_nx, noExc_ret, see2, see1, see, sees, truth, cmpop, List.getElem?_cons_zero, List.getElem?_cons_succ, List.set_cons_zero, List.set_cons_succ, bindT, bindTs, wipeP, asPs, asP, asPs_map, m1, n1, hcst, t1, t2]
  have s1 : evS g (.loop (.tup [(.nm 1), (.nm 2)]) (.val (.var 0)) [.ife (.or (.cmp .gt (.bi .max1 [(.var 1)]) (.cst K_MOST_POWER)) (.cmp .lt (.bi .min1 [(.var 1)]) (.neg (.cst K_MOST_POWER)))) [.never] []]) (rhoNl P none none) [] = .nx (rhoNl P a' b') [] := loop_of (it_val (v := vP P) rfl rfl) (by rw [e1, f1, f2])
  rw [b_need_let, nx s0, nx s1]
  unfold rhoNl
  generalize vP P = v at *
  simp only [qSs1, qSs2, qS1, qS2, qS3, qS4, qS5, qS6, qS7, qS8, qS9, qS10, qS11, qS12, qS13, qS14, qS15, qS16, qS17, qS18, qS19, qS20, qE1, qE2, qE3, qE4, qE5, qE6, qE7, qE8, qE9, qE10, qE11, qE12, qE13, qE14, qE15, qE16, qE17, qE18, qE19, qE20, qE21, qE22, qE23, qE24, qE25, qE26, qE27, qE28, qE29, qE30, qE31, qE32, qE33, qEs1, qEs2, qT1, qT2, qT3, qT4, qT5, qT6, qTs1, qTs2, qO1, qO2, toS_ok, toS_exc, bind_ok, bind_exc, next_nx, next_ct, next_bk, next_ret, next_exc, runB_ret, runB_nx, runB_exc, noExc_nx, noExc_ret, see2, see1, see, sees, truth, cmpop, List.getElem?_cons_zero, List.getElem?_cons_succ, List.set_cons_zero, List.set_cons_succ, bindT, bindTs, wipeP, asPs, asP, asPs_map]
def rhoMu (A B : Pol) (k v k2 v2 p : Option EV) : Sl := [some (.p (vP A)), some (.p (vP B)), some (.ref 0), k, v, k2, v2, p]
def bodyMu : List PS := [.asg (.nm 7) (.call I_powers_plus [(.var 3), (.var 5)]), .setIx (.var 2) (.var 7) (.bin .add (.get2 (.var 2) (.var 7) (.const (.int (0)))) (.bin .mul (.var 4) (.var 6)))]
theorem bodyMu_ok {d : Nat} {A B L : Pol} {p q : List Int × Int} (hp : p.1.length ≤ 1000) (h1 : p.2.natAbs < 2 ^ 2000) (h2 : q.2.natAbs < 2 ^ 2000) (hl : L.length ≤ 100000) (po : Option EV) : ∃ p', evSs (GD G bs (d + 1)) bodyMu (rhoMu A B (some (.p (eL p.1))) (some (.p (.int p.2))) (some (.p (eL q.1))) (some (.p (.int q.2))) po) (stSm L) = .nx (rhoMu A B (some (.p (eL p.1))) (some (.p (.int p.2))) (some (.p (eL q.1))) (some (.p (.int q.2))) p') (stSm (L ++ [(addV p.1 q.1, p.2 * q.2)])) := by
  have p1 : pcall (GD G bs (d + 1)) I_powers_plus [.p (eL p.1), .p (eL q.1)] (stSm L) = .ok (.p (eL (addV p.1 q.1))) (stSm L) := pD2 (powersPlus d hp)
  have hm := mul_int h1 h2
  generalize GD G bs (d + 1) = g at *
  generalize p.2 * q.2 = v at *
  generalize addV p.1 q.1 = k at *
  have h0 : (stSm L)[0]? = some (dO L) := rfl
  have e1 := dct_dict h0
  have e2 := getv_dict (k := k) h0
  have e3 := get_dict L k
  have e4 := set_dict (k := k) (v := v) h0 hl
  have e5 : (stSm L).set 0 (dO (L ++ [(k, v)])) = stSm (L ++ [(k, v)]) := rfl
  rw [e5] at e4
  refine ⟨some (.p (eL k)), ?_⟩
  generalize lookP (dK L) (dV L) (keyI k) = o at *
  generalize tot L k = t at *
  generalize stSm L = S at *
  generalize stSm (L ++ [(k, v)]) = S2 at *
  unfold bodyMu rhoMu
  generalize vP A = va
  generalize vP B = vb
  generalize eL p.1 = kp at *
  generalize eL q.1 = kq at *
  generalize eL k = ke at *
  simp only [qSs1, qSs2, qS1, qS2, qS3, qS4, qS5, qS6, qS7, qS8, qS9, qS10, qS11, qS12, qS13, qS14, qS15, qS16, qS17, qS18, qS19, qS20, qE1, qE2, qE3, qE4, qE5, qE6, qE7, qE8, qE9, qE10, qE11, qE12, qE13, qE14, qE15, qE16, qE17, qE18, qE19, qE20, qE21, qE22, qE23, qE24, qE25, qE26, qE27, qE28, qE29, qE30, qE31, qE32, qE33, qEs1, qEs2, qT1, qT2, qT3, qT4, qT5, qT6, qTs1, qTs2, qO1, qO2, toS_ok, toS_exc, bind_ok, bind_exc, next_nx, next_ct, next_bk, next_ret, next_exc, runB_ret, runB_nx, runB_exc, noExc_nx, noExc_ret, see2, see1, see, sees, truth, cmpop, List.getElem?_cons_zero, List.getElem?_cons_succ, List.set_cons_zero, List.set_cons_succ, bindT, bindTs, wipeP, asPs, asP, asPs_map, p1, e1, e2, e3, hm, e4, add_int, if_true]
theorem prod_snoc (A B : Pol) {i : Nat} {p : List Int × Int} (h : A[i]? = some p) : prodP (A.take (i + 1)) B = prodP (A.take i) B ++ B.map fun q => (addV p.1 q.1, p.2 * q.2) := by
  unfold prodP
  rw [List.take_add_one, h, List.flatMap_append]
  simp
theorem multipliedOk (d : Nat) {n : Nat} (h1 : 1 ≤ n) (h6 : n ≤ 6) {A B : Pol} {l b c l2 b2 c2 : Nat} (hA : Raw48 n A l b c) (hB : Raw48 n B l2 b2 c2) (hl : l * l2 ≤ 10000) (hc : c ≤ 2 ^ 900) (hc2 : c2 ≤ 2 ^ 900) : ∃ S, callD G bs (d + 2) I_multiplied [.p (vP A), .p (vP B)] [] = .ok (.e (.p (vP (canon (prodP A B))))) S := by
  rw [call_eqG (f := f_multiplied) (b := b_multiplied) rfl rfl]
  have hS : startSl f_multiplied.N.length [.p (vP A), .p (vP B)] = [some (.p (vP A)), some (.p (vP B)), none, none, none, none, none, none] := rfl
  rw [hS]
  have hP := hA.prod hB
  have hp := polyOf d h1 hP.ln (by have := hP.len; omega)
  have hpc : pcall (GD G bs (d + 1)) I_poly_of [.ref 0] (stSm (prodP A B)) = .ok (.p (vP (canon (prodP A B)))) (stSm (prodP A B)) := pcall_see (w := .dtt (dK (prodP A B)) (dV (prodP A B))) rfl hp (flat_vP _)
  have s0 : evS (GD G bs (d + 1)) (.asg (.nm 2) (.dnew true)) [some (.p (vP A)), some (.p (vP B)), none, none, none, none, none, none] [] = .nx (rhoMu A B none none none none none) (stSm []) := by
    simp only [qS1, evE, toS_ok, bindT]
    rfl
  have inner : ∀ i p, A[i]? = some p → ∀ k2 v2 po, ∃ k2' v2' p', evS (GD G bs (d + 1)) (.loop (.tup [(.nm 5), (.nm 6)]) (.val (.var 1)) bodyMu) (rhoMu A B (some (.p (eL p.1))) (some (.p (.int p.2))) k2 v2 po) (stSm (prodP (A.take i) B)) = .nx (rhoMu A B (some (.p (eL p.1))) (some (.p (.int p.2))) k2' v2' p') (stSm (prodP (A.take (i + 1)) B)) := fun i p hi k2 v2 po => by
    have hpm := List.mem_of_getElem? hi
    have hil := (List.getElem?_eq_some_iff.mp hi).1
    obtain ⟨ρ', S', e1, k2', v2', p', f1, f2⟩ := forL_inv (t := .tup [(.nm 5), (.nm 6)]) (b := fun ρ S => evSs (GD G bs (d + 1)) bodyMu ρ S)
      (fun j ρ S => ∃ k2' v2' p', ρ = rhoMu A B (some (.p (eL p.1))) (some (.p (.int p.2))) k2' v2' p' ∧ S = stSm (prodP (A.take i) B ++ (B.take j).map fun q => (addV p.1 q.1, p.2 * q.2))) (B.map pP) 0 (rhoMu A B (some (.p (eL p.1))) (some (.p (.int p.2))) k2 v2 po) (stSm (prodP (A.take i) B)) ⟨k2, v2, po, rfl, by rw [List.take_zero, List.map_nil, List.append_nil]⟩ fun j x ρ S hx ⟨k2', v2', p', f1, f2⟩ => by
        subst f1 f2
        rw [Nat.zero_add]
        rw [List.getElem?_map] at hx
        obtain ⟨q, h2, rfl⟩ := Option.map_eq_some_iff.mp hx
        have hqm := List.mem_of_getElem? h2
        have hlen : (prodP (A.take i) B ++ (B.take j).map fun q => (addV p.1 q.1, p.2 * q.2)).length ≤ 100000 := by
          rw [List.length_append, prodP_len, List.length_map, List.length_take, List.length_take]
          have a1 := hA.len
          have a2 := hB.len
          have a3 : min i A.length * B.length ≤ l * l2 := Nat.mul_le_mul (by omega) a2
          have a4 : B.length ≤ l * l2 := by
            have : 1 ≤ l := by omega
            have := Nat.mul_le_mul this a2
            omega
          omega
        obtain ⟨p2, e2⟩ := bodyMu_ok (d := d) (A := A) (B := B) (L := prodP (A.take i) B ++ (B.take j).map fun q => (addV p.1 q.1, p.2 * q.2)) (p := p) (q := q) (by rw [hA.ln p hpm]; omega) (small_of hc (hA.nr p hpm)) (small_of hc2 (hB.nr q hqm)) hlen p'
        refine ⟨rhoMu A B (some (.p (eL p.1))) (some (.p (.int p.2))) (some (.p (eL q.1))) (some (.p (.int q.2))) p', rfl, _, _, .inl e2, _, _, _, rfl, ?_⟩
        rw [List.take_add_one, h2, List.map_append, ← List.append_assoc]
        rfl
    rw [Nat.zero_add, List.length_map, List.take_length, ← prod_snoc A B hi] at f2
    exact ⟨k2', v2', p', loop_of (it_val (v := vP B) rfl rfl) (by rw [e1, f1, f2])⟩
  obtain ⟨ρ', S', e1, k', v', k2', v2', p', f1, f2⟩ := forL_inv (t := .tup [(.nm 3), (.nm 4)]) (b := fun ρ S => evSs (GD G bs (d + 1)) [.loop (.tup [(.nm 5), (.nm 6)]) (.val (.var 1)) bodyMu] ρ S)
    (fun j ρ S => ∃ k' v' k2' v2' p', ρ = rhoMu A B k' v' k2' v2' p' ∧ S = stSm (prodP (A.take j) B)) (A.map pP) 0 (rhoMu A B none none none none none) (stSm []) ⟨none, none, none, none, none, rfl, rfl⟩ fun j x ρ S hx ⟨k', v', k2', v2', p', f1, f2⟩ => by
      subst f1 f2
      rw [Nat.zero_add]
      rw [List.getElem?_map] at hx
      obtain ⟨p, h2, rfl⟩ := Option.map_eq_some_iff.mp hx
      obtain ⟨a2, b2, c2, e2⟩ := inner j p h2 k2' v2' p'
      exact ⟨rhoMu A B (some (.p (eL p.1))) (some (.p (.int p.2))) k2' v2' p', rfl, _, _, .inl (nx1 e2), _, _, _, _, _, rfl, rfl⟩
  rw [Nat.zero_add, List.length_map, List.take_length] at f2
  have s1 : evS (GD G bs (d + 1)) (.loop (.tup [(.nm 3), (.nm 4)]) (.val (.var 0)) [.loop (.tup [(.nm 5), (.nm 6)]) (.val (.var 1)) bodyMu]) (rhoMu A B none none none none none) (stSm []) = .nx (rhoMu A B k' v' k2' v2' p') (stSm (prodP A B)) := loop_of (it_val (v := vP A) rfl rfl) (by rw [e1, f1, f2])
  have s2 : evS (GD G bs (d + 1)) (.ret (.call I_poly_of [(.var 2)])) (rhoMu A B k' v' k2' v2' p') (stSm (prodP A B)) = .ret (.e (.p (vP (canon (prodP A B))))) (stSm (prodP A B)) := by
    generalize GD G bs (d + 1) = g at *
    generalize stSm (prodP A B) = S at *
    generalize vP (canon (prodP A B)) = R at *
    unfold rhoMu
    simp only [qSs1, qSs2, qS1, qS2, qS3, qS4, qS5, qS6, qS7, qS8, qS9, qS10, qS11, qS12, qS13, qS14, qS15, qS16, qS17, qS18, qS19, qS20, qE1, qE2, qE3, qE4, qE5, qE6, qE7, qE8, qE9, qE10, qE11, qE12, qE13, qE14, qE15, qE16, qE17, qE18, qE19, qE20, qE21, qE22, qE23, qE24, qE25, qE26, qE27, qE28, qE29, qE30, qE31, qE32, qE33, qEs1, qEs2, qT1, qT2, qT3, qT4, qT5, qT6, qTs1, qTs2, qO1, qO2, toS_ok, toS_exc, bind_ok, bind_exc, next_nx, next_ct, next_bk, next_ret, next_exc, runB_ret, runB_nx, runB_exc, noExc_nx, noExc_ret, see2, see1, see, sees, truth, cmpop, List.getElem?_cons_zero, List.getElem?_cons_succ, List.set_cons_zero, List.set_cons_succ, bindT, bindTs, wipeP, asPs, asP, asPs_map, hpc]
  refine ⟨stSm (prodP A B), ?_⟩
  show runB (evSs _ [_, .loop (.tup [(.nm 3), (.nm 4)]) (.val (.var 0)) [.loop (.tup [(.nm 5), (.nm 6)]) (.val (.var 1)) bodyMu], .ret (.call I_poly_of [(.var 2)])] _ _) = _
  rw [nx s0, nx s1, rt s2, runB_ret]
end Law
end Rv
end PartPw4
section PartPw5
set_option Elab.async false
set_option linter.all false
set_option maxRecDepth 100000
set_option maxHeartbeats 4000000
set_option exponentiation.threshold 5000
namespace Rv
namespace Law
open PySem PySem.Spec PyProof.Rows L2
section
variable {n : Nat} {A B : Pol} {l b c l2 b2 c2 : Nat}
theorem lessenedOk (d : Nat) (h1 : 1 ≤ n) (hA : Fit n A l b c) (hB : Fit n B l2 b2 c2) (hl : l ≤ 10000) (hl2 : l2 ≤ 10000) (hc : c2 ≤ 2 ^ 900) : ∃ S, callD G bs (d + 3) I_lessened [.p (vP A), .p (vP B)] [] = .ok (.e (.p (vP (canon (A ++ negP B))))) S := by
  rw [call_eqG (f := f_lessened) (b := b_lessened) rfl rfl]
  have hS : startSl f_lessened.N.length [.p (vP A), .p (vP B)] = [some (.p (vP A)), some (.p (vP B))] := rfl
  rw [hS]
  have p1 : pcall (GD G bs (d + 2)) I_scaled [.p (vP B), .p (.int (-1))] [] = .ok (.p (vP (negP B))) [] := pD2 (scaledN (d + 1) (by have := hB.len; omega) fun q hq => small_of hc (hB.nr q hq))
  obtain ⟨S', h2⟩ := summedOk d h1 hA.pol hB.neg.pol.len (Nat.le_trans hA.len hl) (Nat.le_trans hB.neg.len hl2)
  have p2 : pcall (GD G bs (d + 2)) I_summed [.p (vP A), .p (vP (negP B))] [] = .ok (.p (vP (canon (A ++ negP B)))) [] := pS2 h2 rfl
  generalize GD G bs (d + 2) = g at *
  generalize vP (canon (A ++ negP B)) = R at *
  generalize vP (negP B) = nb at *
  generalize vP A = va at *
  generalize vP B = vb at *
  refine ⟨[], ?_⟩
  rw [b_lessened]
  simp only [qSs1, qSs2, qS1, qS2, qS3, qS4, qS5, qS6, qS7, qS8, qS9, qS10, qS11, qS12, qS13, qS14, qS15, qS16, qS17, qS18, qS19, qS20, qE1, qE2, qE3, qE4, qE5, qE6, qE7, qE8, qE9, qE10, qE11, qE12, qE13, qE14, qE15, qE16, qE17, qE18, qE19, qE20, qE21, qE22, qE23, qE24, qE25, qE26, qE27, qE28, qE29, qE30, qE31, qE32, qE33, qEs1, qEs2, qT1, qT2, qT3, qT4, qT5, qT6, qTs1, qTs2, qO1, qO2, toS_ok, toS_exc, bind_ok, bind_exc, next_nx, next_ct, next_bk, next_ret, next_exc, runB_ret, runB_nx, runB_exc, noExc_nx, noExc_ret, see2, see1, see, sees, truth, cmpop, List.getElem?_cons_zero, List.getElem?_cons_succ, List.set_cons_zero, List.set_cons_succ, bindT, bindTs, wipeP, asPs, asP, asPs_map, p1, p2]
theorem polySum (d : Nat) (h1 : 1 ≤ n) (h6 : n ≤ 6) (hA : Fit n A l b c) (hB : Fit n B l2 b c) (hl : l + l2 ≤ 4000) (hb : b ≤ 10000) : callD G bs (d + 8) I_poly_sum [.p (natP n), .p (vP A), .p (vP B)] [] = .ok (.e (.p (vP (canon (A ++ B))))) [] := by
  rw [call_eqG (f := f_poly_sum) (b := b_poly_sum) rfl rfl]
  have hS : startSl f_poly_sum.N.length [.p (natP n), .p (vP A), .p (vP B)] = [some (.p (natP n)), some (.p (vP A)), some (.p (vP B))] := rfl
  rw [hS]
  have p0 : pcall (GD G bs (d + 7)) I_need_polys [.p (natP n), .p (vP A), .p (vP B)] [] = .ok (.p .non) [] := pD3 (needPolys d h1 h6 hA hB (by omega) hb (by omega) hb)
  obtain ⟨S', h2⟩ := summedOk (d + 5) h1 hA.pol hB.pol.len (by have := hA.len; omega) (by have := hB.len; omega)
  have p2 : pcall (GD G bs (d + 7)) I_summed [.p (vP A), .p (vP B)] [] = .ok (.p (vP (canon (A ++ B)))) [] := pS2 h2 rfl
  have hf := (hA.raw.app hB.raw).canon
  have p3 : pcall (GD G bs (d + 7)) I_need_let [.p (vP (canon (A ++ B)))] [] = .ok (.p (vP (canon (A ++ B)))) [] := pD1 (needLet (d + 5) h1 hf hl hb)
  generalize GD G bs (d + 7) = g at *
  generalize vP (canon (A ++ B)) = R at *
  generalize vP A = va at *
  generalize vP B = vb at *
  rw [b_poly_sum]
  simp only [qSs1, qSs2, qS1, qS2, qS3, qS4, qS5, qS6, qS7, qS8, qS9, qS10, qS11, qS12, qS13, qS14, qS15, qS16, qS17, qS18, qS19, qS20, qE1, qE2, qE3, qE4, qE5, qE6, qE7, qE8, qE9, qE10, qE11, qE12, qE13, qE14, qE15, qE16, qE17, qE18, qE19, qE20, qE21, qE22, qE23, qE24, qE25, qE26, qE27, qE28, qE29, qE30, qE31, qE32, qE33, qEs1, qEs2, qT1, qT2, qT3, qT4, qT5, qT6, qTs1, qTs2, qO1, qO2, toS_ok, toS_exc, bind_ok, bind_exc, next_nx, next_ct, next_bk, next_ret, next_exc, runB_ret, runB_nx, runB_exc, noExc_nx, noExc_ret, see2, see1, see, sees, truth, cmpop, List.getElem?_cons_zero, List.getElem?_cons_succ, List.set_cons_zero, List.set_cons_succ, bindT, bindTs, wipeP, asPs, asP, asPs_map, p0, p2, p3]
theorem polyLess (d : Nat) (h1 : 1 ≤ n) (h6 : n ≤ 6) (hA : Fit n A l b c) (hB : Fit n B l2 b c) (hl : l + l2 ≤ 4000) (hb : b ≤ 10000) (hc : c ≤ 2 ^ 900) : callD G bs (d + 8) I_poly_less [.p (natP n), .p (vP A), .p (vP B)] [] = .ok (.e (.p (vP (canon (A ++ negP B))))) [] := by
  rw [call_eqG (f := f_poly_less) (b := b_poly_less) rfl rfl]
  have hS : startSl f_poly_less.N.length [.p (natP n), .p (vP A), .p (vP B)] = [some (.p (natP n)), some (.p (vP A)), some (.p (vP B))] := rfl
  rw [hS]
  have p0 : pcall (GD G bs (d + 7)) I_need_polys [.p (natP n), .p (vP A), .p (vP B)] [] = .ok (.p .non) [] := pD3 (needPolys d h1 h6 hA hB (by omega) hb (by omega) hb)
  obtain ⟨S', h2⟩ := lessenedOk (d + 4) h1 hA hB (by omega) (by omega) hc
  have p2 : pcall (GD G bs (d + 7)) I_lessened [.p (vP A), .p (vP B)] [] = .ok (.p (vP (canon (A ++ negP B)))) [] := pS2 h2 rfl
  have hf := (hA.raw.app hB.neg.raw).canon
  have p3 : pcall (GD G bs (d + 7)) I_need_let [.p (vP (canon (A ++ negP B)))] [] = .ok (.p (vP (canon (A ++ negP B)))) [] := pD1 (needLet (d + 5) h1 hf hl hb)
  generalize GD G bs (d + 7) = g at *
  generalize vP (canon (A ++ negP B)) = R at *
  generalize vP A = va at *
  generalize vP B = vb at *
  rw [b_poly_less]
  simp only [qSs1, qSs2, qS1, qS2, qS3, qS4, qS5, qS6, qS7, qS8, qS9, qS10, qS11, qS12, qS13, qS14, qS15, qS16, qS17, qS18, qS19, qS20, qE1, qE2, qE3, qE4, qE5, qE6, qE7, qE8, qE9, qE10, qE11, qE12, qE13, qE14, qE15, qE16, qE17, qE18, qE19, qE20, qE21, qE22, qE23, qE24, qE25, qE26, qE27, qE28, qE29, qE30, qE31, qE32, qE33, qEs1, qEs2, qT1, qT2, qT3, qT4, qT5, qT6, qTs1, qTs2, qO1, qO2, toS_ok, toS_exc, bind_ok, bind_exc, next_nx, next_ct, next_bk, next_ret, next_exc, runB_ret, runB_nx, runB_exc, noExc_nx, noExc_ret, see2, see1, see, sees, truth, cmpop, List.getElem?_cons_zero, List.getElem?_cons_succ, List.set_cons_zero, List.set_cons_succ, bindT, bindTs, wipeP, asPs, asP, asPs_map, p0, p2, p3]
theorem polyProduct (d : Nat) (h1 : 1 ≤ n) (h6 : n ≤ 6) (hA : Fit n A l b c) (hB : Fit n B l2 b2 c2) (h0 : 1 ≤ l) (h02 : 1 ≤ l2) (hl : l * l2 ≤ 4000) (hb : b + b2 ≤ 10000) (hc : c ≤ 2 ^ 900) (hc2 : c2 ≤ 2 ^ 900) : callD G bs (d + 8) I_poly_product [.p (natP n), .p (vP A), .p (vP B)] [] = .ok (.e (.p (vP (canon (prodP A B))))) [] := by
  rw [call_eqG (f := f_poly_product) (b := b_poly_product) rfl rfl]
  have hS : startSl f_poly_product.N.length [.p (natP n), .p (vP A), .p (vP B)] = [some (.p (natP n)), some (.p (vP A)), some (.p (vP B))] := rfl
  rw [hS]
  have hl1 : l ≤ 4000 := Nat.le_trans (Nat.le_mul_of_pos_right _ (by omega)) hl
  have hl2 : l2 ≤ 4000 := Nat.le_trans (Nat.le_mul_of_pos_left _ (by omega)) hl
  have p0 : pcall (GD G bs (d + 7)) I_need_polys [.p (natP n), .p (vP A), .p (vP B)] [] = .ok (.p .non) [] := pD3 (needPolys d h1 h6 hA hB hl1 (by omega) hl2 (by omega))
  obtain ⟨S', h2⟩ := multipliedOk (d + 5) h1 h6 hA.raw hB.raw (by omega) hc hc2
  have p2 : pcall (GD G bs (d + 7)) I_multiplied [.p (vP A), .p (vP B)] [] = .ok (.p (vP (canon (prodP A B)))) [] := pS2 h2 rfl
  have hf := (hA.raw.prod hB.raw).canon
  have p3 : pcall (GD G bs (d + 7)) I_need_let [.p (vP (canon (prodP A B)))] [] = .ok (.p (vP (canon (prodP A B)))) [] := pD1 (needLet (d + 5) h1 hf hl hb)
  generalize GD G bs (d + 7) = g at *
  generalize vP (canon (prodP A B)) = R at *
  generalize vP A = va at *
  generalize vP B = vb at *
  rw [b_poly_product]
  simp only [qSs1, qSs2, qS1, qS2, qS3, qS4, qS5, qS6, qS7, qS8, qS9, qS10, qS11, qS12, qS13, qS14, qS15, qS16, qS17, qS18, qS19, qS20, qE1, qE2, qE3, qE4, qE5, qE6, qE7, qE8, qE9, qE10, qE11, qE12, qE13, qE14, qE15, qE16, qE17, qE18, qE19, qE20, qE21, qE22, qE23, qE24, qE25, qE26, qE27, qE28, qE29, qE30, qE31, qE32, qE33, qEs1, qEs2, qT1, qT2, qT3, qT4, qT5, qT6, qTs1, qTs2, qO1, qO2, toS_ok, toS_exc, bind_ok, bind_exc, next_nx, next_ct, next_bk, next_ret, next_exc, runB_ret, runB_nx, runB_exc, noExc_nx, noExc_ret, see2, see1, see, sees, truth, cmpop, List.getElem?_cons_zero, List.getElem?_cons_succ, List.set_cons_zero, List.set_cons_succ, bindT, bindTs, wipeP, asPs, asP, asPs_map, p0, p2, p3]
theorem isPolyB (d : Nat) (h1 : 1 ≤ n) (h6 : n ≤ 6) (hs : A.length ≤ 4000) (hl : ∀ q ∈ A, q.1.length = n) : callD G bs (d + 6) I_is_poly [.p (natP n), .p (vP A)] [] = .ok (.e (.p (.bl (A.all (pairB n) && upB A)))) [] := by
  rw [call_eqG (f := f_is_poly) (b := b_is_poly) rfl rfl]
  have hS : startSl f_is_poly.N.length [.p (natP n), .p (vP A)] = [some (.p (natP n)), some (.p (vP A))] := rfl
  rw [hS]
  have p0 : pcall (GD G bs (d + 5)) I_need_many [.p (natP n)] [] = .ok (.p .non) [] := pD1 (needMany (d + 2) h1 h6)
  have p1 : pcall (GD G bs (d + 5)) I_is_right_poly [.p (natP n), .p (vP A)] [] = .ok (.p (.bl (A.all (pairB n) && upB A))) [] := pD2 (isRight d hs fun q hq => by rw [hl q hq]; omega)
  generalize (A.all (pairB n) && upB A) = bb at *
  generalize GD G bs (d + 5) = g at *
  generalize vP A = va at *
  rw [b_is_poly]
  simp only [qSs1, qSs2, qS1, qS2, qS3, qS4, qS5, qS6, qS7, qS8, qS9, qS10, qS11, qS12, qS13, qS14, qS15, qS16, qS17, qS18, qS19, qS20, qE1, qE2, qE3, qE4, qE5, qE6, qE7, qE8, qE9, qE10, qE11, qE12, qE13, qE14, qE15, qE16, qE17, qE18, qE19, qE20, qE21, qE22, qE23, qE24, qE25, qE26, qE27, qE28, qE29, qE30, qE31, qE32, qE33, qEs1, qEs2, qT1, qT2, qT3, qT4, qT5, qT6, qTs1, qTs2, qO1, qO2, toS_ok, toS_exc, bind_ok, bind_exc, next_nx, next_ct, next_bk, next_ret, next_exc, runB_ret, runB_nx, runB_exc, noExc_nx, noExc_ret, see2, see1, see, sees, truth, cmpop, List.getElem?_cons_zero, List.getElem?_cons_succ, List.set_cons_zero, List.set_cons_succ, bindT, bindTs, wipeP, asPs, asP, asPs_map, p0, p1]
def unitP (n : Nat) : Pol := [(List.replicate n 0, 1)]
def powP (n : Nat) (P : Pol) : Nat → Pol
  | 0 => unitP n
  | k + 1 => canon (prodP (powP n P k) P)
theorem unit_fit : Fit n (unitP n) 1 0 1 := by
  unfold unitP
  refine ⟨⟨fun q hq => ?_, fun q hq => ?_, List.pairwise_singleton _ _⟩, Nat.le_refl _, fun q hq x hx => ?_, fun q hq => ?_⟩
  all_goals rw [List.mem_singleton] at hq; subst hq
  · exact List.length_replicate
  · show (1 : Int) ≠ 0
    decide
  · rw [List.eq_of_mem_replicate hx]; decide
  · show (1 : Int).natAbs ≤ 1
    decide
theorem pow_fit {P : Pol} (h : Fit n P 3 5 40) : ∀ k, k ≤ 5 → Fit n (powP n P k) (3 ^ k) (5 * k) (2 ^ (20 * k))
  | 0, _ => unit_fit
  | k + 1, hk => by
    have ih := pow_fit h k (by omega)
    have h2 := (ih.raw.prod h.raw).canon
    refine h2.mono (by rw [Nat.pow_succ]; exact Nat.le_refl _) (by omega) ?_
    have e1 : 3 ^ k * 3 ≤ 729 := by
      have : 3 ^ k ≤ 3 ^ 5 := Nat.pow_le_pow_right (by decide) (by omega)
      omega
    calc 3 ^ k * 3 * (2 ^ (20 * k) * 40) ≤ 729 * (2 ^ (20 * k) * 40) := Nat.mul_le_mul_right _ e1
      _ = 2 ^ (20 * k) * 29160 := by rw [Nat.mul_comm 729, Nat.mul_assoc]
      _ ≤ 2 ^ (20 * k) * 2 ^ 20 := Nat.mul_le_mul_left _ (by decide)
      _ = 2 ^ (20 * (k + 1)) := by rw [← Nat.pow_add]; rfl
theorem constOk (d : Nat) (h6 : n ≤ 6) : callD G bs (d + 1) I_constant [.p (natP n), .p (.int 1)] [] = .ok (.e (.p (vP (unitP n)))) [] := by
  have hn : n = 0 ∨ n = 1 ∨ n = 2 ∨ n = 3 ∨ n = 4 ∨ n = 5 ∨ n = 6 := by omega
  rcases hn with rfl | rfl | rfl | rfl | rfl | rfl | rfl
  all_goals kernel_rfl
theorem cst_times : G.csts[K_MOST_TIMES]? = some (("MOST_TIMES" : Str), PV.int 12) := rfl
def rhoPw (n : Nat) (P : Pol) (t : Nat) (f : PV) (i : Option EV) : Sl := [some (.p (natP n)), some (.p (vP P)), some (.p (natP t)), some (.p f), i]
theorem polyPower (d : Nat) (h1 : 1 ≤ n) (h6 : n ≤ 6) {P : Pol} (h : Fit n P 3 5 40) {t : Nat} (ht : t ≤ 4) : callD G bs (d + 8) I_poly_power [.p (natP n), .p (vP P), .p (natP t)] [] = .ok (.e (.p (vP (powP n P t)))) [] := by
  rw [call_eqG (f := f_poly_power) (b := b_poly_power) rfl rfl]
  have hS : startSl f_poly_power.N.length [.p (natP n), .p (vP P), .p (natP t)] = [some (.p (natP n)), some (.p (vP P)), some (.p (natP t)), none, none] := rfl
  rw [hS]
  have p0 : pcall (GD G bs (d + 7)) I_need_many [.p (natP n)] [] = .ok (.p .non) [] := pD1 (needMany (d + 4) h1 h6)
  have p1 : pcall (GD G bs (d + 7)) I_need_poly [.p (natP n), .p (vP P)] [] = .ok (.p .non) [] := pD2 (needPoly (d + 1) h6 h (by decide) (by decide))
  have p2 : pcall (GD G bs (d + 7)) I_is_between [.p (natP t), .p (.int 0), .p (.int 12)] [] = .ok (.p (.bl (decide ((0 : Int) ≤ (t : Int) ∧ (t : Int) ≤ 12)))) [] := pD3 (isBetween (d + 5) _ _ _)
  rw [decide_eq_true (by omega)] at p2
  have p3 : pcall (GD G bs (d + 7)) I_constant [.p (natP n), .p (.int 1)] [] = .ok (.p (vP (unitP n))) [] := pD2 (constOk (d + 6) h6)
  have p4 : ∀ k, k < t → pcall (GD G bs (d + 7)) I_multiplied [.p (vP (powP n P k)), .p (vP P)] [] = .ok (.p (vP (powP n P (k + 1)))) [] := fun k hk => by
    have hf := pow_fit h k (by omega)
    have e1 : 3 ^ k * 3 ≤ 10000 := by
      have : 3 ^ k ≤ 3 ^ 5 := Nat.pow_le_pow_right (by decide) (by omega)
      omega
    have e2 : 2 ^ (20 * k) ≤ 2 ^ 900 := Nat.pow_le_pow_right (by decide) (by omega)
    obtain ⟨S', h2⟩ := multipliedOk (d + 5) h1 h6 hf.raw h.raw e1 e2 (Nat.le_trans (show 40 ≤ 2 ^ 6 by decide) (Nat.pow_le_pow_right (by decide) (by decide)))
    exact pS2 h2 rfl
  have p5 : ∀ k, k ≤ t → pcall (GD G bs (d + 7)) I_need_let [.p (vP (powP n P k))] [] = .ok (.p (vP (powP n P k))) [] := fun k hk => by
    have hf := pow_fit h k (by omega)
    have e1 : 3 ^ k ≤ 4000 := by
      have : 3 ^ k ≤ 3 ^ 5 := Nat.pow_le_pow_right (by decide) (by omega)
      omega
    exact pD1 (needLet (d + 5) h1 hf e1 (by omega))
  have hcst : (GD G bs (d + 7)).csts[K_MOST_TIMES]? = some (("MOST_TIMES" : Str), PV.int 12) := cst_times
  generalize GD G bs (d + 7) = g at *
  have s1 : evSs g [.expr (.call I_need_many [(.var 0)]), .expr (.call I_need_poly [(.var 0), (.var 1)]), .ife (.not (.val (.call I_is_between [(.var 2), (.const (.int (0))), (.cst K_MOST_TIMES)]))) [.raise C_NoTimes] [], .asg (.nm 3) (.call I_constant [(.var 0), (.const (.int (1)))])] [some (.p (natP n)), some (.p (vP P)), some (.p (natP t)), none, none] [] = .nx (rhoPw n P t (vP (unitP n)) none) [] := by
    unfold rhoPw
    generalize vP P = v at *
    generalize vP (unitP n) = u at *
    generalize natP n = nn at *
    generalize natP t = tt at *
    simp only [qSs1, qSs2, qS1, qS2, qS3, qS4, qS5, qS6, qS7, qS8, qS9, qS10, qS11, qS12, qS13, qS14, qS15, qS16, qS17, qS18, qS19, qS20, qE1, qE2, qE3, qE4, qE5, qE6, qE7, qE8, qE9, qE10, qE11, qE12, qE13, qE14, qE15, qE16, qE17, qE18, qE19, qE20, qE21, qE22, qE23, qE24, qE25, qE26, qE27, qE28, qE29, qE30, qE31, qE32, qE33, qEs1, qEs2, qT1, qT2, qT3, qT4, qT5, qT6, qTs1, qTs2, qO1, qO2, toS_ok, toS_exc, bind_ok, bind_exc, next_nx, next_ct, next_bk, next_ret, next_exc, runB_ret, runB_nx, runB_exc, noExc_nx, noExc_ret, see2, see1, see, sees, truth, cmpop, List.getElem?_cons_zero, List.getElem?_cons_succ, List.set_cons_zero, List.set_cons_succ, bindT, bindTs, wipeP, asPs, asP, asPs_map, p0, p1, hcst, p2, p3, Bool.not_true]
  obtain ⟨ρ', S', e1, i', f1, f2⟩ := forL_inv (t := .nm 4) (b := fun ρ S => evSs g [.asg (.nm 3) (.call I_need_let [(.call I_multiplied [(.var 3), (.var 1)])])] ρ S)
    (fun j ρ S => ∃ i', ρ = rhoPw n P t (vP (powP n P j)) i' ∧ S = []) ((List.range t).map fun (k : Nat) => PV.int (k : Int)) 0 (rhoPw n P t (vP (unitP n)) none) [] ⟨none, rfl, rfl⟩ fun j x ρ S hx ⟨i', f1, f2⟩ => by
      subst f1 f2
      obtain ⟨hj, rfl⟩ := range_get hx
      rw [Nat.zero_add]
      have a1 := p4 j hj
      have a2 := p5 (j + 1) hj
      refine ⟨rhoPw n P t (vP (powP n P j)) (some (.p (natP j))), rfl, rhoPw n P t (vP (powP n P (j + 1))) (some (.p (natP j))), [], .inl ?_, _, rfl, rfl⟩
      generalize vP (powP n P (j + 1)) = R at *
      generalize vP (powP n P j) = Q at *
      unfold rhoPw
      generalize vP P = v at *
      simp only [qSs1, qSs2, qS1, qS2, qS3, qS4, qS5, qS6, qS7, qS8, qS9, qS10, qS11, qS12, qS13, qS14, qS15, qS16, qS17, qS18, qS19, qS20, qE1, qE2, qE3, qE4, qE5, qE6, qE7, qE8, qE9, qE10, qE11, qE12, qE13, qE14, qE15, qE16, qE17, qE18, qE19, qE20, qE21, qE22, qE23, qE24, qE25, qE26, qE27, qE28, qE29, qE30, qE31, qE32, qE33, qEs1, qEs2, qT1, qT2, qT3, qT4, qT5, qT6, qTs1, qTs2, qO1, qO2, toS_ok, toS_exc, bind_ok, bind_exc, next_nx, next_ct, next_bk, next_ret, next_exc, runB_ret, runB_nx, runB_exc, noExc_nx, noExc_ret, see2, see1, see, sees, truth, cmpop, List.getElem?_cons_zero, List.getElem?_cons_succ, List.set_cons_zero, List.set_cons_succ, bindT, bindTs, wipeP, asPs, asP, asPs_map, a1, a2]
  rw [Nat.zero_add, List.length_map, List.length_range] at f1
  have s2 : evS g (.loop (.nm 4) (.range1 (.var 2)) [.asg (.nm 3) (.call I_need_let [(.call I_multiplied [(.var 3), (.var 1)])])]) (rhoPw n P t (vP (unitP n)) none) [] = .nx (rhoPw n P t (vP (powP n P t)) i') [] := loop_of (it_range1 (var_ok rfl) (by omega)) (by rw [e1, f1, f2])
  have hap : ∀ (a b : List PS) (ρ ρ2 : Sl) (S S2 : List PO), evSs g a ρ S = .nx ρ2 S2 → evSs g (a ++ b) ρ S = evSs g b ρ2 S2 := fun a => by
    induction a with
    | nil =>
      intro b ρ ρ2 S S2 h
      rw [evSs] at h
      cases h; rfl
    | cons s a ih =>
      intro b ρ ρ2 S S2 h
      simp only [List.cons_append, evSs] at h ⊢
      cases e : evS g s ρ S with
      | nx ρ3 S3 =>
        rw [e] at h
        simp only [SR.next] at h ⊢
        exact ih b ρ3 ρ2 S3 S2 h
      | _ => rw [e] at h; simp [SR.next] at h
  show runB (evSs g ([_, _, _, _] ++ [_, _]) _ _) = _
  rw [hap _ _ _ _ _ _ s1, nx s2]
  unfold rhoPw
  generalize vP (powP n P t) = R
  simp only [qSs1, qSs2, qS1, qS2, qS3, qS4, qS5, qS6, qS7, qS8, qS9, qS10, qS11, qS12, qS13, qS14, qS15, qS16, qS17, qS18, qS19, qS20, qE1, qE2, qE3, qE4, qE5, qE6, qE7, qE8, qE9, qE10, qE11, qE12, qE13, qE14, qE15, qE16, qE17, qE18, qE19, qE20, qE21, qE22, qE23, qE24, qE25, qE26, qE27, qE28, qE29, qE30, qE31, qE32, qE33, qEs1, qEs2, qT1, qT2, qT3, qT4, qT5, qT6, qTs1, qTs2, qO1, qO2, toS_ok, toS_exc, bind_ok, bind_exc, next_nx, next_ct, next_bk, next_ret, next_exc, runB_ret, runB_nx, runB_exc, noExc_nx, noExc_ret, see2, see1, see, sees, truth, cmpop, List.getElem?_cons_zero, List.getElem?_cons_succ, List.set_cons_zero, List.set_cons_succ, bindT, bindTs, wipeP, asPs, asP, asPs_map]
end
end Law
end Rv
end PartPw5
section PartPw6
set_option Elab.async false
set_option linter.all false
set_option maxRecDepth 100000
set_option maxHeartbeats 4000000
set_option exponentiation.threshold 5000
namespace Rv
namespace Law
open PySem PySem.Spec PyProof.Rows L2
theorem lawWholeP (d : Nat) (t : Int) : callD G bs (d + 1) I__law_whole [.p (.int t)] [] = .ok (.e (.p (.bl true))) [] := by kernel_rfl
theorem lawWholeRow (d : Nat) {n : Nat} {l : List Int} (h : l.length = n) (hn : n ≤ 1000) : callD G bs (d + 2) I__law_whole_row [.p (eL l), .p (natP n)] [] = .ok (.e (.p (.bl true))) [] := by
  rw [call_eqG (f := f__law_whole_row) (b := b__law_whole_row) rfl rfl]
  have hS : startSl f__law_whole_row.N.length [.p (eL l), .p (natP n)] = [some (.p (eL l)), some (.p (natP n)), none] := rfl
  rw [hS]
  have hw : ∀ t : Int, pcall (GD G bs (d + 1)) I__law_whole [.p (.int t)] [] = .ok (.p (.bl true)) [] := fun t => pD1 (lawWholeP d t)
  generalize GD G bs (d + 1) = g at *
  have hc : evL g (.comp [2] (.call I__law_whole [(.var 2)]) (.nm 2) (.val (.var 0)) []) [some (.p (eL l)), some (.p (natP n)), none] [] = .ok ((l.map fun _ => PV.bl true).map .p) [] :=
    comp_listA (fun _ => .bl true) (it_val rfl rfl) (by rw [lim_eq]; omega) fun t _ => ⟨[some (.p (eL l)), some (.p (natP n)), some (.p (.int t))], rfl, by simp only [qSs1, qSs2, qS1, qS2, qS3, qS4, qS5, qS6, qS7, qS8, qS9, qS10, qS11, qS12, qS13, qS14, qS15, qS16, qS17, qS18, qS19, qS20, qE1, qE2, qE3, qE4, qE5, qE6, qE7, qE8, qE9, qE10, qE11, qE12, qE13, qE14, qE15, qE16, qE17, qE18, qE19, qE20, qE21, qE22, qE23, qE24, qE25, qE26, qE27, qE28, qE29, qE30, qE31, qE32, qE33, qEs1, qEs2, qT1, qT2, qT3, qT4, qT5, qT6, qTs1, qTs2, qO1, qO2, toS_ok, toS_exc, bind_ok, bind_exc, next_nx, next_ct, next_bk, next_ret, next_exc, runB_ret, runB_nx, runB_exc, noExc_nx, noExc_ret, see2, see1, see, sees, truth, cmpop, List.getElem?_cons_zero, List.getElem?_cons_succ, List.set_cons_zero, List.set_cons_succ, bindT, bindTs, wipeP, asPs, asP, asPs_map, hw]⟩
  have ha : bi .all [.lst (l.map fun _ => PV.bl true)] = some (.bl true) := all_ok fun x hx => by
    obtain ⟨_, _, rfl⟩ := List.mem_map.mp hx
    rfl
  have e1 := len_L l
  have e2 : (eqP (.int ((l.length : Nat) : Int)) (natP n)).map (!·) = some false := by
    unfold natP
    rw [eqP_int, decide_eq_true (by omega)]; rfl
  rw [b__law_whole_row]
  simp only [qSs1, qSs2, qS1, qS2, qS3, qS4, qS5, qS6, qS7, qS8, qS9, qS10, qS11, qS12, qS13, qS14, qS15, qS16, qS17, qS18, qS19, qS20, qE1, qE2, qE3, qE4, qE5, qE6, qE7, qE8, qE9, qE10, qE11, qE12, qE13, qE14, qE15, qE16, qE17, qE18, qE19, qE20, qE21, qE22, qE23, qE24, qE25, qE26, qE27, qE28, qE29, qE30, qE31, qE32, qE33, qEs1, qEs2, qT1, qT2, qT3, qT4, qT5, qT6, qTs1, qTs2, qO1, qO2, toS_ok, toS_exc, bind_ok, bind_exc, next_nx, next_ct, next_bk, next_ret, next_exc, runB_ret, runB_nx, runB_exc, noExc_nx, noExc_ret, see2, see1, see, sees, truth, cmpop, List.getElem?_cons_zero, List.getElem?_cons_succ, List.set_cons_zero, List.set_cons_succ, bindT, bindTs, wipeP, asPs, asP, asPs_map, isa_tupL, e1, e2, hc, ha, Bool.not_true]
def rhoLp (n : Nat) (P : Pol) (q k : Option EV) : Sl := [some (.p (vP P)), some (.p (natP n)), q, k]
def bodyLp : List PS := [.ife (.or (.not (.val (.bi .isa [(.var 2), (.const (.ty "tuple"))]))) (.cmp .ne (.bi .len [(.var 2)]) (.const (.int (2))))) [.ret (.const (.bl false))] [], .ife (.or (.not (.val (.call I__law_whole_row [(.ix (.var 2) (.const (.int (0)))), (.var 1)]))) (.or (.not (.val (.call I__law_whole [(.ix (.var 2) (.const (.int (1))))]))) (.cmp .eq (.ix (.var 2) (.const (.int (1)))) (.const (.int (0)))))) [.ret (.const (.bl false))] []]
theorem lawPoly (d : Nat) {n : Nat} {P : Pol} (h : IsPol n P) (hn : n ≤ 1000) (hs : P.length ≤ 100000) : callD G bs (d + 3) I__law_poly [.p (vP P), .p (natP n)] [] = .ok (.e (.p (.bl true))) [] := by
  rw [call_eqG (f := f__law_poly) (b := b__law_poly) rfl rfl]
  have hS : startSl f__law_poly.N.length [.p (vP P), .p (natP n)] = rhoLp n P none none := rfl
  rw [hS]
  have p1 : ∀ q ∈ P, pcall (GD G bs (d + 2)) I__law_whole_row [.p (eL q.1), .p (natP n)] [] = .ok (.p (.bl true)) [] := fun q hq => pD2 (lawWholeRow d (h.len q hq) hn)
  have p2 : ∀ t : Int, pcall (GD G bs (d + 2)) I__law_whole [.p (.int t)] [] = .ok (.p (.bl true)) [] := fun t => pD1 (lawWholeP (d + 1) t)
  generalize GD G bs (d + 2) = g at *
  have e0 : bi .isa [vP P, .ty "tuple"] = some (.bl true) := rfl
  have e1 := vP_len P
  have s0 : evS g (.ife (.not (.val (.bi .isa [(.var 0), (.const (.ty "tuple"))]))) [.ret (.const (.bl false))] []) (rhoLp n P none none) [] = .nx (rhoLp n P none none) [] := by
    unfold rhoLp
    generalize vP P = v at *
    simp only [qSs1, qSs2, qS1, qS2, qS3, qS4, qS5, qS6, qS7, qS8, qS9, qS10, qS11, qS12, qS13, qS14, qS15, qS16, qS17, qS18, qS19, qS20, qE1, qE2, qE3, qE4, qE5, qE6, qE7, qE8, qE9, qE10, qE11, qE12, qE13, qE14, qE15, qE16, qE17, qE18, qE19, qE20, qE21, qE22, qE23, qE24, qE25, qE26, qE27, qE28, qE29, qE30, qE31, qE32, qE33, qEs1, qEs2, qT1, qT2, qT3, qT4, qT5, qT6, qTs1, qTs2, qO1, qO2, toS_ok, toS_exc, bind_ok, bind_exc, next_nx, next_ct, next_bk, next_ret, next_exc, runB_ret, runB_nx, runB_exc, noExc_nx, noExc_ret, see2, see1, see, sees, truth, cmpop, List.getElem?_cons_zero, List.getElem?_cons_succ, List.set_cons_zero, List.set_cons_succ, bindT, bindTs, wipeP, asPs, asP, asPs_map, e0, Bool.not_true]
  obtain ⟨ρ', S', e2, q', f1, f2⟩ := forL_inv (t := .nm 2) (b := fun ρ S => evSs g bodyLp ρ S)
    (fun j ρ S => ∃ q', ρ = rhoLp n P q' none ∧ S = []) (P.map pP) 0 (rhoLp n P none none) [] ⟨none, rfl, rfl⟩ fun j x ρ S hx ⟨q', f1, f2⟩ => by
      subst f1 f2
      rw [List.getElem?_map] at hx
      obtain ⟨q, h2, rfl⟩ := Option.map_eq_some_iff.mp hx
      have hq := List.mem_of_getElem? h2
      have a1 := p1 q hq
      have a2 := p2 q.2
      have i1 : ixE [] (.p (pP q)) (.p (.int 0)) = some (.p (eL q.1)) := rfl
      have i2 : ixE [] (.p (pP q)) (.p (.int 1)) = some (.p (.int q.2)) := rfl
      have t0 : bi .isa [pP q, .ty "tuple"] = some (.bl true) := rfl
      have t1 : bi .len [pP q] = some (.int 2) := rfl
      have t2 : (eqP (.int 2) (.int 2)).map (!·) = some false := rfl
      have t3 : eqP (.int q.2) (.int 0) = some false := by
        rw [eqP_int]
        exact congrArg some (decide_eq_false (h.nz q hq))
      refine ⟨rhoLp n P (some (.p (pP q))) none, rfl, rhoLp n P (some (.p (pP q))) none, [], .inl ?_, _, rfl, rfl⟩
      unfold bodyLp rhoLp
      generalize vP P = v at *
      generalize pP q = w at *
      simp only [qSs1, qSs2, qS1, qS2, qS3, qS4, qS5, qS6, qS7, qS8, qS9, qS10, qS11, qS12, qS13, qS14, qS15, qS16, qS17, qS18, qS19, qS20, qE1, qE2, qE3, qE4, qE5, qE6, qE7, qE8, qE9, qE10, qE11, qE12, qE13, qE14, qE15, qE16, qE17, qE18, qE19, qE20, qE21, qE22, qE23, qE24, qE25, qE26, qE27, qE28, qE29, qE30, qE31, qE32, qE33, qEs1, qEs2, qT1, qT2, qT3, qT4, qT5, qT6, qTs1, qTs2, qO1, qO2, toS_ok, toS_exc, bind_ok, bind_exc, next_nx, next_ct, next_bk, next_ret, next_exc, runB_ret, runB_nx, runB_exc, noExc_nx, noExc_ret, see2, see1, see, sees, truth, cmpop, List.getElem?_cons_zero, List.getElem?_cons_succ, List.set_cons_zero, List.set_cons_succ, bindT, bindTs, wipeP, asPs, asP, asPs_map, t0, t1, t2, i1, i2, a1, a2, t3, Bool.not_true]
  have s1 : evS g (.loop (.nm 2) (.val (.var 0)) bodyLp) (rhoLp n P none none) [] = .nx (rhoLp n P q' none) [] := loop_of (it_val (v := vP P) rfl rfl) (by rw [e2, f1, f2])
  have ix : ∀ k < P.length, ixE [] (.p (vP P)) (.p (.int ((k : Nat) : Int))) = some (.p (pP (P[k]?.getD ([], 0)))) := fun k hk => by
    rw [ixE_V hk, List.getElem?_eq_getElem hk]; rfl
  have hc2 := comp_listA (g := g) (own := [3]) (elt := .cmp .lt (.ix (.ix (.var 0) (.bin .sub (.var 3) (.const (.int (1))))) (.const (.int (0)))) (.ix (.ix (.var 0) (.var 3)) (.const (.int (0))))) (tg := .nm 3) (it := .range2 (.const (.int (1))) (.bi .len [(.var 0)])) (ρ := rhoLp n P q' none) (S := []) (ks := List.range (P.length - 1)) (f := fun k => .int ((1 + k : Nat) : Int)) (fun _ => .bl true) (by
      by_cases hp : P.length = 0
      · have hz : P = [] := List.eq_nil_of_length_eq_zero hp
        subst hz
        unfold rhoLp
        simp only [evIt, evE, evEs, Out.bind, sees, see, List.getElem?_cons_succ, List.getElem?_cons_zero, e1]
        rfl
      · have h1 : evE g (.const (.int 1)) (rhoLp n P q' none) [] = .ok (.p (.int ((1 : Nat) : Int))) [] := rfl
        exact it_range2 h1 (len_var rfl e1) (by omega) (by omega)) (by rw [List.length_range, lim_eq]; omega) fun k hk => by
    have hk := List.mem_range.mp hk
    have es : binop .sub (.int ((1 + k : Nat) : Int)) (.int 1) = some (.int ((k : Nat) : Int)) := by
      rw [sub_int]
      exact congrArg (fun z => some (PV.int z)) (by omega)
    have j1 := ix k (by omega)
    have j2 := ix (1 + k) (by omega)
    have hlt := lt_rows (a := (P[k]?.getD ([], 0)).1) (b := (P[1 + k]?.getD ([], 0)).1)
    have hup : ltR (P[k]?.getD ([], 0)).1 (P[1 + k]?.getD ([], 0)).1 = true := by
      rw [List.getElem?_eq_getElem (show k < P.length by omega), List.getElem?_eq_getElem (show 1 + k < P.length by omega)]
      exact List.pairwise_iff_getElem.mp h.up k (1 + k) (by omega) (by omega) (by omega)
    rw [hup] at hlt
    have k1 : ixE [] (.p (pP (P[k]?.getD ([], 0)))) (.p (.int 0)) = some (.p (eL (P[k]?.getD ([], 0)).1)) := rfl
    have k2 : ixE [] (.p (pP (P[1 + k]?.getD ([], 0)))) (.p (.int 0)) = some (.p (eL (P[1 + k]?.getD ([], 0)).1)) := rfl
    refine ⟨rhoLp n P q' (some (.p (.int ((1 + k : Nat) : Int)))), rfl, ?_⟩
    generalize P[k]?.getD ([], 0) = a at *
    generalize P[1 + k]?.getD ([], 0) = b at *
    unfold rhoLp
    generalize vP P = v at *
    generalize pP a = va at *
    generalize pP b = vb at *
    simp only [qSs1, qSs2, qS1, qS2, qS3, qS4, qS5, qS6, qS7, qS8, qS9, qS10, qS11, qS12, qS13, qS14, qS15, qS16, qS17, qS18, qS19, qS20, qE1, qE2, qE3, qE4, qE5, qE6, qE7, qE8, qE9, qE10, qE11, qE12, qE13, qE14, qE15, qE16, qE17, qE18, qE19, qE20, qE21, qE22, qE23, qE24, qE25, qE26, qE27, qE28, qE29, qE30, qE31, qE32, qE33, qEs1, qEs2, qT1, qT2, qT3, qT4, qT5, qT6, qTs1, qTs2, qO1, qO2, toS_ok, toS_exc, bind_ok, bind_exc, next_nx, next_ct, next_bk, next_ret, next_exc, runB_ret, runB_nx, runB_exc, noExc_nx, noExc_ret, see2, see1, see, sees, truth, cmpop, List.getElem?_cons_zero, List.getElem?_cons_succ, List.set_cons_zero, List.set_cons_succ, bindT, bindTs, wipeP, asPs, asP, asPs_map, es, j1, j2, k1, k2, hlt]
  have ha : bi .all [.lst ((List.range (P.length - 1)).map fun _ => PV.bl true)] = some (.bl true) := all_ok fun x hx => by
    obtain ⟨_, _, rfl⟩ := List.mem_map.mp hx
    rfl
  show runB (evSs g [_, .loop (.nm 2) (.val (.var 0)) bodyLp, _] _ _) = _
  rw [nx s0, nx s1]
  generalize (List.range (P.length - 1)).map (fun _ => PV.bl true) = bl at *
  unfold rhoLp at *
  generalize vP P = v at *
  simp only [qSs1, qSs2, qS1, qS2, qS3, qS4, qS5, qS6, qS7, qS8, qS9, qS10, qS11, qS12, qS13, qS14, qS15, qS16, qS17, qS18, qS19, qS20, qE1, qE2, qE3, qE4, qE5, qE6, qE7, qE8, qE9, qE10, qE11, qE12, qE13, qE14, qE15, qE16, qE17, qE18, qE19, qE20, qE21, qE22, qE23, qE24, qE25, qE26, qE27, qE28, qE29, qE30, qE31, qE32, qE33, qEs1, qEs2, qT1, qT2, qT3, qT4, qT5, qT6, qTs1, qTs2, qO1, qO2, toS_ok, toS_exc, bind_ok, bind_exc, next_nx, next_ct, next_bk, next_ret, next_exc, runB_ret, runB_nx, runB_exc, noExc_nx, noExc_ret, see2, see1, see, sees, truth, cmpop, List.getElem?_cons_zero, List.getElem?_cons_succ, List.set_cons_zero, List.set_cons_succ, bindT, bindTs, wipeP, asPs, asP, asPs_map, hc2, ha]
def rhoLs (L : Pol) (q f k : Option EV) : Sl := [some (.p (lP L)), some (.ref 0), q, f, k]
def bodyLs : List PS := [.setIx (.var 1) (.ix (.var 2) (.const (.int (0)))) (.bin .add (.get2 (.var 1) (.ix (.var 2) (.const (.int (0)))) (.const (.int (0)))) (.ix (.var 2) (.const (.int (1)))))]
def bodyLt : List PS := [.ife (.cmp .ne (.ix (.var 1) (.var 4)) (.const (.int (0)))) [.expr (.meth .append (.var 3) [(.tup [(.var 4), (.ix (.var 1) (.var 4))])])] []]
def stLs (L F : Pol) : List PO := [dO L, .lst (F.map pP)]
theorem bodyLs_ok {g : Gm} {A L : Pol} {q : List Int × Int} (hl : L.length ≤ 100000) : evSs g bodyLs (rhoLs A (some (.p (pP q))) none none) (stSm L) = .nx (rhoLs A (some (.p (pP q))) none none) (stSm (L ++ [q])) := by
  have h0 : (stSm L)[0]? = some (dO L) := rfl
  have e1 := dct_dict h0
  have e2 := getv_dict (k := q.1) h0
  have e3 := get_dict L q.1
  have e4 := set_dict (k := q.1) (v := q.2) h0 hl
  have e5 : (stSm L).set 0 (dO (L ++ [(q.1, q.2)])) = stSm (L ++ [q]) := rfl
  rw [e5] at e4
  have i1 : ∀ S, ixE S (.p (pP q)) (.p (.int 0)) = some (.p (eL q.1)) := fun S => rfl
  have i2 : ∀ S, ixE S (.p (pP q)) (.p (.int 1)) = some (.p (.int q.2)) := fun S => rfl
  generalize lookP (dK L) (dV L) (keyI q.1) = o at *
  generalize tot L q.1 = t at *
  generalize stSm L = S at *
  generalize stSm (L ++ [q]) = S2 at *
  unfold bodyLs rhoLs
  generalize lP A = va
  generalize pP q = w at *
  generalize eL q.1 = ke at *
  simp only [qSs1, qSs2, qS1, qS2, qS3, qS4, qS5, qS6, qS7, qS8, qS9, qS10, qS11, qS12, qS13, qS14, qS15, qS16, qS17, qS18, qS19, qS20, qE1, qE2, qE3, qE4, qE5, qE6, qE7, qE8, qE9, qE10, qE11, qE12, qE13, qE14, qE15, qE16, qE17, qE18, qE19, qE20, qE21, qE22, qE23, qE24, qE25, qE26, qE27, qE28, qE29, qE30, qE31, qE32, qE33, qEs1, qEs2, qT1, qT2, qT3, qT4, qT5, qT6, qTs1, qTs2, qO1, qO2, toS_ok, toS_exc, bind_ok, bind_exc, next_nx, next_ct, next_bk, next_ret, next_exc, runB_ret, runB_nx, runB_exc, noExc_nx, noExc_ret, see2, see1, see, sees, truth, cmpop, List.getElem?_cons_zero, List.getElem?_cons_succ, List.set_cons_zero, List.set_cons_succ, bindT, bindTs, wipeP, asPs, asP, asPs_map, i1, i2, e1, e2, e3, e4, add_int, if_true]
theorem bodyLt_ok {g : Gm} {A L F : Pol} {k : List Int} {q : Option EV} (hk : k ∈ keyL L) (hf : F.length ≤ 100000) : evSs g bodyLt (rhoLs A q (some (.ref 1)) (some (.p (eL k)))) (stLs L F) = .nx (rhoLs A q (some (.ref 1)) (some (.p (eL k)))) (stLs L (F ++ (if tot L k ≠ 0 then [(k, tot L k)] else []))) := by
  have hx : ixE (stLs L F) (.ref 0) (.p (eL k)) = some (.p (.int (tot L k))) := by
    have h1 : lookP (dK L) (dV L) (keyI k) = some (.int (tot L k)) := by
      unfold dK dV
      rw [look_tot, if_pos hk]
    show (((keysOf (k.map PV.int)).bind fun k => lookP (dK L) (dV L) k)).map EV.p = _
    rw [keysOf_ints]
    show (lookP (dK L) (dV L) (keyI k)).map EV.p = _
    rw [h1]; rfl
  have hb : methV .append (stLs L F) (.ref 1) [.p (pP (k, tot L k))] = some (.p .non, stLs L (F ++ [(k, tot L k)])) := by
    show (if (F.map pP).length < lim then some (EV.p .non, (stLs L F).set 1 (.lst (F.map pP ++ [pP (k, tot L k)]))) else none) = _
    rw [if_pos (by rw [List.length_map, lim_eq]; omega)]
    show some (EV.p PV.non, [_, PO.lst (F.map pP ++ [pP (k, tot L k)])]) = some (EV.p PV.non, [_, PO.lst ((F ++ [(k, tot L k)]).map pP)])
    rw [show (F ++ [(k, tot L k)]).map pP = F.map pP ++ [pP (k, tot L k)] by rw [List.map_append]; rfl]
  have hr : recvOk .append (stLs L F) (.ref 1) = true := rfl
  have et : pP (k, tot L k) = .tup [eL k, .int (tot L k)] := rfl
  rw [et] at hb
  have e1 := neP_int (tot L k) 0
  by_cases c : tot L k ≠ 0
  · rw [if_pos c]
    rw [decide_eq_true c] at e1
    generalize stLs L (F ++ [(k, tot L k)]) = S2 at *
    generalize stLs L F = S at *
    generalize tot L k = t at *
    unfold bodyLt rhoLs
    generalize lP A = va
    generalize eL k = ke at *
    simp only [qSs1, qSs2, qS1, qS2, qS3, qS4, qS5, qS6, qS7, qS8, qS9, qS10, qS11, qS12, qS13, qS14, qS15, qS16, qS17, qS18, qS19, qS20, qE1, qE2, qE3, qE4, qE5, qE6, qE7, qE8, qE9, qE10, qE11, qE12, qE13, qE14, qE15, qE16, qE17, qE18, qE19, qE20, qE21, qE22, qE23, qE24, qE25, qE26, qE27, qE28, qE29, qE30, qE31, qE32, qE33, qEs1, qEs2, qT1, qT2, qT3, qT4, qT5, qT6, qTs1, qTs2, qO1, qO2, toS_ok, toS_exc, bind_ok, bind_exc, next_nx, next_ct, next_bk, next_ret, next_exc, runB_ret, runB_nx, runB_exc, noExc_nx, noExc_ret, see2, see1, see, sees, truth, cmpop, List.getElem?_cons_zero, List.getElem?_cons_succ, List.set_cons_zero, List.set_cons_succ, bindT, bindTs, wipeP, asPs, asP, asPs_map, hx, e1, hr, hb]
  · rw [if_neg c, List.append_nil]
    rw [decide_eq_false c] at e1
    generalize stLs L F = S at *
    generalize tot L k = t at *
    unfold bodyLt rhoLs
    generalize lP A = va
    generalize eL k = ke at *
    simp only [qSs1, qSs2, qS1, qS2, qS3, qS4, qS5, qS6, qS7, qS8, qS9, qS10, qS11, qS12, qS13, qS14, qS15, qS16, qS17, qS18, qS19, qS20, qE1, qE2, qE3, qE4, qE5, qE6, qE7, qE8, qE9, qE10, qE11, qE12, qE13, qE14, qE15, qE16, qE17, qE18, qE19, qE20, qE21, qE22, qE23, qE24, qE25, qE26, qE27, qE28, qE29, qE30, qE31, qE32, qE33, qEs1, qEs2, qT1, qT2, qT3, qT4, qT5, qT6, qTs1, qTs2, qO1, qO2, toS_ok, toS_exc, bind_ok, bind_exc, next_nx, next_ct, next_bk, next_ret, next_exc, runB_ret, runB_nx, runB_exc, noExc_nx, noExc_ret, see2, see1, see, sees, truth, cmpop, List.getElem?_cons_zero, List.getElem?_cons_succ, List.set_cons_zero, List.set_cons_succ, bindT, bindTs, wipeP, asPs, asP, asPs_map, hx, e1]
theorem lawSummed (d : Nat) {n : Nat} (h1 : 1 ≤ n) {L : Pol} (hL : ∀ q ∈ L, q.1.length = n) (hs : L.length ≤ 10000) : ∃ S, callD G bs (d + 1) I__law_summed [.p (lP L)] [] = .ok (.e (.p (vP (canon L)))) S := by
  rw [call_eqG (f := f__law_summed) (b := b__law_summed) rfl rfl]
  have hS : startSl f__law_summed.N.length [.p (lP L)] = [some (.p (lP L)), none, none, none, none] := rfl
  rw [hS]
  generalize GD G bs d = g
  have s0 : evS g (.asg (.nm 1) (.dnew true)) [some (.p (lP L)), none, none, none, none] [] = .nx (rhoLs L none none none) (stSm []) := by
    simp only [qS1, evE, toS_ok, bindT]
    rfl
  obtain ⟨ρ', S', e1, q', f1, f2⟩ := forL_inv (t := .nm 2) (b := fun ρ S => evSs g bodyLs ρ S)
    (fun j ρ S => ∃ q', ρ = rhoLs L q' none none ∧ S = stSm (L.take j)) (L.map pP) 0 (rhoLs L none none none) (stSm []) ⟨none, rfl, rfl⟩ fun j x ρ S hx ⟨q', f1, f2⟩ => by
      subst f1 f2
      rw [Nat.zero_add]
      rw [List.getElem?_map] at hx
      obtain ⟨q, h2, rfl⟩ := Option.map_eq_some_iff.mp hx
      refine ⟨rhoLs L (some (.p (pP q))) none none, rfl, _, _, .inl (bodyLs_ok (by rw [List.length_take]; omega)), _, rfl, ?_⟩
      rw [List.take_add_one, h2]
      rfl
  rw [Nat.zero_add, List.length_map, List.take_length] at f2
  have s1 : evS g (.loop (.nm 2) (.val (.var 0)) bodyLs) (rhoLs L none none none) (stSm []) = .nx (rhoLs L q' none none) (stSm L) := loop_of (it_val (v := lP L) rfl rfl) (by rw [e1, f1, f2])
  have s2 : evS g (.asg (.nm 3) (.mut (.disp []))) (rhoLs L q' none none) (stSm L) = .nx (rhoLs L q' (some (.ref 1)) none) (stLs L []) := by
    have hl : evL g (.disp []) (rhoLs L q' none none) (stSm L) = .ok (([] : List PV).map .p) (stSm L) := by simp only [qL1, qEs1]; rfl
    simp only [qS1, mut_of hl, toS_ok, bindT]
    rfl
  have hkl := keyL_len L
  have hks : ∀ k ∈ keyL L, k.length = n := fun k hk => by
    obtain ⟨p, hp, e⟩ := keyL_mem.mp hk
    rw [← e]; exact hL p hp
  have hsort : biL .sorted [.dtt (dK L) (dV L)] = some ((sortK (keyL L)).map eL) := by
    show (if ((dK L).map fun k => PV.tup (k.map kP)).length ≤ lim then sortPV ((dK L).map fun k => PV.tup (k.map kP)) else none) = _
    unfold dK
    rw [keysP, if_pos (by rw [List.length_map, lim_eq]; omega)]
    exact sortPV_key h1 (keyL L) hks
  have hit : evIt g (.val (.lst (.bi .sorted [(.var 1)]))) (rhoLs L q' (some (.ref 1)) none) (stLs L []) = .ok (.l (((sortK (keyL L)).map eL).map .p)) (stLs L []) := by
    have hs0 : sees (stLs L []) [.ref 0] = some [.dtt (dK L) (dV L)] := rfl
    have hl : evL g (.bi .sorted [(.var 1)]) (rhoLs L q' (some (.ref 1)) none) (stLs L []) = .ok (((sortK (keyL L)).map eL).map .p) (stLs L []) := by
      unfold rhoLs
      generalize stLs L [] = S at *
      generalize PV.dtt (dK L) (dV L) = D at *
      simp only [qL3, qEs1, qEs2, qE1, List.getElem?_cons_zero, List.getElem?_cons_succ, bind_ok, hs0, hsort]
    have h2 := lst_of hl
    simp only [evIt, h2, Out.bind]
    rfl
  obtain ⟨ρ2, S2, e2, k', g1, g2⟩ := forL_inv (t := .nm 4) (b := fun ρ S => evSs g bodyLt ρ S)
    (fun j ρ S => ∃ k', ρ = rhoLs L q' (some (.ref 1)) k' ∧ S = stLs L ((((sortK (keyL L)).take j).map fun k => (k, tot L k)).filter fun q => decide (q.2 ≠ 0))) ((sortK (keyL L)).map eL) 0 (rhoLs L q' (some (.ref 1)) none) (stLs L []) ⟨none, rfl, rfl⟩ fun j x ρ S hx ⟨k', g1, g2⟩ => by
      subst g1 g2
      rw [Nat.zero_add]
      rw [List.getElem?_map] at hx
      obtain ⟨k, h2, rfl⟩ := Option.map_eq_some_iff.mp hx
      have hkm : k ∈ keyL L := (sortK_perm _).mem_iff.mp (List.mem_of_getElem? h2)
      have hfl : ((((sortK (keyL L)).take j).map fun k => (k, tot L k)).filter fun q => decide (q.2 ≠ 0)).length ≤ 100000 := by
        refine Nat.le_trans (List.length_filter_le _ _) ?_
        rw [List.length_map, List.length_take, (sortK_perm _).length_eq]
        omega
      refine ⟨rhoLs L q' (some (.ref 1)) (some (.p (eL k))), rfl, _, _, .inl (bodyLt_ok hkm hfl), _, rfl, ?_⟩
      rw [List.take_add_one, h2, List.map_append, List.filter_append]
      have e : (if tot L k ≠ 0 then [(k, tot L k)] else ([] : Pol)) = ((some k).toList.map fun k => (k, tot L k)).filter fun q => decide (q.2 ≠ 0) := by
        simp only [Option.toList, List.map_cons, List.map_nil, List.filter_cons, List.filter_nil]
        by_cases c : tot L k ≠ 0
        · rw [if_pos c, if_pos (decide_eq_true c)]
        · rw [if_neg c, if_neg (by simpa using c)]
      rw [e]
  have hlen : (sortK (keyL L)).length = (sortK (keyL L)).length := rfl
  rw [Nat.zero_add, List.length_map, List.take_length] at g2
  have hcn : (((sortK (keyL L)).map fun k => (k, tot L k)).filter fun q => decide (q.2 ≠ 0)) = canon L := rfl
  rw [hcn] at g2
  have s3 : evS g (.loop (.nm 4) (.val (.lst (.bi .sorted [(.var 1)]))) bodyLt) (rhoLs L q' (some (.ref 1)) none) (stLs L []) = .nx (rhoLs L q' (some (.ref 1)) k') (stLs L (canon L)) := loop_of hit (by rw [e2, g1, g2])
  have s4 : evS g (.ret (.bi .tuple [(.var 3)])) (rhoLs L q' (some (.ref 1)) k') (stLs L (canon L)) = .ret (.e (.p (vP (canon L)))) (stLs L (canon L)) := by
    have hs0 : sees (stLs L (canon L)) [.ref 1] = some [.lst ((canon L).map pP)] := rfl
    have hb : bi .tuple [.lst ((canon L).map pP)] = some (vP (canon L)) := rfl
    refine ret_of ?_
    unfold rhoLs
    generalize stLs L (canon L) = S at *
    generalize PV.lst ((canon L).map pP) = D at *
    generalize vP (canon L) = R at *
    have he : evEs g [(.var 3)] [some (.p (lP L)), some (.ref 0), q', some (.ref 1), k'] S = .ok [.ref 1] S := by
      simp only [qEs1, qEs2, qE1, List.getElem?_cons_zero, List.getElem?_cons_succ, bind_ok]
    rw [evE.eq_def]
    simp only [he, bind_ok, hs0, hb]
  refine ⟨stLs L (canon L), ?_⟩
  show runB (evSs g [_, .loop (.nm 2) (.val (.var 0)) bodyLs, _, .loop (.nm 4) (.val (.lst (.bi .sorted [(.var 1)]))) bodyLt, .ret (.bi .tuple [(.var 3)])] _ _) = _
  rw [nx s0, nx s1, nx s2, nx s3, rt s4, runB_ret]
end Law
end Rv
end PartPw6
section PartPw7
set_option Elab.async false
set_option linter.all false
set_option maxRecDepth 100000
set_option maxHeartbeats 4000000
set_option exponentiation.threshold 5000
namespace Rv
namespace Law
open PySem PySem.Spec PyProof.Rows L2
theorem addC48 {n : Nat} {a b : List Int} (ha : a.length = n) (hb : b.length = n) : (List.range n).map (fun j => PV.int (a.getD j 0 + b.getD j 0)) = (addV a b).map .int := by
  have e : (List.range n).map (fun j => a.getD j 0 + b.getD j 0) = addV a b := ext_getD (by rw [List.length_map, List.length_range, addV_len (by omega), ha]) fun j hj => by
    have hj : j < n := by rw [List.length_map, List.length_range] at hj; exact hj
    rw [addV_get (by omega)]
    simp only [List.getD_eq_getElem?_getD, List.getElem?_map, List.getElem?_range hj, Option.map_some, Option.getD_some]
  rw [← e, List.map_map]
  rfl
def stL (L : Pol) : List PO := [.lst (L.map pP)]
theorem app_pair {L : Pol} {q : List Int × Int} (h : L.length ≤ 100000) : methV .append (stL L) (.ref 0) [.p (pP q)] = some (.p .non, stL (L ++ [q])) := by
  show (if (L.map pP).length < lim then some (EV.p .non, (stL L).set 0 (.lst (L.map pP ++ [pP q]))) else none) = _
  rw [if_pos (by rw [List.length_map, lim_eq]; omega)]
  show some (EV.p PV.non, [PO.lst (L.map pP ++ [pP q])]) = some (EV.p PV.non, [PO.lst ((L ++ [q]).map pP)])
  rw [show (L ++ [q]).map pP = L.map pP ++ [pP q] by rw [List.map_append]; rfl]
def rhoPd (A B : Pol) (p q w k : Option EV) : Sl := [some (.p (vP A)), some (.p (vP B)), some (.ref 0), p, q, w, k]
def bodyPd : List PS := [.asg (.nm 5) (.bi .tuple [(.lst (.comp [6] (.bin .add (.ix (.ix (.var 3) (.const (.int (0)))) (.var 6)) (.ix (.ix (.var 4) (.const (.int (0)))) (.var 6))) (.nm 6) (.range1 (.bi .len [(.ix (.var 3) (.const (.int (0))))])) []))]), .expr (.meth .append (.var 2) [(.tup [(.var 5), (.bin .mul (.ix (.var 3) (.const (.int (1)))) (.ix (.var 4) (.const (.int (1)))))])])]
theorem bodyPd_ok {g : Gm} {n : Nat} {A B L : Pol} {p q : List Int × Int} (hn : n ≤ 6) (hp : p.1.length = n) (hq : q.1.length = n) (h1 : p.2.natAbs < 2 ^ 2000) (h2 : q.2.natAbs < 2 ^ 2000) (hl : L.length ≤ 100000) (w : Option EV) : ∃ w', evSs g bodyPd (rhoPd A B (some (.p (pP p))) (some (.p (pP q))) w none) (stL L) = .nx (rhoPd A B (some (.p (pP p))) (some (.p (pP q))) w' none) (stL (L ++ [(addV p.1 q.1, p.2 * q.2)])) := by
  have hm := mul_int h1 h2
  have i1 : ∀ S, ixE S (.p (pP p)) (.p (.int 0)) = some (.p (eL p.1)) := fun S => rfl
  have i2 : ∀ S, ixE S (.p (pP q)) (.p (.int 0)) = some (.p (eL q.1)) := fun S => rfl
  have i3 : ∀ S, ixE S (.p (pP p)) (.p (.int 1)) = some (.p (.int p.2)) := fun S => rfl
  have i4 : ∀ S, ixE S (.p (pP q)) (.p (.int 1)) = some (.p (.int q.2)) := fun S => rfl
  have el : bi .len [eL p.1] = some (.int ((n : Nat) : Int)) := by rw [len_L, hp]
  have hc := comp_listA (g := g) (own := [6]) (elt := .bin .add (.ix (.ix (.var 3) (.const (.int (0)))) (.var 6)) (.ix (.ix (.var 4) (.const (.int (0)))) (.var 6))) (tg := .nm 6) (it := .range1 (.bi .len [(.ix (.var 3) (.const (.int (0))))])) (ρ := rhoPd A B (some (.p (pP p))) (some (.p (pP q))) w none) (S := stL L) (ks := List.range n) (f := natP) (fun j => .int (p.1.getD j 0 + q.1.getD j 0)) (it_range1 (by
      unfold rhoPd
      generalize vP A = va
      generalize vP B = vb
      generalize pP p = pp at *
      generalize pP q = qq at *
      simp only [qSs1, qSs2, qS1, qS2, qS3, qS4, qS5, qS6, qS7, qS8, qS9, qS10, qS11, qS12, qS13, qS14, qS15, qS16, qS17, qS18, qS19, qS20, qE1, qE2, qE3, qE4, qE5, qE6, qE7, qE8, qE9, qE10, qE11, qE12, qE13, qE14, qE15, qE16, qE17, qE18, qE19, qE20, qE21, qE22, qE23, qE24, qE25, qE26, qE27, qE28, qE29, qE30, qE31, qE32, qE33, qEs1, qEs2, qT1, qT2, qT3, qT4, qT5, qT6, qTs1, qTs2, qO1, qO2, toS_ok, toS_exc, bind_ok, bind_exc, next_nx, next_ct, next_bk, next_ret, next_exc, runB_ret, runB_nx, runB_exc, noExc_nx, noExc_ret, see2, see1, see, sees, truth, cmpop, List.getElem?_cons_zero, List.getElem?_cons_succ, List.set_cons_zero, List.set_cons_succ, bindT, bindTs, wipeP, asPs, asP, asPs_map, i1, el]) (by omega)) (by rw [List.length_range, lim_eq]; omega) fun j hj => by
    have hj := List.mem_range.mp hj
    have j1 : ixE (stL L) (.p (eL p.1)) (.p (natP j)) = some (.p (.int (p.1.getD j 0))) := ixE_L (by omega)
    have j2 : ixE (stL L) (.p (eL q.1)) (.p (natP j)) = some (.p (.int (q.1.getD j 0))) := ixE_L (by omega)
    refine ⟨rhoPd A B (some (.p (pP p))) (some (.p (pP q))) w (some (.p (natP j))), rfl, ?_⟩
    unfold rhoPd
    generalize vP A = va
    generalize vP B = vb
    generalize pP p = pp at *
    generalize pP q = qq at *
    generalize stL L = S at *
    simp only [qSs1, qSs2, qS1, qS2, qS3, qS4, qS5, qS6, qS7, qS8, qS9, qS10, qS11, qS12, qS13, qS14, qS15, qS16, qS17, qS18, qS19, qS20, qE1, qE2, qE3, qE4, qE5, qE6, qE7, qE8, qE9, qE10, qE11, qE12, qE13, qE14, qE15, qE16, qE17, qE18, qE19, qE20, qE21, qE22, qE23, qE24, qE25, qE26, qE27, qE28, qE29, qE30, qE31, qE32, qE33, qEs1, qEs2, qT1, qT2, qT3, qT4, qT5, qT6, qTs1, qTs2, qO1, qO2, toS_ok, toS_exc, bind_ok, bind_exc, next_nx, next_ct, next_bk, next_ret, next_exc, runB_ret, runB_nx, runB_exc, noExc_nx, noExc_ret, see2, see1, see, sees, truth, cmpop, List.getElem?_cons_zero, List.getElem?_cons_succ, List.set_cons_zero, List.set_cons_succ, bindT, bindTs, wipeP, asPs, asP, asPs_map, i1, i2, j1, j2, add_int]
  rw [addC48 hp hq] at hc
  have ht := tup_comp hc
  have hb := app_pair (q := (addV p.1 q.1, p.2 * q.2)) hl
  have ep : pP (addV p.1 q.1, p.2 * q.2) = .tup [.tup ((addV p.1 q.1).map .int), .int (p.2 * q.2)] := rfl
  rw [ep] at hb
  have hr : recvOk .append (stL L) (.ref 0) = true := rfl
  generalize (addV p.1 q.1).map PV.int = R at *
  refine ⟨some (.p (.tup R)), ?_⟩
  have s1 : evS g (.asg (.nm 5) (.bi .tuple [(.lst (.comp [6] (.bin .add (.ix (.ix (.var 3) (.const (.int (0)))) (.var 6)) (.ix (.ix (.var 4) (.const (.int (0)))) (.var 6))) (.nm 6) (.range1 (.bi .len [(.ix (.var 3) (.const (.int (0))))])) []))])) (rhoPd A B (some (.p (pP p))) (some (.p (pP q))) w none) (stL L) = .nx (rhoPd A B (some (.p (pP p))) (some (.p (pP q))) (some (.p (.tup R))) none) (stL L) := by
    simp only [qS1, ht, toS_ok, bindT]
    rfl
  have s2 : evS g (.expr (.meth .append (.var 2) [(.tup [(.var 5), (.bin .mul (.ix (.var 3) (.const (.int (1)))) (.ix (.var 4) (.const (.int (1)))))])])) (rhoPd A B (some (.p (pP p))) (some (.p (pP q))) (some (.p (.tup R))) none) (stL L) = .nx (rhoPd A B (some (.p (pP p))) (some (.p (pP q))) (some (.p (.tup R))) none) (stL (L ++ [(addV p.1 q.1, p.2 * q.2)])) := by
    generalize stL (L ++ [(addV p.1 q.1, p.2 * q.2)]) = S2 at *
    generalize stL L = S at *
    unfold rhoPd
    generalize vP A = va
    generalize vP B = vb
    generalize pP p = pp at *
    generalize pP q = qq at *
    simp only [qSs1, qSs2, qS1, qS2, qS3, qS4, qS5, qS6, qS7, qS8, qS9, qS10, qS11, qS12, qS13, qS14, qS15, qS16, qS17, qS18, qS19, qS20, qE1, qE2, qE3, qE4, qE5, qE6, qE7, qE8, qE9, qE10, qE11, qE12, qE13, qE14, qE15, qE16, qE17, qE18, qE19, qE20, qE21, qE22, qE23, qE24, qE25, qE26, qE27, qE28, qE29, qE30, qE31, qE32, qE33, qEs1, qEs2, qT1, qT2, qT3, qT4, qT5, qT6, qTs1, qTs2, qO1, qO2, toS_ok, toS_exc, bind_ok, bind_exc, next_nx, next_ct, next_bk, next_ret, next_exc, runB_ret, runB_nx, runB_exc, noExc_nx, noExc_ret, see2, see1, see, sees, truth, cmpop, List.getElem?_cons_zero, List.getElem?_cons_succ, List.set_cons_zero, List.set_cons_succ, bindT, bindTs, wipeP, asPs, asP, asPs_map, hr, i3, i4, hm, hb]
  unfold bodyPd
  rw [nx s1, nx1 s2]
theorem lawProduct (d : Nat) {n : Nat} (h1 : 1 ≤ n) (h6 : n ≤ 6) {A B : Pol} {l b c l2 b2 c2 : Nat} (hA : Raw48 n A l b c) (hB : Raw48 n B l2 b2 c2) (hl : l * l2 ≤ 10000) (hc : c ≤ 2 ^ 900) (hc2 : c2 ≤ 2 ^ 900) : ∃ S, callD G bs (d + 2) I__law_product [.p (vP A), .p (vP B)] [] = .ok (.e (.p (vP (canon (prodP A B))))) S := by
  rw [call_eqG (f := f__law_product) (b := b__law_product) rfl rfl]
  have hS : startSl f__law_product.N.length [.p (vP A), .p (vP B)] = [some (.p (vP A)), some (.p (vP B)), none, none, none, none, none] := rfl
  rw [hS]
  have hP := hA.prod hB
  obtain ⟨S0, hp⟩ := lawSummed d h1 hP.ln (by have := hP.len; omega)
  have hpc : pcall (GD G bs (d + 1)) I__law_summed [.ref 0] (stL (prodP A B)) = .ok (.p (vP (canon (prodP A B)))) (stL (prodP A B)) := pcall_see (w := lP (prodP A B)) rfl hp (flat_vP _)
  generalize GD G bs (d + 1) = g at *
  have s0 : evS g (.asg (.nm 2) (.mut (.disp []))) [some (.p (vP A)), some (.p (vP B)), none, none, none, none, none] [] = .nx (rhoPd A B none none none none) (stL []) := by
    have hl : evL g (.disp []) [some (.p (vP A)), some (.p (vP B)), none, none, none, none, none] [] = .ok (([] : List PV).map .p) [] := by simp only [qL1, qEs1]; rfl
    simp only [qS1, mut_of hl, toS_ok, bindT]
    rfl
  have inner : ∀ i p, A[i]? = some p → ∀ q w, ∃ q' w', evS g (.loop (.nm 4) (.val (.var 1)) bodyPd) (rhoPd A B (some (.p (pP p))) q w none) (stL (prodP (A.take i) B)) = .nx (rhoPd A B (some (.p (pP p))) q' w' none) (stL (prodP (A.take (i + 1)) B)) := fun i p hi q0 w0 => by
    have hpm := List.mem_of_getElem? hi
    have hil := (List.getElem?_eq_some_iff.mp hi).1
    obtain ⟨ρ', S', e1, q', w', f1, f2⟩ := forL_inv (t := .nm 4) (b := fun ρ S => evSs g bodyPd ρ S)
      (fun j ρ S => ∃ q' w', ρ = rhoPd A B (some (.p (pP p))) q' w' none ∧ S = stL (prodP (A.take i) B ++ (B.take j).map fun q => (addV p.1 q.1, p.2 * q.2))) (B.map pP) 0 (rhoPd A B (some (.p (pP p))) q0 w0 none) (stL (prodP (A.take i) B)) ⟨q0, w0, rfl, by rw [List.take_zero, List.map_nil, List.append_nil]⟩ fun j x ρ S hx ⟨q', w', f1, f2⟩ => by
        subst f1 f2
        rw [Nat.zero_add]
        rw [List.getElem?_map] at hx
        obtain ⟨q, h2, rfl⟩ := Option.map_eq_some_iff.mp hx
        have hqm := List.mem_of_getElem? h2
        have hlen : (prodP (A.take i) B ++ (B.take j).map fun q => (addV p.1 q.1, p.2 * q.2)).length ≤ 100000 := by
          rw [List.length_append, prodP_len, List.length_map, List.length_take, List.length_take]
          have a1 := hA.len
          have a2 := hB.len
          have a3 : min i A.length * B.length ≤ l * l2 := Nat.mul_le_mul (by omega) a2
          have a4 : B.length ≤ l * l2 := by
            have : 1 ≤ l := by omega
            have := Nat.mul_le_mul this a2
            omega
          omega
        obtain ⟨w2, e2⟩ := bodyPd_ok (g := g) (A := A) (B := B) (L := prodP (A.take i) B ++ (B.take j).map fun q => (addV p.1 q.1, p.2 * q.2)) (p := p) (q := q) h6 (hA.ln p hpm) (hB.ln q hqm) (small_of hc (hA.nr p hpm)) (small_of hc2 (hB.nr q hqm)) hlen w'
        refine ⟨rhoPd A B (some (.p (pP p))) (some (.p (pP q))) w' none, rfl, _, _, .inl e2, _, _, rfl, ?_⟩
        rw [List.take_add_one, h2, List.map_append, ← List.append_assoc]
        rfl
    rw [Nat.zero_add, List.length_map, List.take_length, ← prod_snoc A B hi] at f2
    exact ⟨q', w', loop_of (it_val (v := vP B) rfl rfl) (by rw [e1, f1, f2])⟩
  obtain ⟨ρ', S', e1, p', q', w', f1, f2⟩ := forL_inv (t := .nm 3) (b := fun ρ S => evSs g [.loop (.nm 4) (.val (.var 1)) bodyPd] ρ S)
    (fun j ρ S => ∃ p' q' w', ρ = rhoPd A B p' q' w' none ∧ S = stL (prodP (A.take j) B)) (A.map pP) 0 (rhoPd A B none none none none) (stL []) ⟨none, none, none, rfl, rfl⟩ fun j x ρ S hx ⟨p', q', w', f1, f2⟩ => by
      subst f1 f2
      rw [Nat.zero_add]
      rw [List.getElem?_map] at hx
      obtain ⟨p, h2, rfl⟩ := Option.map_eq_some_iff.mp hx
      obtain ⟨a2, c2, e2⟩ := inner j p h2 q' w'
      exact ⟨rhoPd A B (some (.p (pP p))) q' w' none, rfl, _, _, .inl (nx1 e2), _, _, _, rfl, rfl⟩
  rw [Nat.zero_add, List.length_map, List.take_length] at f2
  have s1 : evS g (.loop (.nm 3) (.val (.var 0)) [.loop (.nm 4) (.val (.var 1)) bodyPd]) (rhoPd A B none none none none) (stL []) = .nx (rhoPd A B p' q' w' none) (stL (prodP A B)) := loop_of (it_val (v := vP A) rfl rfl) (by rw [e1, f1, f2])
  have s2 : evS g (.ret (.call I__law_summed [(.var 2)])) (rhoPd A B p' q' w' none) (stL (prodP A B)) = .ret (.e (.p (vP (canon (prodP A B))))) (stL (prodP A B)) := by
    generalize stL (prodP A B) = S at *
    generalize vP (canon (prodP A B)) = R at *
    unfold rhoPd
    simp only [qSs1, qSs2, qS1, qS2, qS3, qS4, qS5, qS6, qS7, qS8, qS9, qS10, qS11, qS12, qS13, qS14, qS15, qS16, qS17, qS18, qS19, qS20, qE1, qE2, qE3, qE4, qE5, qE6, qE7, qE8, qE9, qE10, qE11, qE12, qE13, qE14, qE15, qE16, qE17, qE18, qE19, qE20, qE21, qE22, qE23, qE24, qE25, qE26, qE27, qE28, qE29, qE30, qE31, qE32, qE33, qEs1, qEs2, qT1, qT2, qT3, qT4, qT5, qT6, qTs1, qTs2, qO1, qO2, toS_ok, toS_exc, bind_ok, bind_exc, next_nx, next_ct, next_bk, next_ret, next_exc, runB_ret, runB_nx, runB_exc, noExc_nx, noExc_ret, see2, see1, see, sees, truth, cmpop, List.getElem?_cons_zero, List.getElem?_cons_succ, List.set_cons_zero, List.set_cons_succ, bindT, bindTs, wipeP, asPs, asP, asPs_map, hpc]
  refine ⟨stL (prodP A B), ?_⟩
  show runB (evSs _ [_, .loop (.nm 3) (.val (.var 0)) [.loop (.nm 4) (.val (.var 1)) bodyPd], .ret (.call I__law_summed [(.var 2)])] _ _) = _
  rw [nx s0, nx s1, rt s2, runB_ret]
def rhoDp (c : Int) (n m s : Nat) (sz dg pr at_ he on : Option EV) : Sl := [some (.p (.int c)), some (.p (natP n)), some (.p (natP m)), some (.p (natP s)), sz, dg, pr, at_, he, on]
def bodyDp : List PS := [.asg (.nm 8) (.lst (.sl (.var 5) (some (.bin .mul (.var 7) (.bin .add (.var 1) (.const (.int (1)))))) (some (.bin .mul (.bin .add (.var 7) (.const (.int (1)))) (.bin .add (.var 1) (.const (.int (1)))))))), .expr (.meth .append (.var 6) [(.tup [(.bi .tuple [(.lst (.comp [9] (.bin .sub (.var 9) (.var 3)) (.nm 9) (.val (.lst (.sl (.var 8) none (some (.var 1))))) []))]), (.bin .sub (.ix (.var 8) (.var 1)) (.var 3))])])]
theorem cutL {xs : List PV} {a b : Nat} (h1 : a ≤ b) (h2 : b ≤ xs.length) : cutP xs (some ((a : Nat) : Int)) (some ((b : Nat) : Int)) = (xs.drop a).take (b - a) := by
  unfold cutP
  rw [HT.sIx_nat, HT.sIx_nat, show min a xs.length = a by omega, show min b xs.length = b by omega]
theorem cutH {xs : List PV} {b : Nat} (h2 : b ≤ xs.length) : cutP xs none (some ((b : Nat) : Int)) = xs.take b := by
  unfold cutP
  rw [HT.sIx_none, HT.sIx_nat, Nat.min_eq_left h2, List.drop_zero, Nat.sub_zero]
theorem bodyDp_ok {g : Gm} {c : Int} {n m s at_ : Nat} {ds : List Nat} {L : Pol} (hn : n ≤ 6) (hat : (at_ + 1) * (n + 1) ≤ ds.length) (hds : ∀ x ∈ ds, x < 2 * s + 1) (hs : s ≤ 100) (hd : ds.length ≤ 1000) (hl : L.length ≤ 1000) (sz he : Option EV) :
    ∃ (q : List Int × Int) (he' : Option EV), q.1.length = n ∧ (∀ x ∈ q.1, x.natAbs ≤ s) ∧ q.2.natAbs ≤ s ∧ evSs g bodyDp (rhoDp c n m s sz (some (.p (.lst (ds.map natP)))) (some (.ref 0)) (some (.p (natP at_))) he none) (stL L) = .nx (rhoDp c n m s sz (some (.p (.lst (ds.map natP)))) (some (.ref 0)) (some (.p (natP at_))) he' none) (stL (L ++ [q])) := by
  have hmul : (at_ + 1) * (n + 1) = at_ * (n + 1) + (n + 1) := Nat.succ_mul _ _
  have hsm : at_ * (n + 1) ≤ 1000 := by omega
  have hat1 : at_ ≤ 1000 := Nat.le_trans (Nat.le_mul_of_pos_right _ (by omega)) hsm
  have m0 : binop .add (natP n) (.int 1) = some (natP (n + 1)) := by unfold natP; rw [add_int]; rfl
  have m1 : binop .mul (natP at_) (natP (n + 1)) = some (.int ((at_ * (n + 1) : Nat) : Int)) := by
    unfold natP
    rw [mul_small (by rw [Int.natAbs_natCast]; exact Nat.lt_of_le_of_lt (show n + 1 ≤ 7 by omega) (by decide))]
    rw [← Int.natCast_mul]
  have m2 : binop .add (natP at_) (.int 1) = some (natP (at_ + 1)) := by unfold natP; rw [add_int]; rfl
  have m3 : binop .mul (natP (at_ + 1)) (natP (n + 1)) = some (.int (((at_ + 1) * (n + 1) : Nat) : Int)) := by
    unfold natP
    rw [mul_small (by rw [Int.natAbs_natCast]; exact Nat.lt_of_le_of_lt (show n + 1 ≤ 7 by omega) (by decide))]
    rw [← Int.natCast_mul]
  generalize hhe : (ds.drop (at_ * (n + 1))).take (n + 1) = hr
  have hrl : hr.length = n + 1 := by rw [← hhe, List.length_take, List.length_drop]; omega
  have hrm : ∀ x ∈ hr, x < 2 * s + 1 := fun x hx => by
    rw [← hhe] at hx
    exact hds x (List.mem_of_mem_drop (List.mem_of_mem_take hx))
  have sl1 : slPL (some ((at_ * (n + 1) : Nat) : Int)) (some (((at_ + 1) * (n + 1) : Nat) : Int)) (.lst (ds.map natP)) = some (hr.map natP) := by
    show some (cutP (ds.map natP) (some ((at_ * (n + 1) : Nat) : Int)) (some (((at_ + 1) * (n + 1) : Nat) : Int))) = _
    rw [cutL (by omega) (by rw [List.length_map]; exact hat), show (at_ + 1) * (n + 1) - at_ * (n + 1) = n + 1 by omega, ← hhe, List.map_take, List.map_drop]
  have sl2 : slPL none (some ((n : Nat) : Int)) (.lst (hr.map natP)) = some ((hr.take n).map natP) := by
    show some (cutP (hr.map natP) none (some ((n : Nat) : Int))) = _
    rw [cutH (by rw [List.length_map]; omega), List.map_take]
  obtain ⟨z, hz, hzm⟩ : ∃ z, hr[n]? = some z ∧ z ∈ hr := ⟨hr[n], List.getElem?_eq_getElem (by omega), List.getElem_mem _⟩
  have i1 : ∀ S, ixE S (.p (.lst (hr.map natP))) (.p (natP n)) = some (.p (natP z)) := fun S => by
    have hh : atI (hr.map natP) ((n : Nat) : Int) = some (natP z) := by
      rw [atI_k (by rw [List.length_map]; omega)]
      have := (List.getElem?_eq_some_iff.mp hz).2
      simp [this]
    simp only [ixE, see2, see1, see, ixP, natP] at hh ⊢
    rw [hh]; rfl
  refine ⟨((hr.take n).map fun x : Nat => (x : Int) - (s : Int), (z : Int) - (s : Int)), some (.p (.lst (hr.map natP))), by rw [List.length_map, List.length_take]; omega, fun x hx => ?_, ?_, ?_⟩
  · obtain ⟨y, hy, rfl⟩ := List.mem_map.mp hx
    have := hrm y (List.mem_of_mem_take hy)
    omega
  · show ((z : Int) - (s : Int)).natAbs ≤ s
    have := hrm z hzm
    omega
  have s1 : evS g (.asg (.nm 8) (.lst (.sl (.var 5) (some (.bin .mul (.var 7) (.bin .add (.var 1) (.const (.int (1)))))) (some (.bin .mul (.bin .add (.var 7) (.const (.int (1)))) (.bin .add (.var 1) (.const (.int (1))))))))) (rhoDp c n m s sz (some (.p (.lst (ds.map natP)))) (some (.ref 0)) (some (.p (natP at_))) he none) (stL L) = .nx (rhoDp c n m s sz (some (.p (.lst (ds.map natP)))) (some (.ref 0)) (some (.p (natP at_))) (some (.p (.lst (hr.map natP)))) none) (stL L) := by
    generalize stL L = S
    have hl : evL g (.sl (.var 5) (some (.bin .mul (.var 7) (.bin .add (.var 1) (.const (.int (1)))))) (some (.bin .mul (.bin .add (.var 7) (.const (.int (1)))) (.bin .add (.var 1) (.const (.int (1))))))) (rhoDp c n m s sz (some (.p (.lst (ds.map natP)))) (some (.ref 0)) (some (.p (natP at_))) he none) S = .ok ((hr.map natP).map .p) S := by
      unfold rhoDp
      generalize hn1 : natP (n + 1) = nn at *
      generalize hn2 : natP (at_ + 1) = a2 at *
      generalize hn3 : natP n = nn0 at *
      generalize hn4 : natP at_ = a1 at *
      generalize hr.map natP = hv at *
      generalize ds.map natP = dv at *
      simp only [qL4, qSs1, qSs2, qS1, qS2, qS3, qS4, qS5, qS6, qS7, qS8, qS9, qS10, qS11, qS12, qS13, qS14, qS15, qS16, qS17, qS18, qS19, qS20, qE1, qE2, qE3, qE4, qE5, qE6, qE7, qE8, qE9, qE10, qE11, qE12, qE13, qE14, qE15, qE16, qE17, qE18, qE19, qE20, qE21, qE22, qE23, qE24, qE25, qE26, qE27, qE28, qE29, qE30, qE31, qE32, qE33, qEs1, qEs2, qT1, qT2, qT3, qT4, qT5, qT6, qTs1, qTs2, qO1, qO2, toS_ok, toS_exc, bind_ok, bind_exc, next_nx, next_ct, next_bk, next_ret, next_exc, runB_ret, runB_nx, runB_exc, noExc_nx, noExc_ret, see2, see1, see, sees, truth, cmpop, List.getElem?_cons_zero, List.getElem?_cons_succ, List.set_cons_zero, List.set_cons_succ, bindT, bindTs, wipeP, asPs, asP, asPs_map, m0, m1, m2, m3, sl1]
    have h2 := lst_of hl
    simp only [qS1, h2, toS_ok, bindT]
    rfl
  have hc := comp_listA (g := g) (own := [9]) (elt := .bin .sub (.var 9) (.var 3)) (tg := .nm 9) (it := .val (.lst (.sl (.var 8) none (some (.var 1))))) (ρ := rhoDp c n m s sz (some (.p (.lst (ds.map natP)))) (some (.ref 0)) (some (.p (natP at_))) (some (.p (.lst (hr.map natP)))) none) (S := stL L) (ks := hr.take n) (f := natP) (fun x : Nat => .int ((x : Int) - (s : Int))) (by
      have hl : evL g (.sl (.var 8) none (some (.var 1))) (rhoDp c n m s sz (some (.p (.lst (ds.map natP)))) (some (.ref 0)) (some (.p (natP at_))) (some (.p (.lst (hr.map natP)))) none) (stL L) = .ok (((hr.take n).map natP).map .p) (stL L) := by
        generalize stL L = S
        have en : natP n = .int (n : Int) := rfl
        unfold rhoDp
        rw [en]
        generalize hr.map natP = hv at *
        generalize ds.map natP = dv at *
        generalize (hr.take n).map natP = tv at *
        simp only [qL4, qSs1, qSs2, qS1, qS2, qS3, qS4, qS5, qS6, qS7, qS8, qS9, qS10, qS11, qS12, qS13, qS14, qS15, qS16, qS17, qS18, qS19, qS20, qE1, qE2, qE3, qE4, qE5, qE6, qE7, qE8, qE9, qE10, qE11, qE12, qE13, qE14, qE15, qE16, qE17, qE18, qE19, qE20, qE21, qE22, qE23, qE24, qE25, qE26, qE27, qE28, qE29, qE30, qE31, qE32, qE33, qEs1, qEs2, qT1, qT2, qT3, qT4, qT5, qT6, qTs1, qTs2, qO1, qO2, toS_ok, toS_exc, bind_ok, bind_exc, next_nx, next_ct, next_bk, next_ret, next_exc, runB_ret, runB_nx, runB_exc, noExc_nx, noExc_ret, see2, see1, see, sees, truth, cmpop, List.getElem?_cons_zero, List.getElem?_cons_succ, List.set_cons_zero, List.set_cons_succ, bindT, bindTs, wipeP, asPs, asP, asPs_map, sl2]
      have h2 := lst_of hl
      simp only [evIt, h2, Out.bind]
      rfl) (by rw [List.length_take, lim_eq]; omega) fun x hx => by
    have e := sub_int (x : Int) (s : Int)
    refine ⟨rhoDp c n m s sz (some (.p (.lst (ds.map natP)))) (some (.ref 0)) (some (.p (natP at_))) (some (.p (.lst (hr.map natP)))) (some (.p (natP x))), rfl, ?_⟩
    generalize stL L = S
    have e' : binop .sub (natP x) (natP s) = some (.int ((x : Int) - (s : Int))) := e
    unfold rhoDp
    generalize hr.map natP = hv at *
    generalize ds.map natP = dv at *
    generalize natP x = nx0 at *
    generalize natP s = ns0 at *
    simp only [qSs1, qSs2, qS1, qS2, qS3, qS4, qS5, qS6, qS7, qS8, qS9, qS10, qS11, qS12, qS13, qS14, qS15, qS16, qS17, qS18, qS19, qS20, qE1, qE2, qE3, qE4, qE5, qE6, qE7, qE8, qE9, qE10, qE11, qE12, qE13, qE14, qE15, qE16, qE17, qE18, qE19, qE20, qE21, qE22, qE23, qE24, qE25, qE26, qE27, qE28, qE29, qE30, qE31, qE32, qE33, qEs1, qEs2, qT1, qT2, qT3, qT4, qT5, qT6, qTs1, qTs2, qO1, qO2, toS_ok, toS_exc, bind_ok, bind_exc, next_nx, next_ct, next_bk, next_ret, next_exc, runB_ret, runB_nx, runB_exc, noExc_nx, noExc_ret, see2, see1, see, sees, truth, cmpop, List.getElem?_cons_zero, List.getElem?_cons_succ, List.set_cons_zero, List.set_cons_succ, bindT, bindTs, wipeP, asPs, asP, asPs_map, e']
  have e1 : (hr.take n).map (fun x : Nat => PV.int ((x : Int) - (s : Int))) = ((hr.take n).map fun x : Nat => (x : Int) - (s : Int)).map .int := by rw [List.map_map]; rfl
  rw [e1] at hc
  have ht := tup_comp hc
  have hb := app_pair (L := L) (q := ((hr.take n).map fun x : Nat => (x : Int) - (s : Int), (z : Int) - (s : Int))) (by omega)
  have ep : pP ((hr.take n).map fun x : Nat => (x : Int) - (s : Int), (z : Int) - (s : Int)) = .tup [.tup (((hr.take n).map fun x : Nat => (x : Int) - (s : Int)).map .int), .int ((z : Int) - (s : Int))] := rfl
  rw [ep] at hb
  have hrc : recvOk .append (stL L) (.ref 0) = true := rfl
  have e2 : binop .sub (natP z) (natP s) = some (.int ((z : Int) - (s : Int))) := sub_int (z : Int) (s : Int)
  have s2 : evS g (.expr (.meth .append (.var 6) [(.tup [(.bi .tuple [(.lst (.comp [9] (.bin .sub (.var 9) (.var 3)) (.nm 9) (.val (.lst (.sl (.var 8) none (some (.var 1))))) []))]), (.bin .sub (.ix (.var 8) (.var 1)) (.var 3))])])) (rhoDp c n m s sz (some (.p (.lst (ds.map natP)))) (some (.ref 0)) (some (.p (natP at_))) (some (.p (.lst (hr.map natP)))) none) (stL L) = .nx (rhoDp c n m s sz (some (.p (.lst (ds.map natP)))) (some (.ref 0)) (some (.p (natP at_))) (some (.p (.lst (hr.map natP)))) none) (stL (L ++ [((hr.take n).map fun x : Nat => (x : Int) - (s : Int), (z : Int) - (s : Int))])) := by
    generalize stL (L ++ [((hr.take n).map fun x : Nat => (x : Int) - (s : Int), (z : Int) - (s : Int))]) = S2 at *
    generalize stL L = S at *
    generalize ((hr.take n).map fun x : Nat => (x : Int) - (s : Int)).map PV.int = R at *
    generalize PX.bi BI.tuple [PX.lst (.comp [9] (.bin .sub (.var 9) (.var 3)) (.nm 9) (.val (.lst (.sl (.var 8) none (some (.var 1))))) [])] = TE at *
    unfold rhoDp at *
    generalize hr.map natP = hv at *
    generalize ds.map natP = dv at *
    generalize natP z = nz at *
    generalize natP s = ns0 at *
    generalize natP n = nn at *
    simp only [qSs1, qSs2, qS1, qS2, qS3, qS4, qS5, qS6, qS7, qS8, qS9, qS10, qS11, qS12, qS13, qS14, qS15, qS16, qS17, qS18, qS19, qS20, qE1, qE2, qE3, qE4, qE5, qE6, qE7, qE8, qE9, qE10, qE11, qE12, qE13, qE14, qE15, qE16, qE17, qE18, qE19, qE20, qE21, qE22, qE23, qE24, qE25, qE26, qE27, qE28, qE29, qE30, qE31, qE32, qE33, qEs1, qEs2, qT1, qT2, qT3, qT4, qT5, qT6, qTs1, qTs2, qO1, qO2, toS_ok, toS_exc, bind_ok, bind_exc, next_nx, next_ct, next_bk, next_ret, next_exc, runB_ret, runB_nx, runB_exc, noExc_nx, noExc_ret, see2, see1, see, sees, truth, cmpop, List.getElem?_cons_zero, List.getElem?_cons_succ, List.set_cons_zero, List.set_cons_succ, bindT, bindTs, wipeP, asPs, asP, asPs_map, hrc, ht, i1, e2, hb]
  unfold bodyDp
  rw [nx s1, nx1 s2]
end Law
end Rv
end PartPw7
section PartPw8
set_option Elab.async false
set_option linter.all false
set_option maxRecDepth 100000
set_option maxHeartbeats 4000000
set_option exponentiation.threshold 5000
namespace Rv
namespace Law
open PySem PySem.Spec PyProof.Rows L2
theorem lawDrawnPoly (d : Nat) (c : Int) {n m s : Nat} (h1 : 1 ≤ n) (h6 : n ≤ 6) (hm : m ≤ 20) (hs : s ≤ 100) : ∃ (L : Pol) (S : List PO), Raw48 n L m s s ∧ callD G bs (d + 3) I__law_drawn_poly [.p (.int c), .p (natP n), .p (natP m), .p (natP s)] [] = .ok (.e (.p (vP (canon L)))) S := by
  rw [call_eqG (f := f__law_drawn_poly) (b := b__law_drawn_poly) rfl rfl]
  have hS : startSl f__law_drawn_poly.N.length [.p (.int c), .p (natP n), .p (natP m), .p (natP s)] = rhoDp c n m s none none none none none none := rfl
  rw [hS]
  obtain ⟨l0, a1, a2, a3⟩ := lawRowW d c (m := 1) (t := m + 1) (by decide) (by omega) (by omega)
  have p0 : pcall (GD G bs (d + 2)) I__law_row [.p (.int c), .p (.int 1), .p (natP (m + 1))] [] = .ok (.p (.lst (l0.map natP))) [] := pS3 a3 rfl
  obtain ⟨z, hz⟩ : ∃ z, l0 = [z] := by
    cases l0 with
    | nil => simp at a1
    | cons z l =>
      cases l with
      | nil => exact ⟨z, rfl⟩
      | cons _ _ => simp at a1
  subst hz
  have hzm : z ≤ m := by have := a2 z (List.mem_cons_self ..); omega
  have hmz : z * (n + 1) ≤ 140 := Nat.le_trans (Nat.mul_le_mul (show z ≤ 20 by omega) (show n + 1 ≤ 7 by omega)) (by decide)
  obtain ⟨ds, b1, b2, b3⟩ := lawRowW d (c / 3 + 1) (m := z * (n + 1)) (t := 2 * s + 1) (by omega) (by omega) (by omega)
  have p1 : pcall (GD G bs (d + 2)) I__law_row [.p (.int (c / 3 + 1)), .p (natP (z * (n + 1))), .p (natP (2 * s + 1))] [] = .ok (.p (.lst (ds.map natP))) [] := pS3 b3 rfl
  have hsum : ∀ L : Pol, Raw48 n L m s s → ∃ S, callD G bs (d + 2) I__law_summed [.p (lP L)] [] = .ok (.e (.p (vP (canon L)))) S := fun L h => lawSummed (d + 1) h1 h.ln (by have := h.len; omega)
  have hpc : ∀ L : Pol, Raw48 n L m s s → pcall (GD G bs (d + 2)) I__law_summed [.ref 0] (stL L) = .ok (.p (vP (canon L))) (stL L) := fun L h => by
    obtain ⟨S, e⟩ := hsum L h
    exact pcall_see (w := lP L) rfl e (flat_vP _)
  generalize GD G bs (d + 2) = g at *
  have t1 : binop .add (natP m) (.int 1) = some (natP (m + 1)) := by unfold natP; rw [add_int]; rfl
  have t2 : ixE [] (.p (.lst ([z].map natP))) (.p (.int 0)) = some (.p (natP z)) := rfl
  have t3 : binop .fdiv (.int c) (.int 3) = some (.int (c / 3)) := div_int (j := 3) (by decide) (by decide)
  have t4 : binop .add (natP n) (.int 1) = some (natP (n + 1)) := by unfold natP; rw [add_int]; rfl
  have t5 : binop .mul (natP z) (natP (n + 1)) = some (natP (z * (n + 1))) := by
    unfold natP
    rw [mul_small (by rw [Int.natAbs_natCast]; exact Nat.lt_of_le_of_lt (show n + 1 ≤ 7 by omega) (by decide))]
    rw [← Int.natCast_mul]
  have t6 : binop .mul (.int 2) (natP s) = some (natP (2 * s)) := by
    unfold natP
    rw [mul_small (by rw [Int.natAbs_natCast]; exact Nat.lt_of_le_of_lt hs (by decide))]
    exact congrArg (fun z => some (PV.int z)) (by omega)
  have t7 : binop .add (natP (2 * s)) (.int 1) = some (natP (2 * s + 1)) := by unfold natP; rw [add_int]; rfl
  have t8 : binop .add (.int (c / 3)) (.int 1) = some (.int (c / 3 + 1)) := add_int _ _
  have s0 : evS g (.asg (.nm 4) (.ix (.call I__law_row [(.var 0), (.const (.int (1))), (.bin .add (.var 2) (.const (.int (1))))]) (.const (.int (0))))) (rhoDp c n m s none none none none none none) [] = .nx (rhoDp c n m s (some (.p (natP z))) none none none none none) [] := by
    unfold rhoDp
    generalize natP (m + 1) = m1 at *
    generalize natP m = m0 at *
    generalize natP z = z0 at *
    generalize PV.lst ([z].map natP) = zl at *
    simp only [qSs1, qSs2, qS1, qS2, qS3, qS4, qS5, qS6, qS7, qS8, qS9, qS10, qS11, qS12, qS13, qS14, qS15, qS16, qS17, qS18, qS19, qS20, qE1, qE2, qE3, qE4, qE5, qE6, qE7, qE8, qE9, qE10, qE11, qE12, qE13, qE14, qE15, qE16, qE17, qE18, qE19, qE20, qE21, qE22, qE23, qE24, qE25, qE26, qE27, qE28, qE29, qE30, qE31, qE32, qE33, qEs1, qEs2, qT1, qT2, qT3, qT4, qT5, qT6, qTs1, qTs2, qO1, qO2, toS_ok, toS_exc, bind_ok, bind_exc, next_nx, next_ct, next_bk, next_ret, next_exc, runB_ret, runB_nx, runB_exc, noExc_nx, noExc_ret, see2, see1, see, sees, truth, cmpop, List.getElem?_cons_zero, List.getElem?_cons_succ, List.set_cons_zero, List.set_cons_succ, bindT, bindTs, wipeP, asPs, asP, asPs_map, t1, p0, t2]
  have s1 : evS g (.asg (.nm 5) (.call I__law_row [(.bin .add (.bin .fdiv (.bi .int [(.var 0)]) (.const (.int (3)))) (.const (.int (1)))), (.bin .mul (.var 4) (.bin .add (.var 1) (.const (.int (1))))), (.bin .add (.bin .mul (.const (.int (2))) (.var 3)) (.const (.int (1))))])) (rhoDp c n m s (some (.p (natP z))) none none none none none) [] = .nx (rhoDp c n m s (some (.p (natP z))) (some (.p (.lst (ds.map natP)))) none none none none) [] := by
    unfold rhoDp
    generalize natP (z * (n + 1)) = zn at *
    generalize natP (2 * s + 1) = s21 at *
    generalize natP (2 * s) = s2 at *
    generalize natP (n + 1) = n1 at *
    generalize natP n = n0 at *
    generalize natP z = z0 at *
    generalize natP s = s00 at *
    generalize PV.lst (ds.map natP) = dl at *
    generalize c / 3 + 1 = c31 at *
    generalize c / 3 = c3 at *
    simp only [qSs1, qSs2, qS1, qS2, qS3, qS4, qS5, qS6, qS7, qS8, qS9, qS10, qS11, qS12, qS13, qS14, qS15, qS16, qS17, qS18, qS19, qS20, qE1, qE2, qE3, qE4, qE5, qE6, qE7, qE8, qE9, qE10, qE11, qE12, qE13, qE14, qE15, qE16, qE17, qE18, qE19, qE20, qE21, qE22, qE23, qE24, qE25, qE26, qE27, qE28, qE29, qE30, qE31, qE32, qE33, qEs1, qEs2, qT1, qT2, qT3, qT4, qT5, qT6, qTs1, qTs2, qO1, qO2, toS_ok, toS_exc, bind_ok, bind_exc, next_nx, next_ct, next_bk, next_ret, next_exc, runB_ret, runB_nx, runB_exc, noExc_nx, noExc_ret, see2, see1, see, sees, truth, cmpop, List.getElem?_cons_zero, List.getElem?_cons_succ, List.set_cons_zero, List.set_cons_succ, bindT, bindTs, wipeP, asPs, asP, asPs_map, int_int, t3, t4, t5, t6, t7, t8, p1]
  have s2 : evS g (.asg (.nm 6) (.mut (.disp []))) (rhoDp c n m s (some (.p (natP z))) (some (.p (.lst (ds.map natP)))) none none none none) [] = .nx (rhoDp c n m s (some (.p (natP z))) (some (.p (.lst (ds.map natP)))) (some (.ref 0)) none none none) (stL []) := by
    have hl : evL g (.disp []) (rhoDp c n m s (some (.p (natP z))) (some (.p (.lst (ds.map natP)))) none none none none) [] = .ok (([] : List PV).map .p) [] := by simp only [qL1, qEs1]; rfl
    simp only [qS1, mut_of hl, toS_ok, bindT]
    rfl
  obtain ⟨ρ', S', e1, L, at', he', f1, f2, f3⟩ := forL_inv (t := .nm 7) (b := fun ρ S => evSs g bodyDp ρ S)
    (fun j ρ S => ∃ (L : Pol) (at' he' : Option EV), ρ = rhoDp c n m s (some (.p (natP z))) (some (.p (.lst (ds.map natP)))) (some (.ref 0)) at' he' none ∧ S = stL L ∧ L.length = j ∧ Raw48 n L 1000 s s) ((List.range z).map fun (k : Nat) => PV.int (k : Int)) 0 (rhoDp c n m s (some (.p (natP z))) (some (.p (.lst (ds.map natP)))) (some (.ref 0)) none none none) (stL []) ⟨[], none, none, rfl, rfl, rfl, ⟨fun q hq => (by cases hq), Nat.zero_le _, fun q hq => (by cases hq), fun q hq => (by cases hq)⟩⟩ fun j x ρ S hx ⟨L, at', he', f1, f2, f3, f4⟩ => by
      subst f1 f2
      obtain ⟨hj, rfl⟩ := range_get hx
      rw [Nat.zero_add] at f3 ⊢
      have hat : (j + 1) * (n + 1) ≤ ds.length := by rw [b1]; exact Nat.mul_le_mul_right _ hj
      obtain ⟨q, he2, c1, c2, c3, c4⟩ := bodyDp_ok (g := g) (c := c) (n := n) (m := m) (s := s) (at_ := j) (ds := ds) (L := L) h6 hat b2 hs (by omega) (by omega) (some (.p (natP z))) he'
      refine ⟨rhoDp c n m s (some (.p (natP z))) (some (.p (.lst (ds.map natP)))) (some (.ref 0)) (some (.p (natP j))) he' none, rfl, _, _, .inl c4, L ++ [q], _, _, rfl, rfl, by rw [List.length_append, List.length_singleton, f3], ?_⟩
      refine ⟨fun p hp => ?_, by rw [List.length_append, List.length_singleton]; omega, fun p hp => ?_, fun p hp => ?_⟩
      all_goals rcases List.mem_append.mp hp with hp | hp
      · exact f4.ln p hp
      · rw [List.mem_singleton.mp hp]; exact c1
      · exact f4.pw p hp
      · rw [List.mem_singleton.mp hp]; exact c2
      · exact f4.nr p hp
      · rw [List.mem_singleton.mp hp]; exact c3
  obtain ⟨f3, f4⟩ := f3
  rw [Nat.zero_add, List.length_map, List.length_range] at f3
  have hR : Raw48 n L m s s := ⟨f4.ln, by omega, f4.pw, f4.nr⟩
  have s3 : evS g (.loop (.nm 7) (.range1 (.var 4)) bodyDp) (rhoDp c n m s (some (.p (natP z))) (some (.p (.lst (ds.map natP)))) (some (.ref 0)) none none none) (stL []) = .nx (rhoDp c n m s (some (.p (natP z))) (some (.p (.lst (ds.map natP)))) (some (.ref 0)) at' he' none) (stL L) := loop_of (it_range1 (var_ok rfl) (by omega)) (by rw [e1, f1, f2])
  have q := hpc L hR
  have s4 : evS g (.ret (.call I__law_summed [(.var 6)])) (rhoDp c n m s (some (.p (natP z))) (some (.p (.lst (ds.map natP)))) (some (.ref 0)) at' he' none) (stL L) = .ret (.e (.p (vP (canon L)))) (stL L) := by
    generalize stL L = S at *
    generalize vP (canon L) = R at *
    unfold rhoDp
    generalize PV.lst (ds.map natP) = dl at *
    simp only [qSs1, qSs2, qS1, qS2, qS3, qS4, qS5, qS6, qS7, qS8, qS9, qS10, qS11, qS12, qS13, qS14, qS15, qS16, qS17, qS18, qS19, qS20, qE1, qE2, qE3, qE4, qE5, qE6, qE7, qE8, qE9, qE10, qE11, qE12, qE13, qE14, qE15, qE16, qE17, qE18, qE19, qE20, qE21, qE22, qE23, qE24, qE25, qE26, qE27, qE28, qE29, qE30, qE31, qE32, qE33, qEs1, qEs2, qT1, qT2, qT3, qT4, qT5, qT6, qTs1, qTs2, qO1, qO2, toS_ok, toS_exc, bind_ok, bind_exc, next_nx, next_ct, next_bk, next_ret, next_exc, runB_ret, runB_nx, runB_exc, noExc_nx, noExc_ret, see2, see1, see, sees, truth, cmpop, List.getElem?_cons_zero, List.getElem?_cons_succ, List.set_cons_zero, List.set_cons_succ, bindT, bindTs, wipeP, asPs, asP, asPs_map, q]
  refine ⟨L, stL L, hR, ?_⟩
  show runB (evSs g [_, _, _, .loop (.nm 7) (.range1 (.var 4)) bodyDp, .ret (.call I__law_summed [(.var 6)])] _ _) = _
  rw [nx s0, nx s1, nx s2, nx s3, rt s4, runB_ret]
end Law
end Rv
end PartPw8
section PartL48a
set_option Elab.async false
set_option linter.all false
set_option maxRecDepth 100000
set_option maxHeartbeats 4000000
set_option exponentiation.threshold 5000
namespace Rv
namespace Law
open PySem PySem.Spec PyProof.Rows L2
theorem toD_pairM (m : Nat) (q : List Int × Int) : toD (m + 2) (pP q) = some (qD q) := by
  have h : (q.1.map PV.int).mapM (toD m) = some (q.1.map .int) := toDI m q.1
  unfold pP qD rD eL
  simp only [toD, List.mapM_cons, List.mapM_nil, h, Option.map_some, Option.bind_eq_bind, Option.bind_some, Option.pure_def]
theorem toD_pairsM (m : Nat) : ∀ P : Pol, (P.map pP).mapM (toD (m + 2)) = some (P.map qD)
  | [] => rfl
  | q :: P => by rw [List.map_cons, List.mapM_cons, toD_pairsM m P, toD_pairM]; rfl
theorem eqvQ : ∀ P : Pol, PyData.eqvAll (P.map qD) (P.map qD) = true
  | [] => by simp [PyData.eqvAll]
  | q :: P => by
    have h : PyData.eqvAll (q.1.map .int) (q.1.map .int) = true := by rw [eqvI]; exact decide_eq_true rfl
    rw [List.map_cons, PyData.eqvAll, eqvQ P]
    unfold qD rD
    simp [PyData.eqv, PyData.eqvAll, h]
theorem eqP_V (P : Pol) : eqP (vP P) (vP P) = some true := by
  have h : toD 9 (vP P) = some (.tuple (P.map qD)) := by
    unfold vP
    have := toD_pairsM 6 P
    simp only [toD, this, Option.map_some]
  unfold eqP
  simp only [h, PyData.eqv, eqvQ]
theorem neP_V (P : Pol) : (eqP (vP P) (vP P)).map (!·) = some false := by rw [eqP_V]; rfl
def Scr (sc : PV) (ns : List Int) : Prop := sc = .rd (ns.map .int) ∨ sc = .lst (ns.map .int)
theorem lawAtP (d : Nat) {sc : PV} {ns : List Int} (h : Scr sc ns) (k : Nat) (hk : k ≤ 1000) : ∃ v : Int, callD G bs (d + 1) I__law_at [.p sc, .p (.int (k : Nat))] [] = .ok (.e (.p (.int v))) [] := by
  rw [call_eqG (f := f__law_at) (b := b__law_at) rfl rfl]
  have hS : startSl f__law_at.N.length [.p sc, .p (.int (k : Nat))] = [some (.p sc), some (.p (.int (k : Nat)))] := rfl
  rw [hS]
  generalize GD G bs d = g
  have e1 : bi .len [sc] = some (.int ((ns.length : Nat) : Int)) := by rcases h with rfl | rfl <;> simp [bi]
  by_cases hl : k < ns.length
  · have e2 : ixE [] (.p sc) (.p (.int (k : Nat))) = some (.p (.int ns[k])) := by
      rcases h with rfl | rfl
      all_goals
        simp only [ixE, see2, see1, see, ixP]
        rw [atI_k (by rw [List.length_map]; exact hl)]
        simp
    have c1 : decide (((k : Nat) : Int) < ((ns.length : Nat) : Int)) = true := decide_eq_true (by omega)
    exact ⟨ns[k], by simp only [b__law_at, qSs1, qSs2, qS1, qS2, qS3, qS4, qS5, qS6, qS7, qS8, qS9, qS10, qS11, qS12, qS13, qS14, qS15, qS16, qS17, qS18, qS19, qS20, qE1, qE2, qE3, qE4, qE5, qE6, qE7, qE8, qE9, qE10, qE11, qE12, qE13, qE14, qE15, qE16, qE17, qE18, qE19, qE20, qE21, qE22, qE23, qE24, qE25, qE26, qE27, qE28, qE29, qE30, qE31, qE32, qE33, qEs1, qEs2, qT1, qT2, qT3, qT4, qT5, qT6, qTs1, qTs2, qO1, qO2, toS_ok, toS_exc, bind_ok, bind_exc, next_nx, next_ct, next_bk, next_ret, next_exc, runB_ret, runB_nx, runB_exc, noExc_nx, noExc_ret, see2, see1, see, sees, truth, cmpop, List.getElem?_cons_zero, List.getElem?_cons_succ, List.set_cons_zero, List.set_cons_succ, bindT, bindTs, wipeP, asPs, asP, asPs_map, e1, ltP_int, c1, e2, int_int]⟩
  · have c1 : decide (((k : Nat) : Int) < ((ns.length : Nat) : Int)) = false := decide_eq_false (by omega)
    have m1 := mul_small (i := 3) (j := ((k : Nat) : Int)) (by rw [Int.natAbs_natCast]; omega)
    exact ⟨5 + 3 * ((k : Nat) : Int), by simp only [b__law_at, qSs1, qSs2, qS1, qS2, qS3, qS4, qS5, qS6, qS7, qS8, qS9, qS10, qS11, qS12, qS13, qS14, qS15, qS16, qS17, qS18, qS19, qS20, qE1, qE2, qE3, qE4, qE5, qE6, qE7, qE8, qE9, qE10, qE11, qE12, qE13, qE14, qE15, qE16, qE17, qE18, qE19, qE20, qE21, qE22, qE23, qE24, qE25, qE26, qE27, qE28, qE29, qE30, qE31, qE32, qE33, qEs1, qEs2, qT1, qT2, qT3, qT4, qT5, qT6, qTs1, qTs2, qO1, qO2, toS_ok, toS_exc, bind_ok, bind_exc, next_nx, next_ct, next_bk, next_ret, next_exc, runB_ret, runB_nx, runB_exc, noExc_nx, noExc_ret, see2, see1, see, sees, truth, cmpop, List.getElem?_cons_zero, List.getElem?_cons_succ, List.set_cons_zero, List.set_cons_succ, bindT, bindTs, wipeP, asPs, asP, asPs_map, e1, ltP_int, c1, m1, add_int]⟩
theorem row1 (d : Nat) (v : Int) {t : Nat} (h0 : 0 < t) (ht : t ≤ 100000) : ∃ z, z < t ∧ pcall (GD G bs (d + 2)) I__law_row [.p (.int v), .p (.int 1), .p (.int (t : Nat))] [] = .ok (.p (.lst [natP z])) [] := by
  obtain ⟨l, a1, a2, a3⟩ := lawRowW d v (m := 1) (t := t) (by decide) h0 ht
  cases l with
  | nil => simp at a1
  | cons z l =>
    cases l with
    | nil => exact ⟨z, a2 z (List.mem_cons_self ..), pS3 a3 rfl⟩
    | cons _ _ => simp at a1
theorem cutH2 {xs : List PV} {b : Nat} : cutP xs none (some ((b : Nat) : Int)) = xs.take b := by
  unfold cutP
  rw [HT.sIx_none, HT.sIx_nat, List.drop_zero, Nat.sub_zero]
  rcases Nat.le_total b xs.length with h | h
  · rw [Nat.min_eq_left h]
  · rw [Nat.min_eq_right h, List.take_of_length_le h, List.take_of_length_le (Nat.le_refl _)]
theorem sl_vP {P : Pol} {b : Nat} : slP none (some ((b : Nat) : Int)) (vP P) = some (vP (P.take b)) := by
  show some (PV.tup (cutP (P.map pP) none (some ((b : Nat) : Int)))) = some (PV.tup ((P.take b).map pP))
  rw [cutH2, List.map_take]
theorem Raw48.mono {n : Nat} {P : Pol} {l b c l2 b2 c2 : Nat} (h : Raw48 n P l b c) (h1 : l ≤ l2) (h2 : b ≤ b2) (h3 : c ≤ c2) : Raw48 n P l2 b2 c2 :=
  ⟨h.ln, Nat.le_trans h.len h1, fun q hq x hx => Nat.le_trans (h.pw q hq x hx) h2, fun q hq => Nat.le_trans (h.nr q hq) h3⟩
theorem Raw48.take {n : Nat} {P : Pol} {l b c : Nat} (h : Raw48 n P l b c) (k : Nat) : Raw48 n (P.take k) l b c :=
  ⟨fun q hq => h.ln q (List.mem_of_mem_take hq), by rw [List.length_take]; have := h.len; omega, fun q hq => h.pw q (List.mem_of_mem_take hq), fun q hq => h.nr q (List.mem_of_mem_take hq)⟩
theorem Fit.take {n : Nat} {P : Pol} {l b c : Nat} (h : Fit n P l b c) (k : Nat) (hk : k ≤ l) : Fit n (P.take k) k b c :=
  ⟨⟨fun q hq => h.pol.len q (List.mem_of_mem_take hq), fun q hq => h.pol.nz q (List.mem_of_mem_take hq), h.pol.up.sublist (List.take_sublist _ _)⟩, by rw [List.length_take]; omega, fun q hq => h.pw q (List.mem_of_mem_take hq), fun q hq => h.nr q (List.mem_of_mem_take hq)⟩
theorem lsts {A B : Pol} {g : Gm} {ρ : Sl} {i j : Nat} (hi : ρ[i]? = some (some (.p (vP A)))) (hj : ρ[j]? = some (some (.p (vP B)))) (hl : A.length + B.length ≤ 1000) : evE g (.lst (.bin .add (.lst (.bi .list [(.var i)])) (.lst (.bi .list [(.var j)])))) ρ [] = .ok (.p (lP (A ++ B))) [] := by
  have h1 : ∀ (P : Pol) (k : Nat), ρ[k]? = some (some (.p (vP P))) → evE g (.lst (.bi .list [(.var k)])) ρ [] = .ok (.p (lP P)) [] := fun P k hk => by
    have hb : biL .list [vP P] = some (P.map pP) := rfl
    have hl : evL g (.bi .list [(.var k)]) ρ [] = .ok ((P.map pP).map .p) [] := by
      simp only [qL3, qEs1, qEs2, qE1, hk, bind_ok, sees, see, hb]
    exact lst_of hl
  have a1 := h1 A i hi
  have a2 := h1 B j hj
  have hb : binL .add (lP A) (lP B) = some ((A ++ B).map pP) := by
    show (if (A.map pP).length + (B.map pP).length ≤ lim then some (A.map pP ++ B.map pP) else none) = _
    rw [if_pos (by rw [List.length_map, List.length_map, lim_eq]; omega), List.map_append]
  have hl : evL g (.bin .add (.lst (.bi .list [(.var i)])) (.lst (.bi .list [(.var j)]))) ρ [] = .ok (((A ++ B).map pP).map .p) [] := by
    simp only [qL2, a1, a2, bind_ok, see2, see1, see, hb]
  exact lst_of hl
def rho48 (sc : PV) (n : Nat) (v2 v3 v4 v6 v7 : Option EV) : Sl := [some (.p sc), some (.p (natP n)), v2, v3, v4, none, v6, v7, none]
def q48a_0 : PS := .asg (.nm 1) (.bin .add (.const (.int (1))) (.ix (.call I__law_row [(.call I__law_at [(.var 0), (.const (.int (0)))]), (.const (.int (1))), (.const (.int (6)))]) (.const (.int (0)))))
def q48a_1 : PS := .asg (.nm 2) (.call I__law_drawn_poly [(.call I__law_at [(.var 0), (.const (.int (1)))]), (.var 1), (.const (.int (9))), (.const (.int (6)))])
def q48a_2 : PS := .asg (.nm 3) (.call I__law_drawn_poly [(.call I__law_at [(.var 0), (.const (.int (2)))]), (.var 1), (.const (.int (9))), (.const (.int (6)))])
def q48a_3 : PS := .asg (.nm 4) (.bi .tuple [(.lst (.comp [5] (.tup [(.ix (.var 5) (.const (.int (0)))), (.bin .sub (.const (.int (0))) (.ix (.var 5) (.const (.int (1)))))]) (.nm 5) (.val (.var 2)) []))])
def q48a_4 : PS := .ife (.cmp .eq (.ix (.call I__law_row [(.call I__law_at [(.var 0), (.const (.int (3)))]), (.const (.int (1))), (.const (.int (3)))]) (.const (.int (0)))) (.const (.int (0)))) [.asg (.nm 3) (.var 4)] []
def q48a_5 : PS := .ife (.cmp .eq (.ix (.call I__law_row [(.call I__law_at [(.var 0), (.const (.int (3)))]), (.const (.int (1))), (.const (.int (3)))]) (.const (.int (0)))) (.const (.int (1)))) [.asg (.nm 3) (.call I__law_summed [(.lst (.bin .add (.lst (.bi .list [(.var 3)])) (.lst (.bi .list [(.sl (.var 4) none (some (.const (.int (2)))))]))))])] []
def q48a_6 : PS := .asg (.nm 6) (.call I_poly_sum [(.var 1), (.var 2), (.var 3)])
def q48a_7 : PS := .asg (.nm 7) (.call I_poly_less [(.var 1), (.var 3), (.var 2)])
def q48a_8 : PS := .ife (.or (.not (.val (.call I__law_poly [(.var 6), (.var 1)]))) (.not (.val (.call I__law_poly [(.var 7), (.var 1)])))) [.ret (.const (.bl false))] []
def q48a_9 : PS := .ife (.or (.cmp .ne (.var 6) (.call I__law_summed [(.lst (.bin .add (.lst (.bi .list [(.var 2)])) (.lst (.bi .list [(.var 3)]))))])) (.cmp .ne (.var 7) (.call I__law_summed [(.lst (.bin .add (.lst (.bi .list [(.var 3)])) (.lst (.bi .list [(.var 4)]))))]))) [.ret (.const (.bl false))] []
def q48a_10 : PS := .ife (.or (.cmp .isnot (.call I_is_poly [(.var 1), (.var 6)]) (.const (.bl true))) (.cmp .isnot (.call I_is_poly [(.var 1), (.bin .add (.var 6) (.tup [(.tup [(.bi .tuple [(.lst (.comp [8] (.const (.int (0))) (.nm 8) (.range1 (.var 1)) []))]), (.const (.int (0)))])]))]) (.const (.bl false)))) [.ret (.const (.bl false))] []
def q48a_11 : PS := .ret (.and (.cmp .eq (.call I_poly_sum [(.var 1), (.var 2), (.var 7)]) (.var 3)) (.cmp .eq (.call I_poly_sum [(.var 1), (.var 2), (.var 3)]) (.var 6)))
theorem b_split48a : b__law_part_one = [q48a_0, q48a_1, q48a_2, q48a_3, q48a_4, q48a_5, q48a_6, q48a_7, q48a_8, q48a_9, q48a_10, q48a_11] := rfl
theorem partOne (d : Nat) {sc : PV} {ns : List Int} (h : Scr sc ns) : callD G bs (d + 11) I__law_part_one [.p sc] [] = .ok (.e (.p (.bl true))) [] := by
  rw [call_eqG (f := f__law_part_one) (b := b__law_part_one) rfl rfl]
  have hS : startSl f__law_part_one.N.length [.p sc] = [some (.p sc), none, none, none, none, none, none, none, none] := rfl
  rw [hS]
  obtain ⟨v0, w0⟩ := lawAtP (d + 9) h 0 (by decide)
  obtain ⟨v1, w1⟩ := lawAtP (d + 9) h 1 (by decide)
  obtain ⟨v2, w2⟩ := lawAtP (d + 9) h 2 (by decide)
  obtain ⟨v3, w3⟩ := lawAtP (d + 9) h 3 (by decide)
  have a0 : pcall (GD G bs (d + 10)) I__law_at [.p sc, .p (.int 0)] [] = .ok (.p (.int v0)) [] := pD2 w0
  have a1 : pcall (GD G bs (d + 10)) I__law_at [.p sc, .p (.int 1)] [] = .ok (.p (.int v1)) [] := pD2 w1
  have a2 : pcall (GD G bs (d + 10)) I__law_at [.p sc, .p (.int 2)] [] = .ok (.p (.int v2)) [] := pD2 w2
  have a3 : pcall (GD G bs (d + 10)) I__law_at [.p sc, .p (.int 3)] [] = .ok (.p (.int v3)) [] := pD2 w3
  obtain ⟨z0, y0, r0⟩ := row1 (d + 8) v0 (t := 6) (by decide) (by decide)
  obtain ⟨z3, y3, r3⟩ := row1 (d + 8) v3 (t := 3) (by decide) (by decide)
  have r0 : pcall (GD G bs (d + 10)) I__law_row [.p (.int v0), .p (.int 1), .p (.int 6)] [] = .ok (.p (.lst [natP z0])) [] := r0
  have r3 : pcall (GD G bs (d + 10)) I__law_row [.p (.int v3), .p (.int 1), .p (.int 3)] [] = .ok (.p (.lst [natP z3])) [] := r3
  have hn1 : 1 ≤ 1 + z0 := by omega
  have hn6 : 1 + z0 ≤ 6 := by omega
  have en : binop .add (.int 1) (natP z0) = some (natP (1 + z0)) := by
    unfold natP
    rw [add_int]
    exact congrArg (fun z => some (PV.int z)) (by omega)
  generalize 1 + z0 = n at *
  obtain ⟨L1, S1, hL1, c1⟩ := lawDrawnPoly (d + 7) v1 hn1 hn6 (m := 9) (s := 6) (by decide) (by decide)
  obtain ⟨L2, S2, hL2, c2⟩ := lawDrawnPoly (d + 7) v2 hn1 hn6 (m := 9) (s := 6) (by decide) (by decide)
  have pA : pcall (GD G bs (d + 10)) I__law_drawn_poly [.p (.int v1), .p (natP n), .p (.int 9), .p (.int 6)] [] = .ok (.p (vP (canon L1))) [] := pS4 c1 rfl
  have pB : pcall (GD G bs (d + 10)) I__law_drawn_poly [.p (.int v2), .p (natP n), .p (.int 9), .p (.int 6)] [] = .ok (.p (vP (canon L2))) [] := pS4 c2 rfl
  have hA := hL1.canon
  have hB0 := hL2.canon
  generalize canon L1 = A at *
  generalize canon L2 = B0 at *
  have hM := hA.neg
  -- the other one, made of both
  have hsum0 : Raw48 n (B0 ++ (negP A).take 2) 18 6 54 := (hB0.raw.app (hM.raw.take 2))
  obtain ⟨S5, c5⟩ := lawSummed (d + 9) hn1 hsum0.ln (by have := hsum0.len; omega)
  have p5 : pcall (GD G bs (d + 10)) I__law_summed [.p (lP (B0 ++ (negP A).take 2))] [] = .ok (.p (vP (canon (B0 ++ (negP A).take 2)))) [] := pS1 c5 rfl
  have hB5 := hsum0.canon
  have main : ∀ B : Pol, Fit n B 20 6 2000 → (evSs (GD G bs (d + 10)) [q48a_6, q48a_7, q48a_8, q48a_9, q48a_10, q48a_11] (rho48 sc n (some (.p (vP A))) (some (.p (vP B))) (some (.p (vP (negP A)))) none none) []) = .ret (.e (.p (.bl true))) [] := fun B hB => by
    have hA2 : Fit n A 20 6 2000 := hA.mono (by decide) (by decide) (by decide)
    have p6 : pcall (GD G bs (d + 10)) I_poly_sum [.p (natP n), .p (vP A), .p (vP B)] [] = .ok (.p (vP (canon (A ++ B)))) [] := pD3 (polySum (d + 2) hn1 hn6 hA2 hB (by decide) (by decide))
    have p7 : pcall (GD G bs (d + 10)) I_poly_less [.p (natP n), .p (vP B), .p (vP A)] [] = .ok (.p (vP (canon (B ++ negP A)))) [] := pD3 (polyLess (d + 2) hn1 hn6 hB hA2 (by decide) (by decide) (Nat.le_trans (show 2000 ≤ 2 ^ 11 by decide) (Nat.pow_le_pow_right (by decide) (by decide))))
    have hF := (hA2.raw.app hB.raw).canon
    have hG := (hB.raw.app hA2.neg.raw).canon
    have p8a : pcall (GD G bs (d + 10)) I__law_poly [.p (vP (canon (A ++ B))), .p (natP n)] [] = .ok (.p (.bl true)) [] := pD2 (lawPoly (d + 7) hF.pol (by omega) (by have := hF.len; omega))
    have p8b : pcall (GD G bs (d + 10)) I__law_poly [.p (vP (canon (B ++ negP A))), .p (natP n)] [] = .ok (.p (.bl true)) [] := pD2 (lawPoly (d + 7) hG.pol (by omega) (by have := hG.len; omega))
    obtain ⟨S9, c9⟩ := lawSummed (d + 9) hn1 (hA2.raw.app hB.raw).ln (by have := (hA2.raw.app hB.raw).len; omega)
    obtain ⟨S9b, c9b⟩ := lawSummed (d + 9) hn1 (hB.raw.app hA2.neg.raw).ln (by have := (hB.raw.app hA2.neg.raw).len; omega)
    have p9 : pcall (GD G bs (d + 10)) I__law_summed [.p (lP (A ++ B))] [] = .ok (.p (vP (canon (A ++ B)))) [] := pS1 c9 rfl
    have p9b : pcall (GD G bs (d + 10)) I__law_summed [.p (lP (B ++ negP A))] [] = .ok (.p (vP (canon (B ++ negP A)))) [] := pS1 c9b rfl
    have p10 : pcall (GD G bs (d + 10)) I_is_poly [.p (natP n), .p (vP (canon (A ++ B)))] [] = .ok (.p (.bl true)) [] := by
      have := isPolyB (d + 4) hn1 hn6 (A := canon (A ++ B)) (by have := hF.len; omega) hF.pol.len
      rw [right_of hF (by decide)] at this
      exact pD2 this
    have hz : ∀ q ∈ canon (A ++ B) ++ [(List.replicate n 0, 0)], q.1.length = n := fun q hq => by
      rcases List.mem_append.mp hq with hq | hq
      · exact hF.pol.len q hq
      · rw [List.mem_singleton.mp hq]; exact List.length_replicate
    have p10b : pcall (GD G bs (d + 10)) I_is_poly [.p (natP n), .p (vP (canon (A ++ B) ++ [(List.replicate n 0, 0)]))] [] = .ok (.p (.bl false)) [] := by
      have := isPolyB (d + 4) hn1 hn6 (A := canon (A ++ B) ++ [(List.replicate n 0, 0)]) (by rw [List.length_append, List.length_singleton]; have := hF.len; omega) hz
      have e : ((canon (A ++ B) ++ [(List.replicate n 0, 0)]).all (pairB n) && upB (canon (A ++ B) ++ [(List.replicate n 0, 0)])) = false := by
        have : (canon (A ++ B) ++ [(List.replicate n 0, (0 : Int))]).all (pairB n) = false := by
          rw [List.all_append]
          have : [(List.replicate n (0 : Int), (0 : Int))].all (pairB n) = false := by
            unfold pairB
            simp
          rw [this, Bool.and_false]
        rw [this, Bool.false_and]
      rw [e] at this
      exact pD2 this
    have p11 : pcall (GD G bs (d + 10)) I_poly_sum [.p (natP n), .p (vP A), .p (vP (canon (B ++ negP A)))] [] = .ok (.p (vP B)) [] := by
      have := polySum (d + 2) hn1 hn6 (hA2.mono (l2 := 20) (b2 := 6) (c2 := (20 + 20) * 2000) (by decide) (by decide) (by decide)) hG (by decide) (by decide)
      rw [sum_less hB.pol] at this
      exact pD3 this
    have hlA := hA2.len
    have hlB := hB.len
    have hlF := hF.len
    have hlM := hA2.neg.len
    have eB := eqP_V B
    generalize hgF : canon (A ++ B) = F at *
    generalize hgL : canon (B ++ negP A) = L at *
    have nF := neP_V F
    have nL := neP_V L
    have eF := eqP_V F
    generalize GD G bs (d + 10) = g at *
    have s6 : evS g q48a_6 (rho48 sc n (some (.p (vP A))) (some (.p (vP B))) (some (.p (vP (negP A)))) none none) [] = .nx (rho48 sc n (some (.p (vP A))) (some (.p (vP B))) (some (.p (vP (negP A)))) (some (.p (vP F))) none) [] := by
      unfold q48a_6 rho48
      generalize vP (negP A) = vm at *
      generalize vP A = va at *
      generalize vP B = vb at *
      generalize vP F = vf at *
      simp only [qSs1, qSs2, qS1, qS2, qS3, qS4, qS5, qS6, qS7, qS8, qS9, qS10, qS11, qS12, qS13, qS14, qS15, qS16, qS17, qS18, qS19, qS20, qE1, qE2, qE3, qE4, qE5, qE6, qE7, qE8, qE9, qE10, qE11, qE12, qE13, qE14, qE15, qE16, qE17, qE18, qE19, qE20, qE21, qE22, qE23, qE24, qE25, qE26, qE27, qE28, qE29, qE30, qE31, qE32, qE33, qEs1, qEs2, qT1, qT2, qT3, qT4, qT5, qT6, qTs1, qTs2, qO1, qO2, toS_ok, toS_exc, bind_ok, bind_exc, next_nx, next_ct, next_bk, next_ret, next_exc, runB_ret, runB_nx, runB_exc, noExc_nx, noExc_ret, see2, see1, see, sees, truth, cmpop, List.getElem?_cons_zero, List.getElem?_cons_succ, List.set_cons_zero, List.set_cons_succ, bindT, bindTs, wipeP, asPs, asP, asPs_map, p6]
    have s7 : evS g q48a_7 (rho48 sc n (some (.p (vP A))) (some (.p (vP B))) (some (.p (vP (negP A)))) (some (.p (vP F))) none) [] = .nx (rho48 sc n (some (.p (vP A))) (some (.p (vP B))) (some (.p (vP (negP A)))) (some (.p (vP F))) (some (.p (vP L)))) [] := by
      unfold q48a_7 rho48
      generalize vP (negP A) = vm at *
      generalize vP A = va at *
      generalize vP B = vb at *
      generalize vP F = vf at *
      generalize vP L = vl at *
      simp only [qSs1, qSs2, qS1, qS2, qS3, qS4, qS5, qS6, qS7, qS8, qS9, qS10, qS11, qS12, qS13, qS14, qS15, qS16, qS17, qS18, qS19, qS20, qE1, qE2, qE3, qE4, qE5, qE6, qE7, qE8, qE9, qE10, qE11, qE12, qE13, qE14, qE15, qE16, qE17, qE18, qE19, qE20, qE21, qE22, qE23, qE24, qE25, qE26, qE27, qE28, qE29, qE30, qE31, qE32, qE33, qEs1, qEs2, qT1, qT2, qT3, qT4, qT5, qT6, qTs1, qTs2, qO1, qO2, toS_ok, toS_exc, bind_ok, bind_exc, next_nx, next_ct, next_bk, next_ret, next_exc, runB_ret, runB_nx, runB_exc, noExc_nx, noExc_ret, see2, see1, see, sees, truth, cmpop, List.getElem?_cons_zero, List.getElem?_cons_succ, List.set_cons_zero, List.set_cons_succ, bindT, bindTs, wipeP, asPs, asP, asPs_map, p7]
    have s8 : evS g q48a_8 (rho48 sc n (some (.p (vP A))) (some (.p (vP B))) (some (.p (vP (negP A)))) (some (.p (vP F))) (some (.p (vP L)))) [] = .nx (rho48 sc n (some (.p (vP A))) (some (.p (vP B))) (some (.p (vP (negP A)))) (some (.p (vP F))) (some (.p (vP L)))) [] := by
      unfold q48a_8 rho48
      generalize vP (negP A) = vm at *
      generalize vP A = va at *
      generalize vP B = vb at *
      generalize vP F = vf at *
      generalize vP L = vl at *
      simp only [qSs1, qSs2, qS1, qS2, qS3, qS4, qS5, qS6, qS7, qS8, qS9, qS10, qS11, qS12, qS13, qS14, qS15, qS16, qS17, qS18, qS19, qS20, qE1, qE2, qE3, qE4, qE5, qE6, qE7, qE8, qE9, qE10, qE11, qE12, qE13, qE14, qE15, qE16, qE17, qE18, qE19, qE20, qE21, qE22, qE23, qE24, qE25, qE26, qE27, qE28, qE29, qE30, qE31, qE32, qE33, qEs1, qEs2, qT1, qT2, qT3, qT4, qT5, qT6, qTs1, qTs2, qO1, qO2, toS_ok, toS_exc, bind_ok, bind_exc, next_nx, next_ct, next_bk, next_ret, next_exc, runB_ret, runB_nx, runB_exc, noExc_nx, noExc_ret, see2, see1, see, sees, truth, cmpop, List.getElem?_cons_zero, List.getElem?_cons_succ, List.set_cons_zero, List.set_cons_succ, bindT, bindTs, wipeP, asPs, asP, asPs_map, p8a, p8b, Bool.not_true]
    have s9 : evS g q48a_9 (rho48 sc n (some (.p (vP A))) (some (.p (vP B))) (some (.p (vP (negP A)))) (some (.p (vP F))) (some (.p (vP L)))) [] = .nx (rho48 sc n (some (.p (vP A))) (some (.p (vP B))) (some (.p (vP (negP A)))) (some (.p (vP F))) (some (.p (vP L)))) [] := by
      have l1 := lsts (g := g) (ρ := rho48 sc n (some (.p (vP A))) (some (.p (vP B))) (some (.p (vP (negP A)))) (some (.p (vP F))) (some (.p (vP L)))) (i := 2) (j := 3) (A := A) (B := B) rfl rfl (by omega)
      have l2 := lsts (g := g) (ρ := rho48 sc n (some (.p (vP A))) (some (.p (vP B))) (some (.p (vP (negP A)))) (some (.p (vP F))) (some (.p (vP L)))) (i := 3) (j := 4) (A := B) (B := negP A) rfl rfl (by omega)
      unfold q48a_9
      generalize PX.lst (PL.bin BOp.add (.lst (.bi .list [(.var 2)])) (.lst (.bi .list [(.var 3)]))) = X1 at *
      generalize PX.lst (PL.bin BOp.add (.lst (.bi .list [(.var 3)])) (.lst (.bi .list [(.var 4)]))) = X2 at *
      unfold rho48 at *
      generalize lP (A ++ B) = lab at *
      generalize lP (B ++ negP A) = lbm at *
      generalize vP (negP A) = vm at *
      generalize vP A = va at *
      generalize vP B = vb at *
      generalize vP F = vf at *
      generalize vP L = vl at *
      simp only [qSs1, qSs2, qS1, qS2, qS3, qS4, qS5, qS6, qS7, qS8, qS9, qS10, qS11, qS12, qS13, qS14, qS15, qS16, qS17, qS18, qS19, qS20, qE1, qE2, qE3, qE4, qE5, qE6, qE7, qE8, qE9, qE10, qE11, qE12, qE13, qE14, qE15, qE16, qE17, qE18, qE19, qE20, qE21, qE22, qE23, qE24, qE25, qE26, qE27, qE28, qE29, qE30, qE31, qE32, qE33, qEs1, qEs2, qT1, qT2, qT3, qT4, qT5, qT6, qTs1, qTs2, qO1, qO2, toS_ok, toS_exc, bind_ok, bind_exc, next_nx, next_ct, next_bk, next_ret, next_exc, runB_ret, runB_nx, runB_exc, noExc_nx, noExc_ret, see2, see1, see, sees, truth, cmpop, List.getElem?_cons_zero, List.getElem?_cons_succ, List.set_cons_zero, List.set_cons_succ, bindT, bindTs, wipeP, asPs, asP, asPs_map, l1, l2, p9, p9b, nF, nL]
    have s10 : evS g q48a_10 (rho48 sc n (some (.p (vP A))) (some (.p (vP B))) (some (.p (vP (negP A)))) (some (.p (vP F))) (some (.p (vP L)))) [] = .nx (rho48 sc n (some (.p (vP A))) (some (.p (vP B))) (some (.p (vP (negP A)))) (some (.p (vP F))) (some (.p (vP L)))) [] := by
      have hc := comp_listA (g := g) (own := [8]) (elt := .const (.int (0))) (tg := .nm 8) (it := .range1 (.var 1)) (ρ := rho48 sc n (some (.p (vP A))) (some (.p (vP B))) (some (.p (vP (negP A)))) (some (.p (vP F))) (some (.p (vP L)))) (S := []) (ks := List.range n) (f := natP) (fun _ => .int 0) (it_range1 (var_ok rfl) (by omega)) (by rw [List.length_range, lim_eq]; omega) fun j hj => ⟨(rho48 sc n (some (.p (vP A))) (some (.p (vP B))) (some (.p (vP (negP A)))) (some (.p (vP F))) (some (.p (vP L)))).set 8 (some (.p (natP j))), rfl, rfl⟩
      have e1 : (List.range n).map (fun _ => PV.int 0) = (List.replicate n (0 : Int)).map .int := by
        rw [List.map_const', List.length_range, List.map_replicate]
      rw [e1] at hc
      have ht := tup_comp hc
      have hb : binop .add (vP F) (.tup [.tup [.tup ((List.replicate n (0 : Int)).map .int), .int 0]]) = some (vP (F ++ [(List.replicate n 0, 0)])) := by
        show (if (F.map pP).length + 1 ≤ lim then some (PV.tup (F.map pP ++ [pP (List.replicate n 0, 0)])) else none) = some (PV.tup ((F ++ [(List.replicate n 0, 0)]).map pP))
        rw [if_pos (by rw [List.length_map, lim_eq]; omega), List.map_append]
        rfl
      have e2 : (isP (.bl true) (.bl true)).map (!·) = some false := rfl
      have e3 : (isP (.bl false) (.bl false)).map (!·) = some false := rfl
      unfold q48a_10
      generalize PX.bi BI.tuple [PX.lst (.comp [8] (.const (.int (0))) (.nm 8) (.range1 (.var 1)) [])] = X1 at *
      unfold rho48 at *
      generalize (List.replicate n (0 : Int)).map PV.int = zs at *
      generalize vP (F ++ [(List.replicate n 0, 0)]) = vz at *
      generalize vP (negP A) = vm at *
      generalize vP A = va at *
      generalize vP B = vb at *
      generalize vP F = vf at *
      generalize vP L = vl at *
      simp only [qSs1, qSs2, qS1, qS2, qS3, qS4, qS5, qS6, qS7, qS8, qS9, qS10, qS11, qS12, qS13, qS14, qS15, qS16, qS17, qS18, qS19, qS20, qE1, qE2, qE3, qE4, qE5, qE6, qE7, qE8, qE9, qE10, qE11, qE12, qE13, qE14, qE15, qE16, qE17, qE18, qE19, qE20, qE21, qE22, qE23, qE24, qE25, qE26, qE27, qE28, qE29, qE30, qE31, qE32, qE33, qEs1, qEs2, qT1, qT2, qT3, qT4, qT5, qT6, qTs1, qTs2, qO1, qO2, toS_ok, toS_exc, bind_ok, bind_exc, next_nx, next_ct, next_bk, next_ret, next_exc, runB_ret, runB_nx, runB_exc, noExc_nx, noExc_ret, see2, see1, see, sees, truth, cmpop, List.getElem?_cons_zero, List.getElem?_cons_succ, List.set_cons_zero, List.set_cons_succ, bindT, bindTs, wipeP, asPs, asP, asPs_map, p10, ht, hb, p10b, e2, e3]
    have s11 : evS g q48a_11 (rho48 sc n (some (.p (vP A))) (some (.p (vP B))) (some (.p (vP (negP A)))) (some (.p (vP F))) (some (.p (vP L)))) [] = .ret (.e (.p (.bl true))) [] := by
      unfold q48a_11 rho48
      generalize vP (negP A) = vm at *
      generalize vP A = va at *
      generalize vP B = vb at *
      generalize vP F = vf at *
      generalize vP L = vl at *
      simp only [qSs1, qSs2, qS1, qS2, qS3, qS4, qS5, qS6, qS7, qS8, qS9, qS10, qS11, qS12, qS13, qS14, qS15, qS16, qS17, qS18, qS19, qS20, qE1, qE2, qE3, qE4, qE5, qE6, qE7, qE8, qE9, qE10, qE11, qE12, qE13, qE14, qE15, qE16, qE17, qE18, qE19, qE20, qE21, qE22, qE23, qE24, qE25, qE26, qE27, qE28, qE29, qE30, qE31, qE32, qE33, qEs1, qEs2, qT1, qT2, qT3, qT4, qT5, qT6, qTs1, qTs2, qO1, qO2, toS_ok, toS_exc, bind_ok, bind_exc, next_nx, next_ct, next_bk, next_ret, next_exc, runB_ret, runB_nx, runB_exc, noExc_nx, noExc_ret, see2, see1, see, sees, truth, cmpop, List.getElem?_cons_zero, List.getElem?_cons_succ, List.set_cons_zero, List.set_cons_succ, bindT, bindTs, wipeP, asPs, asP, asPs_map, p11, p6, eB, eF]
    rw [nx s6, nx s7, nx s8, nx s9, nx s10, rt s11]
  -- minus
  have hcM := comp_listA (g := GD G bs (d + 10)) (own := [5]) (elt := .tup [(.ix (.var 5) (.const (.int (0)))), (.bin .sub (.const (.int (0))) (.ix (.var 5) (.const (.int (1)))))]) (tg := .nm 5) (it := .val (.var 2)) (ρ := rho48 sc n (some (.p (vP A))) (some (.p (vP B0))) none none none) (S := []) (ks := A) (f := pP) (fun q => pP (q.1, -q.2)) (it_val rfl rfl) (by have := hA.len; rw [lim_eq]; omega) fun q hq => by
    have i1 : ixE [] (.p (pP q)) (.p (.int 0)) = some (.p (eL q.1)) := rfl
    have i2 : ixE [] (.p (pP q)) (.p (.int 1)) = some (.p (.int q.2)) := rfl
    have e := sub_int 0 q.2
    rw [Int.zero_sub] at e
    refine ⟨(rho48 sc n (some (.p (vP A))) (some (.p (vP B0))) none none none).set 5 (some (.p (pP q))), rfl, ?_⟩
    unfold rho48
    generalize vP A = va
    generalize vP B0 = vb
    generalize GD G bs (d + 10) = g
    have ep : pP (q.1, -q.2) = .tup [eL q.1, .int (-q.2)] := rfl
    rw [ep]
    generalize pP q = w at *
    generalize eL q.1 = ke at *
    simp only [List.set_cons_zero, List.set_cons_succ, qSs1, qSs2, qS1, qS2, qS3, qS4, qS5, qS6, qS7, qS8, qS9, qS10, qS11, qS12, qS13, qS14, qS15, qS16, qS17, qS18, qS19, qS20, qE1, qE2, qE3, qE4, qE5, qE6, qE7, qE8, qE9, qE10, qE11, qE12, qE13, qE14, qE15, qE16, qE17, qE18, qE19, qE20, qE21, qE22, qE23, qE24, qE25, qE26, qE27, qE28, qE29, qE30, qE31, qE32, qE33, qEs1, qEs2, qT1, qT2, qT3, qT4, qT5, qT6, qTs1, qTs2, qO1, qO2, toS_ok, toS_exc, bind_ok, bind_exc, next_nx, next_ct, next_bk, next_ret, next_exc, runB_ret, runB_nx, runB_exc, noExc_nx, noExc_ret, see2, see1, see, sees, truth, cmpop, List.getElem?_cons_zero, List.getElem?_cons_succ, List.set_cons_zero, List.set_cons_succ, bindT, bindTs, wipeP, asPs, asP, asPs_map, i1, i2, e]
  have eM : A.map (fun q => pP (q.1, -q.2)) = (negP A).map pP := by unfold negP; rw [List.map_map]; rfl
  rw [eM] at hcM
  have htM := tup_comp hcM
  have hB0m : Fit n B0 20 6 2000 := hB0.mono (by decide) (by decide) (by decide)
  have hMm : Fit n (negP A) 20 6 2000 := hM.mono (by decide) (by decide) (by decide)
  have hB5m : Fit n (canon (B0 ++ (negP A).take 2)) 20 6 2000 := hB5.mono (by decide) (by decide) (by decide)
  have m1 := main B0 hB0m
  have m2 := main (negP A) hMm
  have m3 := main (canon (B0 ++ (negP A).take 2)) hB5m
  have sl := sl_vP (P := negP A) (b := 2)
  have hl0 := hB0.len
  have hlt : ((negP A).take 2).length ≤ 2 := by rw [List.length_take]; omega
  generalize canon (B0 ++ (negP A).take 2) = C at *
  generalize GD G bs (d + 10) = g at *
  have x0 : ixE [] (.p (.lst [natP z0])) (.p (.int 0)) = some (.p (natP z0)) := rfl
  have x3 : ixE [] (.p (.lst [natP z3])) (.p (.int 0)) = some (.p (natP z3)) := rfl
  have s0 : evS g q48a_0 [some (.p sc), none, none, none, none, none, none, none, none] [] = .nx (rho48 sc n none none none none none) [] := by
    unfold q48a_0 rho48
    generalize natP z0 = zz at *
    simp only [qSs1, qSs2, qS1, qS2, qS3, qS4, qS5, qS6, qS7, qS8, qS9, qS10, qS11, qS12, qS13, qS14, qS15, qS16, qS17, qS18, qS19, qS20, qE1, qE2, qE3, qE4, qE5, qE6, qE7, qE8, qE9, qE10, qE11, qE12, qE13, qE14, qE15, qE16, qE17, qE18, qE19, qE20, qE21, qE22, qE23, qE24, qE25, qE26, qE27, qE28, qE29, qE30, qE31, qE32, qE33, qEs1, qEs2, qT1, qT2, qT3, qT4, qT5, qT6, qTs1, qTs2, qO1, qO2, toS_ok, toS_exc, bind_ok, bind_exc, next_nx, next_ct, next_bk, next_ret, next_exc, runB_ret, runB_nx, runB_exc, noExc_nx, noExc_ret, see2, see1, see, sees, truth, cmpop, List.getElem?_cons_zero, List.getElem?_cons_succ, List.set_cons_zero, List.set_cons_succ, bindT, bindTs, wipeP, asPs, asP, asPs_map, a0, r0, x0, en]
  have s1 : evS g q48a_1 (rho48 sc n none none none none none) [] = .nx (rho48 sc n (some (.p (vP A))) none none none none) [] := by
    unfold q48a_1 rho48
    generalize vP A = va at *
    simp only [qSs1, qSs2, qS1, qS2, qS3, qS4, qS5, qS6, qS7, qS8, qS9, qS10, qS11, qS12, qS13, qS14, qS15, qS16, qS17, qS18, qS19, qS20, qE1, qE2, qE3, qE4, qE5, qE6, qE7, qE8, qE9, qE10, qE11, qE12, qE13, qE14, qE15, qE16, qE17, qE18, qE19, qE20, qE21, qE22, qE23, qE24, qE25, qE26, qE27, qE28, qE29, qE30, qE31, qE32, qE33, qEs1, qEs2, qT1, qT2, qT3, qT4, qT5, qT6, qTs1, qTs2, qO1, qO2, toS_ok, toS_exc, bind_ok, bind_exc, next_nx, next_ct, next_bk, next_ret, next_exc, runB_ret, runB_nx, runB_exc, noExc_nx, noExc_ret, see2, see1, see, sees, truth, cmpop, List.getElem?_cons_zero, List.getElem?_cons_succ, List.set_cons_zero, List.set_cons_succ, bindT, bindTs, wipeP, asPs, asP, asPs_map, a1, pA]
  have s2 : evS g q48a_2 (rho48 sc n (some (.p (vP A))) none none none none) [] = .nx (rho48 sc n (some (.p (vP A))) (some (.p (vP B0))) none none none) [] := by
    unfold q48a_2 rho48
    generalize vP A = va at *
    generalize vP B0 = vb at *
    simp only [qSs1, qSs2, qS1, qS2, qS3, qS4, qS5, qS6, qS7, qS8, qS9, qS10, qS11, qS12, qS13, qS14, qS15, qS16, qS17, qS18, qS19, qS20, qE1, qE2, qE3, qE4, qE5, qE6, qE7, qE8, qE9, qE10, qE11, qE12, qE13, qE14, qE15, qE16, qE17, qE18, qE19, qE20, qE21, qE22, qE23, qE24, qE25, qE26, qE27, qE28, qE29, qE30, qE31, qE32, qE33, qEs1, qEs2, qT1, qT2, qT3, qT4, qT5, qT6, qTs1, qTs2, qO1, qO2, toS_ok, toS_exc, bind_ok, bind_exc, next_nx, next_ct, next_bk, next_ret, next_exc, runB_ret, runB_nx, runB_exc, noExc_nx, noExc_ret, see2, see1, see, sees, truth, cmpop, List.getElem?_cons_zero, List.getElem?_cons_succ, List.set_cons_zero, List.set_cons_succ, bindT, bindTs, wipeP, asPs, asP, asPs_map, a2, pB]
  have s3 : evS g q48a_3 (rho48 sc n (some (.p (vP A))) (some (.p (vP B0))) none none none) [] = .nx (rho48 sc n (some (.p (vP A))) (some (.p (vP B0))) (some (.p (vP (negP A)))) none none) [] := by
    unfold q48a_3
    simp only [qS1, htM, toS_ok, bindT]
    rfl
  have y30 : eqP (natP z3) (.int 0) = some (decide (z3 = 0)) := by
    unfold natP
    rw [eqP_int]
    exact congrArg some (decide_eq_decide.mpr ⟨fun h => by omega, fun h => by omega⟩)
  have y31 : eqP (natP z3) (.int 1) = some (decide (z3 = 1)) := by
    unfold natP
    rw [eqP_int]
    exact congrArg some (decide_eq_decide.mpr ⟨fun h => by omega, fun h => by omega⟩)
  have s4 : evS g q48a_4 (rho48 sc n (some (.p (vP A))) (some (.p (vP B0))) (some (.p (vP (negP A)))) none none) [] = .nx (rho48 sc n (some (.p (vP A))) (some (.p (if z3 = 0 then vP (negP A) else vP B0))) (some (.p (vP (negP A)))) none none) [] := by
    unfold q48a_4 rho48
    generalize vP A = va at *
    generalize vP B0 = vb at *
    generalize vP (negP A) = vm at *
    generalize natP z3 = zz at *
    by_cases c : z3 = 0
    · rw [decide_eq_true c] at y30
      rw [if_pos c]
      simp only [qSs1, qSs2, qS1, qS2, qS3, qS4, qS5, qS6, qS7, qS8, qS9, qS10, qS11, qS12, qS13, qS14, qS15, qS16, qS17, qS18, qS19, qS20, qE1, qE2, qE3, qE4, qE5, qE6, qE7, qE8, qE9, qE10, qE11, qE12, qE13, qE14, qE15, qE16, qE17, qE18, qE19, qE20, qE21, qE22, qE23, qE24, qE25, qE26, qE27, qE28, qE29, qE30, qE31, qE32, qE33, qEs1, qEs2, qT1, qT2, qT3, qT4, qT5, qT6, qTs1, qTs2, qO1, qO2, toS_ok, toS_exc, bind_ok, bind_exc, next_nx, next_ct, next_bk, next_ret, next_exc, runB_ret, runB_nx, runB_exc, noExc_nx, noExc_ret, see2, see1, see, sees, truth, cmpop, List.getElem?_cons_zero, List.getElem?_cons_succ, List.set_cons_zero, List.set_cons_succ, bindT, bindTs, wipeP, asPs, asP, asPs_map, a3, r3, x3, y30]
    · rw [decide_eq_false c] at y30
      rw [if_neg c]
      simp only [qSs1, qSs2, qS1, qS2, qS3, qS4, qS5, qS6, qS7, qS8, qS9, qS10, qS11, qS12, qS13, qS14, qS15, qS16, qS17, qS18, qS19, qS20, qE1, qE2, qE3, qE4, qE5, qE6, qE7, qE8, qE9, qE10, qE11, qE12, qE13, qE14, qE15, qE16, qE17, qE18, qE19, qE20, qE21, qE22, qE23, qE24, qE25, qE26, qE27, qE28, qE29, qE30, qE31, qE32, qE33, qEs1, qEs2, qT1, qT2, qT3, qT4, qT5, qT6, qTs1, qTs2, qO1, qO2, toS_ok, toS_exc, bind_ok, bind_exc, next_nx, next_ct, next_bk, next_ret, next_exc, runB_ret, runB_nx, runB_exc, noExc_nx, noExc_ret, see2, see1, see, sees, truth, cmpop, List.getElem?_cons_zero, List.getElem?_cons_succ, List.set_cons_zero, List.set_cons_succ, bindT, bindTs, wipeP, asPs, asP, asPs_map, a3, r3, x3, y30]
  have s5n : ∀ w : PV, z3 ≠ 1 → evS g q48a_5 (rho48 sc n (some (.p (vP A))) (some (.p w)) (some (.p (vP (negP A)))) none none) [] = .nx (rho48 sc n (some (.p (vP A))) (some (.p w)) (some (.p (vP (negP A)))) none none) [] := fun w c => by
    rw [decide_eq_false c] at y31
    unfold q48a_5 rho48
    generalize vP A = va at *
    generalize vP (negP A) = vm at *
    generalize natP z3 = zz at *
    simp only [qSs1, qSs2, qS1, qS2, qS3, qS4, qS5, qS6, qS7, qS8, qS9, qS10, qS11, qS12, qS13, qS14, qS15, qS16, qS17, qS18, qS19, qS20, qE1, qE2, qE3, qE4, qE5, qE6, qE7, qE8, qE9, qE10, qE11, qE12, qE13, qE14, qE15, qE16, qE17, qE18, qE19, qE20, qE21, qE22, qE23, qE24, qE25, qE26, qE27, qE28, qE29, qE30, qE31, qE32, qE33, qEs1, qEs2, qT1, qT2, qT3, qT4, qT5, qT6, qTs1, qTs2, qO1, qO2, toS_ok, toS_exc, bind_ok, bind_exc, next_nx, next_ct, next_bk, next_ret, next_exc, runB_ret, runB_nx, runB_exc, noExc_nx, noExc_ret, see2, see1, see, sees, truth, cmpop, List.getElem?_cons_zero, List.getElem?_cons_succ, List.set_cons_zero, List.set_cons_succ, bindT, bindTs, wipeP, asPs, asP, asPs_map, a3, r3, x3, y31]
  have s5y : z3 = 1 → evS g q48a_5 (rho48 sc n (some (.p (vP A))) (some (.p (vP B0))) (some (.p (vP (negP A)))) none none) [] = .nx (rho48 sc n (some (.p (vP A))) (some (.p (vP C))) (some (.p (vP (negP A)))) none none) [] := fun c => by
    rw [decide_eq_true c] at y31
    have hbt : biL .list [vP ((negP A).take 2)] = some (((negP A).take 2).map pP) := rfl
    have hb0 : biL .list [vP B0] = some (B0.map pP) := rfl
    have hlb : evL g (.bi .list [(.var 3)]) (rho48 sc n (some (.p (vP A))) (some (.p (vP B0))) (some (.p (vP (negP A)))) none none) [] = .ok ((B0.map pP).map .p) [] := by
      unfold rho48
      simp only [qL3, qEs1, qEs2, qE1, List.getElem?_cons_zero, List.getElem?_cons_succ, bind_ok, sees, see, hb0]
    have hlm : evL g (.bi .list [(.sl (.var 4) none (some (.const (.int (2)))))]) (rho48 sc n (some (.p (vP A))) (some (.p (vP B0))) (some (.p (vP (negP A)))) none none) [] = .ok ((((negP A).take 2).map pP).map .p) [] := by
      have sl' : slP none (some 2) (vP (negP A)) = some (vP ((negP A).take 2)) := sl
      unfold rho48
      generalize vP ((negP A).take 2) = vt at *
      generalize vP (negP A) = vm at *
      generalize vP A = va
      generalize vP B0 = vb
      simp only [qL3, qSs1, qSs2, qS1, qS2, qS3, qS4, qS5, qS6, qS7, qS8, qS9, qS10, qS11, qS12, qS13, qS14, qS15, qS16, qS17, qS18, qS19, qS20, qE1, qE2, qE3, qE4, qE5, qE6, qE7, qE8, qE9, qE10, qE11, qE12, qE13, qE14, qE15, qE16, qE17, qE18, qE19, qE20, qE21, qE22, qE23, qE24, qE25, qE26, qE27, qE28, qE29, qE30, qE31, qE32, qE33, qEs1, qEs2, qT1, qT2, qT3, qT4, qT5, qT6, qTs1, qTs2, qO1, qO2, toS_ok, toS_exc, bind_ok, bind_exc, next_nx, next_ct, next_bk, next_ret, next_exc, runB_ret, runB_nx, runB_exc, noExc_nx, noExc_ret, see2, see1, see, sees, truth, cmpop, List.getElem?_cons_zero, List.getElem?_cons_succ, List.set_cons_zero, List.set_cons_succ, bindT, bindTs, wipeP, asPs, asP, asPs_map, sl', hbt]
    have hx1 := lst_of hlb
    have hx2 := lst_of hlm
    have hbin : binL .add (.lst (B0.map pP)) (.lst (((negP A).take 2).map pP)) = some ((B0 ++ (negP A).take 2).map pP) := by
      show (if (B0.map pP).length + (((negP A).take 2).map pP).length ≤ lim then some (B0.map pP ++ ((negP A).take 2).map pP) else none) = _
      rw [if_pos (by rw [List.length_map, List.length_map, lim_eq]; omega), List.map_append]
    have hl : evL g (.bin .add (.lst (.bi .list [(.var 3)])) (.lst (.bi .list [(.sl (.var 4) none (some (.const (.int (2)))))]))) (rho48 sc n (some (.p (vP A))) (some (.p (vP B0))) (some (.p (vP (negP A)))) none none) [] = .ok (((B0 ++ (negP A).take 2).map pP).map .p) [] := by
      simp only [qL2, hx1, hx2, bind_ok, see2, see1, see, hbin]
    have hx : evE g (.lst (.bin .add (.lst (.bi .list [(.var 3)])) (.lst (.bi .list [(.sl (.var 4) none (some (.const (.int (2)))))])))) (rho48 sc n (some (.p (vP A))) (some (.p (vP B0))) (some (.p (vP (negP A)))) none none) [] = .ok (.p (lP (B0 ++ (negP A).take 2))) [] := lst_of hl
    unfold q48a_5
    generalize PX.lst (PL.bin BOp.add (.lst (.bi .list [(.var 3)])) (.lst (.bi .list [(.sl (.var 4) none (some (.const (.int (2)))))]))) = X1 at *
    unfold rho48 at *
    generalize lP (B0 ++ (negP A).take 2) = lb at *
    generalize vP A = va at *
    generalize vP B0 = vb at *
    generalize vP (negP A) = vm at *
    generalize vP C = vc at *
    generalize natP z3 = zz at *
    simp only [qSs1, qSs2, qS1, qS2, qS3, qS4, qS5, qS6, qS7, qS8, qS9, qS10, qS11, qS12, qS13, qS14, qS15, qS16, qS17, qS18, qS19, qS20, qE1, qE2, qE3, qE4, qE5, qE6, qE7, qE8, qE9, qE10, qE11, qE12, qE13, qE14, qE15, qE16, qE17, qE18, qE19, qE20, qE21, qE22, qE23, qE24, qE25, qE26, qE27, qE28, qE29, qE30, qE31, qE32, qE33, qEs1, qEs2, qT1, qT2, qT3, qT4, qT5, qT6, qTs1, qTs2, qO1, qO2, toS_ok, toS_exc, bind_ok, bind_exc, next_nx, next_ct, next_bk, next_ret, next_exc, runB_ret, runB_nx, runB_exc, noExc_nx, noExc_ret, see2, see1, see, sees, truth, cmpop, List.getElem?_cons_zero, List.getElem?_cons_succ, List.set_cons_zero, List.set_cons_succ, bindT, bindTs, wipeP, asPs, asP, asPs_map, a3, r3, x3, y31, hx, p5]
  rw [b_split48a, nx s0, nx s1, nx s2, nx s3, nx s4]
  by_cases c0 : z3 = 0
  · rw [if_pos c0, nx (s5n _ (by omega)), m2, runB_ret]
  · rw [if_neg c0]
    by_cases c1 : z3 = 1
    · rw [nx (s5y c1), m3, runB_ret]
    · rw [nx (s5n _ c1), m1, runB_ret]
end Law
end Rv
end PartL48a
section PartL48b
set_option Elab.async false
set_option linter.all false
set_option maxRecDepth 100000
set_option maxHeartbeats 4000000
set_option exponentiation.threshold 5000
namespace Rv
namespace Law
open PySem PySem.Spec PyProof.Rows L2
def rho48b (sc : PV) (n : Nat) (v2 v3 v4 v5 v6 v8 v9 : Option EV) : Sl := [some (.p sc), some (.p (natP n)), v2, v3, v4, v5, v6, none, v8, v9]
def q48b_0 : PS := .asg (.nm 1) (.bin .add (.const (.int (1))) (.ix (.call I__law_row [(.call I__law_at [(.var 0), (.const (.int (0)))]), (.const (.int (1))), (.const (.int (6)))]) (.const (.int (0)))))
def q48b_1 : PS := .asg (.nm 2) (.call I__law_drawn_poly [(.call I__law_at [(.var 0), (.const (.int (1)))]), (.var 1), (.const (.int (8))), (.const (.int (5)))])
def q48b_2 : PS := .asg (.nm 3) (.call I__law_drawn_poly [(.call I__law_at [(.var 0), (.const (.int (2)))]), (.var 1), (.const (.int (8))), (.const (.int (5)))])
def q48b_3 : PS := .asg (.nm 4) (.call I_poly_product [(.var 1), (.var 2), (.var 3)])
def q48b_4 : PS := .ife (.or (.not (.val (.call I__law_poly [(.var 4), (.var 1)]))) (.cmp .ne (.var 4) (.call I__law_product [(.var 2), (.var 3)]))) [.ret (.const (.bl false))] []
def q48b_5 : PS := .ife (.cmp .ne (.call I_poly_product [(.var 1), (.var 3), (.var 2)]) (.var 4)) [.ret (.const (.bl false))] []
def q48b_6 : PS := .asg (.nm 5) (.sl (.var 2) none (some (.const (.int (3)))))
def q48b_7 : PS := .asg (.nm 6) (.tup [(.tup [(.bi .tuple [(.lst (.comp [7] (.const (.int (0))) (.nm 7) (.range1 (.var 1)) []))]), (.const (.int (1)))])])
def q48b_9 : PS := .ret (.const (.bl true))
def body48b : List PS := [.asg (.nm 9) (.call I_poly_power [(.var 1), (.var 5), (.var 8)]), .ife (.or (.not (.val (.call I__law_poly [(.var 9), (.var 1)]))) (.cmp .ne (.var 9) (.var 6))) [.ret (.const (.bl false))] [], .asg (.nm 6) (.call I__law_product [(.var 6), (.var 5)])]
def q48b_8 : PS := .loop (.nm 8) (.range1 (.const (.int (5)))) body48b
theorem b_split48b : b__law_part_two = [q48b_0, q48b_1, q48b_2, q48b_3, q48b_4, q48b_5, q48b_6, q48b_7, q48b_8, q48b_9] := rfl
theorem partTwo (d : Nat) {sc : PV} {ns : List Int} (h : Scr sc ns) : callD G bs (d + 11) I__law_part_two [.p sc] [] = .ok (.e (.p (.bl true))) [] := by
  rw [call_eqG (f := f__law_part_two) (b := b__law_part_two) rfl rfl]
  have hS : startSl f__law_part_two.N.length [.p sc] = [some (.p sc), none, none, none, none, none, none, none, none, none] := rfl
  rw [hS]
  obtain ⟨v0, w0⟩ := lawAtP (d + 9) h 0 (by decide)
  obtain ⟨v1, w1⟩ := lawAtP (d + 9) h 1 (by decide)
  obtain ⟨v2, w2⟩ := lawAtP (d + 9) h 2 (by decide)
  have a0 : pcall (GD G bs (d + 10)) I__law_at [.p sc, .p (.int 0)] [] = .ok (.p (.int v0)) [] := pD2 w0
  have a1 : pcall (GD G bs (d + 10)) I__law_at [.p sc, .p (.int 1)] [] = .ok (.p (.int v1)) [] := pD2 w1
  have a2 : pcall (GD G bs (d + 10)) I__law_at [.p sc, .p (.int 2)] [] = .ok (.p (.int v2)) [] := pD2 w2
  obtain ⟨z0, y0, r0⟩ := row1 (d + 8) v0 (t := 6) (by decide) (by decide)
  have r0 : pcall (GD G bs (d + 10)) I__law_row [.p (.int v0), .p (.int 1), .p (.int 6)] [] = .ok (.p (.lst [natP z0])) [] := r0
  have hn1 : 1 ≤ 1 + z0 := by omega
  have hn6 : 1 + z0 ≤ 6 := by omega
  have en : binop .add (.int 1) (natP z0) = some (natP (1 + z0)) := by
    unfold natP
    rw [add_int]
    exact congrArg (fun z => some (PV.int z)) (by omega)
  generalize 1 + z0 = n at *
  obtain ⟨L1, S1, hL1, c1⟩ := lawDrawnPoly (d + 7) v1 hn1 hn6 (m := 8) (s := 5) (by decide) (by decide)
  obtain ⟨L2, S2, hL2, c2⟩ := lawDrawnPoly (d + 7) v2 hn1 hn6 (m := 8) (s := 5) (by decide) (by decide)
  have pA : pcall (GD G bs (d + 10)) I__law_drawn_poly [.p (.int v1), .p (natP n), .p (.int 8), .p (.int 5)] [] = .ok (.p (vP (canon L1))) [] := pS4 c1 rfl
  have pB : pcall (GD G bs (d + 10)) I__law_drawn_poly [.p (.int v2), .p (natP n), .p (.int 8), .p (.int 5)] [] = .ok (.p (vP (canon L2))) [] := pS4 c2 rfl
  have hA := hL1.canon
  have hB := hL2.canon
  generalize canon L1 = A at *
  generalize canon L2 = B at *
  have h40 : 8 * 5 ≤ 2 ^ 900 := Nat.le_trans (show 8 * 5 ≤ 2 ^ 6 by decide) (Nat.pow_le_pow_right (by decide) (by decide))
  have p3 : pcall (GD G bs (d + 10)) I_poly_product [.p (natP n), .p (vP A), .p (vP B)] [] = .ok (.p (vP (canon (prodP A B)))) [] := pD3 (polyProduct (d + 2) hn1 hn6 hA hB (by decide) (by decide) (by decide) (by decide) h40 h40)
  have p5 : pcall (GD G bs (d + 10)) I_poly_product [.p (natP n), .p (vP B), .p (vP A)] [] = .ok (.p (vP (canon (prodP A B)))) [] := by
    have := polyProduct (d + 2) hn1 hn6 hB hA (by decide) (by decide) (by decide) (by decide) h40 h40
    rw [prod_comm] at this
    exact pD3 this
  have hF := (hA.raw.prod hB.raw).canon
  have p4 : pcall (GD G bs (d + 10)) I__law_poly [.p (vP (canon (prodP A B))), .p (natP n)] [] = .ok (.p (.bl true)) [] := pD2 (lawPoly (d + 7) hF.pol (by omega) (by have := hF.len; omega))
  obtain ⟨S4, c4⟩ := lawProduct (d + 8) hn1 hn6 hA.raw hB.raw (by decide) h40 h40
  have p4b : pcall (GD G bs (d + 10)) I__law_product [.p (vP A), .p (vP B)] [] = .ok (.p (vP (canon (prodP A B)))) [] := pS2 c4 rfl
  have hs : Fit n (A.take 3) 3 5 40 := hA.take 3 (by decide)
  have sl := sl_vP (P := A) (b := 3)
  have sl' : slP none (some 3) (vP A) = some (vP (A.take 3)) := sl
  have pw : ∀ k, k < 5 → pcall (GD G bs (d + 10)) I_poly_power [.p (natP n), .p (vP (A.take 3)), .p (natP k)] [] = .ok (.p (vP (powP n (A.take 3) k))) [] := fun k hk => pD3 (polyPower (d + 2) hn1 hn6 hs (by omega))
  have pl : ∀ k, k < 5 → pcall (GD G bs (d + 10)) I__law_poly [.p (vP (powP n (A.take 3) k)), .p (natP n)] [] = .ok (.p (.bl true)) [] := fun k hk => by
    have hf := pow_fit hs k (by omega)
    have e1 : 3 ^ k ≤ 3 ^ 5 := Nat.pow_le_pow_right (by decide) (by omega)
    exact pD2 (lawPoly (d + 7) hf.pol (by omega) (by have := hf.len; omega))
  have pp : ∀ k, k < 5 → pcall (GD G bs (d + 10)) I__law_product [.p (vP (powP n (A.take 3) k)), .p (vP (A.take 3))] [] = .ok (.p (vP (powP n (A.take 3) (k + 1)))) [] := fun k hk => by
    have hf := pow_fit hs k (by omega)
    have e1 : 3 ^ k * 3 ≤ 10000 := by
      have : 3 ^ k ≤ 3 ^ 5 := Nat.pow_le_pow_right (by decide) (by omega)
      omega
    have e2 : 2 ^ (20 * k) ≤ 2 ^ 900 := Nat.pow_le_pow_right (by decide) (by omega)
    obtain ⟨S', h2⟩ := lawProduct (d + 8) hn1 hn6 hf.raw hs.raw e1 e2 h40
    exact pS2 h2 rfl
  generalize canon (prodP A B) = F at *
  have nF := neP_V F
  generalize A.take 3 = Sm at *
  generalize GD G bs (d + 10) = g at *
  have x0 : ixE [] (.p (.lst [natP z0])) (.p (.int 0)) = some (.p (natP z0)) := rfl
  have s0 : evS g q48b_0 [some (.p sc), none, none, none, none, none, none, none, none, none] [] = .nx (rho48b sc n none none none none none none none) [] := by
    unfold q48b_0 rho48b
    generalize natP z0 = zz at *
    simp only [qSs1, qSs2, qS1, qS2, qS3, qS4, qS5, qS6, qS7, qS8, qS9, qS10, qS11, qS12, qS13, qS14, qS15, qS16, qS17, qS18, qS19, qS20, qE1, qE2, qE3, qE4, qE5, qE6, qE7, qE8, qE9, qE10, qE11, qE12, qE13, qE14, qE15, qE16, qE17, qE18, qE19, qE20, qE21, qE22, qE23, qE24, qE25, qE26, qE27, qE28, qE29, qE30, qE31, qE32, qE33, qEs1, qEs2, qT1, qT2, qT3, qT4, qT5, qT6, qTs1, qTs2, qO1, qO2, toS_ok, toS_exc, bind_ok, bind_exc, next_nx, next_ct, next_bk, next_ret, next_exc, runB_ret, runB_nx, runB_exc, noExc_nx, noExc_ret, see2, see1, see, sees, truth, cmpop, List.getElem?_cons_zero, List.getElem?_cons_succ, List.set_cons_zero, List.set_cons_succ, bindT, bindTs, wipeP, asPs, asP, asPs_map, a0, r0, x0, en]
  have s1 : evS g q48b_1 (rho48b sc n none none none none none none none) [] = .nx (rho48b sc n (some (.p (vP A))) none none none none none none) [] := by
    unfold q48b_1 rho48b
    generalize vP A = va at *
    simp only [qSs1, qSs2, qS1, qS2, qS3, qS4, qS5, qS6, qS7, qS8, qS9, qS10, qS11, qS12, qS13, qS14, qS15, qS16, qS17, qS18, qS19, qS20, qE1, qE2, qE3, qE4, qE5, qE6, qE7, qE8, qE9, qE10, qE11, qE12, qE13, qE14, qE15, qE16, qE17, qE18, qE19, qE20, qE21, qE22, qE23, qE24, qE25, qE26, qE27, qE28, qE29, qE30, qE31, qE32, qE33, qEs1, qEs2, qT1, qT2, qT3, qT4, qT5, qT6, qTs1, qTs2, qO1, qO2, toS_ok, toS_exc, bind_ok, bind_exc, next_nx, next_ct, next_bk, next_ret, next_exc, runB_ret, runB_nx, runB_exc, noExc_nx, noExc_ret, see2, see1, see, sees, truth, cmpop, List.getElem?_cons_zero, List.getElem?_cons_succ, List.set_cons_zero, List.set_cons_succ, bindT, bindTs, wipeP, asPs, asP, asPs_map, a1, pA]
  have s2 : evS g q48b_2 (rho48b sc n (some (.p (vP A))) none none none none none none) [] = .nx (rho48b sc n (some (.p (vP A))) (some (.p (vP B))) none none none none none) [] := by
    unfold q48b_2 rho48b
    generalize vP A = va at *
    generalize vP B = vb at *
    simp only [qSs1, qSs2, qS1, qS2, qS3, qS4, qS5, qS6, qS7, qS8, qS9, qS10, qS11, qS12, qS13, qS14, qS15, qS16, qS17, qS18, qS19, qS20, qE1, qE2, qE3, qE4, qE5, qE6, qE7, qE8, qE9, qE10, qE11, qE12, qE13, qE14, qE15, qE16, qE17, qE18, qE19, qE20, qE21, qE22, qE23, qE24, qE25, qE26, qE27, qE28, qE29, qE30, qE31, qE32, qE33, qEs1, qEs2, qT1, qT2, qT3, qT4, qT5, qT6, qTs1, qTs2, qO1, qO2, toS_ok, toS_exc, bind_ok, bind_exc, next_nx, next_ct, next_bk, next_ret, next_exc, runB_ret, runB_nx, runB_exc, noExc_nx, noExc_ret, see2, see1, see, sees, truth, cmpop, List.getElem?_cons_zero, List.getElem?_cons_succ, List.set_cons_zero, List.set_cons_succ, bindT, bindTs, wipeP, asPs, asP, asPs_map, a2, pB]
  have s3 : evS g q48b_3 (rho48b sc n (some (.p (vP A))) (some (.p (vP B))) none none none none none) [] = .nx (rho48b sc n (some (.p (vP A))) (some (.p (vP B))) (some (.p (vP F))) none none none none) [] := by
    unfold q48b_3 rho48b
    generalize vP A = va at *
    generalize vP B = vb at *
    generalize vP F = vf at *
    simp only [qSs1, qSs2, qS1, qS2, qS3, qS4, qS5, qS6, qS7, qS8, qS9, qS10, qS11, qS12, qS13, qS14, qS15, qS16, qS17, qS18, qS19, qS20, qE1, qE2, qE3, qE4, qE5, qE6, qE7, qE8, qE9, qE10, qE11, qE12, qE13, qE14, qE15, qE16, qE17, qE18, qE19, qE20, qE21, qE22, qE23, qE24, qE25, qE26, qE27, qE28, qE29, qE30, qE31, qE32, qE33, qEs1, qEs2, qT1, qT2, qT3, qT4, qT5, qT6, qTs1, qTs2, qO1, qO2, toS_ok, toS_exc, bind_ok, bind_exc, next_nx, next_ct, next_bk, next_ret, next_exc, runB_ret, runB_nx, runB_exc, noExc_nx, noExc_ret, see2, see1, see, sees, truth, cmpop, List.getElem?_cons_zero, List.getElem?_cons_succ, List.set_cons_zero, List.set_cons_succ, bindT, bindTs, wipeP, asPs, asP, asPs_map, p3]
  have s4 : evS g q48b_4 (rho48b sc n (some (.p (vP A))) (some (.p (vP B))) (some (.p (vP F))) none none none none) [] = .nx (rho48b sc n (some (.p (vP A))) (some (.p (vP B))) (some (.p (vP F))) none none none none) [] := by
    unfold q48b_4 rho48b
    generalize vP A = va at *
    generalize vP B = vb at *
    generalize vP F = vf at *
    simp only [qSs1, qSs2, qS1, qS2, qS3, qS4, qS5, qS6, qS7, qS8, qS9, qS10, qS11, qS12, qS13, qS14, qS15, qS16, qS17, qS18, qS19, qS20, qE1, qE2, qE3, qE4, qE5, qE6, qE7, qE8, qE9, qE10, qE11, qE12, qE13, qE14, qE15, qE16, qE17, qE18, qE19, qE20, qE21, qE22, qE23, qE24, qE25, qE26, qE27, qE28, qE29, qE30, qE31, qE32, qE33, qEs1, qEs2, qT1, qT2, qT3, qT4, qT5, qT6, qTs1, qTs2, qO1, qO2, toS_ok, toS_exc, bind_ok, bind_exc, next_nx, next_ct, next_bk, next_ret, next_exc, runB_ret, runB_nx, runB_exc, noExc_nx, noExc_ret, see2, see1, see, sees, truth, cmpop, List.getElem?_cons_zero, List.getElem?_cons_succ, List.set_cons_zero, List.set_cons_succ, bindT, bindTs, wipeP, asPs, asP, asPs_map, p4, p4b, nF, Bool.not_true]
  have s5 : evS g q48b_5 (rho48b sc n (some (.p (vP A))) (some (.p (vP B))) (some (.p (vP F))) none none none none) [] = .nx (rho48b sc n (some (.p (vP A))) (some (.p (vP B))) (some (.p (vP F))) none none none none) [] := by
    unfold q48b_5 rho48b
    generalize vP A = va at *
    generalize vP B = vb at *
    generalize vP F = vf at *
    simp only [qSs1, qSs2, qS1, qS2, qS3, qS4, qS5, qS6, qS7, qS8, qS9, qS10, qS11, qS12, qS13, qS14, qS15, qS16, qS17, qS18, qS19, qS20, qE1, qE2, qE3, qE4, qE5, qE6, qE7, qE8, qE9, qE10, qE11, qE12, qE13, qE14, qE15, qE16, qE17, qE18, qE19, qE20, qE21, qE22, qE23, qE24, qE25, qE26, qE27, qE28, qE29, qE30, qE31, qE32, qE33, qEs1, qEs2, qT1, qT2, qT3, qT4, qT5, qT6, qTs1, qTs2, qO1, qO2, toS_ok, toS_exc, bind_ok, bind_exc, next_nx, next_ct, next_bk, next_ret, next_exc, runB_ret, runB_nx, runB_exc, noExc_nx, noExc_ret, see2, see1, see, sees, truth, cmpop, List.getElem?_cons_zero, List.getElem?_cons_succ, List.set_cons_zero, List.set_cons_succ, bindT, bindTs, wipeP, asPs, asP, asPs_map, p5, nF]
  have s6 : evS g q48b_6 (rho48b sc n (some (.p (vP A))) (some (.p (vP B))) (some (.p (vP F))) none none none none) [] = .nx (rho48b sc n (some (.p (vP A))) (some (.p (vP B))) (some (.p (vP F))) (some (.p (vP Sm))) none none none) [] := by
    unfold q48b_6 rho48b
    generalize vP A = va at *
    generalize vP B = vb at *
    generalize vP F = vf at *
    generalize vP Sm = vs at *
    simp only [qSs1, qSs2, qS1, qS2, qS3, qS4, qS5, qS6, qS7, qS8, qS9, qS10, qS11, qS12, qS13, qS14, qS15, qS16, qS17, qS18, qS19, qS20, qE1, qE2, qE3, qE4, qE5, qE6, qE7, qE8, qE9, qE10, qE11, qE12, qE13, qE14, qE15, qE16, qE17, qE18, qE19, qE20, qE21, qE22, qE23, qE24, qE25, qE26, qE27, qE28, qE29, qE30, qE31, qE32, qE33, qEs1, qEs2, qT1, qT2, qT3, qT4, qT5, qT6, qTs1, qTs2, qO1, qO2, toS_ok, toS_exc, bind_ok, bind_exc, next_nx, next_ct, next_bk, next_ret, next_exc, runB_ret, runB_nx, runB_exc, noExc_nx, noExc_ret, see2, see1, see, sees, truth, cmpop, List.getElem?_cons_zero, List.getElem?_cons_succ, List.set_cons_zero, List.set_cons_succ, bindT, bindTs, wipeP, asPs, asP, asPs_map, sl']
  have s7 : evS g q48b_7 (rho48b sc n (some (.p (vP A))) (some (.p (vP B))) (some (.p (vP F))) (some (.p (vP Sm))) none none none) [] = .nx (rho48b sc n (some (.p (vP A))) (some (.p (vP B))) (some (.p (vP F))) (some (.p (vP Sm))) (some (.p (vP (powP n Sm 0)))) none none) [] := by
    have hc := comp_listA (g := g) (own := [7]) (elt := .const (.int (0))) (tg := .nm 7) (it := .range1 (.var 1)) (ρ := rho48b sc n (some (.p (vP A))) (some (.p (vP B))) (some (.p (vP F))) (some (.p (vP Sm))) none none none) (S := []) (ks := List.range n) (f := natP) (fun _ => .int 0) (it_range1 (var_ok rfl) (by omega)) (by rw [List.length_range, lim_eq]; omega) fun j hj => ⟨(rho48b sc n (some (.p (vP A))) (some (.p (vP B))) (some (.p (vP F))) (some (.p (vP Sm))) none none none).set 7 (some (.p (natP j))), rfl, rfl⟩
    have e1 : (List.range n).map (fun _ => PV.int 0) = (List.replicate n (0 : Int)).map .int := by
      rw [List.map_const', List.length_range, List.map_replicate]
    rw [e1] at hc
    have ht := tup_comp hc
    have ev : vP (powP n Sm 0) = .tup [.tup [.tup ((List.replicate n (0 : Int)).map .int), .int 1]] := rfl
    rw [ev]
    unfold q48b_7
    generalize PX.bi BI.tuple [PX.lst (.comp [7] (.const (.int (0))) (.nm 7) (.range1 (.var 1)) [])] = X1 at *
    generalize (List.replicate n (0 : Int)).map PV.int = zs at *
    unfold rho48b at *
    generalize vP A = va at *
    generalize vP B = vb at *
    generalize vP F = vf at *
    generalize vP Sm = vs at *
    simp only [qSs1, qSs2, qS1, qS2, qS3, qS4, qS5, qS6, qS7, qS8, qS9, qS10, qS11, qS12, qS13, qS14, qS15, qS16, qS17, qS18, qS19, qS20, qE1, qE2, qE3, qE4, qE5, qE6, qE7, qE8, qE9, qE10, qE11, qE12, qE13, qE14, qE15, qE16, qE17, qE18, qE19, qE20, qE21, qE22, qE23, qE24, qE25, qE26, qE27, qE28, qE29, qE30, qE31, qE32, qE33, qEs1, qEs2, qT1, qT2, qT3, qT4, qT5, qT6, qTs1, qTs2, qO1, qO2, toS_ok, toS_exc, bind_ok, bind_exc, next_nx, next_ct, next_bk, next_ret, next_exc, runB_ret, runB_nx, runB_exc, noExc_nx, noExc_ret, see2, see1, see, sees, truth, cmpop, List.getElem?_cons_zero, List.getElem?_cons_succ, List.set_cons_zero, List.set_cons_succ, bindT, bindTs, wipeP, asPs, asP, asPs_map, ht]
  obtain ⟨ρ', S', e1, t', u', f1, f2⟩ := forL_inv (t := .nm 8) (b := fun ρ S => evSs g body48b ρ S)
    (fun j ρ S => ∃ t' u', ρ = rho48b sc n (some (.p (vP A))) (some (.p (vP B))) (some (.p (vP F))) (some (.p (vP Sm))) (some (.p (vP (powP n Sm j)))) t' u' ∧ S = []) ((List.range 5).map fun (k : Nat) => PV.int (k : Int)) 0 (rho48b sc n (some (.p (vP A))) (some (.p (vP B))) (some (.p (vP F))) (some (.p (vP Sm))) (some (.p (vP (powP n Sm 0)))) none none) [] ⟨none, none, rfl, rfl⟩ fun j x ρ S hx ⟨t', u', f1, f2⟩ => by
      subst f1 f2
      obtain ⟨hj, rfl⟩ := range_get hx
      rw [Nat.zero_add]
      have b1 := pw j hj
      have b2 := pl j hj
      have b3 := pp j hj
      have b4 := neP_V (powP n Sm j)
      refine ⟨rho48b sc n (some (.p (vP A))) (some (.p (vP B))) (some (.p (vP F))) (some (.p (vP Sm))) (some (.p (vP (powP n Sm j)))) (some (.p (natP j))) u', rfl, rho48b sc n (some (.p (vP A))) (some (.p (vP B))) (some (.p (vP F))) (some (.p (vP Sm))) (some (.p (vP (powP n Sm (j + 1))))) (some (.p (natP j))) (some (.p (vP (powP n Sm j)))), [], .inl ?_, _, _, rfl, rfl⟩
      unfold body48b rho48b
      generalize vP A = va at *
      generalize vP B = vb at *
      generalize vP F = vf at *
      generalize vP Sm = vs at *
      generalize vP (powP n Sm (j + 1)) = w1 at *
      generalize vP (powP n Sm j) = w0 at *
      simp only [qSs1, qSs2, qS1, qS2, qS3, qS4, qS5, qS6, qS7, qS8, qS9, qS10, qS11, qS12, qS13, qS14, qS15, qS16, qS17, qS18, qS19, qS20, qE1, qE2, qE3, qE4, qE5, qE6, qE7, qE8, qE9, qE10, qE11, qE12, qE13, qE14, qE15, qE16, qE17, qE18, qE19, qE20, qE21, qE22, qE23, qE24, qE25, qE26, qE27, qE28, qE29, qE30, qE31, qE32, qE33, qEs1, qEs2, qT1, qT2, qT3, qT4, qT5, qT6, qTs1, qTs2, qO1, qO2, toS_ok, toS_exc, bind_ok, bind_exc, next_nx, next_ct, next_bk, next_ret, next_exc, runB_ret, runB_nx, runB_exc, noExc_nx, noExc_ret, see2, see1, see, sees, truth, cmpop, List.getElem?_cons_zero, List.getElem?_cons_succ, List.set_cons_zero, List.set_cons_succ, bindT, bindTs, wipeP, asPs, asP, asPs_map, b1, b2, b3, b4, Bool.not_true]
  have hi : evE g (.const (.int 5)) (rho48b sc n (some (.p (vP A))) (some (.p (vP B))) (some (.p (vP F))) (some (.p (vP Sm))) (some (.p (vP (powP n Sm 0)))) none none) [] = .ok (.p (.int ((5 : Nat) : Int))) [] := rfl
  have s8 : evS g q48b_8 (rho48b sc n (some (.p (vP A))) (some (.p (vP B))) (some (.p (vP F))) (some (.p (vP Sm))) (some (.p (vP (powP n Sm 0)))) none none) [] = .nx ρ' S' := loop_of (it_range1 hi (by decide)) e1
  rw [b_split48b, nx s0, nx s1, nx s2, nx s3, nx s4, nx s5, nx s6, nx s7, nx s8, f1, f2]
  unfold q48b_9 rho48b
  generalize vP (powP n Sm (0 + ((List.range 5).map fun (k : Nat) => PV.int (k : Int)).length)) = wz
  simp only [qSs1, qSs2, qS1, qS2, qS3, qS4, qS5, qS6, qS7, qS8, qS9, qS10, qS11, qS12, qS13, qS14, qS15, qS16, qS17, qS18, qS19, qS20, qE1, qE2, qE3, qE4, qE5, qE6, qE7, qE8, qE9, qE10, qE11, qE12, qE13, qE14, qE15, qE16, qE17, qE18, qE19, qE20, qE21, qE22, qE23, qE24, qE25, qE26, qE27, qE28, qE29, qE30, qE31, qE32, qE33, qEs1, qEs2, qT1, qT2, qT3, qT4, qT5, qT6, qTs1, qTs2, qO1, qO2, toS_ok, toS_exc, bind_ok, bind_exc, next_nx, next_ct, next_bk, next_ret, next_exc, runB_ret, runB_nx, runB_exc, noExc_nx, noExc_ret, see2, see1, see, sees, truth, cmpop, List.getElem?_cons_zero, List.getElem?_cons_succ, List.set_cons_zero, List.set_cons_succ, bindT, bindTs, wipeP, asPs, asP, asPs_map]
theorem law_true (ns : List Int) (hn : ns.length ≤ 63) : ∃ S, callD G bs 20 I_law [.p (.rd (ns.map .int))] [] = .ok (.e (.p (.bl true))) S := by
  rw [call_eqG (d := 19) (f := f_law) (b := b_law) rfl rfl]
  have hS : startSl f_law.N.length [.p (.rd (ns.map .int))] = [some (.p (.rd (ns.map .int)))] := rfl
  rw [hS]
  have p1 : pcall (GD G bs 19) I__law_part_one [.p (.rd (ns.map .int))] [] = .ok (.p (.bl true)) [] := pD1 (partOne 8 (.inl rfl))
  have p2 : pcall (GD G bs 19) I__law_part_two [.p (.lst ((ns.reverse ++ ns.take 3).map .int))] [] = .ok (.p (.bl true)) [] := pD1 (partTwo 8 (.inr rfl))
  generalize GD G bs 19 = g at *
  have l1 : evL g (.rev (.var 0)) [some (.p (.rd (ns.map .int)))] [] = .ok ((ns.map PV.int).reverse.map .p) [] := rfl
  have l2 : evL g (.sl (.var 0) none (some (.const (.int (3))))) [some (.p (.rd (ns.map .int)))] [] = .ok (((ns.map PV.int).take 3).map .p) [] := by
    have hs : slPL none (some ((3 : Nat) : Int)) (.rd (ns.map .int)) = some ((ns.map PV.int).take 3) := by
      show some (cutP (ns.map PV.int) none (some ((3 : Nat) : Int))) = _
      rw [cutH2]
    have hs' : slPL none (some 3) (.rd (ns.map .int)) = some ((ns.map PV.int).take 3) := hs
    generalize (ns.map PV.int).take 3 = tk at *
    simp only [qL4, qSs1, qSs2, qS1, qS2, qS3, qS4, qS5, qS6, qS7, qS8, qS9, qS10, qS11, qS12, qS13, qS14, qS15, qS16, qS17, qS18, qS19, qS20, qE1, qE2, qE3, qE4, qE5, qE6, qE7, qE8, qE9, qE10, qE11, qE12, qE13, qE14, qE15, qE16, qE17, qE18, qE19, qE20, qE21, qE22, qE23, qE24, qE25, qE26, qE27, qE28, qE29, qE30, qE31, qE32, qE33, qEs1, qEs2, qT1, qT2, qT3, qT4, qT5, qT6, qTs1, qTs2, qO1, qO2, toS_ok, toS_exc, bind_ok, bind_exc, next_nx, next_ct, next_bk, next_ret, next_exc, runB_ret, runB_nx, runB_exc, noExc_nx, noExc_ret, see2, see1, see, sees, truth, cmpop, List.getElem?_cons_zero, List.getElem?_cons_succ, List.set_cons_zero, List.set_cons_succ, bindT, bindTs, wipeP, asPs, asP, asPs_map, hs']
  have x1 := lst_of l1
  have x2 := lst_of l2
  have hb : binL .add (.lst (ns.map PV.int).reverse) (.lst ((ns.map PV.int).take 3)) = some ((ns.reverse ++ ns.take 3).map .int) := by
    show (if (ns.map PV.int).reverse.length + ((ns.map PV.int).take 3).length ≤ lim then some ((ns.map PV.int).reverse ++ (ns.map PV.int).take 3) else none) = _
    rw [if_pos (by rw [List.length_reverse, List.length_take, List.length_map, lim_eq]; omega), List.map_append, List.map_reverse, List.map_take]
  have hl : evL g (.bin .add (.lst (.rev (.var 0))) (.lst (.sl (.var 0) none (some (.const (.int (3))))))) [some (.p (.rd (ns.map .int)))] [] = .ok (((ns.reverse ++ ns.take 3).map PV.int).map .p) [] := by
    simp only [qL2, x1, x2, bind_ok, see2, see1, see, hb]
  have hx := lst_of hl
  refine ⟨[], ?_⟩
  rw [b_law]
  generalize PX.lst (PL.bin BOp.add (.lst (.rev (.var 0))) (.lst (.sl (.var 0) none (some (.const (.int (3))))))) = X1 at *
  generalize (ns.reverse ++ ns.take 3).map PV.int = xs at *
  simp only [qSs1, qSs2, qS1, qS2, qS3, qS4, qS5, qS6, qS7, qS8, qS9, qS10, qS11, qS12, qS13, qS14, qS15, qS16, qS17, qS18, qS19, qS20, qE1, qE2, qE3, qE4, qE5, qE6, qE7, qE8, qE9, qE10, qE11, qE12, qE13, qE14, qE15, qE16, qE17, qE18, qE19, qE20, qE21, qE22, qE23, qE24, qE25, qE26, qE27, qE28, qE29, qE30, qE31, qE32, qE33, qEs1, qEs2, qT1, qT2, qT3, qT4, qT5, qT6, qTs1, qTs2, qO1, qO2, toS_ok, toS_exc, bind_ok, bind_exc, next_nx, next_ct, next_bk, next_ret, next_exc, runB_ret, runB_nx, runB_exc, noExc_nx, noExc_ret, see2, see1, see, sees, truth, cmpop, List.getElem?_cons_zero, List.getElem?_cons_succ, List.set_cons_zero, List.set_cons_succ, bindT, bindTs, wipeP, asPs, asP, asPs_map, p1, hx, p2]
end Law
end Rv
end PartL48b
section PartHlawk48
set_option Elab.async false
set_option linter.all false
set_option maxRecDepth 100000
set_option maxHeartbeats 0
namespace Rv
namespace Law
open PySem PySem.Spec PyProof.Rows L2
abbrev R : PySem.W.OpenRow := PySem.W.OpenLaw.row PySem.Challenge.rw_turnedseeds_k48_sums_and_products
abbrev hk : PySem.W.Hook := hookR 6 (factB G) fn
def ob (s : PySem.W.SharedT) : He.AlD := obsRG 6 (factB G) fn (HandSHeadRun.getT s)
theorem ob_eq (s : PySem.W.SharedT) : ob s = hk.obs s.abs := obsRG_eq (HandSHeadRun.getT_eq s)
theorem run (w : World) : HandSHeadRun.RunEq R (PySem.W.view R.prog [48]) hk ob 4000 loose w := by
  intro os
  kernel_rfl
theorem facts {P : Program} {w : World} {K : PySem.W.Frag} {h : Heap} {mg : Str → Option Value} {f : Addr} (X : K.In h) (N : h.Ns mainGlobals mg) (hfa : mg ("law" : Str) = some (.ref f)) (c : SaysR (factB G) fn K) :
    ∃ fd : FuncData, (∀ (s : Shared) (v : Value), BindsTo s fd ⟨[v], []⟩ [("script", v)]) ∧ ∀ base : Heap, K.In base → base.Ns mainGlobals mg → FnOk P w K mg base (CXw P) 20 f fd ["script"] (spOf K (adr G K) none (GD G bs 20) 34 1) := by
  obtain ⟨fd, F⟩ := saysR_def c 34 (d := d_law) rfl
  have b := FunD.bindsA (ps := ["script"]) F fun _ _ _ _ _ _ us hl => match us, hl with | [_], _ => rfl
  refine ⟨fd, fun s v => b s [v] rfl, fun base KX N' => ?_⟩
  have pr : Prg w P K mg base (adr G K) G bs := prg_of X N c tAll
  obtain ⟨fd', hm, hk, hb, hF, _, oc, od, osl, lk⟩ := prg_ok pr 20 34 f_law rfl
  have e1 : (adr G K).fn 34 = f := by
    have := hm.symm.trans hfa
    cases this; rfl
  have e2 : fd' = fd := by
    obtain ⟨oc2, od2, dV, kV, doc, pm, an, cdv, ct, osl2, _, lk2, _⟩ := F.ex
    have e3 : He.fAd K d_law.at_ = f := e1
    rw [e1] at lk
    rw [e3, lk] at lk2
    cases lk2; rfl
  rw [e1, e2] at hF
  exact fnOk_cx hF
end Law
end Rv
open PySem PySem.W PySem.Calls PyProof.Rows
theorem Rv.Law.holds (hrun : ∀ ns : List Int, ns.length ≤ 63 → ∃ S, Rv.callD Rv.Law.G Rv.Law.bs 20 34 [.p (.rd (ns.map .int))] [] = .ok (.e (.p (.bl true))) S) : PySem.Challenge.rw_turnedseeds_k48_sums_and_products.Holds := by
  w_on; o_law
  refine HandSHeadRun.head_any (r := OpenLaw.row PySem.Challenge.rw_turnedseeds_k48_sums_and_products) (q := view (OpenLaw.row PySem.Challenge.rw_turnedseeds_k48_sums_and_products).prog [48]) (H := Rv.Law.hk) (ob := Rv.Law.ob) (M := 4000) (loose := Rv.Law.loose) (d := HandSHeadRun.topDef (OpenLaw.row PySem.Challenge.rw_turnedseeds_k48_sums_and_products).prog 48) (kwd := []) Rv.Law.ob_eq
    (by kernel_rfl) (fun s => by kernel_rfl) Rv.Law.run (by kernel_rfl) (by kernel_rfl) (by kernel_rfl) (by rfl) (by first | assumption | decide +kernel) (by decide +kernel) ⟨rfl, rfl, rfl, rfl, rfl, by decide +kernel⟩ ?hw ?hc
  case hw => w_witness2
  case hc =>
    refine L2.walk_ofE (l := PySem.Challenge.rw_turnedseeds_k48_sums_and_products) (n := 63) (k := 20) (x := "script") (CX := Rv.CXw (PySem.Challenge.rw_turnedseeds_k48_sums_and_products).prog) rfl (by decide) (by kernel_rfl) ⟨rfl, by decide, by decide⟩ ?F Rv.cxw_no
    intro w mg fa h Y N hmg0
    obtain ⟨K, KX, c⟩ := Y
    have hmg : mg ("law" : PySem.Str) = some (.ref fa) := by
      have e : (HandSHeadRun.topDef (OpenLaw.row PySem.Challenge.rw_turnedseeds_k48_sums_and_products).prog 48).name = ("law" : PySem.Str) := by kernel_rfl
      rw [← e]
      exact hmg0
    obtain ⟨fd, hb, hF⟩ := Rv.Law.facts (P := (PySem.Challenge.rw_turnedseeds_k48_sums_and_products).prog) (w := w) KX N hmg c
    exact ⟨K, fd, _, KX, hb, fun H a ns hl _ hS => let ⟨S, e⟩ := hrun ns hl; Rv.law_sp hS e, hF⟩
end PartHlawk48
theorem PySem.Challenge.cw_turnedseeds_k48_sums_and_products_holds : PySem.Challenge.rw_turnedseeds_k48_sums_and_products.Holds := by
  exact Rv.Law.holds Rv.Law.law_true
